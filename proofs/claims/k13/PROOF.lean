import PyProof.Rows.All
import Wide.All
import OpenK.AllK
import Wide.FinOn
import HandS.ForMost
import HandS.IsInst
import HandS.Defaults
import HandS.Lambda
import HandS.Wide
import HandS.TupAny
import HandS.TupLen
import HandS.Deep
import HandS.Style
import HandS.DictComp
import HandS.MakeKw
import HandS.Zip
import HandS.Zip0
import PyProof.EqAt
import PyProof.EqKinds
import PyProof.TupleCall
import PyProof.InstEq
import KE.KOpsOwn
import KE.KCallOwn
import HandS.More
import HandS.Records
import HandS.OwnEq
import HandS.Property
import HandS.SlotsOwn
import HandS.Star
import HandS.ListItems
import HandS.Conv
import HandS.GenCall
import HandS.GenList
import HandS.GenYield
import PyProof.ListMulRoad
import PyProof.FactsAll.tuple_2
import HandS.TupMul
import HandS.ClsMeth
import KE.KStateDown
import Lean
import HandS.Base
import HandS.Call
import HandS.Ends
import HandS.Words
import HandS.WordsExc
import HandS.Head0
import HandS.Head1
import HandS.Head2
import HandS.HeadEnd
import HandS.HeadHook1
import HandS.HeadHook2
import HandS.HeadNt
import KE.DataMinKey
import KE.DataCmp
import KE.SortData
import HandS.SortKw
import HandS.HeadWalk
import HandS.Text
import HandS.TryOnly
import HandS.Exc
import HandS.ExcInit
import KE.KExcSuper
import HandS.ExcOwn
import HandS.ExcField
import HandS.TryElse
import HandS.DictTup
import KE.SortKeyHeap
import KE.KEqDict
import HandS.ListEq
import KE.KDictDisplayH
import KE.KDictPairs
import KE.KDictCopyH
import KE.KDictItemsList
import KE.KDictKeyed
import KE.KDictZip
import KE.KDictList
import HandS.ExcCtx
import HandS.RaiseFrom
import HandS.ExcInitHot
import HandS.SuiteRaise
import PyProof.StrOps2
import PySem.Challenge.RW_keepapart_k13_whole_texts
set_option autoImplicit true
set_option maxHeartbeats 200000
set_option maxRecDepth 512
/-! KMini: a small semantics of our own (values, heap, combinators), plain Lean, kernel-evaluable. -/
set_option linter.all false
namespace KA
/-- a value: tuples are trees; lists, dicts, instances stand in the heap; flst: a list that nobody writes (the script) -/
inductive MV where
  | non | bl (b : Bool) | int (i : Int) | str (s : List Nat) | ref (n : Nat) | tup (xs : List MV) | flst (xs : List MV)
  deriving Inhabited
/-- an object: a list; a dict (tk: its keys are tuples; lk: locked while it is walked); an instance of the class c -/
inductive MO where
  | lst (xs : List MV)
  | dct (tk lk : Bool) (kvs : List (MV × MV))
  | ins (c : Nat) (fs : List (Nat × MV))
  deriving Inhabited
/-! ### the heap: a tree by the address's binary figures -/
inductive Tr where
  | nil
  | node (o : Option MO) (l r : Tr)
def Tr.get : Tr → Nat → Option MO
  | .nil, _ => none
  | .node o l r, n => match n with
    | 0 => o
    | k + 1 => match k % 2 with
      | 0 => l.get (k / 2)
      | _ => r.get (k / 2)
def Tr.setF : Nat → Tr → Nat → MO → Tr
  | 0, t, _, _ => t
  | f + 1, t, n, x =>
    match t with
    | .nil => match n with
      | 0 => .node (some x) .nil .nil
      | k + 1 => match k % 2 with
        | 0 => .node none (Tr.setF f .nil (k / 2) x) .nil
        | _ => .node none .nil (Tr.setF f .nil (k / 2) x)
    | .node o l r => match n with
      | 0 => .node (some x) l r
      | k + 1 => match k % 2 with
        | 0 => .node o (Tr.setF f l (k / 2) x) r
        | _ => .node o l (Tr.setF f r (k / 2) x)
theorem Tr.get_set : ∀ (f : Nat) (t : Tr) (n m : Nat) (x : MO), n < f → (Tr.setF f t n x).get m = if m = n then some x else t.get m := by
  intro f
  induction f with
  | zero => intro t n m x h; omega
  | succ f ih =>
    intro t n m x h
    cases n with
    | zero => cases t <;> cases m <;> simp [Tr.setF, Tr.get] <;> split <;> simp [Tr.get]
    | succ k =>
      have hk : k / 2 < f := by omega
      have nl : ∀ q : Nat, Tr.nil.get q = none := fun _ => rfl
      rcases Nat.mod_two_eq_zero_or_one k with e | e
      · cases t with
        | nil =>
          cases m with
          | zero => simp [Tr.setF, e, Tr.get]
          | succ j =>
            rcases Nat.mod_two_eq_zero_or_one j with e' | e'
            · have c : (j / 2 = k / 2) = (j = k) := by apply propext; omega
              simp [Tr.setF, e, e', Tr.get, ih _ _ _ _ hk, c]
            · have c : ¬ j = k := by omega
              simp [Tr.setF, e, e', Tr.get, c]
        | node o l r =>
          cases m with
          | zero => simp [Tr.setF, e, Tr.get]
          | succ j =>
            rcases Nat.mod_two_eq_zero_or_one j with e' | e'
            · have c : (j / 2 = k / 2) = (j = k) := by apply propext; omega
              simp [Tr.setF, e, e', Tr.get, ih _ _ _ _ hk, c]
            · have c : ¬ j = k := by omega
              simp [Tr.setF, e, e', Tr.get, c]
      · cases t with
        | nil =>
          cases m with
          | zero => simp [Tr.setF, e, Tr.get]
          | succ j =>
            rcases Nat.mod_two_eq_zero_or_one j with e' | e'
            · have c : ¬ j = k := by omega
              simp [Tr.setF, e, e', Tr.get, c]
            · have c : (j / 2 = k / 2) = (j = k) := by apply propext; omega
              simp [Tr.setF, e, e', Tr.get, ih _ _ _ _ hk, c]
        | node o l r =>
          cases m with
          | zero => simp [Tr.setF, e, Tr.get]
          | succ j =>
            rcases Nat.mod_two_eq_zero_or_one j with e' | e'
            · have c : ¬ j = k := by omega
              simp [Tr.setF, e, e', Tr.get, c]
            · have c : (j / 2 = k / 2) = (j = k) := by apply propext; omega
              simp [Tr.setF, e, e', Tr.get, ih _ _ _ _ hk, c]
structure MH where
  n : Nat
  t : Tr
namespace MH
def empty : MH := ⟨0, .nil⟩
def get (h : MH) (a : Nat) : Option MO := match Nat.blt a h.n with
  | true => h.t.get a
  | false => none
def push (h : MH) (o : MO) : MH := ⟨h.n + 1, h.t.setF (h.n + 1) h.n o⟩
def set (h : MH) (a : Nat) (o : MO) : MH := ⟨h.n, h.t.setF (a + 1) a o⟩
theorem get_lt {h : MH} {a : Nat} {o : MO} (e : h.get a = some o) : a < h.n := by
  unfold get at e
  split at e
  · rename_i q
    exact Nat.le_of_ble_eq_true q
  · cases e
theorem get_eq (h : MH) (a : Nat) : h.get a = if a < h.n then h.t.get a else none := by
  unfold get
  by_cases c : a < h.n
  · rw [if_pos c, show Nat.blt a h.n = true from Nat.ble_eq_true_of_le c]
  · rw [if_neg c, show Nat.blt a h.n = false from by
      cases q : Nat.blt a h.n with
      | false => rfl
      | true => exact absurd (Nat.le_of_ble_eq_true q) c]
theorem get_push (h : MH) (o : MO) (a : Nat) : (h.push o).get a = if a = h.n then some o else h.get a := by
  rw [get_eq, get_eq]
  unfold push
  dsimp only
  rw [Tr.get_set _ _ _ _ _ (Nat.lt_succ_self _)]
  by_cases c : a = h.n
  · simp [c]
  · rw [if_neg c, if_neg c]
    by_cases d : a < h.n
    · rw [if_pos d, if_pos (by omega)]
    · rw [if_neg d, if_neg (by omega)]
theorem get_set (h : MH) (a b : Nat) (o : MO) : (h.set a o).get b = if b = a then (if a < h.n then some o else none) else h.get b := by
  rw [get_eq, get_eq]
  unfold set
  dsimp only
  rw [Tr.get_set _ _ _ _ _ (Nat.lt_succ_self _)]
  by_cases c : b = a
  · subst c; simp
  · simp [c]
theorem push_same (h : MH) (o : MO) : (h.push o).get h.n = some o := by rw [get_push, if_pos rfl]
theorem push_of {h : MH} {o u : MO} {a : Nat} (e : h.get a = some u) : (h.push o).get a = some u := by
  rw [get_push, if_neg (Nat.ne_of_lt (get_lt e))]; exact e
theorem set_same {h : MH} {o u : MO} {a : Nat} (e : h.get a = some u) : (h.set a o).get a = some o := by
  rw [get_set, if_pos rfl, if_pos (get_lt e)]
theorem set_ne {h : MH} {o : MO} {a b : Nat} (e : b ≠ a) : (h.set a o).get b = h.get b := by
  rw [get_set, if_neg e]
@[simp] theorem n_push (h : MH) (o : MO) : (h.push o).n = h.n + 1 := rfl
@[simp] theorem n_set (h : MH) (a : Nat) (o : MO) : (h.set a o).n = h.n := rfl
end MH
/-! ### results -/
inductive Res (α : Type) where
  | ok (a : α) (h : MH)
  | exc (c : Nat) (p : Option MV) (h : MH)
  | bad
@[inline] def Res.bind {α β : Type} (r : Res α) (k : α → MH → Res β) : Res β := match r with
  | .ok a h => k a h
  | .exc c p h => .exc c p h
  | .bad => .bad
abbrev Sl := List (Option MV)
/-- an expression, a test, an argument list -/
abbrev EM := Sl → MH → Res MV
abbrev TM := Sl → MH → Res Bool
abbrev AM := Sl → MH → Res (List MV)
/-- a def -/
abbrev FM := List MV → MH → Res MV
/-- how a statement ends -/
inductive Out where
  | nx (σ : Sl) (h : MH)
  | rt (v : MV) (h : MH)
  | bk (σ : Sl) (h : MH)
  | ct (σ : Sl) (h : MH)
  | exc (c : Nat) (p : Option MV) (σ : Sl) (h : MH)
  | bad
abbrev SM := Sl → MH → Out
@[inline] def Res.out {α : Type} (r : Res α) (σ : Sl) (k : α → MH → Out) : Out := match r with
  | .ok a h => k a h
  | .exc c p h => .exc c p σ h
  | .bad => .bad
/-! ### expressions -/
def eV (i : Nat) : EM := fun σ h => match σ[i]? with
  | some (some v) => .ok v h
  | _ => .bad
def eC (v : MV) : EM := fun _ h => .ok v h
def e1 (g : MV → MH → Res MV) (a : EM) : EM := fun σ h => (a σ h).bind g
def e2 (g : MV → MV → MH → Res MV) (a b : EM) : EM := fun σ h => (a σ h).bind fun v h1 => (b σ h1).bind fun w h2 => g v w h2
def aNil : AM := fun _ h => .ok [] h
def aCons (a : EM) (r : AM) : AM := fun σ h => (a σ h).bind fun v h1 => (r σ h1).bind fun vs h2 => .ok (v :: vs) h2
def eA (g : FM) (a : AM) : EM := fun σ h => (a σ h).bind g
def eIf (c : TM) (a b : EM) : EM := fun σ h => (c σ h).bind fun k h1 => match k with
  | true => a σ h1
  | false => b σ h1
/-- a test off a value -/
def qB (v : MV) (h : MH) : Res Bool := match v with
  | .bl b => .ok b h
  | _ => .bad
def cB (a : EM) : TM := fun σ h => (a σ h).bind qB
def cNot (t : TM) : TM := fun σ h => (t σ h).bind fun k h1 => .ok (!k) h1
def cAnd (t u : TM) : TM := fun σ h => (t σ h).bind fun k h1 => match k with
  | true => u σ h1
  | false => .ok false h1
def cOr (t u : TM) : TM := fun σ h => (t σ h).bind fun k h1 => match k with
  | true => .ok true h1
  | false => u σ h1
/-- and, or as values, over bools -/
def eAnd (a b : EM) : EM := fun σ h => (a σ h).bind fun v h1 => match v with
  | .bl true => b σ h1
  | .bl false => .ok (.bl false) h1
  | _ => .bad
def eOr (a b : EM) : EM := fun σ h => (a σ h).bind fun v h1 => match v with
  | .bl true => .ok (.bl true) h1
  | .bl false => b σ h1
  | _ => .bad
def eNot (a : EM) : EM := fun σ h => (a σ h).bind fun v h1 => match v with
  | .bl k => .ok (.bl (!k)) h1
  | _ => .bad
/-- a < b < c -/
def eChain (g g' : MV → MV → MH → Res MV) (a b c : EM) : EM := fun σ h => (a σ h).bind fun x h1 => (b σ h1).bind fun y h2 => (g x y h2).bind fun z h3 => match z with
  | .bl true => (c σ h3).bind fun w h4 => g' y w h4
  | .bl false => .ok (.bl false) h3
  | _ => .bad
/-- an int within 62 bits -/
def rg62 (i : Int) : Bool := Nat.blt i.natAbs 4611686018427387904
/-- no more than the line -/
def lim {α : Type} (n : Nat) (r : Res α) : Res α := match Nat.ble n 16777216 with
  | true => r
  | false => .bad
theorem lim_ok {α : Type} {n : Nat} {r : Res α} (h : n ≤ 16777216) : lim n r = r := by
  unfold lim
  rw [show Nat.ble n 16777216 = true from Nat.ble_eq_true_of_le h]
theorem lim_cases {α : Type} (n : Nat) (r : Res α) : (n ≤ 16777216 ∧ lim n r = r) ∨ lim n r = .bad := by
  unfold lim
  cases q : Nat.ble n 16777216 with
  | true => exact .inl ⟨Nat.le_of_ble_eq_true q, rfl⟩
  | false => exact .inr rfl
/-- a tuple, a list -/
def qTup : FM := fun vs h => lim vs.length (.ok (.tup vs) h)
def qLst : FM := fun vs h => lim vs.length (.ok (.ref h.n) (h.push (.lst vs)))
/-- a field of an instance of the class c -/
def fget (f : Nat) : List (Nat × MV) → Option MV
  | [] => none
  | (g, v) :: r => match Nat.beq f g with
    | true => some v
    | false => fget f r
def fput (f : Nat) (v : MV) : List (Nat × MV) → List (Nat × MV)
  | [] => [(f, v)]
  | (g, w) :: r => match Nat.beq g f with
    | true => (g, v) :: r
    | false => (g, w) :: fput f v r
def qFld (c f : Nat) : MV → MH → Res MV := fun v h => match v with
  | .ref n => (match h.get n with
    | some (.ins d fs) => (match Nat.beq d c with
      | true => (match fget f fs with
        | some w => .ok w h
        | none => .bad)
      | false => .bad)
    | _ => .bad)
  | _ => .bad
/-- a method of an instance of the class c; a new instance -/
def isIns (c : Nat) (h : MH) : MV → Bool
  | .ref n => (match h.get n with
    | some (.ins d _) => Nat.beq d c
    | _ => false)
  | _ => false
def eMeth (c : Nat) (g : FM) (o : EM) (a : AM) : EM := fun σ h => (o σ h).bind fun x h1 => match isIns c h1 x with
  | true => (a σ h1).bind fun vs h2 => g (x :: vs) h2
  | false => .bad
def eNew (c : Nat) (g : FM) (a : AM) : EM := fun σ h => (a σ h).bind fun vs h1 => (g (.ref h1.n :: vs) (h1.push (.ins c []))).bind fun v h2 => match v with
  | .non => .ok (.ref h1.n) h2
  | _ => .bad
/-! ### operators on values -/
def qAdd : MV → MV → MH → Res MV := fun v w h => match v, w with
  | .int i, .int j => .ok (.int (i + j)) h
  | .str a, .str b => lim (a.length + b.length) (.ok (.str (a ++ b)) h)
  | .tup xs, .tup ys => lim (xs.length + ys.length) (.ok (.tup (xs ++ ys)) h)
  | .ref a, .ref b => (match h.get a, h.get b with
    | some (.lst xs), some (.lst ys) => lim (xs.length + ys.length) (.ok (.ref h.n) (h.push (.lst (xs ++ ys))))
    | _, _ => .bad)
  | _, _ => .bad
/-- a product: one factor of at most 64 bits, or both below 2 ^ 9000 -/
def small64 (i : Int) : Bool := Nat.blt i.natAbs 18446744073709551616
def small9 (i : Int) : Bool := Nat.blt (Nat.log2 i.natAbs) 9000
def qMul : MV → MV → MH → Res MV := fun v w h => match v, w with
  | .int i, .int j => (match small64 i || small64 j || (small9 i && small9 j) with
    | true => .ok (.int (i * j)) h
    | false => .bad)
  | .ref a, .int k => (match h.get a with
    | some (.lst xs) => (match decide (0 ≤ k) && rg62 k with
      | true => lim (xs.length * k.toNat) (.ok (.ref h.n) (h.push (.lst (List.replicate k.toNat xs).flatten)))
      | false => .bad)
    | _ => .bad)
  | _, _ => .bad
/-- floor division, by a positive number below 2 ^ 9000 -/
def qDiv : MV → MV → MH → Res MV := fun v w h => match v, w with
  | .int i, .int j => (match decide (0 < j) && small9 j with
    | true => .ok (.int (i / j)) h
    | false => .bad)
  | _, _ => .bad
/-- data: no instance, no dict; its texts plain -/
def sOk (s : List Nat) : Bool := s.all fun c => Nat.blt c 1114112
def seqOf (h : MH) : MV → Option (List MV)
  | .flst xs => some xs
  | .ref n => (match h.get n with
    | some (.lst xs) => some xs
    | _ => none)
  | _ => none
def dataB : Nat → MH → MV → Bool
  | 0, _, _ => false
  | f + 1, h, v => match v with
    | .non => true
    | .bl _ => true
    | .int _ => true
    | .str s => sOk s
    | .tup xs => xs.all (dataB f h)
    | .flst xs => xs.all (dataB f h)
    | .ref n => (match h.get n with
      | some (.lst xs) => xs.all (dataB f h)
      | _ => false)
def beqN : List Nat → List Nat → Bool
  | [], [] => true
  | a :: r, b :: s => (match Nat.beq a b with
    | true => beqN r s
    | false => false)
  | _, _ => false
def all2 (f : MV → MV → Bool) : List MV → List MV → Bool
  | [], [] => true
  | x :: xs, y :: ys => (match f x y with
    | true => all2 f xs ys
    | false => false)
  | _, _ => false
def b2n (b : Bool) : Int := match b with
  | true => 1
  | false => 0
def eqB : Nat → MH → MV → MV → Bool
  | 0, _, _, _ => false
  | f + 1, h, v, w => match v, w with
    | .non, .non => true
    | .bl a, .bl b => a == b
    | .bl a, .int j => decide (b2n a = j)
    | .int i, .bl b => decide (i = b2n b)
    | .int i, .int j => decide (i = j)
    | .str a, .str b => beqN a b
    | .tup xs, .tup ys => all2 (eqB f h) xs ys
    | _, _ => (match seqOf h v, seqOf h w with
      | some xs, some ys => all2 (eqB f h) xs ys
      | _, _ => false)
/-- == of data -/
def qEq : MV → MV → MH → Res MV := fun v w h => match dataB 9 h v && dataB 9 h w with
  | true => .ok (.bl (eqB 9 h v w)) h
  | false => .bad
def qNe : MV → MV → MH → Res MV := fun v w h => match dataB 9 h v && dataB 9 h w with
  | true => .ok (.bl (!eqB 9 h v w)) h
  | false => .bad
/-- in a list of data -/
def qInL : MV → MV → MH → Res MV := fun v w h => match seqOf h w with
  | some ys => (match dataB 9 h v && ys.all (dataB 9 h) with
    | true => .ok (.bl (ys.any fun y => eqB 9 h y v)) h
    | false => .bad)
  | none => .bad
/-- in a tuple of flat things -/
def flatM : MV → Bool
  | .non => true
  | .bl _ => true
  | .int _ => true
  | .str _ => true
  | _ => false
/-- a sign in a text -/
def qInS : MV → MV → MH → Res MV := fun v w h => match v, w with
  | .str [c], .str s => .ok (.bl (s.any fun d => Nat.beq d c)) h
  | _, _ => .bad
/-- is None, is not None -/
def qIsN : MV → MV → MH → Res MV := fun v w h => match w with
  | .non => (match v with
    | .non => .ok (.bl true) h
    | _ => .ok (.bl false) h)
  | _ => .bad
def qNotN : MV → MV → MH → Res MV := fun v w h => match w with
  | .non => (match v with
    | .non => .ok (.bl false) h
    | _ => .ok (.bl true) h)
  | _ => .bad
def qNeg : MV → MH → Res MV := fun v h => match v with
  | .int i => .ok (.int (-i)) h
  | _ => .bad
/-- xs[i] -/
def ixM (n : Nat) (i : Int) : Option Nat := match decide (0 ≤ i) with
  | true => (match Nat.blt i.toNat n with
    | true => some i.toNat
    | false => none)
  | false => (match decide (-(n : Int) ≤ i) with
    | true => some (i + n).toNat
    | false => none)
def atM (xs : List MV) (i : Int) : Option MV := match ixM xs.length i with
  | some j => xs[j]?
  | none => none
def qIx : MV → MV → MH → Res MV := fun v w h => match w with
  | .int i => (match v with
    | .tup xs => (match atM xs i with
      | some x => .ok x h
      | none => .bad)
    | v => (match seqOf h v with
      | some xs => (match atM xs i with
        | some x => .ok x h
        | none => .bad)
      | none => .bad))
  | _ => .bad
/-- slices -/
def sIxM (n d : Nat) : Option Int → Nat
  | none => d
  | some v => match decide (v < 0) with
    | true => (v + (n : Int)).toNat
    | false => Nat.min v.toNat n
def cutM (xs : List MV) (lo hi : Option Int) : List MV := (xs.drop (sIxM xs.length 0 lo)).take (sIxM xs.length xs.length hi - sIxM xs.length 0 lo)
def eSl (a : EM) (lo hi : Option EM) : EM := fun σ h => (a σ h).bind fun v h1 =>
  (match lo with
    | none => Res.ok none h1
    | some e => (e σ h1).bind fun x h2 => match x with
      | .int i => Res.ok (some i) h2
      | _ => .bad).bind fun l h2 =>
  (match hi with
    | none => Res.ok none h2
    | some e => (e σ h2).bind fun x h3 => match x with
      | .int i => Res.ok (some i) h3
      | _ => .bad).bind fun u h3 => match v with
    | .tup xs => .ok (.tup (cutM xs l u)) h3
    | v => (match seqOf h3 v with
      | some xs => .ok (.ref h3.n) (h3.push (.lst (cutM xs l u)))
      | none => .bad)
/-- xs[::-1] -/
def qRev : MV → MH → Res MV := fun v h => match seqOf h v with
  | some xs => .ok (.ref h.n) (h.push (.lst xs.reverse))
  | none => .bad
/-! ### built-ins -/
/-- one argument, two -/
def f1 (g : MV → MH → Res MV) : FM := fun vs h => match vs with
  | [v] => g v h
  | _ => .bad
def f2 (g : MV → MV → MH → Res MV) : FM := fun vs h => match vs with
  | [v, w] => g v w h
  | _ => .bad
def qLen1 : MV → MH → Res MV := fun v h => match v with
  | .str s => lim s.length (.ok (.int s.length) h)
  | .tup xs => .ok (.int xs.length) h
  | .flst xs => .ok (.int xs.length) h
  | .ref n => (match h.get n with
    | some (.lst xs) => .ok (.int xs.length) h
    | some (.dct _ lk kvs) => (match lk with
      | false => .ok (.int kvs.length) h
      | true => .bad)
    | _ => .bad)
  | _ => .bad
def qLen : FM := f1 qLen1
def qMax2' : MV → MV → MH → Res MV := fun v w h => match v, w with
  | .int i, .int j => .ok (.int (match decide (i < j) with
    | true => j
    | false => i)) h
  | _, _ => .bad
def qMax2 : FM := f2 qMax2'
def qMin2' : MV → MV → MH → Res MV := fun v w h => match v, w with
  | .int i, .int j => .ok (.int (match decide (j < i) with
    | true => j
    | false => i)) h
  | _, _ => .bad
def qMin2 : FM := f2 qMin2'
def bls? : List MV → Option (List Bool)
  | [] => some []
  | .bl i :: r => (match bls? r with
    | some is => some (i :: is)
    | none => none)
  | _ => none
def seq1 (h : MH) (vs : List MV) : Option (List MV) := match vs with
  | [v] => seqOf h v
  | _ => none
def qBls (g : List Bool → Bool) : FM := fun vs h => match seq1 h vs with
  | some xs => (match bls? xs with
    | some is => .ok (.bl (g is)) h
    | none => .bad)
  | none => .bad
def allB (bs : List Bool) : Bool := bs.all id
/-- the kind of a value: 0 None, 1 bool, 2 int, 3 str, 4 list, 5 tuple, 6 dict, 10 + c an instance of c -/
def kindOf (h : MH) : MV → Option Nat
  | .non => some 0
  | .bl _ => some 1
  | .int _ => some 2
  | .str _ => some 3
  | .tup _ => some 5
  | .flst _ => some 4
  | .ref n => match h.get n with
    | some (.lst _) => some 4
    | some (.dct tk lk _) => (match tk && lk with
      | true => none
      | false => some 6)
    | some (.ins c _) => some (c + 10)
    | none => none
/-- is the kind j one of k (a bool is an int) -/
def isA (j k : Nat) : Bool := Nat.beq j k || (Nat.beq j 1 && Nat.beq k 2)
/-- isinstance(x, T); T by its kind; kinds below nc -/
def qIsi (nc k : Nat) : MV → MH → Res MV := fun v h => match kindOf h v with
  | some j => (match Nat.blt j nc with
    | true => .ok (.bl (isA j k)) h
    | false => .bad)
  | none => .bad
/-! ### methods of lists -/
def qAppend : MV → FM := fun v => f1 fun x h => match v with
  | .ref n => (match h.get n with
    | some (.lst xs) => lim (xs.length + 1) (.ok .non (h.set n (.lst (xs ++ [x]))))
    | _ => .bad)
  | _ => .bad
/-- o.m(..), o a list -/
def eBmL (g : MV → FM) (o : EM) (a : AM) : EM := fun σ h => (o σ h).bind fun v h1 => match seqOf h1 v with
  | some _ => (a σ h1).bind fun vs h2 => g v vs h2
  | none => .bad
def qSub : MV → MV → MH → Res MV := fun v w h => match v, w with
  | .int i, .int j => .ok (.int (i - j)) h
  | _, _ => .bad
def qMod : MV → MV → MH → Res MV := fun v w h => match v, w with
  | .int i, .int j => (match decide (0 < j) with
    | true => .ok (.int (i % j)) h
    | false => .bad)
  | _, _ => .bad
def qLt : MV → MV → MH → Res MV := fun v w h => match v, w with
  | .int i, .int j => .ok (.bl (decide (i < j))) h
  | _, _ => .bad
def qLe : MV → MV → MH → Res MV := fun v w h => match v, w with
  | .int i, .int j => .ok (.bl (decide (i ≤ j))) h
  | _, _ => .bad
def qGt : MV → MV → MH → Res MV := fun v w h => match v, w with
  | .int i, .int j => .ok (.bl (decide (j < i))) h
  | _, _ => .bad
def qGe : MV → MV → MH → Res MV := fun v w h => match v, w with
  | .int i, .int j => .ok (.bl (decide (j ≤ i))) h
  | _, _ => .bad
def qPow : MV → MV → MH → Res MV := fun v w h => match v, w with
  | .int i, .int j => (match (decide (0 ≤ j) && decide (j ≤ 1000000)) && small64 i with
    | true => .ok (.int (i ^ j.toNat)) h
    | false => .bad)
  | _, _ => .bad
/-- C(.., k = v, ..): f puts the arguments in order -/
def eNewK (c : Nat) (g : FM) (f : List MV → List MV → List MV) (a k : AM) : EM := fun σ h => (a σ h).bind fun vs h1 => (k σ h1).bind fun zs h2 => (g (f (.ref h2.n :: vs) zs) (h2.push (.ins c []))).bind fun v h3 => match v with
  | .non => .ok (.ref h2.n) h3
  | _ => .bad
/-! ### statements -/
def jNil : SM := fun σ h => .nx σ h
def jSeq (s t : SM) : SM := fun σ h => match s σ h with
  | .nx σ1 h1 => t σ1 h1
  | o => o
def jDrop (a : EM) : SM := fun σ h => (a σ h).out σ fun _ h1 => .nx σ h1
def jRet (a : EM) : SM := fun σ h => (a σ h).out σ fun v h1 => .rt v h1
def jRetN : SM := fun _ h => .rt .non h
def jIf (c : TM) (s t : SM) : SM := fun σ h => (c σ h).out σ fun k h1 => match k with
  | true => s σ h1
  | false => t σ h1
def jBad : SM := fun _ _ => .bad
/-- what names take: one, or a tuple's items -/
inductive Pt where
  | nm (i : Nat)
  | nil
  | cons (p q : Pt)
mutual
def asg : Pt → MV → Sl → Option Sl
  | .nm i, v, σ => some (σ.set i (some v))
  | .nil, v, σ => match v with
    | .tup [] => some σ
    | _ => none
  | .cons p q, v, σ => match v with
    | .tup (x :: xs) => (match asg p x σ with
      | some σ1 => asgs q xs σ1
      | none => none)
    | _ => none
def asgs : Pt → List MV → Sl → Option Sl
  | .nm _, _, _ => none
  | .nil, xs, σ => match xs with
    | [] => some σ
    | _ => none
  | .cons p q, xs, σ => match xs with
    | x :: r => (match asg p x σ with
      | some σ1 => asgs q r σ1
      | none => none)
    | [] => none
end
def Pt.slots : Pt → List Nat
  | .nm i => [i]
  | .nil => []
  | .cons p q => p.slots ++ q.slots
def Pt.len : Pt → Nat
  | .nm _ => 0
  | .nil => 0
  | .cons _ q => q.len + 1
def jAsg (a : EM) (p : Pt) : SM := fun σ h => (a σ h).out σ fun v h1 => match asg p v σ with
  | some σ1 => .nx σ1 h1
  | none => .bad
/-- o.f = e: e first -/
def jFld (c f : Nat) (a v : EM) : SM := fun σ h => (v σ h).out σ fun y h1 => (a σ h1).out σ fun x h2 => match x with
  | .ref n => (match h2.get n with
    | some (.ins d fs) => (match Nat.beq d c with
      | true => (match Nat.blt fs.length 100 with
        | true => .nx σ (h2.set n (.ins d (fput f y fs)))
        | false => .bad)
      | false => .bad)
    | _ => .bad)
  | _ => .bad
/-! ### dicts -/
/-- a key: an int, a text (tk = false), a tuple of such (tk = true) -/
def keyA : MV → Bool
  | .int _ => true
  | .str _ => true
  | _ => false
def keyOk (tk : Bool) (v : MV) : Bool := match tk with
  | false => keyA v
  | true => (match v with
    | .tup xs => xs.all keyA
    | _ => false)
def keyB1 : MV → MV → Bool
  | .int i, .int j => decide (i = j)
  | .str a, .str b => beqN a b
  | _, _ => false
def keyB : MV → MV → Bool
  | .int i, .int j => decide (i = j)
  | .str a, .str b => beqN a b
  | .tup xs, .tup ys => all2 keyB1 xs ys
  | _, _ => false
def dget (k : MV) : List (MV × MV) → Option MV
  | [] => none
  | (j, v) :: r => (match keyB j k with
    | true => some v
    | false => dget k r)
def dput (k v : MV) (kvs : List (MV × MV)) : List (MV × MV) := match kvs.any fun p => keyB p.1 k with
  | true => kvs.map fun p => match keyB p.1 k with
    | true => (p.1, v)
    | false => p
  | false => kvs ++ [(k, v)]
def eDNew (tk : Bool) : EM := fun _ h => .ok (.ref h.n) (h.push (.dct tk false []))
/-- k in d, k not in d, d[k] -/
def dOf (h : MH) : MV → Option (Bool × List (MV × MV))
  | .ref n => (match h.get n with
    | some (.dct tk _ kvs) => some (tk, kvs)
    | _ => none)
  | _ => none
def qDget : MV → MV → MH → Res MV := fun d k h => match dOf h d with
  | some (tk, kvs) => (match keyOk tk k with
    | true => (match dget k kvs with
      | some v => .ok v h
      | none => .bad)
    | false => .bad)
  | none => .bad
/-- d[k] = e: e, d, k -/
def jDput (d k e : EM) : SM := fun σ h => (e σ h).out σ fun v h1 => (d σ h1).out σ fun x h2 => (k σ h2).out σ fun y h3 => match x with
  | .ref n => (match h3.get n with
    | some (.dct tk lk kvs) => (match lk with
      | true => .bad
      | false => (match keyOk tk y && Nat.blt kvs.length 16777216 with
        | true => .nx σ (h3.set n (.dct tk false (dput y v kvs)))
        | false => .bad))
    | _ => .bad)
  | _ => .bad
/-- d is locked through the statement (unless it is already): what is walked isn't written -/
def unlockH (n : Nat) (h : MH) : Option MH := match h.get n with
  | some (.dct tk lk kvs) => (match lk with
    | true => some (h.set n (.dct tk false kvs))
    | false => none)
  | _ => none
def unlockO (n : Nat) (o : Out) : Out := match o with
  | .nx σ h => (match unlockH n h with
    | some h1 => .nx σ h1
    | none => .bad)
  | .rt v h => (match unlockH n h with
    | some h1 => .rt v h1
    | none => .bad)
  | .bk σ h => (match unlockH n h with
    | some h1 => .bk σ h1
    | none => .bad)
  | .ct σ h => (match unlockH n h with
    | some h1 => .ct σ h1
    | none => .bad)
  | .exc _ _ _ _ => .bad
  | .bad => .bad
def jLock (p : EM) (s : SM) : SM := fun σ h => match p σ h with
  | .ok v _ => (match v with
    | .ref n => (match h.get n with
      | some (.dct tk lk kvs) => (match lk with
        | true => s σ h
        | false => unlockO n (s σ (h.set n (.dct tk true kvs))))
      | _ => .bad)
    | _ => .bad)
  | _ => .bad
def unlockR (n : Nat) (o : Res MV) : Res MV := match o with
  | .ok v h => (match unlockH n h with
    | some h1 => .ok v h1
    | none => .bad)
  | .exc _ _ _ => .bad
  | .bad => .bad
def eLock (p : EM) (e : EM) : EM := fun σ h => match p σ h with
  | .ok v _ => (match v with
    | .ref n => (match h.get n with
      | some (.dct tk lk kvs) => (match lk with
        | true => e σ h
        | false => unlockR n (e σ (h.set n (.dct tk true kvs))))
      | _ => .bad)
    | _ => .bad)
  | _ => .bad
/-- a, b = x, y: stored from the right, no tuple -/
def jPar (i j : Nat) (a b : EM) : SM := fun σ h => (a σ h).out σ fun v h1 => (b σ h1).out σ fun w h2 => .nx ((σ.set i (some v)).set j (some w)) h2
def jPass : SM := jNil
def jBreak : SM := fun σ h => .bk σ h
def jCont : SM := fun σ h => .ct σ h
/-- xs[i] = e: e first -/
def jSetL (a i e : EM) : SM := fun σ h => (e σ h).out σ fun y h1 => (a σ h1).out σ fun x h2 => (i σ h2).out σ fun k h3 => match x, k with
  | .ref n, .int k => (match h3.get n with
    | some (.lst xs) => (match ixM xs.length k with
      | some j => .nx σ (h3.set n (.lst (xs.set j y)))
      | none => .bad)
    | _ => .bad)
  | _, _ => .bad
/-- while, with so many turns at most -/
def whileL (c : TM) (b : SM) : Nat → SM
  | 0, _, _ => .bad
  | k + 1, σ, h => (c σ h).out σ fun q h1 => match q with
    | true => (match b σ h1 with
      | .nx σ2 h2 => whileL c b k σ2 h2
      | .ct σ2 h2 => whileL c b k σ2 h2
      | .bk σ2 h2 => .nx σ2 h2
      | o => o)
    | false => .nx σ h1
def jWhile (k : Nat) (c : TM) (b : SM) : SM := whileL c b k
/-- a walk: n turns, what comes at each, whether its source stands at the end -/
structure Wk where
  n : Nat
  at_ : Nat → MH → Option MV
  fin : MH → Bool
abbrev WM := Sl → MH → Res Wk
def forL (w : Wk) (p : Pt) (b : SM) : Nat → Nat → Sl → MH → Out
  | 0, _, σ, h => (match w.fin h with
    | true => .nx σ h
    | false => .bad)
  | r + 1, i, σ, h => (match w.at_ i h with
    | none => .bad
    | some v => (match asg p v σ with
      | none => .bad
      | some σ1 => (match b σ1 h with
        | .nx σ2 h2 => forL w p b r (i + 1) σ2 h2
        | .ct σ2 h2 => forL w p b r (i + 1) σ2 h2
        | .bk σ2 h2 => .nx σ2 h2
        | o => o)))
def jFor (w : WM) (p : Pt) (b : SM) : SM := fun σ h => (w σ h).out σ fun k h1 => forL k p b k.n 0 σ h1
/-- a list that stands at a, unchanged through the walk in length -/
def wkL (a n : Nat) : Wk := ⟨n, fun i h => match h.get a with
  | some (.lst xs) => xs[i]?
  | _ => none, fun h => match h.get a with
  | some (.lst xs) => Nat.ble xs.length n
  | _ => false⟩
def wkT (xs : List MV) : Wk := ⟨xs.length, fun i _ => xs[i]?, fun _ => true⟩
def wkR (lo : Int) (n : Nat) : Wk := ⟨n, fun i _ => some (.int (lo + i)), fun _ => true⟩
/-- what a for walks: a list, a tuple, range(n), range(a, b) -/
def wSeq (a : EM) : WM := fun σ h => (a σ h).bind fun v h1 => match v with
  | .ref n => (match h1.get n with
    | some (.lst xs) => .ok (wkL n xs.length) h1
    | _ => .bad)
  | _ => .bad
def wFst (a : EM) : WM := fun σ h => (a σ h).bind fun v h1 => match v with
  | .flst xs => .ok (wkT xs) h1
  | _ => .bad
def wTup (a : EM) : WM := fun σ h => (a σ h).bind fun v h1 => match v with
  | .tup xs => .ok (wkT xs) h1
  | _ => .bad
/-- a dict that is locked, walked by keys (0), values (1), items (2) -/
def entM (k : Nat) (p : MV × MV) : MV := match k with
  | 0 => p.1
  | 1 => p.2
  | _ => .tup [p.1, p.2]
def wkD (k a n : Nat) : Wk := ⟨n, fun i h => match h.get a with
  | some (.dct _ lk kvs) => (match lk with
    | true => (match kvs[i]? with
      | some p => some (entM k p)
      | none => none)
    | false => none)
  | _ => none, fun h => match h.get a with
  | some (.dct _ lk kvs) => lk && Nat.ble kvs.length n
  | _ => false⟩
def wDct (k : Nat) (a : EM) : WM := fun σ h => (a σ h).bind fun v h1 => match v with
  | .ref n => (match h1.get n with
    | some (.dct tk lk kvs) => (match lk && !tk with
      | true => .ok (wkD k n kvs.length) h1
      | false => .bad)
    | _ => .bad)
  | _ => .bad
/-- enumerate(list) -/
def wkE (w : Wk) : Wk := ⟨w.n, fun i h => match w.at_ i h with
  | some v => some (.tup [.int (i : Nat), v])
  | none => none, w.fin⟩
def wEnum (a : EM) : WM := fun σ h => (a σ h).bind fun v h1 => match v with
  | .ref n => (match h1.get n with
    | some (.lst xs) => .ok (wkE (wkL n xs.length)) h1
    | _ => .bad)
  | _ => .bad
/-- range(a, b, c), c > 0 -/
def wkC (lo c : Int) (n : Nat) : Wk := ⟨n, fun i _ => some (.int (lo + (i : Nat) * c)), fun _ => true⟩
/-- a range's step: how many -/
def stepN (i j c : Int) : Nat := match decide (i < j) with
  | true => ((j - i - 1) / c + 1).toNat
  | false => 0
def wRng3 (a b c : EM) : WM := fun σ h => (a σ h).bind fun v h1 => (b σ h1).bind fun w h2 => (c σ h2).bind fun u h3 => match v, w, u with
  | .int i, .int j, .int k => (match (rg62 i && rg62 j) && (decide (0 < k) && decide (k < 1073741824)) with
    | true => .ok (wkC i k (stepN i j k)) h3
    | false => .bad)
  | _, _, _ => .bad
/-- a text's signs -/
def wkS (s : List Nat) : Wk := ⟨s.length, fun i _ => match s[i]? with
  | some c => some (.str [c])
  | none => none, fun _ => true⟩
def wStr (a : EM) : WM := fun σ h => (a σ h).bind fun v h1 => match v with
  | .str s => .ok (wkS s) h1
  | _ => .bad
/-- zip of two tuples, of two lists -/
def wkZT (xs ys : List MV) : Wk := ⟨Nat.min xs.length ys.length, fun i _ => match xs[i]?, ys[i]? with
  | some x, some y => some (.tup [x, y])
  | _, _ => none, fun _ => true⟩
def wkZL (v w : MV) (n : Nat) : Wk := ⟨n, fun i h => match seqOf h v, seqOf h w with
  | some xs, some ys => (match xs[i]?, ys[i]? with
    | some x, some y => some (.tup [x, y])
    | _, _ => none)
  | _, _ => none, fun h => match seqOf h v, seqOf h w with
  | some xs, some ys => Nat.ble xs.length n || Nat.ble ys.length n
  | _, _ => false⟩
def wZip (a b : EM) : WM := fun σ h => (a σ h).bind fun v h1 => (b σ h1).bind fun w h2 => match v, w with
  | .tup xs, .tup ys => .ok (wkZT xs ys) h2
  | _, _ => (match seqOf h2 v, seqOf h2 w with
    | some xs, some ys => .ok (wkZL v w (Nat.min xs.length ys.length)) h2
    | _, _ => .bad)
/-- an int that a range takes -/
def rgOk (i : Int) : Bool := rg62 i
def wRng1 (a : EM) : WM := fun σ h => (a σ h).bind fun v h1 => match v with
  | .int j => (match rgOk j with
    | true => .ok (wkR 0 j.toNat) h1
    | false => .bad)
  | _ => .bad
def wRng2 (a b : EM) : WM := fun σ h => (a σ h).bind fun v h1 => (b σ h1).bind fun w h2 => match v, w with
  | .int i, .int j => (match rgOk i && rgOk j with
    | true => .ok (wkR i (j - i).toNat) h2
    | false => .bad)
  | _, _ => .bad
/-- [e for p in w if t]; vs: the block's own slots -/
def wipeM (σ : Sl) : List Nat → Sl
  | [] => σ
  | v :: vs => (wipeM σ vs).set v none
def accL {A : Type} (w : Wk) (p : Pt) (t : TM) (b : Sl → A → MH → Res A) (σ : Sl) : Nat → Nat → A → MH → Res A
  | 0, _, acc, h => (match w.fin h with
    | true => .ok acc h
    | false => .bad)
  | r + 1, i, acc, h => (match w.at_ i h with
    | none => .bad
    | some v => (match asg p v σ with
      | none => .bad
      | some σ1 => (t σ1 h).bind fun k h1 => match k with
        | true => (b σ1 acc h1).bind fun acc h2 => accL w p t b σ r (i + 1) acc h2
        | false => accL w p t b σ r (i + 1) acc h1))
def cYes : TM := fun _ h => .ok true h
/-- one item more, told with how many there are -/
def bE (e : EM) : Sl → Nat × List MV → MH → Res (Nat × List MV) := fun σ acc h => (e σ h).bind fun y h1 => lim (acc.1 + 1) (.ok (acc.1 + 1, y :: acc.2) h1)
def kLst (acc : Nat × List MV) (h : MH) : Res MV := .ok (.ref h.n) (h.push (.lst acc.2.reverse))
def eLc (w : WM) (p : Pt) (t : TM) (e : EM) (vs : List Nat) : EM := fun σ h => (w σ h).bind fun k h1 => (accL k p t (bE e) (wipeM σ vs) k.n 0 (0, []) h1).bind kLst
/-- a second for behind the first -/
def b2 (w : WM) (p : Pt) (t : TM) (e : EM) (vs : List Nat) : Sl → Nat × List MV → MH → Res (Nat × List MV) := fun σ acc h => (w σ h).bind fun k h1 => accL k p t (bE e) (wipeM σ vs) k.n 0 acc h1
def eLc2 (w : WM) (p : Pt) (t : TM) (w1 : WM) (p1 : Pt) (t1 : TM) (e : EM) (vs vs1 : List Nat) : EM := fun σ h => (w σ h).bind fun k h1 => (accL k p t (b2 w1 p1 t1 e vs1) (wipeM σ vs) k.n 0 (0, []) h1).bind kLst
/-- {k: v for p in w if t} -/
def bD (a b : EM) : Sl → Nat × List (MV × MV) → MH → Res (Nat × List (MV × MV)) := fun σ acc h => (a σ h).bind fun y h1 => (b σ h1).bind fun z h2 => match keyA y with
  | true => lim (acc.1 + 1) (.ok (acc.1 + 1, dput y z acc.2) h2)
  | false => .bad
def kDct (acc : Nat × List (MV × MV)) (h : MH) : Res MV := .ok (.ref h.n) (h.push (.dct false false acc.2))
def eDc (w : WM) (p : Pt) (t : TM) (a b : EM) (vs : List Nat) : EM := fun σ h => (w σ h).bind fun k h1 => (accL k p t (bD a b) (wipeM σ vs) k.n 0 (0, []) h1).bind kDct
/-- a def's body: N slots, the arguments first -/
def fn (N : Nat) (b : SM) : FM := fun vs h => match b (vs.map some ++ List.replicate (N - vs.length) none) h with
  | .nx _ h1 => .ok .non h1
  | .rt v h1 => .ok v h1
  | .exc c p _ h1 => .exc c p h1
  | _ => .bad
end KA
set_option autoImplicit true
set_option maxHeartbeats 200000
set_option maxRecDepth 512
set_option linter.all false
/-! KMini2: more combinators. -/
namespace KA
/-- is True, is False; neg: is not -/
def qIsB (neg : Bool) : MV → MV → MH → Res MV := fun v w h => match v, w with
  | .bl a, .bl b => .ok (.bl (match neg with
    | false => decide (a = b)
    | true => !decide (a = b))) h
  | _, _ => .bad
/-- enumerate(tuple) -/
def wEnumT (a : EM) : WM := fun σ h => (a σ h).bind fun v h1 => match v with
  | .tup xs => .ok (wkE (wkT xs)) h1
  | _ => .bad
/-- a, b, c = x, y, z: stored from the right, no tuple -/
def jPar3 (i j l : Nat) (a b c : EM) : SM := fun σ h => (a σ h).out σ fun v h1 => (b σ h1).out σ fun w h2 => (c σ h2).out σ fun u h3 => .nx (((σ.set i (some v)).set j (some w)).set l (some u)) h3
end KA
set_option autoImplicit true
set_option maxHeartbeats 200000
set_option maxRecDepth 512
set_option linter.all false
/-! KMini3: operations on instances of own classes. -/
namespace KA
/-- two instances of c: what the def g gives; its negation -/
def qOwB (c : Nat) (g : FM) : MV → MV → MH → Res MV := fun v w h => match isIns c h v && isIns c h w with
  | true => g [v, w] h
  | false => .bad
/-! ### == of lists of tuples of flat things and instances of c -/
def elE (c : Nat) (g : FM) (v w : MV) (h : MH) : Res Bool := match flatM v && flatM w with
  | true => .ok (eqB 1 h v w) h
  | false => (match v, w with
    | .ref n, .ref j => (match isIns c h (.ref n) && isIns c h (.ref j) with
      | true => (match Nat.beq n j with
        | true => .ok true h
        | false => (g [.ref n, .ref j] h).bind qB)
      | false => .bad)
    | _, _ => .bad)
def seqE (c : Nat) (g : FM) : List MV → List MV → MH → Res Bool
  | [], [], h => .ok true h
  | x :: xs, y :: ys, h => (elE c g x y h).bind fun b h1 => match b with
    | true => seqE c g xs ys h1
    | false => .ok false h1
  | _, _, _ => .bad
def itE (c : Nat) (g : FM) (v w : MV) (h : MH) : Res Bool := match v, w with
  | .tup xs, .tup ys => (match Nat.beq xs.length ys.length with
    | true => seqE c g xs ys h
    | false => .bad)
  | _, _ => .bad
def twoL (n j N : Nat) (h : MH) : Option (List MV × List MV) := match h.get n, h.get j with
  | some (.lst xs), some (.lst ys) => (match Nat.beq xs.length N && Nat.beq ys.length N with
    | true => some (xs, ys)
    | false => none)
  | _, _ => none
def lstE (c : Nat) (g : FM) (n j N : Nat) : Nat → Nat → MH → Res Bool
  | 0, _, h => (match twoL n j N h with
    | some _ => .ok true h
    | none => .bad)
  | d + 1, i, h => (match twoL n j N h with
    | some (xs, ys) => (match xs[i]?, ys[i]? with
      | some x, some y => (itE c g x y h).bind fun b h1 => match b with
        | true => lstE c g n j N d (i + 1) h1
        | false => (match twoL n j N h1 with
          | some _ => .ok false h1
          | none => .bad)
      | _, _ => .bad)
    | none => .bad)
def qEqD (c : Nat) (g : FM) : MV → MV → MH → Res MV := fun v w h => match v, w with
  | .ref n, .ref j => (match h.get n with
    | some (.lst xs) => (lstE c g n j xs.length xs.length 0 h).bind fun b h1 => .ok (.bl b) h1
    | _ => .bad)
  | _, _ => .bad
/-- list(d.items()) -/
def qListItems : MV → MH → Res MV := fun v h => match v with
  | .ref n => (match h.get n with
    | some (.dct tk lk kvs) => (match tk || lk with
      | false => .ok (.ref h.n) (h.push (.lst (kvs.map fun p => .tup [p.1, p.2])))
      | true => .bad)
    | _ => .bad)
  | _ => .bad
/-- *a in a display: a tuple -/
def aStar (a : EM) (r : AM) : AM := fun σ h => (a σ h).bind fun v h1 => match v with
  | .tup xs => (r σ h1).bind fun ys h2 => .ok (xs ++ ys) h2
  | _ => .bad
/-- o(a, ..), o an instance of c -/
def eCallO (c : Nat) (g : FM) (o : EM) (a : AM) : EM := fun σ h => (o σ h).bind fun x h1 => match x with
  | .ref n => (a σ h1).bind fun vs h2 => (match isIns c h2 (.ref n) with
    | true => g (.ref n :: vs) h2
    | false => .bad)
  | _ => .bad
end KA
set_option autoImplicit true
set_option maxHeartbeats 200000
set_option maxRecDepth 512
set_option linter.all false
/-! KMini4: more of the mini semantics: a dict comprehension with two fors, a call of a class method. -/
set_option autoImplicit true
set_option maxHeartbeats 200000
set_option maxRecDepth 512
set_option linter.all false
/-! KMini5: more of the mini semantics: texts, *xs in a list, a starred target. -/
namespace KA
def digS (i : Int) : List Nat := match decide (i < 10) with
  | true => [48 + i.toNat]
  | false => [48 + (i / 10).toNat, 48 + (i % 10).toNat]
/-- str(n), n small -/
def qStrI1 : MV → MH → Res MV := fun v h => match v with
  | .int i => (match decide (0 ≤ i) && decide (i < 100) with
    | true => .ok (.str (digS i)) h
    | false => .bad)
  | _ => .bad
def qStrI : FM := f1 qStrI1
def digB (c : Nat) : Bool := Nat.ble 48 c && Nat.ble c 57
/-- int(s), s one or two digits -/
def qIntS1 : MV → MH → Res MV := fun v h => match v with
  | .str [a] => (match digB a with
    | true => .ok (.int ((a - 48 : Nat) : Int)) h
    | false => .bad)
  | .str [a, b] => (match digB a && digB b with
    | true => .ok (.int (((a - 48) * 10 + (b - 48) : Nat) : Int)) h
    | false => .bad)
  | _ => .bad
def qIntS : FM := f1 qIntS1
def splitC (c : Nat) : List Nat → List (List Nat)
  | [] => [[]]
  | x :: r => match splitC c r with
    | [] => [[]]
    | p :: ps => (match Nat.beq x c with
      | true => [] :: p :: ps
      | false => (x :: p) :: ps)
def joinC (sep : List Nat) : List (List Nat) → List Nat
  | [] => []
  | [p] => p
  | p :: q :: r => p ++ (sep ++ joinC sep (q :: r))
def strs? : List MV → Option (List (List Nat))
  | [] => some []
  | .str s :: r => (match strs? r with
    | some ss => some (s :: ss)
    | none => none)
  | _ => none
/-- s.split(c), c one sign -/
def qSplit (v : MV) : FM := f1 fun w h => match v, w with
  | .str a, .str [c] => (match Nat.blt c 256 with
    | true => lim (a.length + 2) (.ok (.ref h.n) (h.push (.lst ((splitC c a).map .str))))
    | false => .bad)
  | _, _ => .bad
/-- sep.join(xs), xs a list of strs -/
def qJoin (v : MV) : FM := f1 fun w h => match v, w with
  | .str a, .ref n => (match h.get n with
    | some (.lst ys) => (match strs? ys with
      | some ps => lim ((ps.map List.length).sum + ps.length * a.length) (.ok (.str (joinC a ps)) h)
      | none => .bad)
    | _ => .bad)
  | _, _ => .bad
/-- s.m(a), s a str -/
def eSm (g : MV → FM) (o a : EM) : EM := fun σ h => (o σ h).bind fun v h1 => match v with
  | .str s => (a σ h1).bind fun w h2 => g (.str s) [w] h2
  | _ => .bad
/-- *xs in a list's items, xs a list -/
def aStarL (a : EM) (r : AM) : AM := fun σ h => (a σ h).bind fun v h1 => match v with
  | .ref n => (match h1.get n with
    | some (.lst xs) => (r σ h1).bind fun ys h2 => .ok (xs ++ ys) h2
    | _ => .bad)
  | _ => .bad
/-- *x, y = xs, xs a list -/
def jStar (i j : Nat) (a : EM) : SM := fun σ h => (a σ h).out σ fun v h1 => match v with
  | .ref n => (match h1.get n with
    | some (.lst xs) => (match xs.getLast? with
      | some y => .nx ((σ.set i (some (.ref h1.n))).set j (some y)) (h1.push (.lst xs.dropLast))
      | none => .bad)
    | _ => .bad)
  | _ => .bad
/-- xs == ys, lists of two lengths -/
def qEqLen : MV → MV → MH → Res MV := fun v w h => match v, w with
  | .ref n, .ref j => (match h.get n, h.get j with
    | some (.lst xs), some (.lst ys) => (match Nat.beq xs.length ys.length with
      | true => .bad
      | false => .ok (.bl false) h)
    | _, _ => .bad)
  | _, _ => .bad
/-- dict(xs), xs a list of pairs -/
def pairsKV : List MV → Option (List (MV × MV))
  | [] => some []
  | .tup [k, v] :: r => (match keyA k with
    | true => (match pairsKV r with
      | some ps => some ((k, v) :: ps)
      | none => none)
    | false => none)
  | _ => none
def mergeM : List (MV × MV) → List (MV × MV) → List (MV × MV)
  | acc, [] => acc
  | acc, p :: r => mergeM (dput p.1 p.2 acc) r
def qDictP1 : MV → MH → Res MV := fun v h => match v with
  | .ref n => (match h.get n with
    | some (.lst xs) => (match pairsKV xs with
      | some ps => .ok (.ref h.n) (h.push (.dct false false (mergeM [] ps)))
      | none => .bad)
    | _ => .bad)
  | _ => .bad
def qDictP : FM := f1 qDictP1
end KA
set_option autoImplicit false
set_option maxHeartbeats 200000
set_option maxRecDepth 512
set_option linter.all false
set_option autoImplicit false
/-! KMini6: more of the mini semantics: exceptions that are raised, leave, are caught. -/
namespace KA
/-- nothing may be raised here -/
def noR {α : Type} (r : Res α) : Res α := match r with
  | .ok a h => .ok a h
  | .exc _ _ _ => .bad
  | .bad => .bad
def eNox (f : EM) : EM := fun σ h => noR (f σ h)
def tNox (f : TM) : TM := fun σ h => noR (f σ h)
def jNox (s : SM) : SM := fun σ h => match s σ h with
  | .nx σ1 h1 => .nx σ1 h1
  | .rt v h1 => .rt v h1
  | .bk σ1 h1 => .bk σ1 h1
  | .ct σ1 h1 => .ct σ1 h1
  | .exc _ _ _ _ => .bad
  | .bad => .bad
/-- raise C('..'); raise C(e), e the payload -/
def jRaise (c : Nat) : SM := fun σ h => .exc c none σ h
def jRaiseP (c : Nat) (e : EM) : SM := fun σ h => (e σ h).out σ fun v h1 => .exc c (some v) σ h1
/-- a dict locked through a statement that may raise -/
def unlockOX (n : Nat) (o : Out) : Out := match o with
  | .nx σ h => (match unlockH n h with
    | some h1 => .nx σ h1
    | none => .bad)
  | .rt v h => (match unlockH n h with
    | some h1 => .rt v h1
    | none => .bad)
  | .bk σ h => (match unlockH n h with
    | some h1 => .bk σ h1
    | none => .bad)
  | .ct σ h => (match unlockH n h with
    | some h1 => .ct σ h1
    | none => .bad)
  | .exc c p σ h => (match unlockH n h with
    | some h1 => .exc c p σ h1
    | none => .bad)
  | .bad => .bad
def jLockX (p : EM) (s : SM) : SM := fun σ h => match p σ h with
  | .ok v _ => (match v with
    | .ref n => (match h.get n with
      | some (.dct tk lk kvs) => (match lk with
        | true => s σ h
        | false => unlockOX n (s σ (h.set n (.dct tk true kvs))))
      | _ => .bad)
    | _ => .bad)
  | _ => .bad
/-- try: .. except C as n: return n.f; i the slot of n -/
def jTryF (c i : Nat) (b : SM) : SM := fun σ h => match b σ h with
  | .nx σ1 h1 => .nx σ1 h1
  | .rt v h1 => .rt v h1
  | .bk σ1 h1 => .bk σ1 h1
  | .ct σ1 h1 => .ct σ1 h1
  | .exc d p σ1 h1 => (match p with
    | some v => (match Nat.beq d c && Nat.blt i σ1.length with
      | true => .rt v h1
      | false => .bad)
    | none => .bad)
  | .bad => .bad
end KA
set_option autoImplicit false
set_option maxHeartbeats 200000
set_option maxRecDepth 512
set_option linter.all false
set_option autoImplicit false
/-! KMini7: more of the mini semantics: dicts with tuple keys made by comprehensions, walked; sorted by a key. -/
set_option autoImplicit false
set_option maxHeartbeats 200000
set_option maxRecDepth 512
/-! KMini8: more on dicts with tuples as keys; list(zip(a, b)). -/
set_option linter.all false
set_option autoImplicit false
set_option autoImplicit false
set_option maxHeartbeats 200000
set_option maxRecDepth 512
/-! KMini10: try .. except C .. else ..; what a class's makers raise. -/
set_option linter.all false
set_option autoImplicit false
namespace KA
/-- try: b except C: s else: u; c the number of C -/
def jTryC (c : Nat) (b s u : SM) : SM := fun σ h => match b σ h with
  | .nx σ1 h1 => u σ1 h1
  | .rt v h1 => .rt v h1
  | .bk σ1 h1 => .bk σ1 h1
  | .ct σ1 h1 => .ct σ1 h1
  | .exc d _ σ1 h1 => (match Nat.beq d c with
    | true => s σ1 h1
    | false => .bad)
  | .bad => .bad
/-- raise C(i), i the index of a line -/
def lineM : MV → Bool
  | .int i => decide (0 ≤ i) && decide (i < 100)
  | _ => false
def jRaiseI (c : Nat) (e : EM) : SM := fun σ h => (e σ h).out σ fun v h1 => match lineM v with
  | true => .exc c (some v) σ h1
  | false => .bad
/-- a == b, lists of unlike lengths or both empty -/
def qEqE : MV → MV → MH → Res MV := fun v w h => match v, w with
  | .ref n, .ref j => (match h.get n, h.get j with
    | some (.lst xs), some (.lst ys) => (match Nat.beq xs.length ys.length with
      | true => (match Nat.beq xs.length 0 with
        | true => qEq v w h
        | false => .bad)
      | false => .ok (.bl false) h)
    | _, _ => .bad)
  | _, _ => .bad
/-- s[:-1], s * 2, s a text -/
def qInitS : MV → MH → Res MV := fun v h => match v with
  | .str s => lim s.length (.ok (.str s.dropLast) h)
  | _ => .bad
def qTwice : MV → MH → Res MV := fun v h => match v with
  | .str s => (match Nat.blt 0 s.length && Nat.blt s.length 1000 with
    | true => .ok (.str (s ++ s)) h
    | false => .bad)
  | _ => .bad
end KA
set_option autoImplicit true
set_option maxHeartbeats 200000
set_option maxRecDepth 512
set_option linter.all false
/-! KProg: the program, as mini functions (printed by gen.py). -/
namespace KA
def kfJob_2_start_cost (vs zs : List MV) : List MV := vs ++ ((zs.drop 0).take 1 ++ ((zs.drop 1).take 1))
def m_is_whole : FM := fn 1 ((jRet (eAnd (e1 (qIsi 12 2) (eV 0)) (eNot (e1 (qIsi 12 1) (eV 0))))))
def m_is_integer : FM := fn 3 ((jRet (eAnd (eA m_is_whole (aCons (eV 0) aNil)) (eChain qLe qLe (eV 1) (eV 0) (eV 2)))))
def m_Job___init__ : FM := fn 5 ((jSeq (jIf (cNot (cB (eA m_is_integer (aCons (eV 1) (aCons (eC (.int 1)) (aCons (eC (.int 12)) aNil)))))) jBad jNil)
    (jSeq (jIf (cNot (cB (eA m_is_integer (aCons (eV 2) (aCons (eC (.int 1)) (aCons (eV 1) aNil)))))) jBad jNil)
    (jSeq (jIf (cNot (cB (eA m_is_integer (aCons (eV 3) (aCons (eC (.int 0)) (aCons (e2 qSub (eV 1) (eC (.int 1))) aNil)))))) jBad jNil)
    (jSeq (jIf (cNot (cB (eA m_is_integer (aCons (eV 4) (aCons (eC (.int 1)) (aCons (eC (.int 9)) aNil)))))) jBad jNil)
    (jSeq (jFld 0 0 (eV 0) (eV 1))
    (jSeq (jFld 0 1 (eV 0) (eV 2))
    (jSeq (jFld 0 2 (eV 0) (eV 3))
    (jFld 0 3 (eV 0) (eV 4))))))))))
def m_check_timetable : FM := fn 1 ((jIf (cNot (cB (e1 (qIsi 12 11) (eV 0)))) jBad jNil))
def m_is_name : FM := fn 2 ((jRet (eAnd (e1 (qIsi 12 3) (eV 0)) (eAnd (eChain qLe qLe (eC (.int 1)) (eA qLen (aCons (eV 0) aNil)) (eC (.int 8))) (eA (qBls allB) (aCons (eLc (wStr (eV 0)) (.nm 1) cYes (e2 qInS (eV 1) (eC (.str [97, 98, 99, 100, 101, 102, 103, 104, 105, 106, 107, 108, 109, 110, 111, 112, 113, 114, 115, 116, 117, 118, 119, 120, 121, 122]))) [1]) aNil))))))
def m_Timetable___init__ : FM := fn 5 ((jSeq (jIf (cOr (cNot (cB (e1 (qIsi 12 6) (eV 1)))) (cNot (cB (eChain qLe qLe (eC (.int 1)) (eA qLen (aCons (eV 1) aNil)) (eC (.int 4)))))) jBad jNil)
    (jSeq (jLock (eV 1) (jFor (wDct 2 (eV 1)) (.cons (.nm 2) (.cons (.nm 3) .nil)) (jIf (cOr (cNot (cB (eA m_is_name (aCons (eV 2) aNil)))) (cNot (cB (e1 (qIsi 12 10) (eV 3))))) jBad jNil)))
    (jSeq (jAsg (eC (.int 1)) (.nm 4))
    (jSeq (jLock (eV 1) (jFor (wDct 1 (eV 1)) (.nm 3) (jAsg (e2 qMul (eV 4) (e1 (qFld 0 0) (eV 3))) (.nm 4))))
    (jSeq (jIf (cB (e2 qGt (eV 4) (eC (.int 2000)))) jBad jNil)
    (jFld 1 4 (eV 0) (eLock (eV 1) (eDc (wDct 2 (eV 1)) (.cons (.nm 2) (.cons (.nm 3) .nil)) cYes (eV 2) (eV 3) [2, 3])))))))))
def m_Timetable_all_parts : FM := fn 1 ((jRet (e1 qListItems (e1 (qFld 1 4) (eV 0)))))
def m_Job_all_parts : FM := fn 1 ((jRet (eA qLst (aCons (e1 (qFld 0 0) (eV 0)) (aCons (e1 (qFld 0 1) (eV 0)) (aCons (e1 (qFld 0 2) (eV 0)) (aCons (e1 (qFld 0 3) (eV 0)) aNil)))))))
def m_Job___eq__ : FM := fn 2 ((jRet (eAnd (e1 (qIsi 12 10) (eV 1)) (e2 qEq (eMeth 0 m_Job_all_parts (eV 0) aNil) (eMeth 0 m_Job_all_parts (eV 1) aNil)))))
def m_Timetable___eq__ : FM := fn 2 ((jRet (eAnd (e1 (qIsi 12 11) (eV 1)) (e2 (qEqD 0 m_Job___eq__) (eMeth 1 m_Timetable_all_parts (eV 0) aNil) (eMeth 1 m_Timetable_all_parts (eV 1) aNil)))))
def m_number_in : FM := fn 2 ((jSeq (jIf (cOr (cNot (cB (eChain qLe qLe (eC (.int 1)) (eA qLen (aCons (eV 0) aNil)) (eC (.int 2))))) (cNot (cB (eA (qBls allB) (aCons (eLc (wStr (eV 0)) (.nm 1) cYes (e2 qInS (eV 1) (eC (.str [48, 49, 50, 51, 52, 53, 54, 55, 56, 57]))) [1]) aNil))))) (jRet (eC .non)) jNil)
    (jRet (eIf (cB (e2 qEq (eV 0) (eA qStrI (aCons (eA qIntS (aCons (eV 0) aNil)) aNil)))) (eA qIntS (aCons (eV 0) aNil)) (eC .non)))))
def m_job_in : FM := fn 4 ((jSeq (jAsg (eLc (wSeq (eSl (eV 0) (some (eC (.int 1))) none)) (.nm 3) cYes (eA m_number_in (aCons (eV 3) aNil)) [3]) (.nm 1))
    (jSeq (jIf (cOr (cB (e2 qNe (eA qLen (aCons (eV 0) aNil)) (eC (.int 5)))) (cOr (cNot (cB (eA m_is_name (aCons (e2 qIx (eV 0) (eC (.int 0))) aNil)))) (cB (e2 qInL (eC .non) (eV 1))))) (jRet (eC .non)) jNil)
    (jSeq (jAsg (eNewK 0 m_Job___init__ kfJob_2_start_cost (aCons (e2 qIx (eV 1) (eC (.int 0))) (aCons (e2 qIx (eV 1) (eC (.int 1))) aNil)) (aCons (e2 qIx (eV 1) (eC (.int 2))) (aCons (e2 qIx (eV 1) (eC (.int 3))) aNil))) (.nm 2)) (jRet (eA qTup (aCons (e2 qIx (eV 0) (eC (.int 0))) (aCons (eV 2) aNil))))))))
def m_read_timetable : FM := fn 8 ((jSeq (jIf (cNot (cB (e1 (qIsi 12 3) (eV 0)))) jBad jNil)
    (jSeq (jStar 1 2 (eSm qSplit (eV 0) (eC (.str [10]))))
    (jSeq (jAsg (eA qLst aNil) (.nm 3))
    (jSeq (jFor (wEnum (eV 1)) (.cons (.nm 4) (.cons (.nm 5) .nil)) (jSeq (jAsg (eA m_job_in (aCons (eSm qSplit (eV 5) (eC (.str [32]))) aNil)) (.nm 6))
    (jSeq (jIf (cB (e2 qIsN (eV 6) (eC .non))) jBad jNil)
    (jDrop (eBmL qAppend (eV 3) (aCons (eV 6) aNil))))))
    (jSeq (jIf (cOr (cB (e2 qNe (eV 2) (eC (.str [])))) (cB (e2 qEqLen (eV 3) (eA qLst aNil)))) jBad jNil)
    (jSeq (jIf (cB (e2 qLt (eA qLen (aCons (eA qDictP (aCons (eV 3) aNil)) aNil)) (eA qLen (aCons (eV 3) aNil)))) jBad jNil)
    (jSeq (jAsg (eNew 1 m_Timetable___init__ (aCons (eA qDictP (aCons (eV 3) aNil)) aNil)) (.nm 7)) (jRet (eV 7))))))))))
def m_timetable_text : FM := fn 6 ((jSeq (jDrop (eA m_check_timetable (aCons (eV 0) aNil)))
    (jSeq (jLock (e1 (qFld 1 4) (eV 0)) (jAsg (eLc (wDct 2 (e1 (qFld 1 4) (eV 0))) (.cons (.nm 2) (.cons (.nm 3) .nil)) cYes (eA qLst (aCons (eV 2) (aStarL (eLc (wSeq (eMeth 0 m_Job_all_parts (eV 3) aNil)) (.nm 5) cYes (eA qStrI (aCons (eV 5) aNil)) [5]) aNil))) [2, 3]) (.nm 1)))
    (jRet (eSm qJoin (eC (.str [])) (eLc (wSeq (eV 1)) (.nm 4) cYes (e2 qAdd (eSm qJoin (eC (.str [32])) (eV 4)) (eC (.str [10]))) [4]))))))
def mx_Timetable___init__ : FM := fn 5 ((jSeq (jIf (tNox (cOr (cNot (cB (e1 (qIsi 12 6) (eV 1)))) (cNot (cB (eChain qLe qLe (eC (.int 1)) (eA qLen (aCons (eV 1) aNil)) (eC (.int 4))))))) (jRaiseP 1 (eNox (eC .non))) jNil)
    (jSeq (jLockX (eV 1) (jFor (wDct 2 (eV 1)) (.cons (.nm 2) (.cons (.nm 3) .nil)) (jIf (tNox (cOr (cNot (cB (eA m_is_name (aCons (eV 2) aNil)))) (cNot (cB (e1 (qIsi 12 10) (eV 3)))))) (jRaiseP 1 (eNox (eV 2))) jNil)))
    (jSeq (jNox (jAsg (eC (.int 1)) (.nm 4)))
    (jSeq (jNox (jLock (eV 1) (jFor (wDct 1 (eV 1)) (.nm 3) (jAsg (e2 qMul (eV 4) (e1 (qFld 0 0) (eV 3))) (.nm 4)))))
    (jSeq (jIf (tNox (cB (e2 qGt (eV 4) (eC (.int 2000))))) (jRaiseP 1 (eNox (eC .non))) jNil)
    (jNox (jFld 1 4 (eV 0) (eLock (eV 1) (eDc (wDct 2 (eV 1)) (.cons (.nm 2) (.cons (.nm 3) .nil)) cYes (eV 2) (eV 3) [2, 3]))))))))))
def mx_Job___init__ : FM := fn 5 ((jSeq (jIf (tNox (cNot (cB (eA m_is_integer (aCons (eV 1) (aCons (eC (.int 1)) (aCons (eC (.int 12)) aNil))))))) (jRaise 0) jNil)
    (jSeq (jIf (tNox (cNot (cB (eA m_is_integer (aCons (eV 2) (aCons (eC (.int 1)) (aCons (eV 1) aNil))))))) (jRaise 0) jNil)
    (jSeq (jIf (tNox (cNot (cB (eA m_is_integer (aCons (eV 3) (aCons (eC (.int 0)) (aCons (e2 qSub (eV 1) (eC (.int 1))) aNil))))))) (jRaise 0) jNil)
    (jSeq (jIf (tNox (cNot (cB (eA m_is_integer (aCons (eV 4) (aCons (eC (.int 1)) (aCons (eC (.int 9)) aNil))))))) (jRaise 0) jNil)
    (jSeq (jNox (jFld 0 0 (eV 0) (eV 1)))
    (jSeq (jNox (jFld 0 1 (eV 0) (eV 2)))
    (jSeq (jNox (jFld 0 2 (eV 0) (eV 3)))
    (jNox (jFld 0 3 (eV 0) (eV 4)))))))))))
def m_job_in_t : FM := fn 4 ((jSeq (jAsg (eLc (wSeq (eSl (eV 0) (some (eC (.int 1))) none)) (.nm 3) cYes (eA m_number_in (aCons (eV 3) aNil)) [3]) (.nm 1))
    (jSeq (jIf (cOr (cB (e2 qNe (eA qLen (aCons (eV 0) aNil)) (eC (.int 5)))) (cOr (cNot (cB (eA m_is_name (aCons (e2 qIx (eV 0) (eC (.int 0))) aNil)))) (cB (e2 qInL (eC .non) (eV 1))))) (jRet (eC .non)) jNil)
    (jTryC 0 (jAsg (eNewK 0 mx_Job___init__ kfJob_2_start_cost (aCons (eNox (e2 qIx (eV 1) (eC (.int 0)))) (aCons (eNox (e2 qIx (eV 1) (eC (.int 1)))) aNil)) (aCons (eNox (e2 qIx (eV 1) (eC (.int 2)))) (aCons (eNox (e2 qIx (eV 1) (eC (.int 3)))) aNil))) (.nm 2)) (jRet (eC .non)) (jRet (eA qTup (aCons (e2 qIx (eV 0) (eC (.int 0))) (aCons (eV 2) aNil))))))))
def mx_read_timetable : FM := fn 8 ((jSeq (jIf (tNox (cNot (cB (e1 (qIsi 12 3) (eV 0))))) (jRaiseI 7 (eNox (eC (.int 0)))) jNil)
    (jSeq (jNox (jStar 1 2 (eSm qSplit (eV 0) (eC (.str [10])))))
    (jSeq (jNox (jAsg (eA qLst aNil) (.nm 3)))
    (jSeq (jFor (wEnum (eV 1)) (.cons (.nm 4) (.cons (.nm 5) .nil)) (jSeq (jNox (jAsg (eA m_job_in_t (aCons (eSm qSplit (eV 5) (eC (.str [32]))) aNil)) (.nm 6)))
    (jSeq (jIf (tNox (cB (e2 qIsN (eV 6) (eC .non)))) (jRaiseI 7 (eNox (eV 4))) jNil)
    (jNox (jDrop (eBmL qAppend (eV 3) (aCons (eV 6) aNil)))))))
    (jSeq (jIf (tNox (cOr (cB (e2 qNe (eV 2) (eC (.str [])))) (cB (e2 qEqE (eV 3) (eA qLst aNil))))) (jRaiseI 7 (eNox (eA qLen (aCons (eV 1) aNil)))) jNil)
    (jSeq (jIf (tNox (cB (e2 qLt (eA qLen (aCons (eA qDictP (aCons (eV 3) aNil)) aNil)) (eA qLen (aCons (eV 3) aNil))))) (jRaiseI 7 (eNox (eC (.int 0)))) jNil)
    (jTryC 1 (jAsg (eNew 1 mx_Timetable___init__ (aCons (eNox (eA qDictP (aCons (eV 3) aNil))) aNil)) (.nm 7)) (jRaiseI 7 (eNox (eC (.int 0)))) (jNox (jRet (eV 7)))))))))))
end KA
set_option autoImplicit false
set_option maxHeartbeats 200000
set_option maxRecDepth 512
set_option Elab.async false
set_option autoImplicit false
set_option linter.all false
set_option maxRecDepth 100000
set_option maxHeartbeats 400000
/-! KSound: the mini semantics is what the model does: readings tM, one rule a construct. -/
namespace KA
open PySem PySem.Spec PyProof.Rows L2
/-! ### what stands where -/
structure GC where
  K : PySem.W.Frag
  cl : Nat → Addr
  fl : Nat → PySem.Str
  xc : Nat → Value
  /-- tables of code objects, with the names of what they hold -/
  T : List (Addr × PySem.Str)
  /-- the field of an own exception's payload -/
  xf : Nat → PySem.Str
abbrev XW := Value → Option Addr → L2.St → Hp → Prop
/-- a list that nobody writes: known, or of the written part -/
def FrzL (K : PySem.W.Frag) (H : Hp) (a : Addr) (xs : List V) : Prop :=
  (∃ o, H a = some (.frz o (.lst xs))) ∨
    ∃ (o : Obj) (its : Array Value) (n : Nat), K.lookup a = some o ∧ o.cls = .type "list" ∧ o.dict = none ∧ o.data = .seq its n ∧ its.size ≤ sizeLine ∧ Vals xs its.toList
theorem FrzL.sq {K : PySem.W.Frag} {H : Hp} {a : Addr} {xs : List V} (h : FrzL K H a xs) : SqL K H a xs := by
  rcases h with ⟨o, h⟩ | h
  · exact .inl (.inr ⟨o, h⟩)
  · exact .inr h
mutual
def RV (G : GC) (m : List Addr) (H : Hp) : MV → V → Prop
  | .non, x => x = .non
  | .bl b, x => x = .bl b
  | .int i, x => x = .int i
  | .str s, x => x = .str ⟨s.toArray⟩
  | .ref n, x => ∃ a, m[n]? = some a ∧ x = .ref a
  | .tup ts, x => ∃ a xs, x = .ref a ∧ H a = some (.tup xs) ∧ RVs G m H ts xs
  | .flst ts, x => ∃ a xs, x = .ref a ∧ FrzL G.K H a xs ∧ RVs G m H ts xs
def RVs (G : GC) (m : List Addr) (H : Hp) : List MV → List V → Prop
  | [], xs => xs = []
  | t :: ts, xs => ∃ y ys, xs = y :: ys ∧ RV G m H t y ∧ RVs G m H ts ys
end
/-- later: addresses come beside, tuples and known objects stand -/
structure Le (G : GC) (m : List Addr) (H : Hp) (m' : List Addr) (H' : Hp) : Prop where
  pre : ∃ t, m' = m ++ t
  tup : ∀ b xs, H b = some (.tup xs) → H' b = some (.tup xs)
  frz : ∀ b o xs, H b = some (.frz o (.lst xs)) → H' b = some (.frz o (.lst xs))
/-- nothing, or a table of code objects -/
def NoT (u : Option HO) : Prop := ∀ o, u = some o → ∃ ps, o = .tbl ps
/-- .. and: what is tracked and none of ours stands (tables may grow); what came was untracked -/
structure Ex (G : GC) (m : List Addr) (H : Hp) (m' : List Addr) (H' : Hp) : Prop extends Le G m H m' H' where
  frd : ∀ b o u, H b = some (.frz o u) → H' b = some (.frz o u)
  new : ∀ b, b ∈ m' → b ∉ m → NoT (H b)
  out : ∀ b, b ∉ m → H b ≠ none → (∀ ps, H b ≠ some (.tbl ps)) → H' b = H b
section
variable {G : GC} {m m' m1 m2 : List Addr} {H H' H1 H2 : Hp}
theorem Le.refl : Le G m H m H := ⟨⟨[], by simp⟩, fun _ _ h => h, fun _ _ _ h => h⟩
theorem Le.trans (a : Le G m H m1 H1) (b : Le G m1 H1 m2 H2) : Le G m H m2 H2 := by
  obtain ⟨t, e⟩ := a.pre
  obtain ⟨t', e'⟩ := b.pre
  exact ⟨⟨t ++ t', by rw [e', e, List.append_assoc]⟩, fun c xs h => b.tup c xs (a.tup c xs h), fun c o xs h => b.frz c o xs (a.frz c o xs h)⟩
theorem Le.ix (a : Le G m H m' H') {n : Nat} {p : Addr} (h : m[n]? = some p) : m'[n]? = some p := by
  obtain ⟨t, e⟩ := a.pre
  rw [e, List.getElem?_append_left (List.getElem?_eq_some_iff.mp h).1]
  exact h
theorem Le.mem (a : Le G m H m' H') {p : Addr} (h : p ∈ m) : p ∈ m' := by
  obtain ⟨t, e⟩ := a.pre
  rw [e]; exact List.mem_append_left _ h
theorem Le.frzl (x : Le G m H m' H') {b : Addr} {xs : List V} (h : FrzL G.K H b xs) : FrzL G.K H' b xs := by
  rcases h with ⟨o, h⟩ | h
  · exact .inl ⟨o, x.frz _ _ _ h⟩
  · exact .inr h
theorem noT_none {u : Option HO} (h : u = none) : NoT u := fun o e => by rw [h] at e; cases e
theorem Ex.refl : Ex G m H m H := ⟨.refl, fun _ _ _ h => h, fun b h n => absurd h n, fun _ _ _ _ => rfl⟩
theorem Ex.trans (a : Ex G m H m1 H1) (b : Ex G m1 H1 m2 H2) : Ex G m H m2 H2 := by
  refine ⟨a.toLe.trans b.toLe, fun c o u h => b.frd c o u (a.frd c o u h), fun c h n => ?_, fun c n h nt => ?_⟩
  · by_cases q : c ∈ m1
    · exact a.new c q n
    · intro o z
      by_cases w : ∃ ps, o = .tbl ps
      · exact w
      · have e := a.out c n (by rw [z]; exact fun q => nomatch q) fun ps e => w ⟨ps, by rw [z] at e; exact Option.some.inj e⟩
        exact b.new c h q o (e.trans z)
  · have e := a.out c n h nt
    have q : c ∉ m1 := fun q => by
      cases z : H c with
      | none => exact h z
      | some o =>
        obtain ⟨ps, rfl⟩ := a.new c q n o z
        exact nt ps z
    rw [b.out c q (by rw [e]; exact h) (by rw [e]; exact nt), e]
mutual
theorem RV.mono (x : Le G m H m' H') : ∀ {v : MV} {u : V}, RV G m H v u → RV G m' H' v u
  | .non, u, h => by simpa only [RV] using h
  | .bl _, u, h => by simpa only [RV] using h
  | .int _, u, h => by simpa only [RV] using h
  | .str _, u, h => by simpa only [RV] using h
  | .ref n, u, h => by
    simp only [RV] at h ⊢
    obtain ⟨a, e, q⟩ := h
    exact ⟨a, x.ix e, q⟩
  | .tup ts, u, h => by
    simp only [RV] at h ⊢
    obtain ⟨a, xs, e, q, r⟩ := h
    exact ⟨a, xs, e, x.tup _ _ q, RVs.mono x r⟩
  | .flst ts, u, h => by
    simp only [RV] at h ⊢
    obtain ⟨a, xs, e, q, r⟩ := h
    exact ⟨a, xs, e, x.frzl q, RVs.mono x r⟩
theorem RVs.mono (x : Le G m H m' H') : ∀ {vs : List MV} {us : List V}, RVs G m H vs us → RVs G m' H' vs us
  | [], us, h => by simpa only [RVs] using h
  | v :: vs, us, h => by
    simp only [RVs] at h ⊢
    obtain ⟨y, ys, e, r, q⟩ := h
    exact ⟨y, ys, e, RV.mono x r, RVs.mono x q⟩
end
theorem RVs.nil : RVs G m H [] [] := by simp [RVs]
theorem RVs.cons {v : MV} {vs : List MV} {u : V} {us : List V} (r : RV G m H v u) (q : RVs G m H vs us) : RVs G m H (v :: vs) (u :: us) := by
  simp only [RVs]; exact ⟨u, us, rfl, r, q⟩
theorem RVs.nil_inv {us : List V} (h : RVs G m H [] us) : us = [] := by simpa only [RVs] using h
theorem RVs.cons_inv {v : MV} {vs : List MV} {us : List V} (h : RVs G m H (v :: vs) us) : ∃ y ys, us = y :: ys ∧ RV G m H v y ∧ RVs G m H vs ys := by simpa only [RVs] using h
theorem RVs.length : ∀ {vs : List MV} {us : List V}, RVs G m H vs us → us.length = vs.length
  | [], us, h => by rw [h.nil_inv]; rfl
  | v :: vs, us, h => by
    obtain ⟨y, ys, rfl, _, q⟩ := h.cons_inv
    simp [RVs.length q]
theorem RVs.get : ∀ {vs : List MV} {us : List V} {i : Nat} {v : MV}, RVs G m H vs us → vs[i]? = some v → ∃ u, us[i]? = some u ∧ RV G m H v u
  | [], _, _, _, _, e => by simp at e
  | w :: vs, us, 0, v, h, e => by
    obtain ⟨y, ys, rfl, r, _⟩ := h.cons_inv
    have e' : w = v := Option.some.inj e
    subst e'
    exact ⟨y, rfl, r⟩
  | w :: vs, us, i + 1, v, h, e => by
    obtain ⟨y, ys, rfl, _, q⟩ := h.cons_inv
    obtain ⟨u, e', r⟩ := RVs.get (i := i) (v := v) q (by simpa using e)
    exact ⟨u, by simpa using e', r⟩
theorem RVs.append : ∀ {vs ws : List MV} {us ts : List V}, RVs G m H vs us → RVs G m H ws ts → RVs G m H (vs ++ ws) (us ++ ts)
  | [], _, us, _, h, q => by rw [h.nil_inv]; exact q
  | v :: vs, ws, us, ts, h, q => by
    obtain ⟨y, ys, rfl, r, q'⟩ := h.cons_inv
    exact .cons r (RVs.append q' q)
theorem RVs.take : ∀ (n : Nat) {vs : List MV} {us : List V}, RVs G m H vs us → RVs G m H (vs.take n) (us.take n)
  | 0, _, _, _ => by simpa using RVs.nil
  | n + 1, [], us, h => by rw [h.nil_inv]; simpa using RVs.nil
  | n + 1, v :: vs, us, h => by
    obtain ⟨y, ys, rfl, r, q'⟩ := h.cons_inv
    exact .cons r (RVs.take n q')
theorem RVs.drop : ∀ (n : Nat) {vs : List MV} {us : List V}, RVs G m H vs us → RVs G m H (vs.drop n) (us.drop n)
  | 0, _, _, h => by simpa using h
  | n + 1, [], us, h => by rw [h.nil_inv]; simpa using RVs.nil
  | n + 1, v :: vs, us, h => by
    obtain ⟨y, ys, rfl, r, q'⟩ := h.cons_inv
    simpa using RVs.drop n q'
theorem RVs.set : ∀ {vs : List MV} {us : List V} (i : Nat) {v : MV} {u : V}, RVs G m H vs us → RV G m H v u → RVs G m H (vs.set i v) (us.set i u)
  | [], us, _, _, _, h, _ => by rw [h.nil_inv]; simpa using RVs.nil
  | w :: vs, us, 0, v, u, h, r => by
    obtain ⟨y, ys, rfl, _, q'⟩ := h.cons_inv
    exact .cons r q'
  | w :: vs, us, i + 1, v, u, h, r => by
    obtain ⟨y, ys, rfl, r', q'⟩ := h.cons_inv
    exact .cons r' (RVs.set i q' r)
theorem RVs.reverse : ∀ {vs : List MV} {us : List V}, RVs G m H vs us → RVs G m H vs.reverse us.reverse
  | [], us, h => by rw [h.nil_inv]; simpa using RVs.nil
  | v :: vs, us, h => by
    obtain ⟨y, ys, rfl, r, q'⟩ := h.cons_inv
    rw [List.reverse_cons, List.reverse_cons]
    exact (RVs.reverse q').append (.cons r .nil)
/-! ### slots -/
structure RS (G : GC) (m : List Addr) (H : Hp) (σm : Sl) (σ : L2.St) : Prop where
  len : σm.length = σ.length
  at_ : ∀ (i : Nat) (v : MV), σm[i]? = some (some v) → ∃ x, σ[i]? = some (some x) ∧ RV G m H v x
theorem RS.mono {σm : Sl} {σ : L2.St} (r : RS G m H σm σ) (x : Le G m H m' H') : RS G m' H' σm σ :=
  ⟨r.len, fun i v e => let ⟨u, q, s⟩ := r.at_ i v e; ⟨u, q, s.mono x⟩⟩
theorem RS.set {σm : Sl} {σ : L2.St} (r : RS G m H σm σ) (i : Nat) {v : MV} {x : V} (q : RV G m H v x) : RS G m H (σm.set i (some v)) (σ.set i (some x)) := by
  refine ⟨by simp [r.len], fun j w e => ?_⟩
  by_cases c : i = j
  · subst c
    by_cases d : i < σm.length
    · rw [List.getElem?_set_self d] at e
      have e' : v = w := by simpa using e
      subst e'
      exact ⟨x, List.getElem?_set_self (by rw [← r.len]; exact d), q⟩
    · rw [List.getElem?_eq_none_iff.mpr (by simpa using d)] at e
      cases e
  · rw [List.getElem?_set_ne c] at e
    rw [List.getElem?_set_ne c]
    exact r.at_ j w e
theorem RS.wipe {σm : Sl} {σ : L2.St} (r : RS G m H σm σ) (i : Nat) : RS G m H (σm.set i none) (σ.set i none) := by
  refine ⟨by simp [r.len], fun j w e => ?_⟩
  by_cases c : i = j
  · subst c
    by_cases d : i < σm.length
    · rw [List.getElem?_set_self d] at e
      cases e
    · rw [List.getElem?_eq_none_iff.mpr (by simpa using d)] at e
      cases e
  · rw [List.getElem?_set_ne c] at e
    rw [List.getElem?_set_ne c]
    exact r.at_ j w e
theorem RS.start {vs : List MV} {us : List V} (r : RVs G m H vs us) (N : List PySem.Str) (n : Nat) (hn : N.length = n) : RS G m H (vs.map some ++ List.replicate (n - vs.length) none) (L2.start N us) := by
  unfold L2.start
  refine ⟨by simp [r.length, hn], fun i v e => ?_⟩
  by_cases c : i < vs.length
  · rw [List.getElem?_append_left (by simpa using c), List.getElem?_map] at e
    obtain ⟨w, e1, e2⟩ := Option.map_eq_some_iff.mp e
    have e3 : w = v := by simpa using e2
    subst e3
    obtain ⟨u, q, s⟩ := r.get e1
    refine ⟨u, ?_, s⟩
    rw [List.getElem?_append_left (by simpa [r.length] using c), List.getElem?_map, q]
    rfl
  · rw [List.getElem?_append_right (by simpa using c)] at e
    rw [List.getElem?_replicate] at e
    split at e <;> simp at e
/-! ### the heap -/
def KR : MV → Key → Prop
  | .int i, k => k = .inl i
  | .str s, k => k = .inr ⟨s.toArray⟩
  | _, _ => False
def KRT : MV → List Key → Prop
  | .tup ts, ks => Paired KR ts ks
  | _, _ => False
def DctR (G : GC) (m : List Addr) (H : Hp) (tk : Bool) (kvs : List (MV × MV)) (w : HO) : Prop := match tk with
  | false => ∃ ps : List (Key × V), w = .dK ps ∧ Paired (fun p q => KR p.1 q.1 ∧ RV G m H p.2 q.2) kvs ps
  | true => ∃ ps : List (List Key × V), w = .dT ps ∧ Paired (fun p q => KRT p.1 q.1 ∧ RV G m H p.2 q.2) kvs ps
/-- a dict, locked or not -/
def LkR (lk : Bool) (u : Option HO) (w : HO) : Prop := match lk with
  | false => u = some w
  | true => ∃ ob, u = some (.frz ob w)
def ObjR (G : GC) (m : List Addr) (H : Hp) : MO → Option HO → Prop
  | .lst xs, u => ∃ ys, u = some (.lst ys) ∧ RVs G m H xs ys
  | .dct tk lk kvs, u => ∃ w, DctR G m H tk kvs w ∧ LkR lk u w
  | .ins c fs, u => ∃ dx gs, u = some (.ins (G.cl c) dx gs) ∧ Paired (fun (p : Nat × MV) (q : PySem.Str × V) => q.1 = G.fl p.1 ∧ RV G m H p.2 q.2) fs gs
theorem DctR.mono {tk : Bool} {kvs : List (MV × MV)} {w : HO} (r : DctR G m H tk kvs w) (x : Le G m H m' H') : DctR G m' H' tk kvs w := by
  cases tk with
  | false =>
    obtain ⟨ps, e, q⟩ := r
    exact ⟨ps, e, Paired.mapP q fun _ _ z => ⟨z.1, z.2.mono x⟩⟩
  | true =>
    obtain ⟨ps, e, q⟩ := r
    exact ⟨ps, e, Paired.mapP q fun _ _ z => ⟨z.1, z.2.mono x⟩⟩
theorem ObjR.mono {o : MO} {u : Option HO} (r : ObjR G m H o u) (x : Le G m H m' H') : ObjR G m' H' o u := by
  cases o with
  | lst xs => obtain ⟨ys, e, q⟩ := r; exact ⟨ys, e, q.mono x⟩
  | dct tk lk kvs => obtain ⟨w, q, e⟩ := r; exact ⟨w, q.mono x, e⟩
  | ins c fs => obtain ⟨dx, gs, e, q⟩ := r; exact ⟨dx, gs, e, Paired.mapP q fun _ _ z => ⟨z.1, z.2.mono x⟩⟩
theorem objR_nt {u : MO} {w : HO} (r : ObjR G m H u (some w)) (ps : Array Value) : w ≠ .tbl ps := by
  intro z
  subst z
  cases u with
  | lst xs => obtain ⟨ys, e, _⟩ := r; cases e
  | dct tk lk kvs =>
    obtain ⟨w, q, e⟩ := r
    cases lk with
    | true => obtain ⟨o, e⟩ := e; cases e
    | false =>
      cases e
      cases tk with
      | false => obtain ⟨ps, e, _⟩ := q; cases e
      | true => obtain ⟨ps, e, _⟩ := q; cases e
  | ins c fs => obtain ⟨dx, gs, e, _⟩ := r; cases e
/-- neither a table nor told by its heap -/
def NTE (u : Option HO) : Prop := (∀ ps, u ≠ some (.tbl ps)) ∧ ∀ φ, u ≠ some (.ext φ)
theorem objR_nte {u : MO} {w : HO} (r : ObjR G m H u (some w)) : NTE (some w) := by
  refine ⟨fun ps q => objR_nt r ps (Option.some.inj q), fun φ q => ?_⟩
  have q := Option.some.inj q
  subst q
  cases u with
  | lst xs => obtain ⟨ys, e, _⟩ := r; cases e
  | dct tk lk kvs =>
    obtain ⟨w, q, e⟩ := r
    cases lk with
    | true => obtain ⟨o, e⟩ := e; cases e
    | false =>
      cases e
      cases tk with
      | false => obtain ⟨ps, e, _⟩ := q; cases e
      | true => obtain ⟨ps, e, _⟩ := q; cases e
  | ins c fs => obtain ⟨dx, gs, e, _⟩ := r; cases e
structure Sim (G : GC) (m : List Addr) (h : MH) (H : Hp) : Prop where
  len : m.length = h.n
  nd : m.Nodup
  at_ : ∀ i o, h.get i = some o → ∃ a, m[i]? = some a ∧ ObjR G m H o (H a)
  trk : ∀ a ∈ m, H a ≠ none
  tb : LamX.Tabs G.T H
  trt : ∀ a ∈ m, NTE (H a)
/-- neither a tuple nor a known object (nor a table, nor one told by its heap); neither a tuple nor a known list .. -/
def Plain : Option HO → Prop
  | some (.tup _) => False
  | some (.frz _ _) => False
  | some (.tbl _) => False
  | some (.ext _) => False
  | _ => True
def PlainL : Option HO → Prop
  | some (.tup _) => False
  | some (.frz _ (.lst _)) => False
  | some (.tbl _) => False
  | some (.ext _) => False
  | _ => True
/-- tables stand where something plain is written -/
theorem tabs_upd {T : List (Addr × PySem.Str)} {H : Hp} {p : Addr} {o : HO} (t : LamX.Tabs T H) (hp : PlainL (H p)) : LamX.Tabs T (L2.upd H p o) := fun q hq => by
  obtain ⟨ps, h1, h2, h3⟩ := t q hq
  have n1 : q.1 ≠ p := fun z => by rw [← z, h1] at hp; exact hp
  refine ⟨ps, by rw [upd_ne n1]; exact h1, h2, fun pos cv hc => ?_⟩
  obtain ⟨c, e1, e2⟩ := h3 pos cv hc
  have n2 : c ≠ p := fun z => by rw [← z, e2] at hp; exact hp
  exact ⟨c, e1, by rw [upd_ne n2]; exact e2⟩
theorem Plain.l {u : Option HO} (h : Plain u) : PlainL u := by
  cases u with
  | none => trivial
  | some o => cases o <;> first | trivial | exact h.elim
/-- the abstract heap changes at p alone, where no tuple stands -/
theorem Le.upd (p : Addr) (o : HO) (hp : PlainL (H p)) : Le G m H m (L2.upd H p o) := by
  refine ⟨⟨[], by simp⟩, fun b xs q => ?_, fun b ob u q => ?_⟩
  · have ne : b ≠ p := by
      rintro rfl
      rw [q] at hp; exact hp
    rw [upd_ne ne]; exact q
  · have ne : b ≠ p := by
      rintro rfl
      rw [q] at hp; exact hp
    rw [upd_ne ne]; exact q
theorem Ex.upd (p : Addr) (o : HO) (hp : Plain (H p)) (hm : p ∈ m ∨ H p = none) : Ex G m H m (L2.upd H p o) := by
  refine ⟨.upd p o hp.l, fun b ob u q => ?_, fun b h n => absurd h n, fun b n h _ => ?_⟩
  · have ne : b ≠ p := by
      rintro rfl
      rw [q] at hp; exact hp
    rw [upd_ne ne]; exact q
  · have ne : b ≠ p := by
      rintro rfl
      rcases hm with hm | hm
      · exact n hm
      · exact h hm
    rw [upd_ne ne]
theorem Ex.app (x : Ex G m H m' H') {p : Addr} (hp : H p = none) : Ex G m H (m' ++ [p]) H' := by
  obtain ⟨u, e⟩ := x.pre
  refine ⟨⟨⟨u ++ [p], by rw [e, List.append_assoc]⟩, x.tup, x.frz⟩, x.frd, fun b h n => ?_, x.out⟩
  rcases List.mem_append.mp h with h | h
  · exact x.new b h n
  · have : b = p := by simpa using h
    rw [this]; exact noT_none hp
theorem plain_none {H : Hp} {p : Addr} (h : H p = none) : Plain (H p) := by rw [h]; trivial
/-- an object that is none of ours is laid -/
theorem Sim.fresh {h : MH} (S : Sim G m h H) {p : Addr} (hp : H p = none) (o : HO) : Sim G m h (upd H p o) := by
  refine ⟨S.len, S.nd, fun i u e => ?_, fun a ha => ?_, tabs_upd S.tb (plain_none hp).l, fun a ha => ?_⟩
  · obtain ⟨a, ea, r⟩ := S.at_ i u e
    have ne : a ≠ p := fun q => S.trk a (List.mem_of_getElem? ea) (by rw [q]; exact hp)
    exact ⟨a, ea, by rw [upd_ne ne]; exact r.mono (Le.upd p o (plain_none hp).l)⟩
  · have ne : a ≠ p := fun q => S.trk a ha (by rw [q]; exact hp)
    rw [upd_ne ne]; exact S.trk a ha
  · have ne : a ≠ p := fun q => S.trk a ha (by rw [q]; exact hp)
    rw [upd_ne ne]; exact S.trt a ha
/-- a new object of ours -/
theorem Sim.push {h : MH} (S : Sim G m h H) {p : Addr} (hp : H p = none) {u : MO} {o : HO} (r : ObjR G (m ++ [p]) (upd H p o) u (some o)) : Sim G (m ++ [p]) (h.push u) (upd H p o) := by
  have x : Ex G m H (m ++ [p]) (upd H p o) := (Ex.upd p o (plain_none hp) (.inr hp)).app hp
  have np : ∀ a, a ∈ m → a ≠ p := fun a ha q => S.trk a ha (by rw [q]; exact hp)
  refine ⟨by simp [S.len], ?_, fun i v e => ?_, fun a ha => ?_, tabs_upd S.tb (plain_none hp).l, fun a ha => ?_⟩
  · rw [List.nodup_append]
    exact ⟨S.nd, by simp, fun a ha b hb => by have := np a ha; simp at hb; rw [hb]; exact this⟩
  · rw [MH.get_push] at e
    split at e
    · rename_i c
      have e' : u = v := Option.some.inj e
      subst e'
      refine ⟨p, ?_, by rw [upd_same]; exact r⟩
      rw [c, ← S.len]
      simp
    · obtain ⟨a, ea, q⟩ := S.at_ i v e
      refine ⟨a, x.ix ea, ?_⟩
      rw [upd_ne (np a (List.mem_of_getElem? ea))]
      exact q.mono x.toLe
  · by_cases c : a = p
    · rw [c, upd_same]; exact fun q => nomatch q
    · rw [upd_ne c]
      rcases List.mem_append.mp ha with z | z
      · exact S.trk a z
      · exact absurd (by simpa using z) c
  · by_cases c : a = p
    · rw [c, upd_same]; exact objR_nte r
    · rw [upd_ne c]
      rcases List.mem_append.mp ha with z | z
      · exact S.trt a z
      · exact absurd (by simpa using z) c
/-- an object that stands already becomes one of ours -/
theorem Sim.adopt {h : MH} (S : Sim G m h H) {p : Addr} (np : p ∉ m) {u : MO} (r : ObjR G (m ++ [p]) H u (H p)) (hn : H p ≠ none) : Sim G (m ++ [p]) (h.push u) H := by
  have x : Le G m H (m ++ [p]) H := ⟨⟨[p], rfl⟩, fun _ _ h => h, fun _ _ _ h => h⟩
  refine ⟨by simp [S.len], ?_, fun i v e => ?_, fun a ha => ?_, S.tb, fun a ha => ?_⟩
  · rw [List.nodup_append]
    exact ⟨S.nd, by simp, fun a ha b hb => by simp at hb; rw [hb]; exact fun q => np (q ▸ ha)⟩
  · rw [MH.get_push] at e
    split at e
    · rename_i c
      have e' : u = v := Option.some.inj e
      subst e'
      refine ⟨p, ?_, r⟩
      rw [c, ← S.len]
      simp
    · obtain ⟨a, ea, q⟩ := S.at_ i v e
      exact ⟨a, x.ix ea, q.mono x⟩
  · rcases List.mem_append.mp ha with z | z
    · exact S.trk a z
    · have : a = p := by simpa using z
      rw [this]; exact hn
  · rcases List.mem_append.mp ha with z | z
    · exact S.trt a z
    · have : a = p := by simpa using z
      rw [this]
      cases q : H p with
      | none => exact absurd q hn
      | some w => rw [q] at r; exact objR_nte r
theorem nodup_get {l : List Addr} (h : l.Nodup) {i j : Nat} {a : Addr} (e1 : l[i]? = some a) (e2 : l[j]? = some a) : i = j := by
  obtain ⟨h1, q1⟩ := List.getElem?_eq_some_iff.mp e1
  obtain ⟨h2, q2⟩ := List.getElem?_eq_some_iff.mp e2
  exact (List.getElem_inj h).mp (q1.trans q2.symm)
/-- an object of ours is changed -/
theorem Sim.write {h : MH} (S : Sim G m h H) {i : Nat} {p : Addr} (hi : m[i]? = some p) (hp : PlainL (H p)) {u : MO} {o : HO} (r : ObjR G m (upd H p o) u (some o)) : Sim G m (h.set i u) (upd H p o) := by
  have x : Le G m H m (upd H p o) := .upd p o hp
  refine ⟨S.len, S.nd, fun j v e => ?_, fun a ha => ?_, tabs_upd S.tb hp, fun a ha => ?_⟩
  · rw [MH.get_set] at e
    split at e
    · rename_i c
      subst c
      split at e
      · have e' : u = v := Option.some.inj e
        subst e'
        exact ⟨p, hi, by rw [upd_same]; exact r⟩
      · cases e
    · rename_i c
      obtain ⟨a, ea, q⟩ := S.at_ j v e
      have ne : a ≠ p := fun z => c (nodup_get S.nd (z ▸ ea) hi)
      exact ⟨a, ea, by rw [upd_ne ne]; exact q.mono x⟩
  · by_cases c : a = p
    · rw [c, upd_same]; exact fun q => nomatch q
    · rw [upd_ne c]; exact S.trk a ha
  · by_cases c : a = p
    · rw [c, upd_same]; exact objR_nte r
    · rw [upd_ne c]; exact S.trt a ha
end
/-! ### readings -/
/-- what a result leads to -/
def RP {α β : Type} (G : GC) (W : XW) (Rel : List Addr → Hp → α → β → Prop) (m : List Addr) (H : Hp) (σ : L2.St) (r : Res α) (Q : β → Hp → Prop) : Prop := match r with
  | .ok v h' => ∀ m' H' x, Ex G m H m' H' → Sim G m' h' H' → Rel m' H' v x → Q x H'
  | .exc c p h' => ∀ m' H' d, Ex G m H m' H' → Sim G m' h' H' → (match p with
    | none => d = none
    | some v => ∃ (a : Addr) (x : V), d = some a ∧ H' a = some (.xd [(G.xf c, x)]) ∧ RV G m' H' v x) → W (G.xc c) d σ H'
  | .bad => False
section
variable {α β γ δ : Type} {G : GC} {W : XW} {Rel : List Addr → Hp → α → β → Prop} {Rel' : List Addr → Hp → γ → δ → Prop} {m m' m1 : List Addr} {H H' H1 : Hp} {σ : L2.St} {r : Res α}
theorem RP.later {Q : β → Hp → Prop} (p : RP G W Rel m H σ r Q) (x : Ex G m H m1 H1) : RP G W Rel m1 H1 σ r Q := by
  cases r with
  | ok v h => exact fun m' H' y e s q => p m' H' y (x.trans e) s q
  | exc c v h => exact fun m' H' d e s q => p m' H' d (x.trans e) s q
  | bad => exact p
theorem RP.imp {Q Q' : β → Hp → Prop} (p : RP G W Rel m H σ r Q) (k : ∀ y H', Q y H' → Q' y H') : RP G W Rel m H σ r Q' := by
  cases r with
  | ok v h => exact fun m' H' y e s q => k y H' (p m' H' y e s q)
  | exc c v h => exact p
  | bad => exact p
theorem RP.bind {k : α → MH → Res γ} {Q : δ → Hp → Prop} (p : RP G W Rel' m H σ (r.bind k) Q) :
    RP G W Rel m H σ r (fun y H1 => ∃ m1 h1 v, Ex G m H m1 H1 ∧ Sim G m1 h1 H1 ∧ Rel m1 H1 v y ∧ RP G W Rel' m1 H1 σ (k v h1) Q) := by
  cases r with
  | ok v h => exact fun m' H' y e s q => ⟨m', h, v, e, s, q, RP.later p e⟩
  | exc c v h => exact p
  | bad => exact p
end
def tMR {α β : Type} (G : GC) (W : XW) (Rel : List Addr → Hp → α → β → Prop) (f : Sl → MH → Res α) : L2.St → Hp → (β → Hp → Prop) → Prop := fun σ H Q =>
  ∃ m h σm, Sim G m h H ∧ RS G m H σm σ ∧ RP G W Rel m H σ (f σm h) Q
abbrev tM (G : GC) (W : XW) (f : EM) : TE := tMR G W (RV G) f
abbrev tMT (G : GC) (W : XW) (f : TM) : TT := tMR G W (fun _ _ (a b : Bool) => b = a) f
abbrev tMA (G : GC) (W : XW) (f : AM) : TA := tMR G W (RVs G) f
theorem _root_.L2.PE.wk {X : Cx} {e : Expr} {t t' : TE} (h : PE X e t) (k : ∀ σ H Q, t' σ H Q → t σ H Q) : PE X e t' := ⟨fun pins s σ H Q I q => h.run pins s σ H Q I (k σ H Q q)⟩
theorem _root_.L2.PT.wk {X : Cx} {e : Expr} {t t' : TT} (h : PT X e t) (k : ∀ σ H Q, t' σ H Q → t σ H Q) : PT X e t' := ⟨fun pins s σ H Q I q => h.run pins s σ H Q I (k σ H Q q)⟩
theorem _root_.L2.PW.wk {X : Cx} {e : Expr} {t t' : TT} (h : PW X e t) (k : ∀ σ H Q, t' σ H Q → t σ H Q) : PW X e t' := ⟨fun wh pins s σ H Q I q => h.run wh pins s σ H Q I (k σ H Q q)⟩
theorem _root_.L2.PA.wk {X : Cx} {e : List Expr} {t t' : TA} (h : PA X e t) (k : ∀ σ H Q, t' σ H Q → t σ H Q) : PA X e t' := ⟨fun p pins s σ H Q I q => h.run p pins s σ H Q I (k σ H Q q)⟩
theorem _root_.L2.PS.wk {X : Cx} {e : Stmt} {t t' : TS} (h : PS X e t) (k : ∀ D σ H, t' D σ H → t D σ H) : PS X e t' := ⟨fun pins s σ H D I q => h.run pins s σ H D I (k D σ H q)⟩
theorem _root_.L2.PSs.wk {X : Cx} {e : List Stmt} {t t' : TS} (h : PSs X e t) (k : ∀ D σ H, t' D σ H → t D σ H) : PSs X e t' := ⟨fun pins s σ H D I q => h.run pins s σ H D I (k D σ H q)⟩
section
variable {α β γ δ : Type} {G : GC} {W : XW} {Rel : List Addr → Hp → α → β → Prop} {Rel' : List Addr → Hp → γ → δ → Prop} {σ : L2.St} {H : Hp}
/-- one part, then the rest -/
theorem tMR.bind {f : Sl → MH → Res α} {k : Sl → α → MH → Res γ} {Q : δ → Hp → Prop} (h : tMR G W Rel' (fun σ h => (f σ h).bind (k σ)) σ H Q) :
    tMR G W Rel f σ H (fun y H1 => ∃ m1 h1 v σm, Sim G m1 h1 H1 ∧ RS G m1 H1 σm σ ∧ Rel m1 H1 v y ∧ RP G W Rel' m1 H1 σ (k σm v h1) Q) := by
  obtain ⟨m, h, σm, S, R, p⟩ := h
  refine ⟨m, h, σm, S, R, (RP.bind (Rel := Rel) p).imp fun y H' => ?_⟩
  rintro ⟨m1, h1, v, x, S1, r1, p1⟩
  exact ⟨m1, h1, v, σm, S1, R.mono x.toLe, r1, p1⟩
theorem tMR.imp {f : Sl → MH → Res α} {Q Q' : β → Hp → Prop} (h : tMR G W Rel f σ H Q) (k : ∀ y H', Q y H' → Q' y H') : tMR G W Rel f σ H Q' := by
  obtain ⟨m, h, σm, S, R, p⟩ := h
  exact ⟨m, h, σm, S, R, p.imp k⟩
/-- a value at once -/
theorem RP.now {m : List Addr} {h : MH} {v : α} {y : β} {Q : β → Hp → Prop} (p : RP G W Rel m H σ (.ok v h) Q) (S : Sim G m h H) (r : Rel m H v y) : Q y H := p m H y .refl S r
end
/-! ### expressions -/
section
variable {X : Cx} {G : GC} {W : XW} {pos : Pos} {a b c : Expr} {fa fb fc : EM}
theorem m_var (i : Nat) {x : PySem.Str} (hN : X.N[i]? = some x := by rfl) (hv : Vis X.env.scope x := by first | exact Or.inl rfl | exact Or.inr (Or.inl rfl) | exact Or.inr (Or.inr rfl))
    (hd : (x == ("__debug__" : PySem.Str)) = false := by decide) (hcd : (x == ("__classdict__" : PySem.Str)) = false := by decide) : PE X (.Name x pos) (tM G W (eV i)) := by
  refine (pv i hN hv hd hcd).wk fun σ H Q ⟨m, h, σm, S, R, p⟩ => ?_
  unfold eV at p
  cases e : σm[i]? with
  | none => rw [e] at p; exact p.elim
  | some o =>
    cases o with
    | none => rw [e] at p; exact p.elim
    | some v =>
      rw [e] at p
      obtain ⟨x, q, r⟩ := R.at_ i v e
      exact ⟨x, q, RP.now p S r⟩
theorem m_int {i : Int} {j : Nat} : PE X (.Constant (.int i) j pos) (tM G W (eC (.int i))) :=
  pe_int.wk fun σ H Q ⟨m, h, σm, S, R, p⟩ => RP.now (y := V.int i) p S (by simp [RV])
theorem m_bl {i : Bool} {j : Nat} : PE X (.Constant (.bool i) j pos) (tM G W (eC (.bl i))) :=
  pe_bl.wk fun σ H Q ⟨m, h, σm, S, R, p⟩ => RP.now (y := V.bl i) p S (by simp [RV])
theorem m_non {j : Nat} : PE X (.Constant .none j pos) (tM G W (eC .non)) :=
  pe_non.wk fun σ H Q ⟨m, h, σm, S, R, p⟩ => RP.now (y := V.non) p S (by simp [RV])
theorem m_str {x : PySem.Str} {j : Nat} (s : List Nat) (hs : x = ⟨s.toArray⟩ := by decide +kernel) : PE X (.Constant (.str x) j pos) (tM G W (eC (.str s))) :=
  pe_str.wk fun σ H Q ⟨m, h, σm, S, R, p⟩ => RP.now (y := V.str x) p S (by simp [RV, hs])
/-- a module's constant -/
theorem m_glob {x : PySem.Str} {v : V} {u : Value} {w : MV} (hg : Gl X x) (hm : X.mg x = some u) (r : RelV v u) (hw : ∀ m H, RV G m H w v) (hd : (x == ("__debug__" : PySem.Str)) = false := by decide) : PE X (.Name x pos) (tM G W (eC w)) :=
  (pe_glob hg hm r hd).wk fun σ H Q ⟨m, h, σm, S, R, p⟩ => RP.now (y := v) p S (hw m H)
/-- what an operator's rule asks, from what the mini operator gives -/
def Op2 (G : GC) (r : R2) (g : MV → MV → MH → Res MV) : Prop :=
  ∀ (W : XW) (m : List Addr) (h : MH) (H : Hp) (σ : L2.St) (v w : MV) (x y : V) (Q : VK), Sim G m h H → RV G m H v x → RV G m H w y → RP G W (RV G) m H σ (g v w h) Q → r x y H Q
theorem tOp_of {r : R2} {g : MV → MV → MH → Res MV} (hr : Op2 G r g) {σ : L2.St} {H : Hp} {Q : VK} (h : tM G W (e2 g fa fb) σ H Q) : tOp r (tM G W fa) (tM G W fb) σ H Q := by
  refine (tMR.bind (Rel := RV G) (k := fun σ v h1 => (fb σ h1).bind fun w h2 => g v w h2) h).imp fun x H1 ⟨m1, h1, v, σm, S1, R1, r1, p1⟩ => ?_
  refine ⟨m1, h1, σm, S1, R1, (RP.bind (Rel := RV G) p1).imp fun y H2 ⟨m2, h2, w, x2, S2, r2, p2⟩ => ?_⟩
  exact hr W m2 h2 H2 σ v w x y Q S2 (r1.mono x2.toLe) r2 p2
/-- two ints -/
theorem op2_int {C : Int → Int → Prop} {gi : Int → Int → V} {g : MV → MV → MH → Res MV} (k : ∀ v w h, (∃ i j u, v = .int i ∧ w = .int j ∧ g v w h = .ok u h ∧ C i j ∧ ∀ m H, RV G m H u (gi i j)) ∨ g v w h = .bad) : Op2 G (rI C gi) g := by
  intro W m h H σ v w x y Q S r1 r2 p
  rcases k v w h with ⟨i, j, u, rfl, rfl, e, c, q⟩ | e
  · rw [e] at p
    simp only [RV] at r1 r2
    exact ⟨i, j, r1, r2, c, RP.now p S (q m H)⟩
  · rw [e] at p; exact p.elim
theorem op2_int0 {gi : Int → Int → V} {g : MV → MV → MH → Res MV} (k : ∀ v w h, (∃ i j u, v = .int i ∧ w = .int j ∧ g v w h = .ok u h ∧ ∀ m H, RV G m H u (gi i j)) ∨ g v w h = .bad) : Op2 G (rI0 gi) g := by
  intro W m h H σ v w x y Q S r1 r2 p
  rcases k v w h with ⟨i, j, u, rfl, rfl, e, q⟩ | e
  · rw [e] at p
    simp only [RV] at r1 r2
    exact ⟨i, j, r1, r2, RP.now p S (q m H)⟩
  · rw [e] at p; exact p.elim
theorem o_sub : Op2 G (rI0 fun i j => .int (i - j)) qSub := op2_int0 (by intro v w h; cases v <;> cases w <;> first | exact .inr rfl | exact .inl ⟨_, _, _, rfl, rfl, rfl, fun m H => by simp [RV]⟩)
theorem o_lt : Op2 G (rI0 fun i j => .bl (decide (i < j))) qLt := op2_int0 (by intro v w h; cases v <;> cases w <;> first | exact .inr rfl | exact .inl ⟨_, _, _, rfl, rfl, rfl, fun m H => by simp [RV]⟩)
theorem o_le : Op2 G (rI0 fun i j => .bl (decide (i ≤ j))) qLe := op2_int0 (by intro v w h; cases v <;> cases w <;> first | exact .inr rfl | exact .inl ⟨_, _, _, rfl, rfl, rfl, fun m H => by simp [RV]⟩)
theorem o_gt : Op2 G (rI0 fun i j => .bl (decide (j < i))) qGt := op2_int0 (by intro v w h; cases v <;> cases w <;> first | exact .inr rfl | exact .inl ⟨_, _, _, rfl, rfl, rfl, fun m H => by simp [RV]⟩)
end
end KA
set_option autoImplicit false
set_option maxHeartbeats 200000
set_option maxRecDepth 512
set_option Elab.async false
set_option autoImplicit false
set_option linter.all false
set_option maxRecDepth 100000
set_option maxHeartbeats 400000
/-! KRules: tests, arguments, statements, loops, comprehensions, fields, calls. -/
namespace KA
open PySem PySem.Spec PyProof.Rows L2
/-- no exception -/
abbrev W0 : XW := fun _ _ _ _ => False
section
variable {X : Cx} {G : GC} {W : XW} {e : Expr} {fa fb fc : EM} {tc td : TM} {am : AM}
/-! ### tests -/
theorem cB_of {σ : L2.St} {H : Hp} {Q : Bool → Hp → Prop} (h : tMT G W (cB fa) σ H Q) : tM G W fa σ H fun x H1 => ∃ c, x = .bl c ∧ Q c H1 := by
  refine (tMR.bind (Rel := RV G) (k := fun _ v h1 => qB v h1) h).imp fun x H1 ⟨m1, h1, v, σm, S1, R1, r1, p1⟩ => ?_
  unfold qB at p1
  cases v with
  | bl k =>
    simp only [RV] at r1
    exact ⟨k, r1, RP.now (y := k) p1 S1 rfl⟩
  | _ => exact p1.elim
theorem kt_val (h : PT X e (L2.tB (tM G W fa))) : PT X e (tMT G W (cB fa)) := h.wk fun _ _ _ q => cB_of q
theorem kt_op {r : R2} {g : MV → MV → MH → Res MV} (hr : Op2 G r g) (h : PT X e (tTest (tOp r (tM G W fa) (tM G W fb)))) : PT X e (tMT G W (cB (e2 g fa fb))) :=
  h.wk fun σ H Q q => by
    have q2 := cB_of q
    exact tOp_of (Q := fun x H' => ∃ k, x = .bl k ∧ Q k H') hr q2
theorem kt_not (h : PT X e (L2.tNot (tMT G W tc))) : PT X e (tMT G W (cNot tc)) := h.wk fun σ H Q q => by
  refine (tMR.bind (Rel := fun _ _ (a b : Bool) => b = a) (k := fun _ (k : Bool) h1 => .ok (!k) h1) q).imp fun x H1 ⟨m1, h1, v, σm, S1, R1, r1, p1⟩ => ?_
  subst r1
  exact RP.now (y := !x) p1 S1 rfl
theorem kw_or (h : PW X e (L2.tOr (tMT G W tc) (tMT G W td))) : PW X e (tMT G W (cOr tc td)) := h.wk fun σ H Q q => by
  refine (tMR.bind (Rel := fun _ _ (a b : Bool) => b = a) (k := fun σ (k : Bool) h1 => match k with | true => .ok true h1 | false => td σ h1) q).imp fun x H1 ⟨m1, h1, v, σm, S1, R1, r1, p1⟩ => ?_
  subst r1
  cases x with
  | true => exact iteT (RP.now (y := true) p1 S1 rfl)
  | false => exact iteF ⟨m1, h1, σm, S1, R1, p1⟩
theorem k_and (h : PE X e (L2.tAndV (tM G W fa) (tM G W fb))) : PE X e (tM G W (eAnd fa fb)) := h.wk fun σ H Q q => by
  refine (tMR.bind (Rel := RV G) (k := fun σ v h1 => match v with | .bl true => fb σ h1 | .bl false => .ok (.bl false) h1 | _ => .bad) q).imp fun x H1 ⟨m1, h1, v, σm, S1, R1, r1, p1⟩ => ?_
  cases v with
  | bl k =>
    simp only [RV] at r1
    refine ⟨k, r1, ?_⟩
    cases k with
    | true => exact iteT ⟨m1, h1, σm, S1, R1, p1⟩
    | false => exact iteF (RP.now (y := V.bl false) p1 S1 (by simp [RV]))
  | _ => exact p1.elim
theorem k_or (h : PE X e (L2.tOrV (tM G W fa) (tM G W fb))) : PE X e (tM G W (eOr fa fb)) := h.wk fun σ H Q q => by
  refine (tMR.bind (Rel := RV G) (k := fun σ v h1 => match v with | .bl true => .ok (.bl true) h1 | .bl false => fb σ h1 | _ => .bad) q).imp fun x H1 ⟨m1, h1, v, σm, S1, R1, r1, p1⟩ => ?_
  cases v with
  | bl k =>
    simp only [RV] at r1
    refine ⟨k, r1, ?_⟩
    cases k with
    | true => exact iteT (RP.now (y := V.bl true) p1 S1 (by simp [RV]))
    | false => exact iteF ⟨m1, h1, σm, S1, R1, p1⟩
  | _ => exact p1.elim
theorem k_not (h : PE X e (L2.tNotV (tM G W fa))) : PE X e (tM G W (eNot fa)) := h.wk fun σ H Q q => by
  refine (tMR.bind (Rel := RV G) (k := fun _ v h1 => match v with | MV.bl k => Res.ok (MV.bl (!k)) h1 | _ => .bad) q).imp fun x H1 ⟨m1, h1, v, σm, S1, R1, r1, p1⟩ => ?_
  cases v with
  | bl k =>
    simp only [RV] at r1
    exact ⟨k, r1, RP.now (y := V.bl (!k)) p1 S1 (by simp [RV])⟩
  | _ => exact p1.elim
theorem k_if (h : PE X e (L2.tIf (tMT G W tc) (tM G W fa) (tM G W fb))) : PE X e (tM G W (eIf tc fa fb)) := h.wk fun σ H Q q => by
  refine (tMR.bind (Rel := fun _ _ (a b : Bool) => b = a) (k := fun σ (k : Bool) h1 => match k with | true => fa σ h1 | false => fb σ h1) q).imp fun x H1 ⟨m1, h1, v, σm, S1, R1, r1, p1⟩ => ?_
  subst r1
  cases x with
  | true => exact iteT ⟨m1, h1, σm, S1, R1, p1⟩
  | false => exact iteF ⟨m1, h1, σm, S1, R1, p1⟩
theorem chain_of {r r' : R2} {g g' : MV → MV → MH → Res MV} (hr : Op2 G r g) (hr' : Op2 G r' g') {σ : L2.St} {H : Hp} {Q : VK} (q : tM G W (eChain g g' fa fb fc) σ H Q) : tChain r r' (tM G W fa) (tM G W fb) (tM G W fc) σ H Q := by
  refine (tMR.bind (Rel := RV G) (k := fun σ x h1 => (fb σ h1).bind fun y h2 => (g x y h2).bind fun z h3 => match z with | .bl true => (fc σ h3).bind fun w h4 => g' y w h4 | .bl false => .ok (.bl false) h3 | _ => .bad) q).imp fun x H1 ⟨m1, h1, v, σm, S1, R1, r1, p1⟩ => ?_
  refine ⟨m1, h1, σm, S1, R1, (RP.bind (Rel := RV G) p1).imp fun y H2 ⟨m2, h2, w, x2, S2, r2, p2⟩ => ?_⟩
  have R2' := R1.mono x2.toLe
  refine hr W m2 h2 H2 σ v w x y _ S2 (r1.mono x2.toLe) r2 ((RP.bind (Rel := RV G) p2).imp fun z H3 ⟨m3, h3, u, x3, S3, r3, p3⟩ => ?_)
  have R3 := R2'.mono x3.toLe
  cases u with
  | bl k =>
    simp only [RV] at r3
    refine ⟨k, r3, ?_⟩
    cases k with
    | true =>
      refine iteT ⟨m3, h3, σm, S3, R3, (RP.bind (Rel := RV G) p3).imp fun t H4 ⟨m4, h4, u4, x4, S4, r4, p4⟩ => ?_⟩
      exact hr' W m4 h4 H4 σ w u4 y t Q S4 ((r2.mono x3.toLe).mono x4.toLe) r4 p4
    | false => exact iteF (RP.now (y := V.bl false) p3 S3 (by simp [RV]))
  | _ => exact p3.elim
theorem k_chain {r r' : R2} {g g' : MV → MV → MH → Res MV} (hr : Op2 G r g) (hr' : Op2 G r' g') (h : PE X e (tChain r r' (tM G W fa) (tM G W fb) (tM G W fc))) : PE X e (tM G W (eChain g g' fa fb fc)) :=
  h.wk fun _ _ _ q => chain_of hr hr' q
theorem kt_chain {r r' : R2} {g g' : MV → MV → MH → Res MV} (hr : Op2 G r g) (hr' : Op2 G r' g') (h : PT X e (tTest (tChain r r' (tM G W fa) (tM G W fb) (tM G W fc)))) : PT X e (tMT G W (cB (eChain g g' fa fb fc))) :=
  h.wk fun σ H Q q => chain_of (Q := fun x H' => ∃ k, x = .bl k ∧ Q k H') hr hr' (cB_of q)
/-! ### arguments, displays -/
theorem ka_nil : PA X [] (tMA G W aNil) := pa_nil.wk fun σ H Q ⟨m, h, σm, S, R, p⟩ => RP.now p S .nil
theorem ka_cons {es : List Expr} (h : PA X es (L2.tCons (tM G W fa) (tMA G W am))) : PA X es (tMA G W (aCons fa am)) := h.wk fun σ H Q q => by
  refine (tMR.bind (Rel := RV G) (k := fun σ v h1 => (am σ h1).bind fun vs h2 => .ok (v :: vs) h2) q).imp fun x H1 ⟨m1, h1, v, σm, S1, R1, r1, p1⟩ => ?_
  refine ⟨m1, h1, σm, S1, R1, (RP.bind (Rel := RVs G) p1).imp fun ys H2 ⟨m2, h2, w, x2, S2, r2, p2⟩ => ?_⟩
  exact RP.now p2 S2 (.cons (r1.mono x2.toLe) r2)
/-- a built thing over its arguments -/
theorem eA_of {g : FM} {σ : L2.St} {H : Hp} {Q : VK} (q : tM G W (eA g am) σ H Q) : tMA G W am σ H fun xs H1 => ∃ m h vs, Sim G m h H1 ∧ RVs G m H1 vs xs ∧ RP G W (RV G) m H1 σ (g vs h) Q :=
  (tMR.bind (Rel := RVs G) (k := fun _ vs h1 => g vs h1) q).imp fun _ _ ⟨m1, h1, v, _, S1, _, r1, p1⟩ => ⟨m1, h1, v, S1, r1, p1⟩
theorem k_tup (h : PE X e (L2.tTup (tMA G W am))) : PE X e (tM G W (eA qTup am)) := h.wk fun σ H Q q => (eA_of q).imp fun xs H1 ⟨m, h, vs, S, r, p⟩ => by
  rcases lim_cases vs.length (Res.ok (MV.tup vs) h) with ⟨z, e1⟩ | e1
  · unfold qTup at p
    rw [e1] at p
    refine ⟨by rw [r.length]; rw [sizeLine_eq]; exact z, fun a ha => ?_⟩
    have x : Ex G m H1 m (upd H1 a (.tup xs)) := .upd a _ (plain_none ha) (.inr ha)
    exact p m _ (.ref a) x (S.fresh ha _) (by simp only [RV]; exact ⟨a, xs, rfl, upd_same, r.mono x.toLe⟩)
  · unfold qTup at p
    rw [e1] at p
    exact p.elim
/-- a new list -/
theorem RP.newLst {m : List Addr} {h : MH} {H : Hp} {σ : L2.St} {vs : List MV} {xs : List V} {Q : VK} (p : RP G W (RV G) m H σ (.ok (.ref h.n) (h.push (.lst vs))) Q) (S : Sim G m h H) (r : RVs G m H vs xs) {a : Addr} (ha : H a = none) : Q (.ref a) (upd H a (.lst xs)) := by
  have x : Ex G m H (m ++ [a]) (upd H a (.lst xs)) := (Ex.upd a _ (plain_none ha) (.inr ha)).app ha
  refine p _ _ (.ref a) x (S.push ha ⟨xs, rfl, r.mono x.toLe⟩) ?_
  simp only [RV]
  exact ⟨a, by rw [← S.len]; simp, rfl⟩
theorem k_lst (h : PE X e (L2.tLst (tMA G W am))) : PE X e (tM G W (eA qLst am)) := h.wk fun σ H Q q => (eA_of q).imp fun xs H1 ⟨m, h, vs, S, r, p⟩ => by
  unfold qLst at p
  rcases lim_cases vs.length (Res.ok (MV.ref h.n) (h.push (.lst vs))) with ⟨z, e1⟩ | e1
  · rw [e1] at p
    exact ⟨by rw [r.length]; rw [sizeLine_eq]; exact z, fun a ha => p.newLst S r ha⟩
  · rw [e1] at p
    exact p.elim
/-! ### fields -/
theorem fget_of {inj : ∀ i j, G.fl i = G.fl j → i = j} {m : List Addr} {H : Hp} {f : Nat} {w : MV} : ∀ {fs : List (Nat × MV)} {gs : List (PySem.Str × V)}, Paired (fun (p : Nat × MV) (q : PySem.Str × V) => q.1 = G.fl p.1 ∧ RV G m H p.2 q.2) fs gs → fget f fs = some w →
    ∃ u, gs.lookup (G.fl f) = some u ∧ RV G m H w u
  | [], _, .nil, h => by cases h
  | (g, v) :: fs, (n, u) :: gs, .cons r t, h => by
    obtain ⟨e, rv⟩ := r
    have e' : n = G.fl g := e
    unfold fget at h
    cases q : Nat.beq f g with
    | true =>
      rw [q] at h
      have hv : v = w := Option.some.inj h
      subst hv
      have fg : f = g := Nat.eq_of_beq_eq_true q
      refine ⟨u, ?_, rv⟩
      rw [List.lookup_cons, e', fg]
      simp
    | false =>
      rw [q] at h
      obtain ⟨u', e1, r1⟩ := fget_of (inj := inj) t h
      refine ⟨u', ?_, r1⟩
      have ne : (G.fl f == n) = false := by
        rw [e']
        apply beq_eq_false_iff_ne.mpr
        intro z
        have := inj _ _ z
        rw [this, Nat.beq_refl] at q
        cases q
      rw [List.lookup_cons, ne]
      exact e1
theorem fput_of {inj : ∀ i j, G.fl i = G.fl j → i = j} {m : List Addr} {H : Hp} {f : Nat} {w : MV} {u : V} (rw' : RV G m H w u) : ∀ {fs : List (Nat × MV)} {gs : List (PySem.Str × V)}, Paired (fun (p : Nat × MV) (q : PySem.Str × V) => q.1 = G.fl p.1 ∧ RV G m H p.2 q.2) fs gs →
    Paired (fun (p : Nat × MV) (q : PySem.Str × V) => q.1 = G.fl p.1 ∧ RV G m H p.2 q.2) (fput f w fs) (putF (G.fl f) u gs)
  | [], _, .nil => .cons ⟨rfl, rw'⟩ .nil
  | (g, v) :: fs, (n, y) :: gs, .cons r t => by
    obtain ⟨e, rv⟩ := r
    have e' : n = G.fl g := e
    subst e'
    unfold fput
    cases q : Nat.beq g f with
    | true =>
      have fg : g = f := Nat.eq_of_beq_eq_true q
      subst fg
      show Paired _ ((g, w) :: fs) (if G.fl g = G.fl g then (G.fl g, u) :: gs else _)
      rw [if_pos rfl]
      exact .cons ⟨rfl, rw'⟩ t
    | false =>
      have ne : ¬ G.fl g = G.fl f := fun z => by
        have := inj _ _ z
        rw [this, Nat.beq_refl] at q
        cases q
      show Paired _ ((g, v) :: fput f w fs) (if G.fl g = G.fl f then _ else (G.fl g, y) :: putF (G.fl f) u gs)
      rw [if_neg ne]
      exact .cons ⟨rfl, rv⟩ (fput_of (inj := inj) rw' t)
/-- what the mini heap says of an instance -/
theorem Sim.ins {m : List Addr} {h : MH} {H : Hp} (S : Sim G m h H) {n c : Nat} {fs : List (Nat × MV)} {y : V} (e : h.get n = some (.ins c fs)) (r : RV G m H (.ref n) y) :
    ∃ a dx gs, m[n]? = some a ∧ y = .ref a ∧ H a = some (.ins (G.cl c) dx gs) ∧ Paired (fun (p : Nat × MV) (q : PySem.Str × V) => q.1 = G.fl p.1 ∧ RV G m H p.2 q.2) fs gs := by
  obtain ⟨a, ea, dx, gs, eh, q⟩ := S.at_ n _ e
  simp only [RV] at r
  obtain ⟨b, eb, rfl⟩ := r
  rw [ea] at eb
  cases eb
  exact ⟨a, dx, gs, ea, rfl, eh, q⟩
theorem Sim.lst {m : List Addr} {h : MH} {H : Hp} (S : Sim G m h H) {n : Nat} {xs : List MV} {y : V} (e : h.get n = some (.lst xs)) (r : RV G m H (.ref n) y) :
    ∃ a ys, m[n]? = some a ∧ y = .ref a ∧ H a = some (.lst ys) ∧ RVs G m H xs ys := by
  obtain ⟨a, ea, ys, eh, q⟩ := S.at_ n _ e
  simp only [RV] at r
  obtain ⟨b, eb, rfl⟩ := r
  rw [ea] at eb
  cases eb
  exact ⟨a, ys, ea, rfl, eh, q⟩
theorem fld_of {inj : ∀ i j, G.fl i = G.fl j → i = j} {K : PySem.W.Frag} {c f : Nat} (hc : Cls K (G.cl c)) (hn : NoAttr K (G.cl c) (G.fl f)) {σ : L2.St} {H : Hp} {Q : VK} (q : tM G W (e1 (qFld c f) fa) σ H Q) : L2.tFld K (tM G W fa) (G.fl f) σ H Q := by
  refine (tMR.bind (Rel := RV G) (k := fun _ v h1 => qFld c f v h1) q).imp fun x H1 ⟨m1, h1, v, σm, S1, R1, r1, p1⟩ => ?_
  unfold qFld at p1
  cases v with
  | ref n =>
    dsimp only at p1
    cases e : h1.get n with
    | none => rw [e] at p1; exact p1.elim
    | some o =>
      rw [e] at p1
      cases o with
      | ins d fs =>
        dsimp only at p1
        cases e2 : Nat.beq d c with
        | false => rw [e2] at p1; exact p1.elim
        | true =>
          rw [e2] at p1
          have ed : d = c := Nat.eq_of_beq_eq_true e2
          subst ed
          dsimp only at p1
          cases e3 : fget f fs with
          | none => rw [e3] at p1; exact p1.elim
          | some w =>
            rw [e3] at p1
            obtain ⟨a, dx, gs, ea, rfl, eh, pr⟩ := S1.ins e r1
            obtain ⟨u, eu, ru⟩ := fget_of (inj := inj) pr e3
            exact ⟨a, G.cl d, dx, gs, u, rfl, eh, hc, hn, eu, RP.now p1 S1 ru⟩
      | lst _ => exact p1.elim
      | dct _ _ _ => exact p1.elim
  | _ => exact p1.elim
theorem k_fld {inj : ∀ i j, G.fl i = G.fl j → i = j} {K : PySem.W.Frag} {c f : Nat} (hc : Cls K (G.cl c)) (hn : NoAttr K (G.cl c) (G.fl f)) (h : PE X e (L2.tFld K (tM G W fa) (G.fl f))) : PE X e (tM G W (e1 (qFld c f) fa)) := h.wk fun _ _ _ q => fld_of (inj := inj) hc hn q
end
/-! ### calls -/
/-- what a def promises: it hands back what the mini def does -/
def spM (G : GC) (n : Nat) (g : FM) : Sp := fun vs H Q _ => vs.length = n ∧ ∃ m h ms, Sim G m h H ∧ RVs G m H ms vs ∧ RP G W0 (RV G) m H [] (g ms h) Q
section
variable {X : Cx} {G : GC} {e : Expr} {fa : EM} {am : AM}
/-- the reading of a call, where nothing is raised -/
theorem RP.w0 {α β : Type} {Rel : List Addr → Hp → α → β → Prop} {m : List Addr} {H : Hp} {σ σ' : L2.St} {r : Res α} {Q : β → Hp → Prop} (p : RP G W0 Rel m H σ r Q) : RP G W0 Rel m H σ' r Q := by
  cases r with
  | ok v h => exact p
  | exc c v h => exact fun m' H' d e s q => p m' H' d e s q
  | bad => exact p
theorem k_call {g : FM} {n : Nat} (hl : ∀ σ h vs h', am σ h = .ok vs h' → vs.length = n) (h : PE X e (L2.tCall (spM G n g) [] E0 (tMA G W0 am))) : PE X e (tM G W0 (eA g am)) := h.wk fun σ H Q q => by
  obtain ⟨m, h, σm, S, R, p⟩ := q
  refine ⟨m, h, σm, S, R, ?_⟩
  have p2 : RP G W0 (RV G) m H σ ((am σm h).bind g) Q := p
  cases ea : am σm h with
  | bad => rw [ea] at p2; exact p2.elim
  | exc c v h' => rw [ea] at p2; exact p2
  | ok vs h' =>
    rw [ea] at p2
    intro m' H' xs x S' r
    refine ⟨?_, m', h', vs, S', by simpa using r, (RP.later p2 x).w0⟩
    simp [r.length, hl _ _ _ _ ea]
theorem k_make {c : Nat} {g : FM} {n : Nat} (hl : ∀ σ h vs h', am σ h = .ok vs h' → vs.length + 1 = n) (h : PE X e (L2.tMake (G.cl c) (spM G n g) [] E0 (tMA G W0 am))) : PE X e (tM G W0 (eNew c g am)) := h.wk fun σ H Q q => by
  obtain ⟨m, h, σm, S, R, p⟩ := q
  refine ⟨m, h, σm, S, R, ?_⟩
  have p2 : RP G W0 (RV G) m H σ ((am σm h).bind fun vs h1 => (g (.ref h1.n :: vs) (h1.push (.ins c []))).bind fun v h2 => match v with | .non => .ok (.ref h1.n) h2 | _ => .bad) Q := p
  cases ea : am σm h with
  | bad => rw [ea] at p2; exact p2.elim
  | exc c v h' => rw [ea] at p2; exact p2
  | ok vs h' =>
    rw [ea] at p2
    intro m' H' xs x S' r y dx hy hdx ne
    have S1 := S'.fresh hdx (.own y)
    have hy1 : upd H' dx (.own y) y = none := by rw [upd_ne (Ne.symm ne)]; exact hy
    have x1 : Ex G m' H' m' (upd H' dx (.own y)) := .upd dx _ (plain_none hdx) (.inr hdx)
    have x2 : Ex G m' (upd H' dx (.own y)) (m' ++ [y]) (upd (upd H' dx (.own y)) y (.ins (G.cl c) dx [])) := (Ex.upd y _ (plain_none hy1) (.inr hy1)).app hy1
    have S2 : Sim G (m' ++ [y]) (h'.push (.ins c [])) (upd (upd H' dx (.own y)) y (.ins (G.cl c) dx [])) := S1.push hy1 ⟨dx, [], rfl, .nil⟩
    have x3 := (x.trans x1).trans x2
    have ry : RV G (m' ++ [y]) (upd (upd H' dx (.own y)) y (.ins (G.cl c) dx [])) (.ref h'.n) (.ref y) := by
      simp only [RV]
      exact ⟨y, by rw [← S'.len]; simp, rfl⟩
    refine ⟨by simp [r.length, hl _ _ _ _ ea], _, _, .ref h'.n :: vs, S2, .cons ry (by simpa using r.mono (x1.trans x2).toLe), ?_⟩
    have p3 := RP.later p2 x3
    refine (RP.w0 (σ' := []) (RP.bind (Rel := RV G) p3)).imp fun z H3 ⟨m3, h3, w, x4, S3, r3, p4⟩ => ?_
    cases w with
    | non =>
      simp only [RV] at r3
      exact ⟨r3, RP.now p4 S3 (ry.mono x4.toLe)⟩
    | _ => exact p4.elim
theorem k_meth {c : Nat} {mn : PySem.Str} {g : FM} {n : Nat} (hm : ∀ i, G.fl i ≠ mn) (hl : ∀ σ h vs h', am σ h = .ok vs h' → vs.length + 1 = n) (h : PE X e (L2.tMeth (G.cl c) mn (spM G n g) [] E0 (tM G W0 fa) (tMA G W0 am))) : PE X e (tM G W0 (eMeth c g fa am)) := h.wk fun σ H Q q => by
  refine (tMR.bind (Rel := RV G) (k := fun σ x h1 => match isIns c h1 x with | true => (am σ h1).bind fun vs h2 => g (x :: vs) h2 | false => .bad) q).imp fun x H1 ⟨m1, h1, v, σm, S1, R1, r1, p1⟩ => ?_
  have nolook : ∀ {fs : List (Nat × MV)} {gs : List (PySem.Str × V)}, Paired (fun (p : Nat × MV) (q : PySem.Str × V) => q.1 = G.fl p.1 ∧ RV G m1 H1 p.2 q.2) fs gs → gs.lookup mn = none := by
    intro fs gs pr
    induction pr with
    | nil => rfl
    | @cons p q fs' gs' r t ih =>
      obtain ⟨n', u⟩ := q
      have e' : n' = G.fl p.1 := r.1
      have ne : (mn == n') = false := by
        rw [e']; exact beq_eq_false_iff_ne.mpr (fun z => hm _ z.symm)
      rw [List.lookup_cons, ne]
      exact ih
  cases ei : isIns c h1 v with
  | false => rw [ei] at p1; exact p1.elim
  | true =>
    rw [ei] at p1
    cases v with
    | ref k =>
      unfold isIns at ei
      dsimp only at ei
      cases e : h1.get k with
      | none => rw [e] at ei; cases ei
      | some o =>
        rw [e] at ei
        cases o with
        | ins d fs =>
          have ed : d = c := Nat.eq_of_beq_eq_true ei
          subst ed
          obtain ⟨a, dx, gs, ea, rfl, eh, pr⟩ := S1.ins e r1
          refine ⟨a, dx, gs, rfl, eh, nolook pr, m1, h1, σm, S1, R1, ?_⟩
          dsimp only at p1
          cases eb : am σm h1 with
          | bad => rw [eb] at p1; exact p1.elim
          | exc c v h' => rw [eb] at p1; exact p1
          | ok vs h2 =>
            rw [eb] at p1
            intro m2 H2 xs x2 S2 r2
            exact ⟨by simp [r2.length, hl _ _ _ _ eb], m2, h2, .ref k :: vs, S2, .cons (r1.mono x2.toLe) (by simpa using r2), (RP.later p1 x2).w0⟩
        | lst _ => cases ei
        | dct _ _ _ => cases ei
    | _ => cases ei
end
theorem len_nil : ∀ (σ : Sl) (h : MH) (vs : List MV) (h' : MH), aNil σ h = .ok vs h' → vs.length = 0 := fun σ h vs h' e => by
  unfold aNil at e; cases e; rfl
theorem len_cons {fa : EM} {am : AM} {n : Nat} (hl : ∀ (σ : Sl) (h : MH) (vs : List MV) (h' : MH), am σ h = .ok vs h' → vs.length = n) : ∀ (σ : Sl) (h : MH) (vs : List MV) (h' : MH), aCons fa am σ h = .ok vs h' → vs.length = n + 1 := fun σ h vs h' e => by
  unfold aCons Res.bind at e
  cases e1 : fa σ h with
  | bad => rw [e1] at e; cases e
  | exc c p q => rw [e1] at e; cases e
  | ok v h1 =>
    rw [e1] at e
    dsimp only at e
    cases e2 : am σ h1 with
    | bad => rw [e2] at e; cases e
    | exc c p q => rw [e2] at e; cases e
    | ok ws h2 =>
      rw [e2] at e
      cases e
      simp [hl _ _ _ _ e2]
end KA
set_option autoImplicit false
set_option maxHeartbeats 200000
set_option maxRecDepth 512
set_option Elab.async false
set_option autoImplicit false
set_option linter.all false
set_option maxRecDepth 100000
set_option maxHeartbeats 400000
/-! KStmt: statements, targets, loops, comprehensions, a def's body. -/
namespace KA
open PySem PySem.Spec PyProof.Rows L2
/-- what a statement's end leads to -/
def OP (G : GC) (W : XW) (D : Ends) (m : List Addr) (H : Hp) (o : Out) : Prop := match o with
  | .nx σm h' => ∀ m' H' σ, Ex G m H m' H' → Sim G m' h' H' → RS G m' H' σm σ → D.nx σ H'
  | .rt v h' => ∀ m' H' x, Ex G m H m' H' → Sim G m' h' H' → RV G m' H' v x → D.rt x H'
  | .bk σm h' => ∀ m' H' σ, Ex G m H m' H' → Sim G m' h' H' → RS G m' H' σm σ → D.bk σ H'
  | .ct σm h' => ∀ m' H' σ, Ex G m H m' H' → Sim G m' h' H' → RS G m' H' σm σ → D.ct σ H'
  | .exc c p σm h' => ∀ m' H' σ d, Ex G m H m' H' → Sim G m' h' H' → RS G m' H' σm σ → (match p with
    | none => d = none
    | some v => ∃ (a : Addr) (x : V), d = some a ∧ H' a = some (.xd [(G.xf c, x)]) ∧ RV G m' H' v x) → W (G.xc c) d σ H'
  | .bad => False
def tMS (G : GC) (W : XW) (f : SM) : TS := fun D σ H => ∃ m h σm, Sim G m h H ∧ RS G m H σm σ ∧ OP G W D m H (f σm h)
section
variable {G : GC} {W : XW} {D : Ends} {m m1 : List Addr} {H H1 : Hp} {o : Out}
theorem OP.later (p : OP G W D m H o) (x : Ex G m H m1 H1) : OP G W D m1 H1 o := by
  cases o with
  | nx σ h => exact fun m' H' s e => p m' H' s (x.trans e)
  | rt v h => exact fun m' H' s e => p m' H' s (x.trans e)
  | bk σ h => exact fun m' H' s e => p m' H' s (x.trans e)
  | ct σ h => exact fun m' H' s e => p m' H' s (x.trans e)
  | exc c v σ h => exact fun m' H' s d e => p m' H' s d (x.trans e)
  | bad => exact p
/-- an expression's result goes on -/
theorem OP.out {α β : Type} {Rel : List Addr → Hp → α → β → Prop} {r : Res α} {σm : Sl} {σ : L2.St} {k : α → MH → Out} (R : RS G m H σm σ) (p : OP G W D m H (r.out σm k)) :
    RP G W Rel m H σ r (fun y H1 => ∃ m1 h1 v, Ex G m H m1 H1 ∧ Sim G m1 h1 H1 ∧ Rel m1 H1 v y ∧ OP G W D m1 H1 (k v h1)) := by
  cases r with
  | ok v h => exact fun m' H' y e s q => ⟨m', h, v, e, s, q, OP.later p e⟩
  | exc c v h => exact fun m' H' d e s q => p m' H' σ d e s (R.mono e.toLe) q
  | bad => exact p
theorem tMS.out {α β : Type} {Rel : List Addr → Hp → α → β → Prop} {f : Sl → MH → Res α} {k : Sl → α → MH → Out} {σ : L2.St} (q : tMS G W (fun σ h => (f σ h).out σ (k σ)) D σ H) :
    tMR G W Rel f σ H (fun y H1 => ∃ m1 h1 v σm, Sim G m1 h1 H1 ∧ RS G m1 H1 σm σ ∧ Rel m1 H1 v y ∧ OP G W D m1 H1 (k σm v h1)) := by
  obtain ⟨m, h, σm, S, R, p⟩ := q
  refine ⟨m, h, σm, S, R, (OP.out (Rel := Rel) R p).imp ?_⟩
  rintro y H1 ⟨m1, h1, v, x, S1, r1, p1⟩
  exact ⟨m1, h1, v, σm, S1, R.mono x.toLe, r1, p1⟩
theorem OP.nx_now {σm : Sl} {h : MH} {σ : L2.St} (p : OP G W D m H (.nx σm h)) (S : Sim G m h H) (R : RS G m H σm σ) : D.nx σ H := p m H σ .refl S R
end
section
variable {X : Cx} {G : GC} {W : XW} {st : Stmt} {sts : List Stmt} {e : Expr} {fa fb : EM} {tc : TM} {sa sb : SM}
theorem js_nil : PSs X [] (tMS G W jNil) := pss_nil.wk fun D σ H ⟨m, h, σm, S, R, p⟩ => OP.nx_now p S R
theorem js_cons (h1 : PS X st (tMS G W sa)) (h2 : PSs X sts (tMS G W sb)) : PSs X (st :: sts) (tMS G W (jSeq sa sb)) := (pss_cons h1 h2).wk fun D σ H ⟨m, h, σm, S, R, p⟩ => by
  refine ⟨m, h, σm, S, R, ?_⟩
  unfold jSeq at p
  cases e : sa σm h with
  | nx σ1 h1 =>
    rw [e] at p
    exact fun m' H' s x S' R' => ⟨m', h1, σ1, S', R', OP.later p x⟩
  | rt v h1 => rw [e] at p; exact p
  | bk σ1 h1 => rw [e] at p; exact p
  | ct σ1 h1 => rw [e] at p; exact p
  | exc c v σ1 h1 => rw [e] at p; exact p
  | bad => rw [e] at p; exact p
theorem js_one (h1 : PS X st (tMS G W sa)) : PSs X [st] (tMS G W sa) := pss_one h1
theorem js_bad : PS X st (tMS G W jBad) := ps_never.wk fun D σ H ⟨m, h, σm, S, R, p⟩ => p
theorem js_expr (h : PS X st (L2.tDrop (tM G W fa))) : PS X st (tMS G W (jDrop fa)) := h.wk fun D σ H q =>
  (tMS.out (Rel := RV G) (k := fun σ _ h1 => .nx σ h1) q).imp fun x H1 ⟨m1, h1, v, σm, S1, R1, r1, p1⟩ => OP.nx_now p1 S1 R1
theorem js_ret (h : PS X st (L2.tRet (tM G W fa))) : PS X st (tMS G W (jRet fa)) := h.wk fun D σ H q =>
  (tMS.out (Rel := RV G) (k := fun _ v h1 => .rt v h1) q).imp fun x H1 ⟨m1, h1, v, σm, S1, R1, r1, p1⟩ => p1 m1 H1 x .refl S1 r1
theorem js_if (h : PS X st (L2.tIfS (tMT G W tc) (tMS G W sa) (tMS G W sb))) : PS X st (tMS G W (jIf tc sa sb)) := h.wk fun D σ H q =>
  (tMS.out (Rel := fun _ _ (a b : Bool) => b = a) (k := fun σ k h1 => match k with | true => sa σ h1 | false => sb σ h1) q).imp fun x H1 ⟨m1, h1, v, σm, S1, R1, r1, p1⟩ => by
    subst r1
    cases x with
    | true => exact iteT ⟨m1, h1, σm, S1, R1, p1⟩
    | false => exact iteF ⟨m1, h1, σm, S1, R1, p1⟩
/-! ### targets -/
def gP (G : GC) (p : Pt) : TG := fun v σ H Q => ∃ m h mv σm σm', Sim G m h H ∧ RS G m H σm σ ∧ RV G m H mv v ∧ asg p mv σm = some σm' ∧
  ∀ σ', RS G m H σm' σ' → (∀ vs : List Nat, (∀ i ∈ p.slots, i ∈ vs) → wipe σ' vs = wipe σ vs) → Q σ' H
def gPs (G : GC) (p : Pt) : TGs := fun vs σ H Q => ∃ m h mvs σm σm', Sim G m h H ∧ RS G m H σm σ ∧ RVs G m H mvs vs ∧ asgs p mvs σm = some σm' ∧
  ∀ σ', RS G m H σm' σ' → (∀ vs : List Nat, (∀ i ∈ p.slots, i ∈ vs) → wipe σ' vs = wipe σ vs) → Q σ' H
theorem wipe_set {σ : L2.St} {i : Nat} {u : Option V} : ∀ {vs : List Nat}, i ∈ vs → wipe (σ.set i u) vs = wipe σ vs
  | [], h => by cases h
  | v :: vs, h => by
    show (wipe (σ.set i u) vs).set v none = (wipe σ vs).set v none
    by_cases c : i ∈ vs
    · rw [wipe_set c]
    · have e : i = v := by
        rcases List.mem_cons.mp h with q | q
        · exact q
        · exact absurd q c
      subst e
      have k : ∀ (ws : List Nat) (s : L2.St), i ∉ ws → wipe (s.set i u) ws = (wipe s ws).set i u := by
        intro ws
        induction ws with
        | nil => intro s _; rfl
        | cons w ws ih =>
          intro s hn
          have h1 : i ≠ w := fun q => hn (by simp [q])
          have h2 : i ∉ ws := fun q => hn (by simp [q])
          show (wipe (s.set i u) ws).set w none = ((wipe s ws).set w none).set i u
          rw [ih s h2, List.set_comm _ _ h1]
      rw [k vs σ c, List.set_set]
theorem PG_wk {X : Cx} {tg : Expr} {t t' : TG} (h : PG X tg t) (k : ∀ v σ H Q, t' v σ H Q → t v σ H Q) : PG X tg t' := ⟨fun pins s σ H v u Q I r q => h.run pins s σ H v u Q I r (k v σ H Q q)⟩
theorem PGs_wk {X : Cx} {tg : List Expr} {t t' : TGs} (h : PGs X tg t) (k : ∀ v σ H Q, t' v σ H Q → t v σ H Q) : PGs X tg t' := ⟨fun pins s σ H v u Q I r q => h.run pins s σ H v u Q I r (k v σ H Q q)⟩
theorem kg_name {tg : Expr} {i : Nat} (h : PG X tg (L2.gName i)) : PG X tg (gP G (.nm i)) := PG_wk h fun v σ H Q ⟨m, h, mv, σm, σm', S, R, r, e, k⟩ => by
  unfold asg at e
  cases e
  exact k _ (R.set i r) fun vs hv => wipe_set (hv i (by simp [Pt.slots]))
theorem kgs_nil (h : PGs X [] L2.gNil) : PGs X [] (gPs G .nil) := PGs_wk h fun v σ H Q ⟨m, h, mv, σm, σm', S, R, r, e, k⟩ => by
  unfold asgs at e
  cases mv with
  | nil =>
    cases e
    exact ⟨r.nil_inv, k σ R fun _ _ => rfl⟩
  | cons _ _ => cases e
theorem kgs_cons {tgs : List Expr} {p q : Pt} (h : PGs X tgs (L2.gCons (gP G p) (gPs G q))) : PGs X tgs (gPs G (.cons p q)) := PGs_wk h fun v σ H Q ⟨m, h, mv, σm, σm', S, R, r, e, k⟩ => by
  unfold asgs at e
  cases mv with
  | nil => cases e
  | cons x xs =>
    dsimp only at e
    obtain ⟨y, ys, rfl, r1, r2⟩ := r.cons_inv
    cases e1 : asg p x σm with
    | none => rw [e1] at e; cases e
    | some σ1 =>
      rw [e1] at e
      refine ⟨y, ys, rfl, m, h, x, σm, σ1, S, R, r1, e1, fun σ' R' w' => ?_⟩
      exact ⟨m, h, xs, σ1, σm', S, R', r2, e, fun σ'' R'' w'' => k σ'' R'' fun vs hv => (w'' vs fun i hi => hv i (List.mem_append_right _ hi)).trans (w' vs fun i hi => hv i (List.mem_append_left _ hi))⟩
theorem asg_tup {p : Pt} {mv : MV} {σ σ' : Sl} (hp : ∀ i, p ≠ .nm i) (e : asg p mv σ = some σ') : ∃ ts, mv = .tup ts ∧ ts.length = p.len ∧ asgs p ts σ = some σ' := by
  have len : ∀ (q : Pt) (ts : List MV) (s s' : Sl), asgs q ts s = some s' → ts.length = q.len := by
    intro q
    induction q with
    | nm i => intro ts s s' h; cases ts <;> simp [asgs] at h
    | nil => intro ts s s' h; cases ts <;> simp [asgs] at h; rfl
    | cons p q _ ih =>
      intro ts s s' h
      cases ts with
      | nil => simp [asgs] at h
      | cons x xs =>
        simp only [asgs] at h
        cases e1 : asg p x s with
        | none => rw [e1] at h; cases h
        | some s1 => rw [e1] at h; simp [Pt.len, ih _ _ _ h]
  cases p with
  | nm i => exact absurd rfl (hp i)
  | nil =>
    unfold asg at e
    cases mv with
    | tup ts =>
      cases ts with
      | nil => exact ⟨[], rfl, rfl, by simpa [asgs] using e⟩
      | cons _ _ => cases e
    | _ => cases e
  | cons p q =>
    unfold asg at e
    cases mv with
    | tup ts =>
      cases ts with
      | nil => cases e
      | cons x xs => exact ⟨x :: xs, rfl, len (.cons p q) (x :: xs) σ σ' (by simpa [asgs] using e), by simpa [asgs] using e⟩
    | _ => cases e
theorem kg_tup {tg : Expr} {p : Pt} {K : PySem.W.Frag} (hp : ∀ i, p ≠ .nm i) (h : PG X tg (L2.gTup K p.len (gPs G p))) : PG X tg (gP G p) := PG_wk h fun v σ H Q ⟨m, h, mv, σm, σm', S, R, r, e, k⟩ => by
  obtain ⟨ts, rfl, hl, e2⟩ := asg_tup hp e
  simp only [RV] at r
  obtain ⟨a, xs, rfl, q, rs⟩ := r
  exact ⟨a, xs, rfl, SqT.of q, rs.length.trans hl, m, h, ts, σm, σm', S, R, rs, e2, k⟩
theorem js_set {i : Nat} (h : PS X st (L2.tAsg (tM G W fa) (L2.gName i))) : PS X st (tMS G W (jAsg fa (.nm i))) := h.wk fun D σ H q =>
  (tMS.out (Rel := RV G) (k := fun σ v h1 => match asg (.nm i) v σ with | some σ1 => .nx σ1 h1 | none => .bad) q).imp fun x H1 ⟨m1, h1, v, σm, S1, R1, r1, p1⟩ => OP.nx_now p1 S1 (R1.set i r1)
theorem js_par {i j : Nat} (h : PS X st (L2.tPar i j (L2.tCons (tM G W fa) (L2.tCons (tM G W fb) L2.tNil)))) : PS X st (tMS G W (jPar i j fa fb)) := h.wk fun D σ H q => by
  refine (tMS.out (Rel := RV G) (k := fun σ v h1 => (fb σ h1).out σ fun w h2 => .nx ((σ.set i (some v)).set j (some w)) h2) q).imp fun x H1 ⟨m1, h1, v, σm, S1, R1, r1, p1⟩ => ?_
  refine ⟨m1, h1, σm, S1, R1, (OP.out (Rel := RV G) R1 p1).imp fun y H2 ⟨m2, h2, w, x2, S2, r2, p2⟩ => ?_⟩
  exact ⟨x, y, rfl, OP.nx_now p2 S2 (((R1.mono x2.toLe).set i (r1.mono x2.toLe)).set j r2)⟩
theorem js_fld {inj : ∀ i j, G.fl i = G.fl j → i = j} {K : PySem.W.Frag} {c f : Nat} (hc : Cls K (G.cl c)) (hn : NoAttr K (G.cl c) (G.fl f)) (h : PS X st (L2.sFld K (tM G W fa) (tM G W fb) (G.fl f))) : PS X st (tMS G W (jFld c f fa fb)) := h.wk fun D σ H q => by
  refine (tMS.out (Rel := RV G) (k := fun σ y h1 => (fa σ h1).out σ fun x h2 => match x with
  | .ref n => (match h2.get n with
    | some (.ins d fs) => (match Nat.beq d c with
      | true => (match Nat.blt fs.length 100 with
        | true => .nx σ (h2.set n (.ins d (fput f y fs)))
        | false => .bad)
      | false => .bad)
    | _ => .bad)
  | _ => .bad) q).imp fun y H1 ⟨m1, h1, v, σm, S1, R1, r1, p1⟩ => ?_
  refine ⟨m1, h1, σm, S1, R1, (OP.out (Rel := RV G) R1 p1).imp fun x H2 ⟨m2, h2, w, x2, S2, r2, p2⟩ => ?_⟩
  cases w with
  | ref n =>
    dsimp only at p2
    cases e : h2.get n with
    | none => rw [e] at p2; exact p2.elim
    | some o =>
      rw [e] at p2
      cases o with
      | ins d fs =>
        dsimp only at p2
        cases ed : Nat.beq d c with
        | false => rw [ed] at p2; exact p2.elim
        | true =>
          rw [ed] at p2
          have ed' : d = c := Nat.eq_of_beq_eq_true ed
          subst ed'
          dsimp only at p2
          cases el : Nat.blt fs.length 100 with
          | false => rw [el] at p2; exact p2.elim
          | true =>
            rw [el] at p2
            obtain ⟨a, dx, gs, ea, rfl, eh, pr⟩ := S2.ins e r2
            have hl : fs.length < 100 := Nat.le_of_ble_eq_true el
            have hl2 : gs.length = fs.length := pr.length.symm
            refine ⟨a, G.cl d, dx, gs, rfl, eh, hc, hn, by omega, ?_⟩
            have pl : Plain (H2 a) := by rw [eh]; trivial
            have x3 : Ex G m2 H2 m2 (upd H2 a (.ins (G.cl d) dx (putF (G.fl f) y gs))) := .upd a _ pl (.inl (List.mem_of_getElem? ea))
            have pr2 : Paired (fun (p : Nat × MV) (q : PySem.Str × V) => q.1 = G.fl p.1 ∧ RV G m2 H2 p.2 q.2) (fput f v fs) (putF (G.fl f) y gs) := fput_of (inj := inj) (r1.mono x2.toLe) pr
            exact p2 m2 _ σ x3 (S2.write ea pl.l ⟨dx, _, rfl, Paired.mapP pr2 fun _ _ z => ⟨z.1, z.2.mono x3.toLe⟩⟩) ((R1.mono x2.toLe).mono x3.toLe)
      | lst _ => exact p2.elim
      | dct _ _ _ => exact p2.elim
  | _ => exact p2.elim
/-! ### loops -/
theorem js_while (k : Nat) (h : PS X st (L2.tWhile (tMT G W tc) (tMS G W sb))) : PS X st (tMS G W (jWhile k tc sb)) := h.wk fun D σ H ⟨m, h, σm, S, R, p⟩ => by
  refine ⟨fun n σ H => ∃ m h σm, Sim G m h H ∧ RS G m H σm σ ∧ OP G W D m H (whileL tc sb n σm h), ⟨k, m, h, σm, S, R, p⟩, ?_⟩
  rintro n σ1 H1 ⟨m1, h1, σ1m, S1, R1, p1⟩
  cases n with
  | zero => exact p1.elim
  | succ n =>
    refine ⟨m1, h1, σ1m, S1, R1, (OP.out (Rel := fun _ _ (a b : Bool) => b = a) R1 p1).imp fun b H2 ⟨m2, h2, v, x2, S2, r2, p2⟩ => ?_⟩
    subst r2
    have R2' := R1.mono x2.toLe
    cases b with
    | false => exact iteF (OP.nx_now p2 S2 R2')
    | true =>
      refine iteT ⟨fun σ' H' => ∃ m h σm, Sim G m h H' ∧ RS G m H' σm σ' ∧ OP G W D m H' (whileL tc sb n σm h), fun σ' H' q => ⟨n, Nat.lt_succ_self n, q⟩, m2, h2, σ1m, S2, R2', ?_⟩
      dsimp only at p2
      cases e : sb σ1m h2 with
      | nx σ3 h3 => rw [e] at p2; exact fun m' H' s x S' R' => ⟨m', h3, σ3, S', R', OP.later p2 x⟩
      | ct σ3 h3 => rw [e] at p2; exact fun m' H' s x S' R' => ⟨m', h3, σ3, S', R', OP.later p2 x⟩
      | bk σ3 h3 => rw [e] at p2; exact p2
      | rt v h3 => rw [e] at p2; exact p2
      | exc c v σ3 h3 => rw [e] at p2; exact p2
      | bad => rw [e] at p2; exact p2
/-- a walk and its iterator -/
structure Ef (G : GC) (m : List Addr) (H : Hp) (m' : List Addr) (H' : Hp) : Prop where
  toLe : Le G m H m' H'
  frd : ∀ b o u, H b = some (.frz o u) → H' b = some (.frz o u)
theorem Ex.ef {G : GC} {m m' : List Addr} {H H' : Hp} (x : Ex G m H m' H') : Ef G m H m' H' := ⟨x.toLe, x.frd⟩
theorem Ef.refl {G : GC} {m : List Addr} {H : Hp} : Ef G m H m H := Ex.refl.ef
theorem Ef.trans {G : GC} {m m1 m2 : List Addr} {H H1 H2 : Hp} (a : Ef G m H m1 H1) (b : Ef G m1 H1 m2 H2) : Ef G m H m2 H2 := ⟨a.toLe.trans b.toLe, fun c o u q => b.frd c o u (a.frd c o u q)⟩
structure WkR (G : GC) (m0 : List Addr) (H0 : Hp) (w : Wk) (J : It) : Prop where
  item : ∀ m h H i v, Ef G m0 H0 m H → Sim G m h H → i < w.n → w.at_ i h = some v → J.go i H ∧ ∀ x H', J.yld i H x H' → Ex G m H m H' ∧ Sim G m h H' ∧ RV G m H' v x
  fin : ∀ m h H, Ef G m0 H0 m H → Sim G m h H → w.fin h = true → J.stop w.n H
def tMI (G : GC) (W : XW) (w : WM) : TI := tMR G W (WkR G) w
theorem js_for {w : WM} {p : Pt} (h : PS X st (L2.tFor (tMI G W w) (gP G p) (tMS G W sb))) : PS X st (tMS G W (jFor w p sb)) := h.wk fun D σ H q => by
  refine (tMS.out (Rel := WkR G) (k := fun σ k h1 => forL k p sb k.n 0 σ h1) q).imp fun J H1 ⟨m1, h1, k, σm, S1, R1, r1, p1⟩ => ?_
  refine ⟨fun i n σ H => ∃ m h σm, Ex G m1 H1 m H ∧ Sim G m h H ∧ RS G m H σm σ ∧ i + n = k.n ∧ OP G W D m H (forL k p sb n i σm h), ⟨k.n, m1, h1, σm, .refl, S1, R1, Nat.zero_add _, p1⟩, ?_⟩
  rintro i n σ2 H2 ⟨m2, h2, σ2m, x2, S2, R2, hn, p2⟩
  cases n with
  | zero =>
    left
    unfold forL at p2
    cases e : k.fin h2 with
    | false => rw [e] at p2; exact p2.elim
    | true =>
      rw [e] at p2
      have hi : i = k.n := by omega
      subst hi
      exact ⟨r1.fin m2 h2 H2 x2.ef S2 e, OP.nx_now p2 S2 R2⟩
  | succ n =>
    right
    unfold forL at p2
    cases e : k.at_ i h2 with
    | none => rw [e] at p2; exact p2.elim
    | some v =>
      rw [e] at p2
      dsimp only at p2
      obtain ⟨go, yld⟩ := r1.item m2 h2 H2 i v x2.ef S2 (by omega) e
      refine ⟨go, fun σ' H' => ∃ m h σm, Ex G m1 H1 m H' ∧ Sim G m h H' ∧ RS G m H' σm σ' ∧ (i + 1) + n = k.n ∧ OP G W D m H' (forL k p sb n (i + 1) σm h), fun σ' H' q => ⟨n, Nat.lt_succ_self n, q⟩, fun x H' y => ?_⟩
      obtain ⟨x3, S3, r3⟩ := yld x H' y
      cases ea : asg p v σ2m with
      | none => rw [ea] at p2; exact p2.elim
      | some σ3 =>
        rw [ea] at p2
        refine ⟨m2, h2, v, σ2m, σ3, S3, R2.mono x3.toLe, r3, ea, fun σ' R' _ => ⟨m2, h2, σ3, S3, R', ?_⟩⟩
        dsimp only at p2
        have x23 := x2.trans x3
        cases eb : sb σ3 h2 with
        | nx σ4 h4 => rw [eb] at p2; exact fun m' H'' s x S' R' => ⟨m', h4, σ4, x23.trans x, S', R', by omega, OP.later p2 (x3.trans x)⟩
        | ct σ4 h4 => rw [eb] at p2; exact fun m' H'' s x S' R' => ⟨m', h4, σ4, x23.trans x, S', R', by omega, OP.later p2 (x3.trans x)⟩
        | bk σ4 h4 => rw [eb] at p2; exact fun m' H'' s x S' R' => p2 m' H'' s (x3.trans x) S' R'
        | rt v h4 => rw [eb] at p2; exact fun m' H'' s x S' R' => p2 m' H'' s (x3.trans x) S' R'
        | exc c v σ4 h4 => rw [eb] at p2; exact fun m' H'' s d x S' R' => p2 m' H'' s d (x3.trans x) S' R'
        | bad => rw [eb] at p2; exact p2
end
/-! ### what is walked -/
theorem PI_wk {X : Cx} {tg e : Expr} {t t' : TI} (h : PI X tg e t) (k : ∀ σ H R, t' σ H R → t σ H R) : PI X tg e t' := ⟨fun pins s σ H R I q => h.run pins s σ H R I (k σ H R q)⟩
section
variable {X : Cx} {G : GC} {W : XW} {tg e : Expr} {fa fb : EM}
theorem wkR_L {m : List Addr} {H : Hp} {n k : Nat} {a : Addr} (ea : m[n]? = some a) : WkR G m H (wkL n k) (Itl G.K a) where
  item := fun m1 h1 H1 i v x S hi e => by
    unfold wkL at e
    dsimp only at e
    cases eg : h1.get n with
    | none => rw [eg] at e; cases e
    | some o =>
      rw [eg] at e
      cases o with
      | lst xs =>
        obtain ⟨b, ys, eb, _, eh, r⟩ := S.lst eg (show RV G m1 H1 (.ref n) (.ref a) by simp only [RV]; exact ⟨a, x.toLe.ix ea, rfl⟩)
        have hb : b = a := Option.some.inj (eb.symm.trans (x.toLe.ix ea))
        subst hb
        obtain ⟨y, ey, ry⟩ := r.get e
        refine ⟨⟨ys, y, SqL.of eh, ey⟩, fun z H' q => ?_⟩
        obtain ⟨rfl, q⟩ := q
        have hz := q ys (SqL.of eh)
        rw [ey] at hz
        cases hz
        exact ⟨.refl, S, ry⟩
      | ins _ _ => cases e
      | dct _ _ _ => cases e
  fin := fun m1 h1 H1 x S e => by
    unfold wkL at e
    dsimp only at e
    cases eg : h1.get n with
    | none => rw [eg] at e; cases e
    | some o =>
      rw [eg] at e
      cases o with
      | lst xs =>
        obtain ⟨b, ys, eb, _, eh, r⟩ := S.lst eg (show RV G m1 H1 (.ref n) (.ref a) by simp only [RV]; exact ⟨a, x.toLe.ix ea, rfl⟩)
        have hb : b = a := Option.some.inj (eb.symm.trans (x.toLe.ix ea))
        subst hb
        exact ⟨ys, SqL.of eh, by rw [r.length]; exact Nat.le_of_ble_eq_true e⟩
      | ins _ _ => cases e
      | dct _ _ _ => cases e
theorem ki_seq {K : PySem.W.Frag} (hK : K = G.K) (h : PI X tg e (L2.iList K (tM G W fa))) : PI X tg e (tMI G W (wSeq fa)) := PI_wk h fun σ H R q => by
  subst hK
  refine (tMR.bind (Rel := RV G) (k := fun _ v h1 => match v with
  | .ref n => (match h1.get n with
    | some (.lst xs) => .ok (wkL n xs.length) h1
    | _ => .bad)
  | _ => .bad) q).imp fun x H1 ⟨m1, h1, v, σm, S1, R1, r1, p1⟩ => ?_
  cases v with
  | ref n =>
    dsimp only at p1
    cases eg : h1.get n with
    | none => rw [eg] at p1; exact p1.elim
    | some o =>
      rw [eg] at p1
      cases o with
      | lst xs =>
        obtain ⟨a, ys, ea, rfl, eh, r⟩ := S1.lst eg r1
        exact ⟨a, rfl, ⟨ys, SqL.of eh⟩, RP.now p1 S1 (wkR_L ea)⟩
      | ins _ _ => exact p1.elim
      | dct _ _ _ => exact p1.elim
  | _ => exact p1.elim
theorem ki_tup {K : PySem.W.Frag} (hK : K = G.K) (h : PI X tg e (L2.iTup K (tM G W fa))) : PI X tg e (tMI G W (wTup fa)) := PI_wk h fun σ H R q => by
  subst hK
  refine (tMR.bind (Rel := RV G) (k := fun _ v h1 => match v with
  | .tup xs => .ok (wkT xs) h1
  | _ => .bad) q).imp fun x H1 ⟨m1, h1, v, σm, S1, R1, r1, p1⟩ => ?_
  cases v with
  | tup xs =>
    simp only [RV] at r1
    obtain ⟨a, ys, rfl, fz, r⟩ := r1
    refine ⟨a, rfl, ⟨ys, SqT.of fz⟩, RP.now p1 S1 ⟨fun m2 h2 H2 i v x S hi e => ?_, fun m2 h2 H2 x S e => ?_⟩⟩
    · obtain ⟨y, ey, ry⟩ := r.get e
      refine ⟨⟨ys, y, SqT.of (x.toLe.tup _ _ fz), ey⟩, fun z H' q => ?_⟩
      obtain ⟨rfl, q⟩ := q
      have hz := q ys (SqT.of (x.toLe.tup _ _ fz))
      rw [ey] at hz
      cases hz
      exact ⟨.refl, S, ry.mono x.toLe⟩
    · exact ⟨ys, SqT.of (x.toLe.tup _ _ fz), Nat.le_of_eq r.length⟩
  | _ => exact p1.elim
theorem wkR_R {m : List Addr} {H : Hp} {lo : Int} {n : Nat} : WkR G m H (wkR lo n) (Itr lo n) where
  item := fun m1 h1 H1 i v x S hi e => by
    refine ⟨hi, fun z H' q => ?_⟩
    obtain ⟨rfl, rfl⟩ := q
    cases e
    exact ⟨.refl, S, by simp [RV]⟩
  fin := fun m1 h1 H1 x S e => Nat.le_refl _
theorem rgOk_iff {i : Int} (h : rgOk i = true) : -(2 ^ 62) ≤ i ∧ i < 2 ^ 62 := by
  have : i.natAbs < 4611686018427387904 := Nat.le_of_ble_eq_true h
  omega
theorem ki_rng1 (h : PI X tg e (L2.iRng1 (L2.tCons (tM G W fa) L2.tNil))) : PI X tg e (tMI G W (wRng1 fa)) := PI_wk h fun σ H R q => by
  refine (tMR.bind (Rel := RV G) (k := fun _ v h1 => match v with
  | .int j => (match rgOk j with
    | true => .ok (wkR 0 j.toNat) h1
    | false => .bad)
  | _ => .bad) q).imp fun x H1 ⟨m1, h1, v, σm, S1, R1, r1, p1⟩ => ?_
  cases v with
  | int j =>
    simp only [RV] at r1
    subst r1
    dsimp only at p1
    cases e : rgOk j with
    | false => rw [e] at p1; exact p1.elim
    | true =>
      rw [e] at p1
      obtain ⟨h1, h2⟩ := rgOk_iff e
      exact ⟨j, rfl, h1, h2, RP.now p1 S1 wkR_R⟩
  | _ => exact p1.elim
end
end KA
set_option autoImplicit false
set_option maxHeartbeats 200000
set_option maxRecDepth 512
set_option Elab.async false
set_option autoImplicit false
set_option linter.all false
set_option maxRecDepth 100000
set_option maxHeartbeats 400000
/-! KFn: a def keeps the promise of its mini def. -/
namespace KA
open PySem PySem.Spec PyProof.Rows L2
theorem fn_ok {P : Program} {w : World} {K : PySem.W.Frag} {mg : PySem.Str → Option Value} {base : Heap} {x qual : PySem.Str} {params : Arguments} {body : List Stmt} {scope : Scope} {dvs : List V} {kws : List (PySem.Str × V)} {f : Addr} {fd : FuncData} {N ps : List PySem.Str} {k n np : Nat} {G : GC} {b : SM}
    (F : FunD K x qual params body scope dvs kws f fd) (S : FnScope N ps scope) (hn : N.length = n := by rfl) (hp : ps.length = np := by rfl)
    (hb : ∀ (cdv : Value) (A : Around) (outer : List Env) (s : Shared) (H : Hp) (E : XK), Room k (A.deeper (envOfC qual scope s.heap.objs.size f cdv)) → PSs (cxOf CX0 P w K mg base N qual scope f cdv A outer s H E).nox body (tMS G W0 b)) :
    FnOk P w K mg base CX0 (k + 1) f fd ps (spM G np (fn n b)) := by
  refine F.ok S (fun vs H Q E h => hp ▸ h.1) (fun cdv A outer s H vs Q E hr h => ⟨_, PSs.nox (hb cdv A outer s H E hr), ?_⟩)
  obtain ⟨hl, m, h, ms, Sm, r, p⟩ := h
  refine ⟨m, h, ms.map some ++ List.replicate (n - ms.length) none, Sm, RS.start r N n hn, ?_⟩
  unfold fn at p
  cases e : b (ms.map some ++ List.replicate (n - ms.length) none) h with
  | nx σ1 h1 => rw [e] at p; exact fun m' H' s x S' _ => p m' H' .non x S' (by simp [RV])
  | rt v h1 => rw [e] at p; exact p
  | bk σ1 h1 => rw [e] at p; exact p.elim
  | ct σ1 h1 => rw [e] at p; exact p.elim
  | exc c v σ1 h1 =>
    rw [e] at p
    exact fun m' H' s d x S' R' q => p m' H' d x S' q
  | bad => rw [e] at p; exact p.elim
end KA
set_option autoImplicit false
set_option maxHeartbeats 200000
set_option maxRecDepth 512
set_option Elab.async false
set_option autoImplicit false
set_option linter.all false
set_option maxRecDepth 100000
set_option maxHeartbeats 400000
/-! KOps: operators, built-ins, methods by values. -/
namespace KA
open PySem PySem.Spec PyProof.Rows L2
section
variable {X : Cx} {G : GC} {W : XW} {e : Expr} {fa fb : EM} {am : AM}
/-! ### arithmetic -/
theorem Op2.or {r r' : R2} {g : MV → MV → MH → Res MV} (h : ∀ (W : XW) (m : List Addr) (h : MH) (H : Hp) (σ : L2.St) (v w : MV) (x y : V) (Q : VK), Sim G m h H → RV G m H v x → RV G m H w y → RP G W (RV G) m H σ (g v w h) Q → r x y H Q ∨ r' x y H Q) : Op2 G (fun x y H Q => r x y H Q ∨ r' x y H Q) g := h
theorem RP.newTup {m : List Addr} {h : MH} {H : Hp} {σ : L2.St} {vs : List MV} {xs : List V} {Q : VK} (p : RP G W (RV G) m H σ (.ok (.tup vs) h) Q) (S : Sim G m h H) (r : RVs G m H vs xs) {a : Addr} (ha : H a = none) : Q (.ref a) (upd H a (.tup xs)) := by
  have x : Ex G m H m (upd H a (.tup xs)) := .upd a _ (plain_none ha) (.inr ha)
  exact p m _ (.ref a) x (S.fresh ha _) (by simp only [RV]; exact ⟨a, xs, rfl, upd_same, r.mono x.toLe⟩)
theorem str_app (a b : List Nat) : (⟨a.toArray⟩ : PySem.Str) ++ ⟨b.toArray⟩ = ⟨(a ++ b).toArray⟩ := by
  show PySem.Str.mk (a.toArray ++ b.toArray) = _
  simp
theorem str_len (a : List Nat) : (⟨a.toArray⟩ : PySem.Str).length = a.length := by
  show a.toArray.size = a.length
  simp
abbrev rAddM (K : PySem.W.Frag) : R2 := fun x y H Q => (rI0 (fun i j => .int (i + j)) x y H Q ∨ (∃ i j, x = .str i ∧ y = .str j ∧ i.length + j.length ≤ sizeLine ∧ Q (.str (i ++ j)) H)) ∨ (rCat x y H Q ∨ rCatA K x y H Q)
theorem op_addM : OpR X (binaryOp .Add) (rAddM X.K) := (op_add.or op_add_str).or (op_cat.or op_catA)
theorem o_add {K : PySem.W.Frag} : Op2 G (rAddM K) qAdd := by
  intro W m h H σ v w x y Q S r1 r2 p
  cases v with
  | int i =>
    cases w with
    | int j =>
      simp only [RV] at r1 r2
      exact .inl (.inl ⟨i, j, r1, r2, RP.now p S (by simp [RV])⟩)
    | _ => exact p.elim
  | str a =>
    cases w with
    | str b =>
      simp only [RV] at r1 r2
      unfold qAdd at p
      dsimp only at p
      rcases lim_cases (a.length + b.length) (Res.ok (MV.str (a ++ b)) h) with ⟨z, e1⟩ | e1
      · rw [e1] at p
        refine .inl (.inr ⟨_, _, r1, r2, by rw [str_len, str_len, sizeLine_eq]; exact z, RP.now p S (by simp only [RV]; rw [str_app])⟩)
      · rw [e1] at p; exact p.elim
    | _ => exact p.elim
  | tup xs =>
    cases w with
    | tup ys =>
      unfold qAdd at p
      dsimp only at p
      rcases lim_cases (xs.length + ys.length) (Res.ok (MV.tup (xs ++ ys)) h) with ⟨z, e1⟩ | e1
      · rw [e1] at p
        simp only [RV] at r1 r2
        obtain ⟨a, us, rfl, ha, ra⟩ := r1
        obtain ⟨b, ts, rfl, hb, rb⟩ := r2
        refine .inr (.inr ⟨a, b, us, ts, rfl, rfl, SqT.of ha, SqT.of hb, by rw [ra.length, rb.length, sizeLine_eq]; exact z, fun q => ?_, fun q q2 => ?_, fun _ _ c hc => RP.newTup p S (ra.append rb) hc⟩)
        · subst q
          have : xs = [] := by have := ra.length; simpa using this.symm
          subst this
          exact RP.now p S (by simp only [RV, List.nil_append]; exact ⟨b, ts, rfl, hb, rb⟩)
        · subst q2
          have : ys = [] := by have := rb.length; simpa using this.symm
          subst this
          exact RP.now p S (by simp only [RV, List.append_nil]; exact ⟨a, us, rfl, ha, ra⟩)
      · rw [e1] at p; exact p.elim
    | _ => exact p.elim
  | ref a =>
    cases w with
    | ref b =>
      unfold qAdd at p
      dsimp only at p
      cases ea : h.get a with
      | none => rw [ea] at p; exact p.elim
      | some oa =>
        cases eb : h.get b with
        | none => rw [ea, eb] at p; cases oa <;> exact p.elim
        | some ob =>
          rw [ea, eb] at p
          cases oa with
          | lst xs =>
            cases ob with
            | lst ys =>
              dsimp only at p
              rcases lim_cases (xs.length + ys.length) (Res.ok (MV.ref h.n) (h.push (.lst (xs ++ ys)))) with ⟨z, e1⟩ | e1
              · rw [e1] at p
                obtain ⟨c, us, _, rfl, hc, ra⟩ := S.lst ea r1
                obtain ⟨d, ts, _, rfl, hd, rb⟩ := S.lst eb r2
                exact .inr (.inl ⟨c, d, us, ts, rfl, rfl, hc, hd, by rw [ra.length, rb.length, sizeLine_eq]; exact z, fun l hl => p.newLst S (ra.append rb) hl⟩)
              · rw [e1] at p; exact p.elim
            | _ => exact p.elim
          | _ => exact p.elim
    | _ => exact p.elim
  | _ => exact p.elim
theorem small64_iff {i : Int} (h : small64 i = true) : -(2 ^ 64) < i ∧ i < 2 ^ 64 := by
  have : i.natAbs < 18446744073709551616 := Nat.le_of_ble_eq_true h
  omega
theorem small9_iff {i : Int} (h : small9 i = true) : i.natAbs.log2 < 9000 := Nat.le_of_ble_eq_true h
abbrev rMulM : R2 := fun x y H Q => (rI CMul (fun i j => .int (i * j)) x y H Q ∨ rI CMulW (fun i j => .int (i * j)) x y H Q) ∨ rRep x y H Q
theorem op_mulM : OpR X (binaryOp .Mult) rMulM := (op_mul.or op_mulW).or op_rep
theorem rvs_rep {m : List Addr} {H : Hp} {xs : List MV} {us : List V} (r : RVs G m H xs us) : ∀ k : Nat, RVs G m H (List.replicate k xs).flatten (List.replicate k us).flatten
  | 0 => RVs.nil
  | k + 1 => by
    rw [List.replicate_succ, List.replicate_succ, List.flatten_cons, List.flatten_cons]
    exact r.append (rvs_rep r k)
theorem o_mul : Op2 G rMulM qMul := by
  intro W m h H σ v w x y Q S r1 r2 p
  cases v with
  | int i =>
    cases w with
    | int j =>
      simp only [RV] at r1 r2
      unfold qMul at p
      dsimp only at p
      cases ec : (small64 i || small64 j || (small9 i && small9 j)) with
      | false => rw [ec] at p; exact p.elim
      | true =>
        rw [ec] at p
        rcases Bool.or_eq_true_iff.mp ec with e1 | e1
        · rcases Bool.or_eq_true_iff.mp e1 with e1 | e1
          · exact .inl (.inl ⟨i, j, r1, r2, .inl (small64_iff e1), RP.now p S (by simp [RV])⟩)
          · exact .inl (.inl ⟨i, j, r1, r2, .inr (small64_iff e1), RP.now p S (by simp [RV])⟩)
        · obtain ⟨a1, a2⟩ := Bool.and_eq_true_iff.mp e1
          have b1 := small9_iff a1
          have b2 := small9_iff a2
          exact .inl (.inr ⟨i, j, r1, r2, by unfold CMulW; omega, RP.now p S (by simp [RV])⟩)
    | _ => exact p.elim
  | ref a =>
    cases w with
    | int k =>
      unfold qMul at p
      dsimp only at p
      cases ea : h.get a with
      | none => rw [ea] at p; exact p.elim
      | some oa =>
        rw [ea] at p
        cases oa with
        | lst xs =>
          dsimp only at p
          cases ec : (decide (0 ≤ k) && rg62 k) with
          | false => rw [ec] at p; exact p.elim
          | true =>
            rw [ec] at p
            dsimp only at p
            rcases lim_cases (xs.length * k.toNat) (Res.ok (MV.ref h.n) (h.push (.lst (List.replicate k.toNat xs).flatten))) with ⟨z, e1⟩ | e1
            · rw [e1] at p
              obtain ⟨c, us, _, rfl, hc, ra⟩ := S.lst ea r1
              simp only [RV] at r2
              obtain ⟨a1, a2⟩ := Bool.and_eq_true_iff.mp ec
              have b1 := of_decide_eq_true a1
              have b2 := rgOk_iff (i := k) a2
              exact .inr ⟨c, k, us, rfl, r2, hc, by omega, by omega, by rw [ra.length, sizeLine_eq]; exact z, fun l hl => p.newLst S (rvs_rep ra _) hl⟩
            · rw [e1] at p; exact p.elim
        | _ => exact p.elim
    | _ => exact p.elim
  | _ => exact p.elim
theorem o_div : Op2 G (rI CDivW fun i j => .int (i / j)) qDiv := op2_int fun v w h => by
  cases v <;> cases w <;> try exact .inr rfl
  rename_i i j
  unfold qDiv
  dsimp only
  cases ec : (decide (0 < j) && small9 j) with
  | false => exact .inr rfl
  | true =>
    obtain ⟨a1, a2⟩ := Bool.and_eq_true_iff.mp ec
    exact .inl ⟨i, j, _, rfl, rfl, rfl, ⟨of_decide_eq_true a1, small9_iff a2⟩, fun m H => by simp [RV]⟩
theorem o_mod : Op2 G (rI (fun _ j => 0 < j) fun i j => .int (i % j)) qMod := op2_int fun v w h => by
  cases v <;> cases w <;> try exact .inr rfl
  rename_i i j
  unfold qMod
  dsimp only
  cases ec : decide (0 < j) with
  | false => exact .inr rfl
  | true => exact .inl ⟨i, j, _, rfl, rfl, rfl, of_decide_eq_true ec, fun m H => by simp [RV]⟩
theorem k_neg (h : PE X e (L2.tUn (rU fun i => .int (-i)) (tM G W fa))) : PE X e (tM G W (e1 qNeg fa)) := h.wk fun σ H Q q => by
  refine (tMR.bind (Rel := RV G) (k := fun _ v h1 => qNeg v h1) q).imp fun x H1 ⟨m1, h1, v, σm, S1, R1, r1, p1⟩ => ?_
  cases v with
  | int i =>
    simp only [RV] at r1
    exact ⟨i, r1, RP.now p1 S1 (by simp [RV])⟩
  | _ => exact p1.elim
end
theorem k_op {X : Cx} {G : GC} {W : XW} {e : Expr} {fa fb : EM} {r : R2} {g : MV → MV → MH → Res MV} (hr : Op2 G r g) (h : PE X e (tOp r (tM G W fa) (tM G W fb))) : PE X e (tM G W (e2 g fa fb)) := h.wk fun _ _ _ q => tOp_of hr q
/-! ### data -/
section
variable {X : Cx} {G : GC} {W : XW} {m : List Addr} {h : MH} {H : Hp}
def toD : Nat → MH → MV → PyData
  | 0, _, _ => .none
  | f + 1, h, v => match v with
    | .non => .none
    | .bl b => .bool b
    | .int i => .int i
    | .str s => .str ⟨s.toArray⟩
    | .tup xs => .tuple (xs.map (toD f h))
    | .flst xs => .list (xs.map (toD f h))
    | .ref n => match h.get n with
      | some (.lst xs) => .list (xs.map (toD f h))
      | _ => .none
theorem datas_ok {f : Nat} (ih : ∀ (v : MV) (x : V), dataB f h v = true → RV G m H v x → Dp G.K H x (toD f h v) ∧ PyData.canLay0 (toD f h v) = true ∧ PyData.depth (toD f h v) ≤ f) :
    ∀ (xs : List MV) (us : List V), xs.all (dataB f h) = true → RVs G m H xs us → DpAll G.K H us (xs.map (toD f h)) ∧ PyData.canLayAll0 (xs.map (toD f h)) = true ∧ PyData.depthAll (xs.map (toD f h)) ≤ f
  | [], us, _, r => by
    rw [r.nil_inv]
    exact ⟨.nil, by simp [PyData.canLayAll0], by simp [PyData.depthAll]⟩
  | x :: xs, us, hd, r => by
    obtain ⟨y, ys, rfl, r1, r2⟩ := r.cons_inv
    rw [List.all_cons, Bool.and_eq_true] at hd
    obtain ⟨a1, a2, a3⟩ := ih x y hd.1 r1
    obtain ⟨b1, b2, b3⟩ := datas_ok ih xs ys hd.2 r2
    refine ⟨.cons a1 b1, ?_, ?_⟩
    · simp [PyData.canLayAll0, a2, b2]
    · simp only [List.map_cons, PyData.depthAll]
      omega
theorem sOk_iff {s : List Nat} (e : sOk s = true) : PyData.strOk ⟨s.toArray⟩ = true := by
  unfold sOk at e
  unfold PyData.strOk
  simp only [List.all_eq_true] at e
  simp only [Array.all_eq_true', List.mem_toArray, decide_eq_true_eq]
  exact fun c hc => Nat.le_of_ble_eq_true (e c hc)
theorem data_ok (S : Sim G m h H) : ∀ (f : Nat) (v : MV) (x : V), dataB f h v = true → RV G m H v x → Dp G.K H x (toD f h v) ∧ PyData.canLay0 (toD f h v) = true ∧ PyData.depth (toD f h v) ≤ f
  | 0, v, x, e, r => by simp [dataB] at e
  | f + 1, v, x, e, r => by
    have ih := data_ok S f
    cases v with
    | non => simp only [RV] at r; subst r; exact ⟨.non, by simp [toD, PyData.canLay0], by simp [toD, PyData.depth]⟩
    | bl b => simp only [RV] at r; subst r; exact ⟨.bl b, by simp [toD, PyData.canLay0], by simp [toD, PyData.depth]⟩
    | int i => simp only [RV] at r; subst r; exact ⟨.int i, by simp [toD, PyData.canLay0], by simp [toD, PyData.depth]⟩
    | str s =>
      simp only [RV] at r; subst r
      refine ⟨.str _, ?_, by simp [toD, PyData.depth]⟩
      show PyData.strOk _ = true
      exact sOk_iff e
    | tup xs =>
      simp only [RV] at r
      obtain ⟨a, us, rfl, ha, rs⟩ := r
      obtain ⟨b1, b2, b3⟩ := datas_ok ih xs us (by simpa [dataB] using e) rs
      exact ⟨.tup (SqT.of ha) b1, by simpa [toD, PyData.canLay0] using b2, by simp only [toD, PyData.depth]; omega⟩
    | flst xs =>
      simp only [RV] at r
      obtain ⟨a, us, rfl, ha, rs⟩ := r
      obtain ⟨b1, b2, b3⟩ := datas_ok ih xs us (by simpa [dataB] using e) rs
      exact ⟨.lst ha.sq b1, by simpa [toD, PyData.canLay0] using b2, by simp only [toD, PyData.depth]; omega⟩
    | ref n =>
      unfold dataB at e
      dsimp only at e
      cases eg : h.get n with
      | none => rw [eg] at e; cases e
      | some o =>
        rw [eg] at e
        cases o with
        | lst xs =>
          obtain ⟨a, us, _, rfl, ha, rs⟩ := S.lst eg r
          obtain ⟨b1, b2, b3⟩ := datas_ok ih xs us e rs
          have et : toD (f + 1) h (.ref n) = .list (xs.map (toD f h)) := by simp only [toD]; rw [eg]
          rw [et]
          exact ⟨.lst (SqL.of ha) b1, by simpa [PyData.canLay0] using b2, by simp only [PyData.depth]; omega⟩
        | _ => cases e
theorem beqN_iff : ∀ {a b : List Nat}, beqN a b = decide (a = b)
  | [], [] => rfl
  | [], _ :: _ => by simp [beqN]
  | _ :: _, [] => by simp [beqN]
  | x :: a, y :: b => by
    unfold beqN
    cases e : Nat.beq x y with
    | true =>
      have : x = y := Nat.eq_of_beq_eq_true e
      subst this
      simp [beqN_iff (a := a) (b := b)]
    | false =>
      have : x ≠ y := fun q => by rw [q, Nat.beq_refl] at e; cases e
      simp [this]
theorem all2_ok {f : Nat} (ih : ∀ v w : MV, dataB f h v = true → dataB f h w = true → PyData.eqv (toD f h v) (toD f h w) = eqB f h v w) :
    ∀ xs ys : List MV, xs.all (dataB f h) = true → ys.all (dataB f h) = true → PyData.eqvAll (xs.map (toD f h)) (ys.map (toD f h)) = all2 (eqB f h) xs ys
  | [], [], _, _ => by simp [PyData.eqvAll, all2]
  | [], _ :: _, _, _ => by simp [PyData.eqvAll, all2]
  | _ :: _, [], _, _ => by simp [PyData.eqvAll, all2]
  | x :: xs, y :: ys, e1, e2 => by
    rw [List.all_cons, Bool.and_eq_true] at e1 e2
    simp only [List.map_cons, PyData.eqvAll, all2]
    rw [ih x y e1.1 e2.1, all2_ok ih xs ys e1.2 e2.2]
    cases eqB f h x y <;> simp
theorem eq_ok : ∀ (f : Nat) (v w : MV), dataB f h v = true → dataB f h w = true → PyData.eqv (toD f h v) (toD f h w) = eqB f h v w
  | 0, v, w, e, _ => by simp [dataB] at e
  | f + 1, v, w, ev, ew => by
    have ih := all2_ok (f := f) (h := h) (eq_ok f)
    have gl : ∀ n : Nat, dataB (f + 1) h (.ref n) = true → ∃ xs, h.get n = some (.lst xs) ∧ xs.all (dataB f h) = true ∧ toD (f + 1) h (.ref n) = .list (xs.map (toD f h)) ∧ seqOf h (.ref n) = some xs := fun n e => by
      unfold dataB at e
      dsimp only at e
      cases eg : h.get n with
      | none => rw [eg] at e; cases e
      | some o =>
        rw [eg] at e
        cases o with
        | lst xs => exact ⟨xs, rfl, e, by simp only [toD]; rw [eg], by simp only [seqOf]; rw [eg]⟩
        | _ => cases e
    have gf : ∀ xs : List MV, dataB (f + 1) h (.flst xs) = true → xs.all (dataB f h) = true := fun xs e => by simpa [dataB] using e
    have gt : ∀ xs : List MV, dataB (f + 1) h (.tup xs) = true → xs.all (dataB f h) = true := fun xs e => by simpa [dataB] using e
    cases v with
    | non =>
      cases w with
      | ref n => obtain ⟨xs, e1, e2, e3, e4⟩ := gl n ew; rw [e3]; simp [toD, PyData.eqv, eqB, seqOf]
      | _ => simp [toD, PyData.eqv, eqB, seqOf]
    | bl b =>
      cases w with
      | ref n => obtain ⟨xs, e1, e2, e3, e4⟩ := gl n ew; rw [e3]; simp [toD, PyData.eqv, eqB, seqOf]
      | int j => cases b <;> simp [toD, PyData.eqv, eqB, seqOf, b2n] <;> rfl
      | bl c => simp [toD, PyData.eqv, eqB]
      | _ => simp [toD, PyData.eqv, eqB, seqOf]
    | int i =>
      cases w with
      | ref n => obtain ⟨xs, e1, e2, e3, e4⟩ := gl n ew; rw [e3]; simp [toD, PyData.eqv, eqB, seqOf]
      | bl c => cases c <;> simp [toD, PyData.eqv, eqB, seqOf, b2n] <;> rfl
      | int j => simp [toD, PyData.eqv, eqB]; rfl
      | _ => simp [toD, PyData.eqv, eqB, seqOf]
    | str s =>
      cases w with
      | ref n => obtain ⟨xs, e1, e2, e3, e4⟩ := gl n ew; rw [e3]; simp [toD, PyData.eqv, eqB, seqOf]
      | str t =>
        simp only [toD, PyData.eqv, eqB, beqN_iff]
        rw [Bool.eq_iff_iff]
        simp
      | _ => simp [toD, PyData.eqv, eqB, seqOf]
    | tup xs =>
      cases w with
      | ref n => obtain ⟨ys, e1, e2, e3, e4⟩ := gl n ew; rw [e3]; simp [toD, PyData.eqv, eqB, seqOf]
      | tup ys => simp only [toD, PyData.eqv, eqB]; exact ih xs ys (gt _ ev) (gt _ ew)
      | _ => simp [toD, PyData.eqv, eqB, seqOf]
    | flst xs =>
      cases w with
      | ref n =>
        obtain ⟨ys, e1, e2, e3, e4⟩ := gl n ew
        rw [e3]; simp only [toD, PyData.eqv, eqB]; rw [e4]; simp only [seqOf]
        exact ih xs ys (gf _ ev) e2
      | flst ys => simp only [toD, PyData.eqv, eqB, seqOf]; exact ih xs ys (gf _ ev) (gf _ ew)
      | _ => simp [toD, PyData.eqv, eqB, seqOf]
    | ref k =>
      obtain ⟨xs, d1, d2, d3, d4⟩ := gl k ev
      cases w with
      | ref n =>
        obtain ⟨ys, e1, e2, e3, e4⟩ := gl n ew
        rw [d3, e3]; simp only [PyData.eqv, eqB]; rw [e4, d4]
        exact ih xs ys d2 e2
      | flst ys => rw [d3]; simp only [toD, PyData.eqv, eqB]; rw [d4]; simp only [seqOf]; exact ih xs ys d2 (gf _ ew)
      | _ => rw [d3]; simp [toD, PyData.eqv, eqB, seqOf]
theorem shaped_ok {d : PyData} (h1 : PyData.canLay0 d = true) (h2 : PyData.depth d ≤ 20) : SeqAt.shaped d = true := by
  unfold SeqAt.shaped
  rw [h1, Bool.true_and]
  exact decide_eq_true (by omega)
theorem o_eq : Op2 G (rEqD G.K) qEq := by
  intro W m h H σ v w x y Q S r1 r2 p
  unfold qEq at p
  cases e : dataB 9 h v && dataB 9 h w with
  | false => rw [e] at p; exact p.elim
  | true =>
    rw [e] at p
    obtain ⟨a1, a2⟩ := Bool.and_eq_true_iff.mp e
    obtain ⟨b1, b2, b3⟩ := data_ok S 9 v x a1 r1
    obtain ⟨c1, c2, c3⟩ := data_ok S 9 w y a2 r2
    exact ⟨_, _, b1, c1, shaped_ok b2 (by omega), shaped_ok c2 (by omega), RP.now p S (by simp only [RV]; rw [eq_ok 9 v w a1 a2])⟩
theorem o_ne : Op2 G (rNeD G.K) qNe := by
  intro W m h H σ v w x y Q S r1 r2 p
  unfold qNe at p
  cases e : dataB 9 h v && dataB 9 h w with
  | false => rw [e] at p; exact p.elim
  | true =>
    rw [e] at p
    obtain ⟨a1, a2⟩ := Bool.and_eq_true_iff.mp e
    obtain ⟨b1, b2, b3⟩ := data_ok S 9 v x a1 r1
    obtain ⟨c1, c2, c3⟩ := data_ok S 9 w y a2 r2
    exact ⟨_, _, b1, c1, shaped_ok b2 (by omega), shaped_ok c2 (by omega), RP.now p S (by simp only [RV]; rw [eq_ok 9 v w a1 a2])⟩
/-- a list of data -/
theorem seq_data (S : Sim G m h H) {v : MV} {x : V} {ys : List MV} (es : seqOf h v = some ys) (r : RV G m H v x) (hd : ys.all (dataB 9 h) = true) :
    ∃ a, x = .ref a ∧ Dp G.K H x (.list (ys.map (toD 9 h))) ∧ SeqAt.shaped (.list (ys.map (toD 9 h))) = true := by
  have fin : ∀ (a : Addr) (us : List V), SqL G.K H a us → RVs G m H ys us → Dp G.K H (.ref a) (.list (ys.map (toD 9 h))) ∧ SeqAt.shaped (.list (ys.map (toD 9 h))) = true := fun a us q rs => by
    obtain ⟨b1, b2, b3⟩ := datas_ok (data_ok S 9) ys us hd rs
    refine ⟨.lst q b1, shaped_ok (by simpa [PyData.canLay0] using b2) ?_⟩
    simp only [PyData.depth]; omega
  cases v with
  | flst xs =>
    cases es
    simp only [RV] at r
    obtain ⟨a, us, rfl, ha, rs⟩ := r
    exact ⟨a, rfl, fin a us ha.sq rs⟩
  | ref n =>
    unfold seqOf at es
    dsimp only at es
    cases eg : h.get n with
    | none => rw [eg] at es; cases es
    | some o =>
      rw [eg] at es
      cases o with
      | lst xs =>
        cases es
        obtain ⟨a, us, _, rfl, ha, rs⟩ := S.lst eg r
        exact ⟨a, rfl, fin a us (SqL.of ha) rs⟩
      | _ => cases es
  | _ => cases es
theorem any_eq {v : MV} (hv : dataB 9 h v = true) : ∀ ys : List MV, ys.all (dataB 9 h) = true → ((ys.map (toD 9 h)).any fun z => PyData.eqv z (toD 9 h v)) = ys.any fun y => eqB 9 h y v
  | [], _ => rfl
  | y :: ys, e => by
    rw [List.all_cons, Bool.and_eq_true] at e
    rw [List.map_cons, List.any_cons, List.any_cons, any_eq hv ys e.2, eq_ok 9 y v e.1 hv]
theorem o_inL : Op2 G (rInD G.K) qInL := by
  intro W m h H σ v w x y Q S r1 r2 p
  unfold qInL at p
  cases es : seqOf h w with
  | none => rw [es] at p; exact p.elim
  | some ys =>
    rw [es] at p
    dsimp only at p
    cases e : dataB 9 h v && ys.all (dataB 9 h) with
    | false => rw [e] at p; exact p.elim
    | true =>
      rw [e] at p
      obtain ⟨a1, a2⟩ := Bool.and_eq_true_iff.mp e
      obtain ⟨b1, b2, b3⟩ := data_ok S 9 v x a1 r1
      obtain ⟨a, rfl, d1, d2⟩ := seq_data S es r2 a2
      exact ⟨_, _, b1, d1, shaped_ok b2 (by omega), d2, RP.now p S (by simp only [RV]; rw [any_eq a1 ys a2])⟩
theorem o_inS : Op2 G (fun x y H Q => ∃ (c : Nat) (z : PySem.Str), x = .str ⟨#[c]⟩ ∧ y = .str z ∧ Q (.bl (decide (c ∈ z.cps.toList))) H) qInS := by
  intro W m h H σ v w x y Q S r1 r2 p
  cases v with
  | str a =>
    cases a with
    | nil => exact p.elim
    | cons c r =>
      cases r with
      | cons _ _ => exact p.elim
      | nil =>
        cases w with
        | str s =>
          simp only [RV] at r1 r2
          refine ⟨c, _, r1, r2, RP.now p S ?_⟩
          simp only [RV]
          congr 1
          rw [Bool.eq_iff_iff]
          simp only [decide_eq_true_eq, List.any_eq_true]
          constructor
          · intro q; exact ⟨c, q, Nat.beq_refl c⟩
          · rintro ⟨d, q, e⟩
            have : d = c := Nat.eq_of_beq_eq_true e
            subst this; exact q
        | _ => exact p.elim
  | _ => exact p.elim
theorem o_isN : Op2 G (fun x y H Q => y = .non ∧ Q (.bl (decide (x = .non))) H) qIsN := by
  intro W m h H σ v w x y Q S r1 r2 p
  cases w with
  | non =>
    simp only [RV] at r2
    suffices p2 : RP G W (RV G) m H σ (Res.ok (MV.bl (decide (x = V.non))) h) Q from ⟨r2, RP.now p2 S (by simp [RV])⟩
    cases v with
    | non => simp only [RV] at r1; subst r1; exact p
    | bl _ => simp only [RV] at r1; subst r1; exact p
    | int _ => simp only [RV] at r1; subst r1; exact p
    | str _ => simp only [RV] at r1; subst r1; exact p
    | ref _ => simp only [RV] at r1; obtain ⟨_, _, rfl⟩ := r1; exact p
    | tup _ => simp only [RV] at r1; obtain ⟨_, _, rfl, _⟩ := r1; exact p
    | flst _ => simp only [RV] at r1; obtain ⟨_, _, rfl, _⟩ := r1; exact p
  | _ => exact p.elim
end
end KA
set_option autoImplicit false
set_option maxHeartbeats 200000
set_option maxRecDepth 512
set_option Elab.async false
set_option autoImplicit false
set_option linter.all false
set_option maxRecDepth 100000
set_option maxHeartbeats 400000
/-! KBlt: subscripts, slices, built-ins, methods of lists. -/
namespace KA
open PySem PySem.Spec PyProof.Rows L2
section
variable {X : Cx} {G : GC} {W : XW} {e : Expr} {fa fb : EM} {am : AM}
/-! ### subscripts -/
theorem ixM_eq (n : Nat) (i : Int) : ixM n i = ixN n i := by
  unfold ixM ixN
  by_cases h : 0 ≤ i
  · rw [decide_eq_true h, if_pos h]
    dsimp only
    by_cases c : i < n
    · rw [if_pos c, show Nat.blt i.toNat n = true from Nat.ble_eq_true_of_le (by omega)]
    · rw [if_neg c]
      cases q : Nat.blt i.toNat n with
      | false => rfl
      | true =>
        have : i.toNat < n := Nat.le_of_ble_eq_true q
        omega
  · rw [decide_eq_false h, if_neg h]
    dsimp only
    by_cases c : -(n : Int) ≤ i
    · rw [if_pos c, decide_eq_true c]
    · rw [if_neg c, decide_eq_false c]
theorem atM_of {m : List Addr} {H : Hp} {xs : List MV} {us : List V} {i : Int} {v : MV} (r : RVs G m H xs us) (e : atM xs i = some v) : ∃ u, atI us i = some u ∧ RV G m H v u := by
  unfold atM at e
  rw [ixM_eq] at e
  unfold atI
  rw [r.length]
  cases q : ixN xs.length i with
  | none => rw [q] at e; cases e
  | some j =>
    rw [q] at e
    obtain ⟨u, e1, e2⟩ := r.get e
    exact ⟨u, e1, e2⟩
/-- the list that a value is -/
theorem seq_sq {m : List Addr} {h : MH} {H : Hp} (S : Sim G m h H) {v : MV} {x : V} {ys : List MV} (es : seqOf h v = some ys) (r : RV G m H v x) :
    ∃ a us, x = .ref a ∧ SqL G.K H a us ∧ RVs G m H ys us := by
  cases v with
  | flst xs =>
    cases es
    simp only [RV] at r
    obtain ⟨a, us, rfl, ha, rs⟩ := r
    exact ⟨a, us, rfl, ha.sq, rs⟩
  | ref n =>
    unfold seqOf at es
    dsimp only at es
    cases eg : h.get n with
    | none => rw [eg] at es; cases es
    | some o =>
      rw [eg] at es
      cases o with
      | lst xs =>
        cases es
        obtain ⟨a, us, _, rfl, ha, rs⟩ := S.lst eg r
        exact ⟨a, us, rfl, SqL.of ha, rs⟩
      | _ => cases es
  | _ => cases es
abbrev rIxM (K : PySem.W.Frag) : R2 := fun x y H Q => rIxL K x y H Q ∨ rIxT K x y H Q
theorem ix_M : IxR X (rIxM X.K) := by
  intro value slice pins s σ H x y v u Q I rx ry h hs
  rcases h with h | h
  · exact ix_list value slice pins s σ H x y v u Q I rx ry h hs
  · exact ix_tup value slice pins s σ H x y v u Q I rx ry h hs
theorem o_ix : Op2 G (rIxM G.K) qIx := by
  intro W m h H σ v w x y Q S r1 r2 p
  unfold qIx at p
  cases w with
  | int i =>
    simp only [RV] at r2
    subst r2
    have byseq : ∀ xs, seqOf h v = some xs → RP G W (RV G) m H σ (match atM xs i with | some x => Res.ok x h | none => Res.bad) Q → rIxM G.K x (.int i) H Q := fun xs es p => by
      obtain ⟨a, us, rfl, sq, rs⟩ := seq_sq S es r1
      cases ea : atM xs i with
      | none => rw [ea] at p; exact False.elim p
      | some z =>
        rw [ea] at p
        obtain ⟨u, e1, e2⟩ := atM_of rs ea
        exact .inl ⟨a, us, i, u, rfl, rfl, sq, e1, RP.now p S e2⟩
    cases v with
    | tup xs =>
      dsimp only at p
      simp only [RV] at r1
      obtain ⟨a, us, rfl, ha, rs⟩ := r1
      cases ea : atM xs i with
      | none => rw [ea] at p; exact False.elim p
      | some z =>
        rw [ea] at p
        obtain ⟨u, e1, e2⟩ := atM_of rs ea
        exact .inr ⟨a, us, i, u, rfl, rfl, SqT.of ha, e1, RP.now p S e2⟩
    | flst xs => exact byseq xs rfl p
    | ref n =>
      dsimp only at p
      cases es : seqOf h (.ref n) with
      | none => rw [es] at p; exact False.elim p
      | some xs => rw [es] at p; exact byseq xs es p
    | _ => exact False.elim p
  | _ => exact False.elim p
/-! ### slices -/
theorem sIxM_eq (n d : Nat) (o : Option Int) : sIxM n d o = HT.sIx n d o := by
  cases o with
  | none => rfl
  | some v =>
    unfold sIxM HT.sIx
    dsimp only
    by_cases h : v < 0
    · rw [decide_eq_true h, if_pos h]
    · rw [decide_eq_false h, if_neg h]
theorem cut_of {m : List Addr} {H : Hp} {xs : List MV} {us : List V} (r : RVs G m H xs us) (lo hi : Option Int) : RVs G m H (cutM xs lo hi) (cutV us lo hi) := by
  unfold cutM cutV
  rw [sIxM_eq, sIxM_eq, r.length]
  exact (r.drop _).take _
def tPartM (G : GC) (W : XW) (o : Option EM) : TO := match o with
  | none => tNoPart
  | some f => tPart (tM G W f)
abbrev rSlM (K : PySem.W.Frag) : V → Option Int → Option Int → Hp → VK → Prop := fun x lo hi H Q => rSlL K x lo hi H Q ∨ rSlA K x lo hi H Q
theorem sl_M : SlR X (rSlM X.K) := sl_list.or sl_tupA
theorem part_of {α : Type} {o : Option EM} {σ : L2.St} {m : List Addr} {h : MH} {H : Hp} {σm : Sl} {k : Option Int → MH → Res α} {β : Type} {Rel : List Addr → Hp → α → β → Prop} {Q : β → Hp → Prop} (S : Sim G m h H) (R : RS G m H σm σ)
    (p : RP G W Rel m H σ ((match o with
      | none => Res.ok none h
      | some e => (e σm h).bind fun x h2 => match x with
        | .int i => Res.ok (some i) h2
        | _ => .bad).bind k) Q) :
    tPartM G W o σ H fun l H1 => ∃ m1 h1, Ex G m H m1 H1 ∧ Sim G m1 h1 H1 ∧ RP G W Rel m1 H1 σ (k l h1) Q := by
  cases o with
  | none => exact ⟨m, h, .refl, S, p⟩
  | some f =>
    have p2 : RP G W Rel m H σ ((f σm h).bind fun x h2 => (match x with
        | .int i => Res.ok (some i) h2
        | _ => .bad).bind k) Q := by
      cases ef : f σm h with
      | ok x h2 => dsimp only at p; rw [ef] at p; exact p
      | exc c v h2 => dsimp only at p; rw [ef] at p; exact p
      | bad => dsimp only at p; rw [ef] at p; exact p
    refine ⟨m, h, σm, S, R, (RP.bind (Rel := RV G) p2).imp fun x H1 ⟨m1, h1, v, x1, S1, r1, p1⟩ => ?_⟩
    cases v with
    | int i =>
      simp only [RV] at r1
      exact ⟨i, r1, m1, h1, x1, S1, p1⟩
    | _ => exact False.elim p1
theorem k_sl {lo hi : Option EM} {K : PySem.W.Frag} (hK : K = G.K) (h : PE X e (L2.tSl (rSlM K) (tM G W fa) (tPartM G W lo) (tPartM G W hi))) : PE X e (tM G W (eSl fa lo hi)) := h.wk fun σ H Q q => by
  subst hK
  refine (tMR.bind (Rel := RV G) (f := fa) (k := fun σ v h1 => (match lo with
    | none => Res.ok none h1
    | some e => (e σ h1).bind fun x h2 => match x with
      | .int i => Res.ok (some i) h2
      | _ => .bad).bind fun l h2 =>
  (match hi with
    | none => Res.ok none h2
    | some e => (e σ h2).bind fun x h3 => match x with
      | .int i => Res.ok (some i) h3
      | _ => .bad).bind fun u h3 => match v with
    | MV.tup xs => Res.ok (MV.tup (cutM xs l u)) h3
    | v => (match seqOf h3 v with
      | some xs => Res.ok (MV.ref h3.n) (h3.push (.lst (cutM xs l u)))
      | none => .bad)) q).imp fun x H1 ⟨m1, h1, v, σm, S1, R1, r1, p1⟩ => ?_
  have q2 := part_of S1 R1 p1
  have mono : ∀ {o : Option EM} {σ : L2.St} {H : Hp} {Q Q' : Option Int → Hp → Prop}, tPartM G W o σ H Q → (∀ l H, Q l H → Q' l H) → tPartM G W o σ H Q' := fun {o σ H Q Q'} q k => by
    cases o with
    | none => exact k _ _ q
    | some f => exact tMR.imp q fun x H ⟨i, e, q⟩ => ⟨i, e, k _ _ q⟩
  refine mono q2 fun l H2 ⟨m2, h2, x2, S2, p2⟩ => ?_
  have q3 := part_of S2 (R1.mono x2.toLe) p2
  refine mono q3 fun u H3 ⟨m3, h3, x3, S3, p3⟩ => ?_
  have r3 := (r1.mono x2.toLe).mono x3.toLe
  have byseq : ∀ xs, seqOf h3 v = some xs → RP G W (RV G) m3 H3 σ (.ok (.ref h3.n) (h3.push (.lst (cutM xs l u)))) Q → rSlM G.K x l u H3 Q := fun xs es p => by
    obtain ⟨a, us, rfl, sq, rs⟩ := seq_sq S3 es r3
    exact .inl ⟨a, us, rfl, sq, fun p' hp' => RP.newLst p S3 (cut_of rs l u) hp'⟩
  cases v with
  | tup xs =>
    simp only [RV] at r3
    obtain ⟨a, us, rfl, ha, rs⟩ := r3
    refine .inr ⟨a, us, rfl, SqT.of ha, fun hw => ?_, fun _ p' hp' => RP.newTup p3 S3 (cut_of rs l u) hp'⟩
    refine RP.now p3 S3 ?_
    have ec : cutM xs l u = xs := by
      unfold cutM
      rw [sIxM_eq, sIxM_eq, ← rs.length, hw.1, hw.2, List.drop_zero, Nat.sub_zero, rs.length, List.take_length]
    rw [ec]
    simp only [RV]
    exact ⟨a, us, rfl, ha, rs⟩
  | flst xs => exact byseq xs rfl p3
  | ref n =>
    dsimp only at p3
    cases es : seqOf h3 (.ref n) with
    | none => rw [es] at p3; exact False.elim p3
    | some xs => rw [es] at p3; exact byseq xs es p3
  | _ => exact False.elim p3
theorem k_rev {K : PySem.W.Frag} (hK : K = G.K) (h : PE X e (L2.tRevL K (tM G W fa))) : PE X e (tM G W (e1 qRev fa)) := h.wk fun σ H Q q => by
  subst hK
  refine (tMR.bind (Rel := RV G) (k := fun _ v h1 => qRev v h1) q).imp fun x H1 ⟨m1, h1, v, σm, S1, R1, r1, p1⟩ => ?_
  unfold qRev at p1
  cases es : seqOf h1 v with
  | none => rw [es] at p1; exact False.elim p1
  | some xs =>
    rw [es] at p1
    obtain ⟨a, us, rfl, sq, rs⟩ := seq_sq S1 es r1
    exact ⟨a, us, rfl, sq, fun p' hp' => RP.newLst p1 S1 rs.reverse hp'⟩
/-! ### built-ins -/
def CallG (G : GC) (r : List V → Hp → VK → Prop) (g : FM) : Prop :=
  ∀ (W : XW) (m : List Addr) (h : MH) (H : Hp) (σ : L2.St) (vs : List MV) (xs : List V) (Q : VK), Sim G m h H → RVs G m H vs xs → RP G W (RV G) m H σ (g vs h) Q → r xs H Q
theorem k_cb {r : List V → Hp → VK → Prop} {g : FM} (hr : CallG G r g) (h : PE X e (tCB r (tMA G W am))) : PE X e (tM G W (eA g am)) := h.wk fun σ H Q q =>
  (eA_of q).imp fun xs H1 ⟨m, h, vs, S, r, p⟩ => hr W m h H1 σ vs xs Q S r p
theorem one_inv {m : List Addr} {H : Hp} {v : MV} {xs : List V} (r : RVs G m H [v] xs) : ∃ x, xs = [x] ∧ RV G m H v x := by
  obtain ⟨y, ys, rfl, r1, r2⟩ := r.cons_inv
  rw [r2.nil_inv]
  exact ⟨y, rfl, r1⟩
theorem two_inv {m : List Addr} {H : Hp} {v w : MV} {xs : List V} (r : RVs G m H [v, w] xs) : ∃ x y, xs = [x, y] ∧ RV G m H v x ∧ RV G m H w y := by
  obtain ⟨y, ys, rfl, r1, r2⟩ := r.cons_inv
  obtain ⟨z, rfl, r3⟩ := one_inv r2
  exact ⟨y, z, rfl, r1, r3⟩
theorem call1 {r : List V → Hp → VK → Prop} {g : MV → MH → Res MV} (k : ∀ (W : XW) (m : List Addr) (h : MH) (H : Hp) (σ : L2.St) (v : MV) (x : V) (Q : VK), Sim G m h H → RV G m H v x → RP G W (RV G) m H σ (g v h) Q → r [x] H Q) : CallG G r (f1 g) := by
  intro W m h H σ vs xs Q S rr p
  cases vs with
  | nil => exact False.elim p
  | cons v rest =>
    cases rest with
    | cons _ _ => exact False.elim p
    | nil =>
      obtain ⟨x, rfl, r1⟩ := one_inv rr
      exact k W m h H σ v x Q S r1 p
theorem call2 {r : List V → Hp → VK → Prop} {g : MV → MV → MH → Res MV} (k : ∀ (W : XW) (m : List Addr) (h : MH) (H : Hp) (σ : L2.St) (v w : MV) (x y : V) (Q : VK), Sim G m h H → RV G m H v x → RV G m H w y → RP G W (RV G) m H σ (g v w h) Q → r [x, y] H Q) : CallG G r (f2 g) := by
  intro W m h H σ vs xs Q S rr p
  cases vs with
  | nil => exact False.elim p
  | cons v rest =>
    cases rest with
    | nil => exact False.elim p
    | cons w rest =>
      cases rest with
      | cons _ _ => exact False.elim p
      | nil =>
        obtain ⟨x, y, rfl, r1, r2⟩ := two_inv rr
        exact k W m h H σ v w x y Q S r1 r2 p
abbrev rLenM (K : PySem.W.Frag) : List V → Hp → VK → Prop := fun xs H Q => (∃ x n, xs = [x] ∧ LenV K x H n ∧ Q (.int n) H) ∨ ((∃ a kvs, xs = [V.ref a] ∧ H a = some (.dK kvs) ∧ Q (.int kvs.length) H) ∨ rLenT xs H Q)
theorem call_lenM : CallR X (.builtin "len") (rLenM X.K) := call_len.or (call_lenD.or call_len_dT)
theorem Sim.dct {m : List Addr} {h : MH} {H : Hp} (S : Sim G m h H) {n : Nat} {tk lk : Bool} {kvs : List (MV × MV)} {y : V} (e : h.get n = some (.dct tk lk kvs)) (r : RV G m H (.ref n) y) :
    ∃ a w, m[n]? = some a ∧ y = .ref a ∧ DctR G m H tk kvs w ∧ LkR lk (H a) w := by
  obtain ⟨a, ea, w, q, eh⟩ := S.at_ n _ e
  simp only [RV] at r
  obtain ⟨b, eb, rfl⟩ := r
  rw [ea] at eb
  cases eb
  exact ⟨a, w, ea, rfl, q, eh⟩
theorem c_len : CallG G (rLenM G.K) qLen := call1 fun W m h H σ v x Q S r1 p => by
  unfold qLen1 at p
  cases v with
  | str s =>
    simp only [RV] at r1
    subst r1
    dsimp only at p
    rcases lim_cases s.length (Res.ok (MV.int s.length) h) with ⟨z, e1⟩ | e1
    · rw [e1] at p
      exact .inl ⟨_, s.length, rfl, ⟨by rw [str_len, sizeLine_eq]; exact z, (str_len s).symm⟩, RP.now p S (by simp [RV])⟩
    · rw [e1] at p; exact False.elim p
  | tup ts =>
    simp only [RV] at r1
    obtain ⟨a, us, rfl, ha, rs⟩ := r1
    exact .inl ⟨_, ts.length, rfl, .inr ⟨us, SqT.of ha, rs.length.symm⟩, RP.now p S (by simp [RV])⟩
  | flst ts =>
    simp only [RV] at r1
    obtain ⟨a, us, rfl, ha, rs⟩ := r1
    exact .inl ⟨_, ts.length, rfl, .inl ⟨us, ha.sq, rs.length.symm⟩, RP.now p S (by simp [RV])⟩
  | ref n =>
    dsimp only at p
    cases eg : h.get n with
    | none => rw [eg] at p; exact False.elim p
    | some o =>
      rw [eg] at p
      cases o with
      | lst ts =>
        obtain ⟨a, us, _, rfl, ha, rs⟩ := S.lst eg r1
        exact .inl ⟨_, ts.length, rfl, .inl ⟨us, SqL.of ha, rs.length.symm⟩, RP.now p S (by simp [RV])⟩
      | dct tk lk kvs =>
        cases lk with
        | true => exact False.elim p
        | false =>
          obtain ⟨a, w, _, rfl, dr, eh⟩ := S.dct eg r1
          cases tk with
          | false =>
            obtain ⟨ps, rfl, pr⟩ := dr
            exact .inr (.inl ⟨a, ps, rfl, eh, RP.now p S (by simp only [RV]; rw [pr.length])⟩)
          | true =>
            obtain ⟨ps, rfl, pr⟩ := dr
            exact .inr (.inr ⟨a, ps, rfl, eh, RP.now p S (by simp only [RV]; rw [pr.length])⟩)
      | ins _ _ => exact False.elim p
  | non => exact False.elim p
  | bl _ => exact False.elim p
  | int _ => exact False.elim p
theorem c_max2 : CallG G (fun xs H Q => ∃ i j, xs = [.int i, .int j] ∧ Q (.int (if j > i then j else i)) H) qMax2 := call2 fun W m h H σ v w x y Q S r1 r2 p => by
  unfold qMax2' at p
  cases v with
  | int i =>
    cases w with
    | int j =>
      simp only [RV] at r1 r2
      subst r1 r2
      refine ⟨i, j, rfl, RP.now p S ?_⟩
      simp only [RV]
      by_cases c : i < j
      · rw [if_pos c, decide_eq_true c]
      · rw [if_neg c, decide_eq_false c]
    | _ => exact False.elim p
  | _ => exact False.elim p
theorem c_min2 : CallG G (fun xs H Q => ∃ i j, xs = [.int i, .int j] ∧ Q (.int (if j < i then j else i)) H) qMin2 := call2 fun W m h H σ v w x y Q S r1 r2 p => by
  unfold qMin2' at p
  cases v with
  | int i =>
    cases w with
    | int j =>
      simp only [RV] at r1 r2
      subst r1 r2
      refine ⟨i, j, rfl, RP.now p S ?_⟩
      simp only [RV]
      by_cases c : j < i
      · rw [if_pos c, decide_eq_true c]
      · rw [if_neg c, decide_eq_false c]
    | _ => exact False.elim p
  | _ => exact False.elim p
theorem bls_of {m : List Addr} {H : Hp} : ∀ {xs : List MV} {us : List V} {is : List Bool}, RVs G m H xs us → bls? xs = some is → us = is.map V.bl
  | [], us, is, r, e => by cases e; exact r.nil_inv
  | x :: xs, us, is, r, e => by
    obtain ⟨y, ys, rfl, r1, r2⟩ := r.cons_inv
    cases x with
    | bl i =>
      unfold bls? at e
      cases q : bls? xs with
      | none => rw [q] at e; cases e
      | some js =>
        rw [q] at e
        cases e
        simp only [RV] at r1
        rw [r1, bls_of r2 q]
        rfl
    | _ => cases e
theorem seq1_of {m : List Addr} {h : MH} {H : Hp} (S : Sim G m h H) {vs ys : List MV} {xs : List V} (r : RVs G m H vs xs) (e : seq1 h vs = some ys) : ∃ a us, xs = [.ref a] ∧ SqL G.K H a us ∧ RVs G m H ys us := by
  cases vs with
  | nil => cases e
  | cons v rest =>
    cases rest with
    | cons _ _ => cases e
    | nil =>
      obtain ⟨x, rfl, r1⟩ := one_inv r
      obtain ⟨a, us, rfl, q, rs⟩ := seq_sq S e r1
      exact ⟨a, us, rfl, q, rs⟩
theorem qBls_of {g : List Bool → Bool} {m : List Addr} {h : MH} {H : Hp} {σ : L2.St} {vs : List MV} {xs : List V} {Q : VK} (S : Sim G m h H) (r : RVs G m H vs xs) (p : RP G W (RV G) m H σ (qBls g vs h) Q) :
    ∃ a is, xs = [.ref a] ∧ SqL G.K H a (is.map V.bl) ∧ Q (.bl (g is)) H := by
  unfold qBls at p
  cases e1 : seq1 h vs with
  | none => rw [e1] at p; exact False.elim p
  | some ys =>
    rw [e1] at p
    dsimp only at p
    cases e2 : bls? ys with
    | none => rw [e2] at p; exact False.elim p
    | some is =>
      rw [e2] at p
      obtain ⟨a, us, rfl, q, rs⟩ := seq1_of S r e1
      rw [bls_of rs e2] at q
      exact ⟨a, is, rfl, q, RP.now p S (by simp [RV])⟩
theorem c_all : CallG G (rAll G.K) (qBls allB) := fun W m h H σ vs xs Q S r p => qBls_of S r p
theorem kr_rv {m : List Addr} {H : Hp} {v : MV} {k : Key} (r : KR v k) : RV G m H v (kV k) := by
  cases v with
  | int i => have e : k = .inl i := r; subst e; simp [RV, kV]
  | str s => have e : k = .inr ⟨s.toArray⟩ := r; subst e; simp [RV, kV]
  | _ => exact r.elim
/-! ### methods of lists -/
theorem tyL {K : PySem.W.Frag} {a : Addr} {us : List V} {H : Hp} (h : SqL K H a us) : tyV K "list" (.ref a) H := .inl ⟨rfl, us, h⟩
/-- o.m(e): the receiver is a list -/
def BmG (G : GC) (r : V → List V → Hp → VK → Prop) (g : MV → FM) : Prop :=
  ∀ (W : XW) (m : List Addr) (h : MH) (H : Hp) (σ : L2.St) (v : MV) (x : V) (vs : List MV) (xs : List V) (Q : VK), Sim G m h H → RV G m H v x → RVs G m H vs xs → RP G W (RV G) m H σ (g v vs h) Q → r x xs H Q
/-- eBm where the receiver must be a list ahead of the arguments -/
theorem k_bm {r : V → List V → Hp → VK → Prop} {g : MV → FM} {K : PySem.W.Frag} (hK : K = G.K) (hr : BmG G r g) (h : PE X e (L2.tBM K "list" r (tM G W fa) (tMA G W am))) : PE X e (tM G W (eBmL g fa am)) := h.wk fun σ H Q q => by
  subst hK
  refine (tMR.bind (Rel := RV G) (k := fun σ v h1 => match seqOf h1 v with | some _ => (am σ h1).bind fun vs h2 => g v vs h2 | none => .bad) q).imp fun x H1 ⟨m1, h1, v, σm, S1, R1, r1, p1⟩ => ?_
  cases es : seqOf h1 v with
  | none => rw [es] at p1; exact False.elim p1
  | some ys =>
    rw [es] at p1
    obtain ⟨a, us, rfl, sq, rs⟩ := seq_sq S1 es r1
    refine ⟨tyL sq, m1, h1, σm, S1, R1, (RP.bind (Rel := RVs G) p1).imp fun xs H2 ⟨m2, h2, vs, x2, S2, r2, p2⟩ => ?_⟩
    exact hr W m2 h2 H2 σ v _ vs xs Q S2 (r1.mono x2.toLe) r2 p2
theorem write_lst {m : List Addr} {h : MH} {H : Hp} {σ : L2.St} {n : Nat} {a : Addr} {us : List V} {ys : List MV} {ts : List V} {v : MV} {x : V} {Q : VK} (S : Sim G m h H) (ea : m[n]? = some a) (ha : H a = some (.lst us)) (r : RVs G m H ys ts) (rv : RV G m H v x)
    (p : RP G W (RV G) m H σ (.ok v (h.set n (.lst ys))) Q) : Q x (upd H a (.lst ts)) := by
  have pl : Plain (H a) := by rw [ha]; trivial
  have x1 : Ex G m H m (upd H a (.lst ts)) := .upd a _ pl (.inl (List.mem_of_getElem? ea))
  exact p m _ x x1 (S.write ea pl.l ⟨ts, rfl, r.mono x1.toLe⟩) (rv.mono x1.toLe)
/-- one argument -/
theorem bm1 {r : V → List V → Hp → VK → Prop} {g : MV → MV → MH → Res MV} (k : ∀ (W : XW) (m : List Addr) (h : MH) (H : Hp) (σ : L2.St) (v w : MV) (x y : V) (Q : VK), Sim G m h H → RV G m H v x → RV G m H w y → RP G W (RV G) m H σ (g v w h) Q → r x [y] H Q) : BmG G r (fun v => f1 (g v)) := by
  intro W m h H σ v x vs xs Q S r1 rr p
  cases vs with
  | nil => exact False.elim p
  | cons w rest =>
    cases rest with
    | cons _ _ => exact False.elim p
    | nil =>
      obtain ⟨y, rfl, r2⟩ := one_inv rr
      exact k W m h H σ v w x y Q S r1 r2 p
theorem b_append : BmG G rAppend qAppend := bm1 fun W m h H σ v y x u Q S r1 ru p => by
  cases v with
  | ref n =>
    dsimp only at p
    cases eg : h.get n with
    | none => rw [eg] at p; exact False.elim p
    | some o =>
      rw [eg] at p
      cases o with
      | lst ys =>
        dsimp only at p
        rcases lim_cases (ys.length + 1) (Res.ok MV.non (h.set n (.lst (ys ++ [y])))) with ⟨z, e1⟩ | e1
        · rw [e1] at p
          obtain ⟨a, us, ea, rfl, ha, rs⟩ := S.lst eg r1
          exact ⟨a, us, u, rfl, rfl, ha, by rw [rs.length, sizeLine_eq]; omega, write_lst (x := V.non) S ea ha (rs.append (.cons ru .nil)) (by simp [RV]) p⟩
        · rw [e1] at p; exact False.elim p
      | _ => exact False.elim p
  | _ => exact False.elim p
end
end KA
set_option autoImplicit false
set_option maxHeartbeats 200000
set_option maxRecDepth 512
set_option Elab.async false
set_option autoImplicit false
set_option linter.all false
set_option maxRecDepth 100000
set_option maxHeartbeats 400000
/-! KDct: dicts, locks, walks of dicts, isinstance. -/
namespace KA
open PySem PySem.Spec PyProof.Rows L2
section
variable {X : Cx} {G : GC} {W : XW} {e : Expr} {st : Stmt} {fa fb fc : EM} {am : AM} {sa : SM}
variable {m : List Addr} {h : MH} {H : Hp}
/-! ### keys -/
theorem keyA_kr {v : MV} (e : keyA v = true) : ∃ k, KR v k := by
  cases v with
  | int i => exact ⟨.inl i, rfl⟩
  | str s => exact ⟨.inr ⟨s.toArray⟩, rfl⟩
  | _ => cases e
theorem kr_rv' {v : MV} {k : Key} {x : V} (r : KR v k) (q : RV G m H v x) : x = kV k := by
  cases v with
  | int i => have e : k = .inl i := r; subst e; simp only [RV] at q; exact q
  | str s => have e : k = .inr ⟨s.toArray⟩ := r; subst e; simp only [RV] at q; exact q
  | _ => exact r.elim
theorem keyB1_eq {v w : MV} {k j : Key} (r : KR v k) (q : KR w j) : keyB1 v w = decide (k = j) := by
  cases v with
  | int i =>
    have e : k = .inl i := r; subst e
    cases w with
    | int i' =>
      have e : j = .inl i' := q; subst e
      show decide (i = i') = _
      rw [decide_eq_decide]; exact ⟨fun z => by rw [z], fun z => Sum.inl.inj z⟩
    | str s =>
      have e : j = .inr ⟨s.toArray⟩ := q; subst e
      exact (decide_eq_false (fun z => nomatch z)).symm
    | _ => exact q.elim
  | str s =>
    have e : k = .inr ⟨s.toArray⟩ := r; subst e
    cases w with
    | int i' =>
      have e : j = .inl i' := q; subst e
      exact (decide_eq_false (fun z => nomatch z)).symm
    | str s' =>
      have e : j = .inr ⟨s'.toArray⟩ := q; subst e
      show beqN s s' = _
      rw [beqN_iff, decide_eq_decide]
      exact ⟨fun z => by rw [z], fun z => by
        have := Sum.inr.inj z
        have e2 : s.toArray = s'.toArray := PySem.Str.mk.inj this
        simpa using e2⟩
    | _ => exact q.elim
  | _ => exact r.elim
theorem keyB_eq {v w : MV} {k j : Key} (r : KR v k) (q : KR w j) : keyB v w = decide (k = j) := by
  have e := keyB1_eq r q
  cases v with
  | int i => cases w with
    | tup _ => exact q.elim
    | _ => exact e
  | str s => cases w with
    | tup _ => exact q.elim
    | _ => exact e
  | _ => exact r.elim
theorem keysB_eq : ∀ {xs ys : List MV} {ks js : List Key}, Paired KR xs ks → Paired KR ys js → all2 keyB1 xs ys = decide (ks = js)
  | _, _, _, _, .nil, .nil => rfl
  | _, _, _, _, .nil, .cons _ _ => by simp [all2]
  | _, _, _, _, .cons _ _, .nil => by simp [all2]
  | _, _, k :: ks, j :: js, .cons r t, .cons r' t' => by
    unfold all2
    rw [keyB1_eq r r']
    by_cases c : k = j
    · subst c
      rw [decide_eq_true rfl]
      dsimp only
      rw [keysB_eq t t', decide_eq_decide]
      exact ⟨fun z => by rw [z], fun z => (List.cons.inj z).2⟩
    · rw [decide_eq_false c]
      dsimp only
      exact (decide_eq_false fun z => c (List.cons.inj z).1).symm
theorem keyBT_eq {v w : MV} {k j : List Key} (r : KRT v k) (q : KRT w j) : keyB v w = decide (k = j) := by
  cases v with
  | tup xs => cases w with
    | tup ys => exact keysB_eq r q
    | _ => exact q.elim
  | _ => exact r.elim
theorem keyT_kr : ∀ {xs : List MV}, xs.all keyA = true → ∃ ks, Paired KR xs ks
  | [], _ => ⟨[], .nil⟩
  | x :: xs, e => by
    rw [List.all_cons, Bool.and_eq_true] at e
    obtain ⟨k, r⟩ := keyA_kr e.1
    obtain ⟨ks, rs⟩ := keyT_kr e.2
    exact ⟨k :: ks, .cons r rs⟩
theorem krs_rv : ∀ {xs : List MV} {ks : List Key} {us : List V}, Paired KR xs ks → RVs G m H xs us → us = ks.map kV
  | _, _, us, .nil, r => r.nil_inv
  | _, _, us, .cons r t, q => by
    obtain ⟨y, ys, rfl, r1, r2⟩ := q.cons_inv
    rw [kr_rv' r r1, krs_rv t r2]
    rfl
theorem krt_rv {v : MV} {k : List Key} {x : V} (r : KRT v k) (q : RV G m H v x) : ∃ b, x = .ref b ∧ H b = some (.tup (k.map kV)) := by
  cases v with
  | tup xs =>
    simp only [RV] at q
    obtain ⟨a, us, rfl, ha, rs⟩ := q
    rw [krs_rv r rs] at ha
    exact ⟨a, rfl, ha⟩
  | _ => exact r.elim
section
variable {κ : Type} [DecidableEq κ] {R : MV → κ → Prop}
theorem dget_of (hB : ∀ {v w : MV} {k j : κ}, R v k → R w j → keyB v w = decide (k = j)) {y : MV} {k : κ} (ry : R y k) : ∀ {kvs : List (MV × MV)} {ps : List (κ × V)}, Paired (fun p q => R p.1 q.1 ∧ RV G m H p.2 q.2) kvs ps →
    (∀ v, dget y kvs = some v → ∃ x, valV ps k = some x ∧ RV G m H v x) ∧ (dget y kvs = none → valV ps k = none)
  | _, _, .nil => ⟨fun v e => (nomatch e), fun _ => rfl⟩
  | (j, v) :: kvs, (i, x) :: ps, .cons r t => by
    obtain ⟨h1, h2⟩ := dget_of hB ry t
    obtain ⟨r1, r2⟩ := r
    have e := hB r1 ry
    dsimp only at e
    by_cases c : i = k
    · rw [decide_eq_true c] at e
      refine ⟨fun v' q => ?_, fun q => ?_⟩
      · unfold dget at q
        rw [e] at q
        have : v = v' := Option.some.inj q
        subst this
        exact ⟨x, valV_pos c, r2⟩
      · unfold dget at q
        rw [e] at q
        cases q
    · rw [decide_eq_false c] at e
      refine ⟨fun v' q => ?_, fun q => ?_⟩
      · unfold dget at q
        rw [e] at q
        obtain ⟨x', a, b⟩ := h1 v' q
        exact ⟨x', by rw [valV_neg c]; exact a, b⟩
      · unfold dget at q
        rw [e] at q
        rw [valV_neg c]; exact h2 q
theorem dput_of (hB : ∀ {v w : MV} {k j : κ}, R v k → R w j → keyB v w = decide (k = j)) {y v : MV} {k : κ} {x : V} (ry : R y k) (rv : RV G m H v x) {kvs : List (MV × MV)} {ps : List (κ × V)} (pr : Paired (fun p q => R p.1 q.1 ∧ RV G m H p.2 q.2) kvs ps) :
    Paired (fun p q => R p.1 q.1 ∧ RV G m H p.2 q.2) (dput y v kvs) (putK ps k x) := by
  have ea : (kvs.any fun p => keyB p.1 y) = ps.any fun kv => decide (kv.1 = k) := by
    induction pr with
    | nil => rfl
    | @cons p q kvs ps r t ih => rw [List.any_cons, List.any_cons, ih, hB r.1 ry]
  unfold dput putK
  rw [ea]
  cases q : ps.any fun kv => decide (kv.1 = k) with
  | true =>
    rw [if_pos rfl]
    dsimp only
    clear ea q
    induction pr with
    | nil => exact .nil
    | @cons p q kvs ps r t ih =>
      rw [List.map_cons, List.map_cons]
      refine .cons ?_ ih
      rw [hB r.1 ry]
      by_cases c : q.1 = k
      · rw [decide_eq_true c, if_pos c]; exact ⟨r.1, rv⟩
      · rw [decide_eq_false c, if_neg c]; exact r
  | false =>
    rw [if_neg Bool.false_ne_true]
    dsimp only
    clear ea q
    induction pr with
    | nil => exact .cons ⟨ry, rv⟩ .nil
    | @cons p q kvs ps r t ih => exact .cons r ih
end
theorem dOf_of (S : Sim G m h H) {d : MV} {x : V} {tk : Bool} {kvs : List (MV × MV)} (e : dOf h d = some (tk, kvs)) (r : RV G m H d x) : ∃ a w, x = .ref a ∧ DctR G m H tk kvs w ∧ Rd H a w := by
  cases d with
  | ref n =>
    unfold dOf at e
    dsimp only at e
    cases eg : h.get n with
    | none => rw [eg] at e; cases e
    | some o =>
      rw [eg] at e
      cases o with
      | dct tk' lk kvs' =>
        cases e
        obtain ⟨a, w, _, rfl, dr, eh⟩ := S.dct eg r
        refine ⟨a, w, rfl, dr, ?_⟩
        cases lk with
        | false => exact .inl eh
        | true => exact .inr eh
      | _ => cases e
  | _ => cases e
/-- what a look gives -/
theorem look_of (S : Sim G m h H) {d y : MV} {a : Addr} {w : HO} {x : V} {tk : Bool} {kvs : List (MV × MV)} (dr : DctR G m H tk kvs w) (rd : Rd H a w) (ek : keyOk tk y = true) (r : RV G m H y x) :
    ∃ o, DGet H a x o ∧ (∀ v, dget y kvs = some v → ∃ u, o = some u ∧ RV G m H v u) ∧ (dget y kvs = none → o = none) := by
  cases tk with
  | false =>
    obtain ⟨ps, rfl, pr⟩ := dr
    obtain ⟨k, rk⟩ := keyA_kr ek
    obtain ⟨h1, h2⟩ := dget_of keyB_eq rk pr
    exact ⟨valV ps k, .inl ⟨ps, k, rd, kr_rv' rk r, rfl⟩, h1, h2⟩
  | true =>
    obtain ⟨ps, rfl, pr⟩ := dr
    cases y with
    | tup xs =>
      obtain ⟨ks, rk⟩ := keyT_kr ek
      obtain ⟨h1, h2⟩ := dget_of (R := KRT) keyBT_eq (y := .tup xs) rk pr
      obtain ⟨b, rfl, hb⟩ := krt_rv (v := .tup xs) rk r
      exact ⟨valV ps ks, .inr ⟨ps, ks, b, rd, rfl, hb, rfl⟩, h1, h2⟩
    | _ => cases ek
theorem k_dget (h : PE X e (L2.tDGet (tM G W fa) (tM G W fb))) : PE X e (tM G W (e2 qDget fa fb)) := h.wk fun σ H Q q => by
  refine (tMR.bind (Rel := RV G) (k := fun σ v h1 => (fb σ h1).bind fun w h2 => qDget v w h2) q).imp fun x H1 ⟨m1, h1, v, σm, S1, R1, r1, p1⟩ => ?_
  refine ⟨m1, h1, σm, S1, R1, (RP.bind (Rel := RV G) p1).imp fun y H2 ⟨m2, h2, w, x2, S2, r2, p2⟩ => ?_⟩
  unfold qDget at p2
  cases ed : dOf h2 v with
  | none => rw [ed] at p2; exact False.elim p2
  | some tkv =>
    obtain ⟨tk, kvs⟩ := tkv
    rw [ed] at p2
    dsimp only at p2
    cases ek : keyOk tk w with
    | false => rw [ek] at p2; exact False.elim p2
    | true =>
      rw [ek] at p2
      dsimp only at p2
      obtain ⟨a, u, rfl, dr, rd⟩ := dOf_of S2 ed (r1.mono x2.toLe)
      obtain ⟨o, g, h1', h2'⟩ := look_of (d := v) S2 dr rd ek r2
      cases eg : dget w kvs with
      | none => rw [eg] at p2; exact False.elim p2
      | some z =>
        rw [eg] at p2
        obtain ⟨t, rfl, rt⟩ := h1' z eg
        exact ⟨a, t, rfl, g, RP.now p2 S2 rt⟩
theorem k_dnew (h : PE X e L2.tDNewK) : PE X e (tM G W (eDNew false)) := h.wk fun σ H Q ⟨m, h, σm, S, R, p⟩ a ha => by
  have x : Ex G m H (m ++ [a]) (upd H a (.dK [])) := (Ex.upd a _ (plain_none ha) (.inr ha)).app ha
  refine p _ _ (.ref a) x (S.push ha ⟨.dK [], ⟨[], rfl, .nil⟩, rfl⟩) ?_
  simp only [RV]
  exact ⟨a, by rw [← S.len]; simp, rfl⟩
theorem js_dput (h : PS X st (sDPut (tM G W fa) (tM G W fb) (tM G W fc))) : PS X st (tMS G W (jDput fa fb fc)) := h.wk fun D σ H q => by
  refine (tMS.out (Rel := RV G) (k := fun σ v h1 => (fa σ h1).out σ fun x h2 => (fb σ h2).out σ fun y h3 => match x with
  | .ref n => (match h3.get n with
    | some (.dct tk lk kvs) => (match lk with
      | true => .bad
      | false => (match keyOk tk y && Nat.blt kvs.length 16777216 with
        | true => .nx σ (h3.set n (.dct tk false (dput y v kvs)))
        | false => .bad))
    | _ => .bad)
  | _ => .bad) q).imp fun v' H1 ⟨m1, h1, v, σm, S1, R1, r1, p1⟩ => ?_
  refine ⟨m1, h1, σm, S1, R1, (OP.out (Rel := RV G) R1 p1).imp fun x H2 ⟨m2, h2, xm, x2, S2, r2, p2⟩ => ?_⟩
  have R2' := R1.mono x2.toLe
  refine ⟨m2, h2, σm, S2, R2', (OP.out (Rel := RV G) R2' p2).imp fun y H3 ⟨m3, h3, ym, x3, S3, r3, p3⟩ => ?_⟩
  cases xm with
  | ref n =>
    dsimp only at p3
    cases eg : h3.get n with
    | none => rw [eg] at p3; exact False.elim p3
    | some o =>
      rw [eg] at p3
      cases o with
      | dct tk lk kvs =>
        dsimp only at p3
        cases lk with
        | true => exact False.elim p3
        | false =>
          dsimp only at p3
          cases ec : (keyOk tk ym && Nat.blt kvs.length 16777216) with
          | false => rw [ec] at p3; exact False.elim p3
          | true =>
            rw [ec] at p3
            obtain ⟨ek, el⟩ := Bool.and_eq_true_iff.mp ec
            have hl : kvs.length < 16777216 := Nat.le_of_ble_eq_true el
            obtain ⟨a, w, ea, rfl, dr, eh⟩ := S3.dct eg (r2.mono x3.toLe)
            have eh' : H3 a = some w := eh
            have rv3 := (r1.mono x2.toLe).mono x3.toLe
            have fin : ∀ (w' : HO), DctR G m3 H3 tk (dput ym v kvs) w' → Plain (H3 a) → D.nx σ (upd H3 a w') := fun w' dr' pl => by
              have x4 : Ex G m3 H3 m3 (upd H3 a w') := .upd a _ pl (.inl (List.mem_of_getElem? ea))
              exact p3 m3 _ σ x4 (S3.write ea pl.l ⟨w', dr'.mono x4.toLe, rfl⟩) ((R2'.mono x3.toLe).mono x4.toLe)
            cases tk with
            | false =>
              obtain ⟨ps, rfl, pr⟩ := dr
              obtain ⟨k, rk⟩ := keyA_kr ek
              have yk := kr_rv' rk r3
              subst yk
              refine ⟨a, _, rfl, DPut.k eh' (by rw [← pr.length, sizeLine_eq]; exact hl), fin _ ⟨_, rfl, dput_of keyB_eq rk rv3 pr⟩ (by rw [eh']; trivial)⟩
            | true =>
              obtain ⟨ps, rfl, pr⟩ := dr
              cases ym with
              | tup xs =>
                obtain ⟨ks, rk⟩ := keyT_kr ek
                obtain ⟨b, rfl, hb⟩ := krt_rv (v := .tup xs) rk r3
                refine ⟨a, _, rfl, DPut.t eh' hb (by rw [← pr.length, sizeLine_eq]; exact hl), fin _ ⟨_, rfl, dput_of (R := KRT) keyBT_eq (y := .tup xs) rk rv3 pr⟩ (by rw [eh']; trivial)⟩
              | _ => cases ek
      | _ => exact False.elim p3
  | _ => exact False.elim p3
/-! ### locks -/
theorem ps_lock2 {t : TS} (h : PS X st t) : PS X st (fun D σ H => t D σ H ∨ tLock t D σ H) := ⟨fun pins s σ H D I q => by
  rcases q with q | q
  · exact h.run pins s σ H D I q
  · exact (ps_lock h).run pins s σ H D I q⟩
theorem pe_lock2 {t : TE} (h : PE X e t) : PE X e (fun σ H Q => t σ H Q ∨ tLockE t σ H Q) := ⟨fun pins s σ H Q I q => by
  rcases q with q | q
  · exact h.run pins s σ H Q I q
  · exact (pe_lock h).run pins s σ H Q I q⟩
/-- the state behind the lock -/
theorem Sim.lock (S : Sim G m h H) {n : Nat} {a : Addr} {tk : Bool} {kvs : List (MV × MV)} {w : HO} (ea : m[n]? = some a) (dr : DctR G m H tk kvs w) (eh : H a = some w) (od : Obj) :
    Sim G m (h.set n (.dct tk true kvs)) (upd H a (.frz od w)) ∧ Ex G m H m (upd H a (.frz od w)) ∧ Mut (some w) := by
  have pl : Plain (H a) ∧ Mut (some w) := by
    rw [eh]
    cases tk with
    | false => obtain ⟨ps, rfl, _⟩ := dr; exact ⟨trivial, trivial⟩
    | true => obtain ⟨ps, rfl, _⟩ := dr; exact ⟨trivial, trivial⟩
  have x : Ex G m H m (upd H a (.frz od w)) := .upd a _ pl.1 (.inl (List.mem_of_getElem? ea))
  exact ⟨S.write ea pl.1.l ⟨w, dr.mono x.toLe, ⟨od, rfl⟩⟩, x, pl.2⟩
/-- .. and behind the unlocking -/
theorem Sim.unlock {m' : List Addr} {h' h2 : MH} {H' : Hp} {n : Nat} {a : Addr} {w : HO} {od : Obj} (S : Sim G m' h' H') (ea : m'[n]? = some a) (ef : H' a = some (.frz od w)) (e : unlockH n h' = some h2) :
    Sim G m' h2 (upd H' a w) ∧ Le G m' H' m' (upd H' a w) := by
  unfold unlockH at e
  cases eg : h'.get n with
  | none => rw [eg] at e; cases e
  | some o =>
    rw [eg] at e
    cases o with
    | dct tk lk kvs =>
      cases lk with
      | false => cases e
      | true =>
        cases e
        obtain ⟨b, eb, w', dr, eh⟩ := S.at_ n _ eg
        have hb : b = a := Option.some.inj (eb.symm.trans ea)
        subst hb
        obtain ⟨ob, eh⟩ := eh
        rw [ef] at eh
        cases eh
        have pl : PlainL (H' b) := by
          rw [ef]
          cases tk with
          | false => obtain ⟨ps, rfl, _⟩ := dr; trivial
          | true => obtain ⟨ps, rfl, _⟩ := dr; trivial
        have le : Le G m' H' m' (upd H' b w) := .upd b _ pl
        exact ⟨S.write ea pl ⟨w, dr.mono le, rfl⟩, le⟩
    | _ => cases e
theorem ex_unlock {m m' : List Addr} {H H' : Hp} {a : Addr} {w : HO} {od : Obj} (hm : a ∈ m) (mu : Mut (some w)) (eh : H a = some w) (x : Ex G m (upd H a (.frz od w)) m' H') (le : Le G m' H' m' (upd H' a w)) (x0 : Le G m H m (upd H a (.frz od w))) : Ex G m H m' (upd H' a w) := by
  refine ⟨(x0.trans x.toLe).trans le, fun b o u q => ?_, fun b hb nb => ?_, fun b nb hb nt => ?_⟩
  · have ne : b ≠ a := by
      rintro rfl
      rw [eh] at q
      cases q
      exact mu
    have q2 := x.frd b o u (by rw [upd_ne ne]; exact q)
    rw [upd_ne ne]; exact q2
  · have ne : b ≠ a := fun z => nb (z ▸ hm)
    have := x.new b hb nb
    rw [upd_ne ne] at this; exact this
  · have ne : b ≠ a := fun z => nb (z ▸ hm)
    have := x.out b nb (by rw [upd_ne ne]; exact hb) (by rw [upd_ne ne]; exact nt)
    rw [upd_ne ne] at this
    rw [upd_ne ne]; exact this
theorem js_lock {fp : EM} (hp : ∀ (m : List Addr) (h : MH) (H : Hp) (σm : Sl) (σ : L2.St) (v : MV) (h' : MH), Sim G m h H → RS G m H σm σ → fp σm h = .ok v h' → ∃ x, RV G m H v x) (h : PS X st (tMS G W0 sa)) : PS X st (tMS G W0 (jLock fp sa)) := (ps_lock2 h).wk fun D σ H ⟨m, h, σm, S, R, p⟩ => by
  unfold jLock at p
  cases ep : fp σm h with
  | exc c v h' => rw [ep] at p; exact False.elim p
  | bad => rw [ep] at p; exact False.elim p
  | ok v h' =>
    rw [ep] at p
    dsimp only at p
    cases v with
    | ref n =>
      dsimp only at p
      cases eg : h.get n with
      | none => rw [eg] at p; exact False.elim p
      | some o =>
        rw [eg] at p
        cases o with
        | dct tk lk kvs =>
          dsimp only at p
          cases lk with
          | true => exact .inl ⟨m, h, σm, S, R, p⟩
          | false =>
            right
            obtain ⟨a, ea, w, dr, eh⟩ := S.at_ n _ eg
            have eh' : H a = some w := eh
            obtain ⟨_, _, mu⟩ := S.lock ea dr eh' default
            refine ⟨a, w, eh', mu, fun od => ?_⟩
            obtain ⟨S1, x1, _⟩ := S.lock ea dr eh' od
            refine ⟨m, _, σm, S1, R.mono x1.toLe, ?_⟩
            have hm : a ∈ m := List.mem_of_getElem? ea
            have frz0 : upd H a (.frz od w) a = some (.frz od w) := upd_same
            cases eo : sa σm (h.set n (.dct tk true kvs)) with
            | nx σ1 h1 =>
              dsimp only at p
              rw [eo] at p
              unfold unlockO at p
              dsimp only at p
              cases eu : unlockH n h1 with
              | none => rw [eu] at p; exact False.elim p
              | some h2 =>
                rw [eu] at p
                intro m' H' s x S' R'
                have ef := x.frd a od w frz0
                obtain ⟨S2, le⟩ := S'.unlock (x.toLe.ix ea) ef eu
                exact ⟨ef, p m' _ s (ex_unlock hm mu eh' x le x1.toLe) S2 (R'.mono le)⟩
            | rt v1 h1 =>
              dsimp only at p
              rw [eo] at p
              unfold unlockO at p
              dsimp only at p
              cases eu : unlockH n h1 with
              | none => rw [eu] at p; exact False.elim p
              | some h2 =>
                rw [eu] at p
                intro m' H' s x S' R'
                have ef := x.frd a od w frz0
                obtain ⟨S2, le⟩ := S'.unlock (x.toLe.ix ea) ef eu
                exact ⟨ef, p m' _ s (ex_unlock hm mu eh' x le x1.toLe) S2 (R'.mono le)⟩
            | bk σ1 h1 =>
              dsimp only at p
              rw [eo] at p
              unfold unlockO at p
              dsimp only at p
              cases eu : unlockH n h1 with
              | none => rw [eu] at p; exact False.elim p
              | some h2 =>
                rw [eu] at p
                intro m' H' s x S' R'
                have ef := x.frd a od w frz0
                obtain ⟨S2, le⟩ := S'.unlock (x.toLe.ix ea) ef eu
                exact ⟨ef, p m' _ s (ex_unlock hm mu eh' x le x1.toLe) S2 (R'.mono le)⟩
            | ct σ1 h1 =>
              dsimp only at p
              rw [eo] at p
              unfold unlockO at p
              dsimp only at p
              cases eu : unlockH n h1 with
              | none => rw [eu] at p; exact False.elim p
              | some h2 =>
                rw [eu] at p
                intro m' H' s x S' R'
                have ef := x.frd a od w frz0
                obtain ⟨S2, le⟩ := S'.unlock (x.toLe.ix ea) ef eu
                exact ⟨ef, p m' _ s (ex_unlock hm mu eh' x le x1.toLe) S2 (R'.mono le)⟩
            | exc c v σ1 h1 => dsimp only at p; rw [eo] at p; exact False.elim p
            | bad => dsimp only at p; rw [eo] at p; exact False.elim p
        | _ => exact False.elim p
    | _ => exact False.elim p
theorem ke_lock {fp : EM} (h : PE X e (tM G W0 fa)) : PE X e (tM G W0 (eLock fp fa)) := (pe_lock2 h).wk fun σ H Q ⟨m, h, σm, S, R, p⟩ => by
  unfold eLock at p
  cases ep : fp σm h with
  | exc c v h' => rw [ep] at p; exact False.elim p
  | bad => rw [ep] at p; exact False.elim p
  | ok v h' =>
    rw [ep] at p
    dsimp only at p
    cases v with
    | ref n =>
      dsimp only at p
      cases eg : h.get n with
      | none => rw [eg] at p; exact False.elim p
      | some o =>
        rw [eg] at p
        cases o with
        | dct tk lk kvs =>
          dsimp only at p
          cases lk with
          | true => exact .inl ⟨m, h, σm, S, R, p⟩
          | false =>
            right
            obtain ⟨a, ea, w, dr, eh⟩ := S.at_ n _ eg
            have eh' : H a = some w := eh
            obtain ⟨_, _, mu⟩ := S.lock ea dr eh' default
            refine ⟨a, w, eh', mu, fun od => ?_⟩
            obtain ⟨S1, x1, _⟩ := S.lock ea dr eh' od
            refine ⟨m, _, σm, S1, R.mono x1.toLe, ?_⟩
            have hm : a ∈ m := List.mem_of_getElem? ea
            have frz0 : upd H a (.frz od w) a = some (.frz od w) := upd_same
            cases eo : fa σm (h.set n (.dct tk true kvs)) with
            | ok v1 h1 =>
              dsimp only at p
              rw [eo] at p
              unfold unlockR at p
              dsimp only at p
              cases eu : unlockH n h1 with
              | none => rw [eu] at p; exact False.elim p
              | some h2 =>
                rw [eu] at p
                intro m' H' s x S' R'
                have ef := x.frd a od w frz0
                obtain ⟨S2, le⟩ := S'.unlock (x.toLe.ix ea) ef eu
                exact ⟨ef, p m' _ s (ex_unlock hm mu eh' x le x1.toLe) S2 (R'.mono le)⟩
            | exc c v h1 => dsimp only at p; rw [eo] at p; exact False.elim p
            | bad => dsimp only at p; rw [eo] at p; exact False.elim p
        | _ => exact False.elim p
    | _ => exact False.elim p
end
end KA
set_option autoImplicit false
set_option maxHeartbeats 200000
set_option maxRecDepth 512
set_option Elab.async false
set_option autoImplicit false
set_option linter.all false
set_option maxRecDepth 100000
set_option maxHeartbeats 400000
/-! KComp: comprehensions. -/
namespace KA
open PySem PySem.Spec PyProof.Rows L2
theorem Res.bind_assoc {α β γ : Type} (r : Res α) (f : α → MH → Res β) (g : β → MH → Res γ) : (r.bind f).bind g = r.bind fun a h => (f a h).bind g := by cases r <;> rfl
theorem RS.wipes {G : GC} {m : List Addr} {H : Hp} {σm : Sl} {σ : L2.St} (R : RS G m H σm σ) : ∀ vs : List Nat, RS G m H (wipeM σm vs) (L2.wipe σ vs)
  | [] => R
  | v :: vs => (RS.wipes R vs).wipe v
theorem tYes_of {G : GC} {W : XW} {σ : L2.St} {H : Hp} {Q : Bool → Hp → Prop} (q : tMT G W cYes σ H Q) : L2.tYes σ H Q := by
  obtain ⟨m, h, σm, S, R, p⟩ := q
  exact RP.now (y := true) p S rfl
theorem pts_wk {X : Cx} {ifs : List Expr} {t t' : TT} (h : PTs X ifs t) (k : ∀ σ H Q, t' σ H Q → t σ H Q) : PTs X ifs t' := ⟨fun pins s σ H Q I q => h.run pins s σ H Q I (k σ H Q q)⟩
theorem kts_nil {X : Cx} {G : GC} {W : XW} : PTs X [] (tMT G W cYes) := pts_wk pts_nil fun _ _ _ q => tYes_of q
/-- one part from where it stands, the rest told of an earlier state -/
theorem RP.part {G : GC} {α β γ δ : Type} {Rel : List Addr → Hp → α → β → Prop} {Rel' : List Addr → Hp → γ → δ → Prop} {m1 m2 : List Addr} {H1 H2 : Hp} {σ σ' : L2.St} {r : Res α} {k : α → MH → Res γ} {Q : δ → Hp → Prop} (p : RP G W0 Rel' m1 H1 σ (r.bind k) Q) (x : Ex G m1 H1 m2 H2) :
    RP G W0 Rel m2 H2 σ' r (fun y H3 => ∃ m3 h3 v, Ex G m2 H2 m3 H3 ∧ Sim G m3 h3 H3 ∧ Rel m3 H3 v y ∧ RP G W0 Rel' m1 H1 σ (k v h3) Q) := by
  cases r with
  | ok v h => exact fun m' H' y e s q => ⟨m', h, v, e, s, q, p⟩
  | exc c v h => exact fun m' H' d e s q => p m' H' d (x.trans e) s q
  | bad => exact p
theorem Plain.le {G : GC} {m : List Addr} {H : Hp} {D : Addr} {w : HO} (e : H D = some w) (pl : Plain (some w)) (o : HO) : Ef G m H m (upd H D o) := by
  have pl' : Plain (H D) := by rw [e]; exact pl
  refine ⟨.upd D o pl'.l, fun b ob u q => ?_⟩
  have ne : b ≠ D := fun z => by
    rw [z, e] at q
    cases q
    exact pl
  rw [upd_ne ne]; exact q
/-- the new container at D: what is tracked stands, D is told beside -/
structure LI {A : Type} (G : GC) (CR : List Addr → Hp → A → HO → Prop) (m1 : List Addr) (H1 : Hp) (D : Addr) (acc : A) (h : MH) (m : List Addr) (H : Hp) : Prop where
  x : Ex G m1 H1 m H
  S : Sim G m h H
  nD : D ∉ m
  at_ : ∃ w, H D = some w ∧ CR m H acc w
structure CRok {A : Type} (G : GC) (CR : List Addr → Hp → A → HO → Prop) : Prop where
  mono : ∀ {m H m' H' a w}, CR m H a w → Le G m H m' H' → CR m' H' a w
  plain : ∀ {m H a w}, CR m H a w → Plain (some w)
section
variable {A : Type} {G : GC} {CR : List Addr → Hp → A → HO → Prop} {m1 m m' : List Addr} {H1 H H' : Hp} {D : Addr} {acc : A} {h h' : MH}
theorem LI.step (L : LI G CR m1 H1 D acc h m H) (ok : CRok G CR) (x : Ex G m H m' H') (S : Sim G m' h' H') : LI G CR m1 H1 D acc h' m' H' := by
  obtain ⟨w, e, r⟩ := L.at_
  have ne : H D ≠ none := by rw [e]; exact fun q => nomatch q
  exact ⟨L.x.trans x, S, fun q => by
    obtain ⟨ps, rfl⟩ := x.new D q L.nD w e
    exact ok.plain r, w, (x.out D L.nD ne (by rw [e]; exact fun ps z => by have pl := ok.plain r; rw [Option.some.inj z] at pl; exact pl)).trans e, ok.mono r x.toLe⟩
theorem LI.put (L : LI G CR m1 H1 D acc h m H) (ok : CRok G CR) (hD : H1 D = none) {acc' : A} {w w' : HO} (e : H D = some w) (r' : CR m H acc' w') : LI G CR m1 H1 D acc' h m (upd H D w') ∧ Ef G m H m (upd H D w') := by
  obtain ⟨w0, e0, r0⟩ := L.at_
  have ew : w0 = w := Option.some.inj (e0.symm.trans e)
  subst ew
  have ef : Ef G m H m (upd H D w') := Plain.le e (ok.plain r0) w'
  have pl : PlainL (H D) := by rw [e]; exact Plain.l (ok.plain r0)
  refine ⟨⟨⟨(L.x.toLe.trans ef.toLe), fun b o u q => ef.frd b o u (L.x.frd b o u q), L.x.new, fun b n z nt => ?_⟩, ⟨L.S.len, L.S.nd, fun i u eu => ?_, fun a ha => ?_, tabs_upd L.S.tb pl, fun a ha => ?_⟩, L.nD, w', upd_same, ok.mono r' ef.toLe⟩, ef⟩
  · have ne : b ≠ D := fun q => z (by rw [q]; exact hD)
    rw [upd_ne ne]; exact L.x.out b n z nt
  · obtain ⟨a, ea, r⟩ := L.S.at_ i u eu
    have ne : a ≠ D := fun q => L.nD (q ▸ List.mem_of_getElem? ea)
    exact ⟨a, ea, by rw [upd_ne ne]; exact r.mono ef.toLe⟩
  · have ne : a ≠ D := fun q => L.nD (q ▸ ha)
    rw [upd_ne ne]; exact L.S.trk a ha
  · have ne : a ≠ D := fun q => L.nD (q ▸ ha)
    rw [upd_ne ne]; exact L.S.trt a ha
theorem wipe_idem {σ : L2.St} {vs : List Nat} : wipe (wipe σ vs) vs = wipe σ vs := by
  have idem : ∀ (ws : List Nat) (s : L2.St), (∀ v ∈ ws, s[v]? = some none ∨ s[v]? = none) → wipe s ws = s := by
    intro ws
    induction ws with
    | nil => intro s _; rfl
    | cons w ws ih =>
      intro s hs
      show (wipe s ws).set w none = s
      rw [ih s fun v hv => hs v (List.mem_cons_of_mem _ hv)]
      rcases hs w (List.mem_cons_self ..) with q | q
      · apply List.ext_getElem?
        intro j
        by_cases c : w = j
        · subst c
          rw [List.getElem?_set_self (List.getElem?_eq_some_iff.mp q).1, q]
        · rw [List.getElem?_set_ne c]
      · rw [List.set_eq_of_length_le (List.getElem?_eq_none_iff.mp q)]
  refine idem vs _ fun v hv => ?_
  cases q : (wipe σ vs)[v]? with
  | none => exact .inr rfl
  | some u =>
    cases u with
    | none => exact .inl rfl
    | some z => exact absurd hv (wipe_some q).2
end
/-- the loop of a comprehension -/
theorem acc_loop {A : Type} {G : GC} {CR : List Addr → Hp → A → HO → Prop} (ok : CRok G CR) {m1 ms m0 : List Addr} {H1 Hs H0 : Hp} {D : Addr} (hD : H1 D = none) {k : Wk} {J : It} (r1 : WkR G ms Hs k J) {p : Pt} {t : TM} {b : Sl → A → MH → Res A} {σ σ0 : L2.St} {σm : Sl} {vs : List Nat} (hp : ∀ i ∈ p.slots, i ∈ vs)
    (R1 : RS G ms Hs σm σ) {K : A → MH → Res MV} {Q : VK} {acc0 : A} {h0 : MH} (L0 : LI G CR m1 H1 D acc0 h0 m0 H0) (e0 : Ef G ms Hs m0 H0) (p0 : RP G W0 (RV G) m1 H1 σ0 ((accL k p t b (wipeM σm vs) k.n 0 acc0 h0).bind K) Q)
    {B : L2.St → Hp → (Hp → Prop) → Prop} (hB : ∀ (σ2 : L2.St) (m : List Addr) (h : MH) (H : Hp) (acc : A) (σ3 : Sl) (Kc : A → MH → Res MV) (Nx : Hp → Prop), LI G CR m1 H1 D acc h m H → RS G m H σ3 σ2 → RP G W0 (RV G) m1 H1 σ0 ((b σ3 acc h).bind Kc) Q →
      (∀ m' h' H' acc', LI G CR m1 H1 D acc' h' m' H' → Ef G m H m' H' → RP G W0 (RV G) m1 H1 σ0 (Kc acc' h') Q → Nx H') → B σ2 H Nx)
    {Qe : Hp → Prop} (hQ : ∀ m h H acc, LI G CR m1 H1 D acc h m H → Ef G ms Hs m H → RP G W0 (RV G) m1 H1 σ0 (K acc h) Q → Qe H) :
    ∃ W : Nat → Nat → Hp → Prop, (∃ n, W 0 n H0) ∧ ∀ i n H, W i n H → (J.stop i H ∧ Qe H) ∨ (J.go i H ∧ ∃ Nx : Hp → Prop, (∀ H', Nx H' → ∃ n', n' < n ∧ W (i + 1) n' H') ∧ ∀ x H', J.yld i H x H' → gP G p x (wipe σ vs) H' fun σ2 H2 => wipe σ2 vs = wipe σ vs ∧ tMT G W0 t σ2 H2 fun c H3 => if c = true then B σ2 H3 Nx else Nx H3) := by
  refine ⟨fun i n H => ∃ m h acc, LI G CR m1 H1 D acc h m H ∧ Ef G ms Hs m H ∧ i + n = k.n ∧ RP G W0 (RV G) m1 H1 σ0 ((accL k p t b (wipeM σm vs) n i acc h).bind K) Q, ⟨k.n, m0, h0, acc0, L0, e0, Nat.zero_add _, p0⟩, ?_⟩
  rintro i n H2 ⟨m2, h2, acc, L2, e2, hn, p2⟩
  cases n with
  | zero =>
    left
    unfold accL at p2
    cases ef : k.fin h2 with
    | false => rw [ef] at p2; exact False.elim p2
    | true =>
      rw [ef] at p2
      have hi : i = k.n := by omega
      subst hi
      exact ⟨r1.fin m2 h2 H2 e2 L2.S ef, hQ m2 h2 H2 acc L2 e2 p2⟩
  | succ n =>
    right
    unfold accL at p2
    cases ea : k.at_ i h2 with
    | none => rw [ea] at p2; exact False.elim p2
    | some v =>
      rw [ea] at p2
      dsimp only at p2
      obtain ⟨go, yld⟩ := r1.item m2 h2 H2 i v e2 L2.S (by omega) ea
      refine ⟨go, fun H => ∃ m h acc, LI G CR m1 H1 D acc h m H ∧ Ef G ms Hs m H ∧ (i + 1) + n = k.n ∧ RP G W0 (RV G) m1 H1 σ0 ((accL k p t b (wipeM σm vs) n (i + 1) acc h).bind K) Q, fun H' q => ⟨n, Nat.lt_succ_self n, q⟩, fun x H' y => ?_⟩
      obtain ⟨x3, S3, r3⟩ := yld x H' y
      cases eg : asg p v (wipeM σm vs) with
      | none => rw [eg] at p2; exact False.elim p2
      | some σ3 =>
        rw [eg] at p2
        dsimp only at p2
        have L3 := L2.step ok x3 S3
        have e3 := e2.trans x3.ef
        have R3 : RS G m2 H' (wipeM σm vs) (wipe σ vs) := (R1.mono e3.toLe).wipes vs
        refine ⟨m2, h2, v, wipeM σm vs, σ3, S3, R3, r3, eg, fun σ' R' wp => ⟨?_, ?_⟩⟩
        · rw [wp vs hp]; exact wipe_idem
        · rw [Res.bind_assoc] at p2
          refine ⟨m2, h2, σ3, S3, R', (RP.part (Rel := fun _ _ (a b : Bool) => b = a) p2 L3.x).imp fun c H4 ⟨m4, h4, c', x4, S4, r4, p4⟩ => ?_⟩
          subst r4
          have L4 := L3.step ok x4 S4
          cases c with
          | false => exact iteF ⟨m4, h4, acc, L4, e3.trans x4.ef, by omega, p4⟩
          | true =>
            dsimp only at p4
            rw [Res.bind_assoc] at p4
            exact iteT (hB σ' m4 h4 H4 acc σ3 _ _ L4 (R'.mono x4.toLe) p4 fun m5 h5 H5 acc5 L5 e5 p5 => ⟨m5, h5, acc5, L5, (e3.trans x4.ef).trans e5, by omega, p5⟩)
/-! ### lists -/
def LstC (G : GC) (m : List Addr) (H : Hp) (acc : Nat × List MV) (w : HO) : Prop := ∃ ys, w = .lst ys ∧ RVs G m H acc.2.reverse ys ∧ acc.2.length = acc.1
theorem lst_ok {G : GC} : CRok G (LstC G) := ⟨fun ⟨ys, e, r, l⟩ x => ⟨ys, e, r.mono x, l⟩, fun ⟨ys, e, _⟩ => by rw [e]; trivial⟩
section
variable {X : Cx} {G : GC} {e : Expr} {fe fk : EM} {tt tt1 : TM} {w w1 : WM} {p p1 : Pt}
theorem bE_of {m1 : List Addr} {H1 : Hp} {D : Addr} (hD : H1 D = none) {σ0 : L2.St} {Q : VK} (σ2 : L2.St) (m : List Addr) (h : MH) (H : Hp) (acc : Nat × List MV) (σ3 : Sl) (Kc : Nat × List MV → MH → Res MV) (Nx : Hp → Prop) (L : LI G (LstC G) m1 H1 D acc h m H) (R : RS G m H σ3 σ2) (p : RP G W0 (RV G) m1 H1 σ0 ((bE fe σ3 acc h).bind Kc) Q)
    (hN : ∀ m' h' H' acc', LI G (LstC G) m1 H1 D acc' h' m' H' → Ef G m H m' H' → RP G W0 (RV G) m1 H1 σ0 (Kc acc' h') Q → Nx H') : tM G W0 fe σ2 H fun y H4 => ∃ acc, H4 D = some (.lst acc) ∧ acc.length < sizeLine ∧ Nx (upd H4 D (.lst (acc ++ [y]))) := by
  unfold bE at p
  rw [Res.bind_assoc] at p
  refine ⟨m, h, σ3, L.S, R, (RP.part (Rel := RV G) p L.x).imp fun y H5 ⟨m5, h5, y', x5, S5, r5, p5⟩ => ?_⟩
  have L5 := L.step lst_ok x5 S5
  rcases lim_cases (acc.1 + 1) (Res.ok (acc.1 + 1, y' :: acc.2) h5) with ⟨hl, el⟩ | el
  · rw [el] at p5
    obtain ⟨w, ew, ys, rfl, ra, la⟩ := L5.at_
    have ll : ys.length = acc.1 := by rw [ra.length]; simp [la]
    have r' : LstC G m5 H5 (acc.1 + 1, y' :: acc.2) (.lst (ys ++ [y])) := ⟨_, rfl, by show RVs G m5 H5 (y' :: acc.2).reverse (ys ++ [y]); rw [List.reverse_cons]; exact ra.append (.cons r5 .nil), by simp [la]⟩
    obtain ⟨L6, e6⟩ := L5.put lst_ok hD ew r'
    exact ⟨ys, ew, by rw [ll, sizeLine_eq]; omega, hN m5 h5 _ _ L6 (x5.ef.trans e6) p5⟩
  · rw [el] at p5; exact False.elim p5
theorem kLst_of {m1 : List Addr} {H1 : Hp} {D : Addr} (hD : H1 D = none) {σ0 : L2.St} {Q : VK} (m : List Addr) (h : MH) (H : Hp) (acc : Nat × List MV) (L : LI G (LstC G) m1 H1 D acc h m H) (p : RP G W0 (RV G) m1 H1 σ0 (kLst acc h) Q) : Q (.ref D) H := by
  obtain ⟨w, ew, ys, rfl, ra, la⟩ := L.at_
  have x3 : Ex G m1 H1 (m ++ [D]) H := L.x.app hD
  refine p (m ++ [D]) H (.ref D) x3 (L.S.adopt L.nD (by rw [ew]; exact ⟨ys, rfl, ra.mono ⟨⟨[D], rfl⟩, fun _ _ h => h, fun _ _ _ h => h⟩⟩) (by rw [ew]; exact fun q => nomatch q)) ?_
  simp only [RV]
  exact ⟨D, by rw [← L.S.len]; simp, rfl⟩
theorem LI.new {A : Type} {CR : List Addr → Hp → A → HO → Prop} {m1 : List Addr} {h1 : MH} {H1 : Hp} {D : Addr} {acc : A} {w : HO} (S : Sim G m1 h1 H1) (hD : H1 D = none) (r : CR m1 (upd H1 D w) acc w) : LI G CR m1 H1 D acc h1 m1 (upd H1 D w) :=
  ⟨Ex.upd D w (plain_none hD) (.inr hD), S.fresh hD _, fun q => S.trk D q hD, w, upd_same, r⟩
theorem lc_imp {vs : List Nat} (hp : ∀ i ∈ p.slots, i ∈ vs) {σ : L2.St} {H : Hp} {Q : VK} (q : tM G W0 (eLc w p tt fe vs) σ H Q) : L2.tLc (tMI G W0 w) (gP G p) (tMT G W0 tt) (tM G W0 fe) vs σ H Q := by
  refine (tMR.bind (Rel := WkR G) (f := w) (k := fun σ k h1 => (accL k p tt (bE fe) (wipeM σ vs) k.n 0 (0, []) h1).bind kLst) q).imp fun J H1 ⟨m1, h1, k, σm, S1, R1, r1, p1⟩ => ?_
  intro D hD
  have L0 : LI G (LstC G) m1 H1 D (0, []) h1 m1 (upd H1 D (.lst [])) := LI.new S1 hD ⟨[], rfl, .nil, rfl⟩
  exact acc_loop lst_ok hD r1 hp R1 L0 L0.x.ef p1 (bE_of hD) fun m h H acc L _ p => kLst_of hD m h H acc L p
theorem k_lc {vs : List Nat} (hp : ∀ i ∈ p.slots, i ∈ vs) (h : PE X e (L2.tLc (tMI G W0 w) (gP G p) (tMT G W0 tt) (tM G W0 fe) vs)) : PE X e (tM G W0 (eLc w p tt fe vs)) := h.wk fun σ H Q q => lc_imp hp q
/-- x = [..]: the list is told within its block -/
theorem js_setLc {st : Stmt} {i : Nat} {vs : List Nat} (hp : ∀ i ∈ p.slots, i ∈ vs) (h : PS X st (L2.tAsg (L2.tLc (tMI G W0 w) (gP G p) (tMT G W0 tt) (tM G W0 fe) vs) (L2.gName i))) : PS X st (tMS G W0 (jAsg (eLc w p tt fe vs) (.nm i))) := h.wk fun D σ H q =>
  lc_imp hp ((tMS.out (Rel := RV G) (k := fun σ v h1 => match asg (.nm i) v σ with | some σ1 => .nx σ1 h1 | none => .bad) q).imp fun x H1 ⟨m1, h1, v, σm, S1, R1, r1, p1⟩ => OP.nx_now p1 S1 (R1.set i r1))
/-! ### dicts -/
def DctC (G : GC) (m : List Addr) (H : Hp) (acc : Nat × List (MV × MV)) (w : HO) : Prop := DctR G m H false acc.2 w ∧ acc.2.length ≤ acc.1
theorem dct_ok : CRok G (DctC G) := ⟨fun ⟨r, l⟩ x => ⟨r.mono x, l⟩, fun ⟨r, _⟩ => by obtain ⟨ps, e, _⟩ := r; rw [e]; trivial⟩
theorem dput_len (k v : MV) (kvs : List (MV × MV)) : (dput k v kvs).length ≤ kvs.length + 1 := by
  unfold dput
  cases kvs.any fun p => keyB p.1 k with
  | true => dsimp only; rw [List.length_map]; omega
  | false => simp
theorem k_dc {vs : List Nat} (hp : ∀ i ∈ p.slots, i ∈ vs) (h : PE X e (L2.tDc (tMI G W0 w) (gP G p) (tMT G W0 tt) (tM G W0 fk) (tM G W0 fe) vs)) : PE X e (tM G W0 (eDc w p tt fk fe vs)) := h.wk fun σ H Q q => by
  refine (tMR.bind (Rel := WkR G) (f := w) (k := fun σ k h1 => (accL k p tt (bD fk fe) (wipeM σ vs) k.n 0 (0, []) h1).bind kDct) q).imp fun J H1 ⟨m1, h1, k, σm, S1, R1, r1, p1⟩ => ?_
  intro D hD
  have L0 : LI G (DctC G) m1 H1 D (0, []) h1 m1 (upd H1 D (.dK [])) := LI.new S1 hD ⟨⟨[], rfl, .nil⟩, Nat.le_refl _⟩
  refine acc_loop dct_ok hD r1 hp R1 L0 L0.x.ef p1 (fun σ2 m h H acc σ3 Kc Nx L R p hN => ?_) fun m h H acc L _ p => ?_
  · unfold bD at p
    rw [Res.bind_assoc] at p
    refine ⟨m, h, σ3, L.S, R, (RP.part (Rel := RV G) p L.x).imp fun y H5 ⟨m5, h5, y', x5, S5, r5, p5⟩ => ?_⟩
    have L5 := L.step dct_ok x5 S5
    rw [Res.bind_assoc] at p5
    refine ⟨m5, h5, σ3, S5, R.mono x5.toLe, (RP.part (Rel := RV G) p5 L5.x).imp fun z H6 ⟨m6, h6, z', x6, S6, r6, p6⟩ => ?_⟩
    have L6 := L5.step dct_ok x6 S6
    cases ek : keyA y' with
    | false => rw [ek] at p6; exact False.elim p6
    | true =>
      rw [ek] at p6
      dsimp only at p6
      rcases lim_cases (acc.1 + 1) (Res.ok (acc.1 + 1, dput y' z' acc.2) h6) with ⟨hl, el⟩ | el
      · rw [el] at p6
        obtain ⟨w, ew, ⟨ps, rfl, pr⟩, la⟩ := L6.at_
        obtain ⟨kk, rk⟩ := keyA_kr ek
        have yk := kr_rv' rk r5
        subst yk
        have r' : DctC G m6 H6 (acc.1 + 1, dput y' z' acc.2) (.dK (putK ps kk z)) := ⟨⟨_, rfl, dput_of keyB_eq rk r6 pr⟩, by have := dput_len y' z' acc.2; show (dput y' z' acc.2).length ≤ acc.1 + 1; omega⟩
        obtain ⟨L7, e7⟩ := L6.put dct_ok hD ew r'
        exact ⟨ps, kk, rfl, ew, by rw [← pr.length, sizeLine_eq]; omega, hN m6 h6 _ _ L7 ((x5.ef.trans x6.ef).trans e7) p6⟩
      · rw [el] at p6; exact False.elim p6
  · obtain ⟨w, ew, r, la⟩ := L.at_
    have x3 : Ex G m1 H1 (m ++ [D]) H := L.x.app hD
    refine p (m ++ [D]) H (.ref D) x3 (L.S.adopt L.nD (by rw [ew]; exact ⟨w, r.mono ⟨⟨[D], rfl⟩, fun _ _ h => h, fun _ _ _ h => h⟩, rfl⟩) (by rw [ew]; exact fun q => nomatch q)) ?_
    simp only [RV]
    exact ⟨D, by rw [← L.S.len]; simp, rfl⟩
end
end KA
set_option autoImplicit false
set_option maxHeartbeats 200000
set_option maxRecDepth 512
set_option Elab.async false
set_option autoImplicit false
set_option linter.all false
set_option maxRecDepth 100000
set_option maxHeartbeats 400000
/-! KWalk: more walks, isinstance, calls with keywords, **. -/
namespace KA
open PySem PySem.Spec PyProof.Rows L2
section
variable {X : Cx} {G : GC} {W : XW} {tg e : Expr} {fa fb fc : EM}
/-! ### range(a, b, c) -/
theorem rgC_of {i j k : Int} (h1 : rg62 i = true) (h2 : rg62 j = true) (h3 : 0 < k) (h4 : k < 1073741824) : RgC i j k (stepN i j k) := by
  obtain ⟨a1, a2⟩ := rgOk_iff (i := i) h1
  obtain ⟨b1, b2⟩ := rgOk_iff (i := j) h2
  have es : Builtin.Range.rangeSize i j k = (stepN i j k : Int) := by
    unfold Builtin.Range.rangeSize stepN
    rw [if_pos h3]
    by_cases c : i < j
    · rw [if_pos c, decide_eq_true c]
      have : 0 ≤ (j - i - 1) / k := Int.ediv_nonneg (by omega) (by omega)
      dsimp only
      omega
    · rw [if_neg c, decide_eq_false c]; rfl
  refine ⟨by omega, by omega, ?_, es⟩
  have hn : (stepN i j k : Int) ≤ 2 ^ 63 - 1 := by
    unfold stepN
    by_cases c : i < j
    · rw [decide_eq_true c]
      have h0 : 0 ≤ (j - i - 1) / k := Int.ediv_nonneg (by omega) (by omega)
      have h1 : (j - i - 1) / k ≤ j - i - 1 := Int.ediv_le_self _ (by omega)
      dsimp only
      omega
    · rw [decide_eq_false c]; dsimp only; omega
  unfold Builtin.Range.small
  rw [es]
  simp only [Builtin.Range.rangeFitsLong, Bool.and_eq_true, Bool.or_eq_true, decide_eq_true_eq, beq_iff_eq, show (k > 0) = True from propext ⟨fun _ => trivial, fun _ => h3⟩, if_true]
  omega
theorem wkR_C {m : List Addr} {H : Hp} {lo c : Int} {n : Nat} : WkR G m H (wkC lo c n) (Itc lo c n) where
  item := fun m1 h1 H1 i v x S hi e => by
    refine ⟨hi, fun z H' q => ?_⟩
    obtain ⟨rfl, rfl⟩ := q
    cases e
    exact ⟨.refl, S, by simp [RV]⟩
  fin := fun m1 h1 H1 x S e => Nat.le_refl _
theorem ki_rng3 (h : PI X tg e (L2.iRng3 (L2.tCons (tM G W fa) (L2.tCons (tM G W fb) (L2.tCons (tM G W fc) L2.tNil))))) : PI X tg e (tMI G W (wRng3 fa fb fc)) := PI_wk h fun σ H R q => by
  refine (tMR.bind (Rel := RV G) (k := fun σ v h1 => (fb σ h1).bind fun w h2 => (fc σ h2).bind fun u h3 => match v, w, u with
  | .int i, .int j, .int k => (match (rg62 i && rg62 j) && (decide (0 < k) && decide (k < 1073741824)) with
    | true => .ok (wkC i k (stepN i j k)) h3
    | false => .bad)
  | _, _, _ => .bad) q).imp fun x H1 ⟨m1, h1, v, σm, S1, R1, r1, p1⟩ => ?_
  refine ⟨m1, h1, σm, S1, R1, (RP.bind (Rel := RV G) p1).imp fun y H2 ⟨m2, h2, w, x2, S2, r2, p2⟩ => ?_⟩
  refine ⟨m2, h2, σm, S2, R1.mono x2.toLe, (RP.bind (Rel := RV G) p2).imp fun z H3 ⟨m3, h3, u, x3, S3, r3, p3⟩ => ?_⟩
  cases v with
  | int i =>
    cases w with
    | int j =>
      cases u with
      | int k =>
        simp only [RV] at r1 r2 r3
        subst r1 r2 r3
        dsimp only at p3
        cases e : (rg62 i && rg62 j) && (decide (0 < k) && decide (k < 1073741824)) with
        | false => rw [e] at p3; exact False.elim p3
        | true =>
          rw [e] at p3
          obtain ⟨e1, e2⟩ := Bool.and_eq_true_iff.mp e
          obtain ⟨e3, e4⟩ := Bool.and_eq_true_iff.mp e1
          obtain ⟨e5, e6⟩ := Bool.and_eq_true_iff.mp e2
          exact ⟨i, j, k, _, rfl, rgC_of e3 e4 (of_decide_eq_true e5) (of_decide_eq_true e6), RP.now p3 S3 wkR_C⟩
      | _ => exact False.elim p3
    | _ => exact False.elim p3
  | _ => exact False.elim p3
/-! ### a text's signs -/
theorem wkR_S {m : List Addr} {H : Hp} {s : List Nat} : WkR G m H (wkS s) (Its ⟨s.toArray⟩) where
  item := fun m1 h1 H1 i v x S hi e => by
    have hi' : i < s.length := hi
    refine ⟨by show i < (⟨s.toArray⟩ : PySem.Str).cps.size; simpa using hi', fun z H' q => ?_⟩
    obtain ⟨rfl, c, ec, rfl⟩ := q
    have ec' : s[i]? = some c := by simpa using ec
    unfold wkS at e
    dsimp only at e
    rw [ec'] at e
    cases e
    exact ⟨.refl, S, by simp only [RV]⟩
  fin := fun m1 h1 H1 x S e => by
    show (⟨s.toArray⟩ : PySem.Str).cps.size ≤ s.length
    simp
theorem ki_str (h : PI X tg e (L2.iStr (tM G W fa))) : PI X tg e (tMI G W (wStr fa)) := PI_wk h fun σ H R q => by
  refine (tMR.bind (Rel := RV G) (k := fun _ v h1 => match v with
  | .str s => .ok (wkS s) h1
  | _ => .bad) q).imp fun x H1 ⟨m1, h1, v, σm, S1, R1, r1, p1⟩ => ?_
  cases v with
  | str s =>
    simp only [RV] at r1
    exact ⟨_, r1, RP.now p1 S1 wkR_S⟩
  | _ => exact False.elim p1
/-! ### new pairs -/
theorem pair_new {m : List Addr} {h : MH} {H H' : Hp} {T : Addr} {a b : MV} {x y : V} (S : Sim G m h H) (hT : H T = none) (e : H' = upd H T (.tup [x, y])) (r1 : RV G m H a x) (r2 : RV G m H b y) : Ex G m H m H' ∧ Sim G m h H' ∧ RV G m H' (.tup [a, b]) (.ref T) := by
  subst e
  have x : Ex G m H m (upd H T (.tup [x, y])) := .upd T _ (plain_none hT) (.inr hT)
  refine ⟨x, S.fresh hT _, ?_⟩
  simp only [RV]
  exact ⟨T, _, rfl, upd_same, .cons (r1.mono x.toLe) (.cons (r2.mono x.toLe) .nil)⟩
/-! ### enumerate -/
theorem wkR_E {m : List Addr} {H : Hp} {n k : Nat} {a : Addr} (ea : m[n]? = some a) : WkR G m H (wkE (wkL n k)) (Ite G.K a) where
  item := fun m1 h1 H1 i v x S hi e => by
    unfold wkE wkL at e
    dsimp only at e
    cases eg : h1.get n with
    | none => rw [eg] at e; cases e
    | some o =>
      rw [eg] at e
      cases o with
      | lst xs =>
        dsimp only at e
        cases ei : xs[i]? with
        | none => rw [ei] at e; cases e
        | some w =>
          rw [ei] at e
          cases e
          obtain ⟨b, ys, eb, _, eh, r⟩ := S.lst eg (show RV G m1 H1 (.ref n) (.ref a) by simp only [RV]; exact ⟨a, x.toLe.ix ea, rfl⟩)
          have hb : b = a := Option.some.inj (eb.symm.trans (x.toLe.ix ea))
          subst hb
          obtain ⟨y, ey, ry⟩ := r.get ei
          refine ⟨⟨ys, y, SqL.of eh, ey⟩, fun z H' q => ?_⟩
          obtain ⟨T, u, rfl, hT, eH, q⟩ := q
          have hz := q ys (SqL.of eh)
          rw [ey] at hz
          cases hz
          exact pair_new S hT eH (by simp only [RV]) ry
      | ins _ _ => cases e
      | dct _ _ _ => cases e
  fin := fun m1 h1 H1 x S e => (wkR_L (G := G) (H := H) (k := k) ea).fin m1 h1 H1 x S e
theorem ki_enum {K : PySem.W.Frag} (hK : K = G.K) (h : PI X tg e (L2.iEnum K (L2.tCons (tM G W fa) L2.tNil))) : PI X tg e (tMI G W (wEnum fa)) := PI_wk h fun σ H R q => by
  subst hK
  refine (tMR.bind (Rel := RV G) (k := fun _ v h1 => match v with
  | .ref n => (match h1.get n with
    | some (.lst xs) => .ok (wkE (wkL n xs.length)) h1
    | _ => .bad)
  | _ => .bad) q).imp fun x H1 ⟨m1, h1, v, σm, S1, R1, r1, p1⟩ => ?_
  cases v with
  | ref n =>
    dsimp only at p1
    cases eg : h1.get n with
    | none => rw [eg] at p1; exact False.elim p1
    | some o =>
      rw [eg] at p1
      cases o with
      | lst xs =>
        obtain ⟨a, ys, ea, rfl, eh, r⟩ := S1.lst eg r1
        exact ⟨a, ys, rfl, SqL.of eh, RP.now p1 S1 (wkR_E ea)⟩
      | ins _ _ => exact False.elim p1
      | dct _ _ _ => exact False.elim p1
  | _ => exact False.elim p1
/-! ### zip -/
/-! ### dicts -/
theorem dct_at {m m1 : List Addr} {h1 : MH} {H H1 : Hp} {n : Nat} {a : Addr} {w : HO} {od : Obj} (ea : m[n]? = some a) (eh : H a = some (.frz od w)) (le : Ef G m H m1 H1) (S1 : Sim G m1 h1 H1) {tk : Bool} {kvs : List (MV × MV)} (e1 : h1.get n = some (.dct tk true kvs)) : H1 a = some (.frz od w) ∧ DctR G m1 H1 tk kvs w := by
  obtain ⟨b, eb, w', dr, eo⟩ := S1.at_ n _ e1
  have hb : b = a := Option.some.inj (eb.symm.trans (le.toLe.ix ea))
  subst hb
  obtain ⟨ob, eo⟩ := eo
  have e := le.frd _ _ _ eh
  rw [e] at eo
  cases eo
  exact ⟨e, dr⟩
theorem paired_get {α β : Type} {R : α → β → Prop} : ∀ {xs : List α} {ys : List β}, Paired R xs ys → ∀ {i : Nat} {x : α}, xs[i]? = some x → ∃ y, ys[i]? = some y ∧ R x y
  | _, _, .nil, i, x, e => by simp at e
  | _, _, .cons r t, 0, x, e => by simp at e; subst e; exact ⟨_, rfl, r⟩
  | _, _, .cons r t, i + 1, x, e => by simp at e; obtain ⟨y, h1, h2⟩ := paired_get t e; exact ⟨y, by simpa using h1, h2⟩
theorem wkD_invH {k n N i : Nat} {h1 : MH} {v : MV} (e : (wkD k n N).at_ i h1 = some v) : ∃ tk kvs p, h1.get n = some (.dct tk true kvs) ∧ kvs[i]? = some p ∧ v = entM k p := by
  unfold wkD at e
  dsimp only at e
  cases eg : h1.get n with
  | none => rw [eg] at e; cases e
  | some o =>
    rw [eg] at e
    cases o with
    | dct tk lk kvs =>
      cases lk with
      | false => cases e
      | true =>
        dsimp only at e
        cases ei : kvs[i]? with
        | none => rw [ei] at e; cases e
        | some p => rw [ei] at e; cases e; exact ⟨tk, kvs, p, rfl, ei, rfl⟩
    | _ => cases e
theorem wkD_finH {k n N : Nat} {h1 : MH} (e : (wkD k n N).fin h1 = true) : ∃ tk kvs, h1.get n = some (.dct tk true kvs) ∧ kvs.length ≤ N := by
  unfold wkD at e
  dsimp only at e
  cases eg : h1.get n with
  | none => rw [eg] at e; cases e
  | some o =>
    rw [eg] at e
    cases o with
    | dct tk lk kvs =>
      obtain ⟨e1, e2⟩ := Bool.and_eq_true_iff.mp e
      subst e1
      exact ⟨tk, kvs, rfl, Nat.le_of_ble_eq_true e2⟩
    | _ => cases e
theorem dK_inv {m : List Addr} {H : Hp} {tk : Bool} {kvs : List (MV × MV)} {ps : List (Key × V)} (d : DctR G m H tk kvs (.dK ps)) : Paired (fun p q => KR p.1 q.1 ∧ RV G m H p.2 q.2) kvs ps := by
  cases tk with
  | false => obtain ⟨ps', e, pr⟩ := d; cases e; exact pr
  | true => obtain ⟨ps', e, pr⟩ := d; cases e
theorem wkR_D0 {m : List Addr} {H : Hp} {n N : Nat} {a : Addr} {od : Obj} {ps : List (Key × V)} (ea : m[n]? = some a) (eh : H a = some (.frz od (.dK ps))) (hN : ps.length = N) : WkR G m H (wkD 0 n N) (Itk a od ps) where
  item := fun m1 h1 H1 i v x S hi e => by
    obtain ⟨tk, kvs, p, eg, ei, rfl⟩ := wkD_invH e
    obtain ⟨e1, d⟩ := dct_at ea eh x S eg
    obtain ⟨q, eq, r1, r2⟩ := paired_get (dK_inv d) ei
    refine ⟨⟨e1, by rw [hN]; exact hi⟩, fun z H' y => ?_⟩
    obtain ⟨rfl, k, u, ek, rfl⟩ := y
    rw [eq] at ek
    cases ek
    exact ⟨.refl, S, kr_rv r1⟩
  fin := fun m1 h1 H1 x S e => by
    obtain ⟨tk, kvs, eg, _⟩ := wkD_finH e
    exact ⟨(dct_at ea eh x S eg).1, by rw [hN]; exact Nat.le_refl _⟩
theorem wkR_D1 {m : List Addr} {H : Hp} {n N : Nat} {a : Addr} {od : Obj} {ps : List (Key × V)} (ea : m[n]? = some a) (eh : H a = some (.frz od (.dK ps))) (hN : ps.length = N) : WkR G m H (wkD 1 n N) (Itd a od ps) where
  item := fun m1 h1 H1 i v x S hi e => by
    obtain ⟨tk, kvs, p, eg, ei, rfl⟩ := wkD_invH e
    obtain ⟨e1, d⟩ := dct_at ea eh x S eg
    obtain ⟨q, eq, r1, r2⟩ := paired_get (dK_inv d) ei
    refine ⟨⟨e1, by rw [hN]; exact hi⟩, fun z H' y => ?_⟩
    obtain ⟨rfl, k, ek⟩ := y
    rw [eq] at ek
    cases ek
    exact ⟨.refl, S, r2⟩
  fin := fun m1 h1 H1 x S e => by
    obtain ⟨tk, kvs, eg, _⟩ := wkD_finH e
    exact ⟨(dct_at ea eh x S eg).1, by rw [hN]; exact Nat.le_refl _⟩
theorem wkR_D2 {m : List Addr} {H : Hp} {n N : Nat} {a : Addr} {od : Obj} {ps : List (Key × V)} (ea : m[n]? = some a) (eh : H a = some (.frz od (.dK ps))) (hN : ps.length = N) : WkR G m H (wkD 2 n N) (Iti a od ps) where
  item := fun m1 h1 H1 i v x S hi e => by
    obtain ⟨tk, kvs, p, eg, ei, rfl⟩ := wkD_invH e
    obtain ⟨e1, d⟩ := dct_at ea eh x S eg
    obtain ⟨q, eq, r1, r2⟩ := paired_get (dK_inv d) ei
    refine ⟨⟨e1, by rw [hN]; exact hi⟩, fun z H' y => ?_⟩
    obtain ⟨T, k, u, ek, rfl, hT, eH⟩ := y
    rw [eq] at ek
    cases ek
    exact pair_new S hT eH (kr_rv r1) r2
  fin := fun m1 h1 H1 x S e => by
    obtain ⟨tk, kvs, eg, _⟩ := wkD_finH e
    exact ⟨(dct_at ea eh x S eg).1, by rw [hN]; exact Nat.le_refl _⟩
theorem wDct_of {k : Nat} {σ : L2.St} {H : Hp} {R : It → Hp → Prop} (q : tMI G W (wDct k fa) σ H R) : tM G W fa σ H fun x H1 => ∃ (m1 : List Addr) (h1 : MH) (n : Nat) (a : Addr) (od : Obj) (kvs : List (MV × MV)) (ps : List (Key × V)), x = .ref a ∧ Sim G m1 h1 H1 ∧ m1[n]? = some a ∧ H1 a = some (.frz od (.dK ps)) ∧ ps.length = kvs.length ∧ RP G W (WkR G) m1 H1 σ (.ok (wkD k n kvs.length) h1) R := by
  refine (tMR.bind (Rel := RV G) (k := fun _ v h1 => match v with
  | .ref n => (match h1.get n with
    | some (.dct tk lk kvs) => (match lk && !tk with
      | true => .ok (wkD k n kvs.length) h1
      | false => .bad)
    | _ => .bad)
  | _ => .bad) q).imp fun x H1 ⟨m1, h1, v, σm, S1, R1, r1, p1⟩ => ?_
  cases v with
  | ref n =>
    dsimp only at p1
    cases eg : h1.get n with
    | none => rw [eg] at p1; exact False.elim p1
    | some o =>
      rw [eg] at p1
      cases o with
      | dct tk lk kvs =>
        dsimp only at p1
        cases lk with
        | false => exact False.elim p1
        | true =>
          cases tk with
          | true => exact False.elim p1
          | false =>
            obtain ⟨a, w, ea, rfl, dr, eh⟩ := S1.dct eg r1
            obtain ⟨od, eh⟩ := eh
            obtain ⟨ps, rfl, pr⟩ := dr
            exact ⟨m1, h1, n, a, od, kvs, ps, rfl, S1, ea, eh, pr.length.symm, p1⟩
      | _ => exact False.elim p1
  | _ => exact False.elim p1
theorem ki_keys (h : PI X tg e (L2.iKeys (tM G W fa))) : PI X tg e (tMI G W (wDct 0 fa)) := PI_wk h fun σ H R q => (wDct_of q).imp fun x H1 ⟨m1, h1, n, a, od, kvs, ps, e, S, ea, eh, hl, p⟩ => ⟨a, od, e, .inl ⟨ps, eh, RP.now p S (wkR_D0 ea eh hl)⟩⟩
theorem ki_vals (h : PI X tg e (L2.iVals (tM G W fa))) : PI X tg e (tMI G W (wDct 1 fa)) := PI_wk h fun σ H R q => (wDct_of q).imp fun x H1 ⟨m1, h1, n, a, od, kvs, ps, e, S, ea, eh, hl, p⟩ => ⟨a, od, ps, e, eh, RP.now p S (wkR_D1 ea eh hl)⟩
theorem ki_items (h : PI X tg e (L2.iItems (tM G W fa))) : PI X tg e (tMI G W (wDct 2 fa)) := PI_wk h fun σ H R q => (wDct_of q).imp fun x H1 ⟨m1, h1, n, a, od, kvs, ps, e, S, ea, eh, hl, p⟩ => ⟨a, od, ps, e, eh, RP.now p S (wkR_D2 ea eh hl)⟩
theorem o_pow : Op2 G (rI CPow fun i j => .int (i ^ j.toNat)) qPow := op2_int fun v w h => by
  cases v with
  | int i =>
    cases w with
    | int j =>
      unfold qPow
      dsimp only
      cases e : (decide (0 ≤ j) && decide (j ≤ 1000000)) && small64 i with
      | false => exact .inr rfl
      | true =>
        obtain ⟨e1, e2⟩ := Bool.and_eq_true_iff.mp e
        obtain ⟨e3, e4⟩ := Bool.and_eq_true_iff.mp e1
        have : i.natAbs < 18446744073709551616 := Nat.le_of_ble_eq_true e2
        exact .inl ⟨i, j, _, rfl, rfl, rfl, ⟨of_decide_eq_true e3, of_decide_eq_true e4, this⟩, fun m H => by simp only [RV]⟩
    | _ => exact .inr rfl
  | _ => exact .inr rfl
end
/-! ### isinstance -/
def kty (G : GC) : Nat → Value
  | 0 => .type "NoneType"
  | 1 => .type "bool"
  | 2 => .type "int"
  | 3 => .type "str"
  | 4 => .type "list"
  | 5 => .type "tuple"
  | 6 => .type "dict"
  | 7 => .none
  | 8 => .none
  | 9 => .none
  | c + 10 => .ref (G.cl c)
/-- an own class, as isinstance looks at it -/
structure InsOk (K : PySem.W.Frag) (C : Addr) : Prop where
  cls : Cls K C
  ha : PySem.W.findIn K (.ref C) "__class__" = some (some (.builtin "object.__class__"))
  hn : PySem.W.specialIn K (.builtin "object.__class__") "__get__" = some (some (.builtin "getset_descriptor.__get__"))
  htk : PySem.W.takesIn K (.builtin "object.__class__") = some true
  hm : PySem.W.mroIn K C (.type "object") = some true
structure IsiOk (G : GC) (nc k : Nat) (u : Value) : Prop where
  ins : ∀ c, c + 10 < nc → InsOk G.K (G.cl c)
  one : ∀ j, j < nc → (j < 7 ∨ 10 ≤ j) → PySem.W.kitOne G.K (kty G j) u = some (isA j k)
theorem kind_of {G : GC} {m : List Addr} {h : MH} {H : Hp} (S : Sim G m h H) {v : MV} {x : V} (r : RV G m H v x) {j nc k : Nat} {u : Value} (ek : kindOf h v = some j) (hj : j < nc) (I : IsiOk G nc k u) : (j < 7 ∨ 10 ≤ j) ∧ TyX G.K H x (kty G j) := by
  cases v with
  | non => cases ek; simp only [RV] at r; subst r; exact ⟨by omega, .base .non⟩
  | bl b => cases ek; simp only [RV] at r; subst r; exact ⟨by omega, .base (.bl _)⟩
  | int i => cases ek; simp only [RV] at r; subst r; exact ⟨by omega, .base (.int _)⟩
  | str s => cases ek; simp only [RV] at r; subst r; exact ⟨by omega, .base (.str _)⟩
  | tup ts =>
    cases ek
    simp only [RV] at r
    obtain ⟨a, xs, rfl, e, _⟩ := r
    exact ⟨by omega, .base (.tup e)⟩
  | flst ts =>
    cases ek
    simp only [RV] at r
    obtain ⟨a, xs, rfl, e, _⟩ := r
    refine ⟨by omega, ?_⟩
    rcases e with ⟨o, e⟩ | ⟨o, its, n, e, c, _⟩
    · exact .base (.frz e)
    · exact .kList e c
  | ref n =>
    unfold kindOf at ek
    dsimp only at ek
    cases eg : h.get n with
    | none => rw [eg] at ek; cases ek
    | some o =>
      rw [eg] at ek
      cases o with
      | lst xs =>
        cases ek
        obtain ⟨a, ys, _, rfl, eh, _⟩ := S.lst eg r
        exact ⟨by omega, .base (.lst eh)⟩
      | dct tk lk kvs =>
        obtain ⟨a, w, _, rfl, dr, eh⟩ := S.dct eg r
        cases tk with
        | false =>
          cases ek
          obtain ⟨ps, rfl, _⟩ := dr
          cases lk with
          | false => exact ⟨by omega, .base (.dK eh)⟩
          | true => obtain ⟨od, eh⟩ := eh; exact ⟨by omega, .fDict eh⟩
        | true =>
          cases lk with
          | false =>
            cases ek
            obtain ⟨ps, rfl, _⟩ := dr
            exact ⟨by omega, .base (.dT eh)⟩
          | true => cases ek
      | ins c fs =>
        cases ek
        obtain ⟨a, dx, gs, _, rfl, eh, _⟩ := S.ins eg r
        have z := I.ins c hj
        exact ⟨by omega, .base (.ins eh z.cls z.ha z.hn z.htk z.hm)⟩
section
variable {X : Cx} {G : GC} {W : XW} {e : Expr} {fa : EM} {am ak : AM}
theorem k_isi {nc k : Nat} {u : Value} {cv : V} {K : PySem.W.Frag} (hK : K = G.K) (I : IsiOk G nc k u) (hc : ClsV cv u) (h : PE X e (tCB (rIsi K) (L2.tCons (tM G W fa) (L2.tCons (L2.tC cv) L2.tNil)))) : PE X e (tM G W (e1 (qIsi nc k) fa)) := h.wk fun σ H Q q => by
  subst hK
  refine (tMR.bind (Rel := RV G) (k := fun _ v h1 => qIsi nc k v h1) q).imp fun x H1 ⟨m1, h1, v, σm, S1, R1, r1, p1⟩ => ?_
  unfold qIsi at p1
  cases ek : kindOf h1 v with
  | none => rw [ek] at p1; exact False.elim p1
  | some j =>
    rw [ek] at p1
    dsimp only at p1
    cases ej : Nat.blt j nc with
    | false => rw [ej] at p1; exact False.elim p1
    | true =>
      rw [ej] at p1
      have hj : j < nc := Nat.le_of_ble_eq_true ej
      obtain ⟨z, ty⟩ := kind_of S1 r1 ek hj I
      exact ⟨x, cv, _, u, _, rfl, hc, ty, I.one j hj z, RP.now p1 S1 (by simp only [RV])⟩
/-! ### keywords -/
theorem PK_wk {kws : List Keyword} {t t' : TA} (h : PK X kws t) (k : ∀ σ H Q, t' σ H Q → t σ H Q) : PK X kws t' := ⟨fun p pins s σ H Q I q => h.run p pins s σ H Q I (k σ H Q q)⟩
theorem kk_nil : PK X [] (tMA G W aNil) := PK_wk pk_nil fun σ H Q ⟨m, h, σm, S, R, p⟩ => RP.now p S .nil
theorem kk_cons {kws : List Keyword} (h : PK X kws (L2.tCons (tM G W fa) (tMA G W am))) : PK X kws (tMA G W (aCons fa am)) := PK_wk h fun σ H Q q => by
  refine (tMR.bind (Rel := RV G) (k := fun σ v h1 => (am σ h1).bind fun vs h2 => .ok (v :: vs) h2) q).imp fun x H1 ⟨m1, h1, v, σm, S1, R1, r1, p1⟩ => ?_
  exact ⟨m1, h1, σm, S1, R1, (RP.bind (Rel := RVs G) p1).imp fun xs H2 ⟨m2, h2, vs, x2, S2, r2, p2⟩ => RP.now p2 S2 (.cons (r1.mono x2.toLe) r2)⟩
/-- what stands where the keywords' values go -/
structure KwM (G : GC) (n mm np : Nat) (f : List MV → List MV → List MV) (gV : List V → List V → List V) : Prop where
  rel : ∀ {m H vs xs zs ys}, RVs G m H vs xs → RVs G m H zs ys → RVs G m H (f vs zs) (gV xs ys)
  len : ∀ (xs ys : List V), xs.length = n + 1 → ys.length = mm → (gV xs ys).length = np
theorem k_makeN {c n mm np : Nat} {g : FM} {f : List MV → List MV → List MV} {gV : List V → List V → List V} (M : KwM G n mm np f gV) (hl : ∀ σ h vs h', am σ h = .ok vs h' → vs.length = n) (hl2 : ∀ σ h vs h', ak σ h = .ok vs h' → vs.length = mm)
    (h : PE X e (L2.tMakeN (G.cl c) n mm (spM G np g) gV E0 (tMA G W0 am) (tMA G W0 ak))) : PE X e (tM G W0 (eNewK c g f am ak)) := h.wk fun σ H Q q => by
  obtain ⟨m, h, σm, S, R, p⟩ := q
  refine ⟨m, h, σm, S, R, ?_⟩
  unfold eNewK at p
  cases ea : am σm h with
  | bad => rw [ea] at p; exact False.elim p
  | exc c v h' => rw [ea] at p; exact p
  | ok vs h' =>
    rw [ea] at p
    intro m' H' xs x S' r
    refine ⟨m', h', σm, S', R.mono x.toLe, ?_⟩
    have p := RP.later p x
    dsimp only [Res.bind] at p
    cases eb : ak σm h' with
    | bad => rw [eb] at p; exact False.elim p
    | exc c v h' => rw [eb] at p; exact p
    | ok zs h2 =>
      rw [eb] at p
      dsimp only at p
      intro m2 H2 ys x' S2' r'
      have p2 := RP.later p x'
      refine ⟨by rw [r.length, hl _ _ _ _ ea], by rw [r'.length, hl2 _ _ _ _ eb], fun y dx hy hdx ne => ?_⟩
      have S1 := S2'.fresh hdx (.own y)
      have hy1 : upd H2 dx (.own y) y = none := by rw [upd_ne (Ne.symm ne)]; exact hy
      have x1 : Ex G m2 H2 m2 (upd H2 dx (.own y)) := .upd dx _ (plain_none hdx) (.inr hdx)
      have x2 : Ex G m2 (upd H2 dx (.own y)) (m2 ++ [y]) (upd (upd H2 dx (.own y)) y (.ins (G.cl c) dx [])) := (Ex.upd y _ (plain_none hy1) (.inr hy1)).app hy1
      have S2 : Sim G (m2 ++ [y]) (h2.push (.ins c [])) (upd (upd H2 dx (.own y)) y (.ins (G.cl c) dx [])) := S1.push hy1 ⟨dx, [], rfl, .nil⟩
      have x12 := x1.trans x2
      have ry : RV G (m2 ++ [y]) (upd (upd H2 dx (.own y)) y (.ins (G.cl c) dx [])) (.ref h2.n) (.ref y) := by
        simp only [RV]
        exact ⟨y, by rw [← S2'.len]; simp, rfl⟩
      refine ⟨M.len _ _ (by simp [r.length, hl _ _ _ _ ea]) (by rw [r'.length, hl2 _ _ _ _ eb]), _, _, f (.ref h2.n :: vs) zs, S2, M.rel (.cons ry ((r.mono x'.toLe).mono x12.toLe)) (r'.mono x12.toLe), ?_⟩
      have p3 := RP.later p2 x12
      refine (RP.w0 (σ' := []) (RP.bind (Rel := RV G) p3)).imp fun z H3 ⟨m3, h3, w, x4, S3, r3, p4⟩ => ?_
      cases w with
      | non =>
        simp only [RV] at r3
        exact ⟨r3, RP.now p4 S3 (ry.mono x4.toLe)⟩
      | _ => exact False.elim p4
end
end KA
set_option autoImplicit false
set_option maxHeartbeats 200000
set_option maxRecDepth 512
set_option Elab.async false
set_option autoImplicit false
set_option linter.all false
set_option maxRecDepth 100000
set_option maxHeartbeats 400000
/-! KSugar: one word a construct. -/
namespace KA
open PySem PySem.Spec PyProof.Rows L2
/-- a def, as callers know it -/
structure Dn (P : Program) (w : World) (K : PySem.W.Frag) (mg : PySem.Str → Option Value) (base : Heap) (G : GC) (f : Addr) (k : Nat) (ps : List PySem.Str) (np : Nat) (g : FM) : Prop where
  ex : ∃ fd, FnOk P w K mg base CX0 k f fd ps (spM G np g) ∧ Binds K fd ps []
  kp : PySem.W.keepIn K (.ref f) = true
theorem dn_of {P : Program} {w : World} {K : PySem.W.Frag} {mg : PySem.Str → Option Value} {base : Heap} {x qual : PySem.Str} {params : Arguments} {body : List Stmt} {scope : Scope} {dvs : List V} {kws : List (PySem.Str × V)} {f : Addr} {fd : FuncData} {N ps : List PySem.Str} {k n np : Nat} {G : GC} {b : SM}
    (F : FunD K x qual params body scope dvs kws f fd) (S : FnScope N ps scope) (hn : N.length = n) (hp : ps.length = np) (hbi : Binds K fd ps [])
    (hb : ∀ (cdv : Value) (A : Around) (outer : List Env) (s : Shared) (H : Hp) (E : XK), Room k (A.deeper (envOfC qual scope s.heap.objs.size f cdv)) → PSs (cxOf CX0 P w K mg base N qual scope f cdv A outer s H E).nox body (tMS G W0 b)) :
    Dn P w K mg base G f (k + 1) ps np (fn n b) := ⟨⟨fd, fn_ok F S hn hp hb, hbi⟩, F.kp⟩
section
variable {X : Cx} {G : GC} {W : XW} {a b c e : Expr} {fa fb fc : EM} {am : AM} {pos : Pos} {k : Nat}
/-! ### operators -/
theorem x_add (ha : PE X a (tM G W fa)) (hb : PE X b (tM G W fb)) : PE X (.BinOp a .Add b pos) (tM G W (e2 qAdd fa fb)) := k_op o_add (pe_op op_addM ha hb)
theorem x_sub (ha : PE X a (tM G W fa)) (hb : PE X b (tM G W fb)) : PE X (.BinOp a .Sub b pos) (tM G W (e2 qSub fa fb)) := k_op o_sub (pe_op op_sub ha hb)
theorem x_mul (ha : PE X a (tM G W fa)) (hb : PE X b (tM G W fb)) : PE X (.BinOp a .Mult b pos) (tM G W (e2 qMul fa fb)) := k_op o_mul (pe_op op_mulM ha hb)
theorem x_div (ha : PE X a (tM G W fa)) (hb : PE X b (tM G W fb)) : PE X (.BinOp a .FloorDiv b pos) (tM G W (e2 qDiv fa fb)) := k_op o_div (pe_op op_fdivW ha hb)
theorem x_mod (ha : PE X a (tM G W fa)) (hb : PE X b (tM G W fb)) : PE X (.BinOp a .Mod b pos) (tM G W (e2 qMod fa fb)) := k_op o_mod (pe_op op_mod ha hb)
theorem x_pow (ha : PE X a (tM G W fa)) (hb : PE X b (tM G W fb)) : PE X (.BinOp a .Pow b pos) (tM G W (e2 qPow fa fb)) := k_op o_pow (pe_op op_pow ha hb)
theorem x_neg (ha : PE X a (tM G W fa)) : PE X (.UnaryOp .USub a pos) (tM G W (e1 qNeg fa)) := k_neg (pe_un un_neg ha)
/-- a comparison, by its operator's rule -/
theorem x_lt (ha : PE X a (tM G W fa)) (hb : PE X b (tM G W fb)) (hm : behindInMarks .Lt b = false := by first | exact nomark _ | rfl) : PE X (.Compare a [.Lt] [b] pos) (tM G W (e2 qLt fa fb)) := k_op o_lt (pe_cmpR op_lt ha hb hm)
theorem x_eq (hr : Room k X.A) (ha : PE X a (tM G W fa)) (hb : PE X b (tM G W fb)) (hK : X.K = G.K := by rfl) (hm : behindInMarks .Eq b = false := by first | exact nomark _ | rfl) : PE X (.Compare a [.Eq] [b] pos) (tM G W (e2 qEq fa fb)) := k_op (r := rEqD X.K) (hK ▸ o_eq) (pe_cmpR (op_eqD hr.units) ha hb hm)
theorem x_inS (ha : PE X a (tM G W fa)) (hb : PE X b (tM G W fb)) (hm : behindInMarks .In b = false := by rfl) : PE X (.Compare a [.In] [b] pos) (tM G W (e2 qInS fa fb)) := k_op o_inS (pe_cmpR op_in_sign ha hb hm)
theorem x_chain {op op' : CmpOp} {r r' : R2} {g g' : MV → MV → MH → Res MV} (hr : Op2 G r g) (ho : OpR X (compareOp op) r) (hr' : Op2 G r' g') (ho' : OpR X (compareOp op') r') (ha : PE X a (tM G W fa)) (hb : PE X b (tM G W fb)) (hc : PE X c (tM G W fc)) (hm : lastMarks [op, op'] [b, c] = false := by with_unfolding_all rfl) :
    PE X (.Compare a [op, op'] [b, c] pos) (tM G W (eChain g g' fa fb fc)) := k_chain hr hr' (pe_chain ho ho' ha hb hc hm)
/-! ### tests -/
theorem t_val (h : PE X e (tM G W fa)) (he : ∀ whole, isTrue e X.env whole = (do let v ← whole; standAt e.pos; holding [v] (truthy v)) := by intro _; rfl) : PT X e (tMT G W (cB fa)) := kt_val (pt_val h he)
theorem t_lt (ha : PE X a (tM G W fa)) (hb : PE X b (tM G W fb)) (hm : behindInMarks .Lt b = false := by first | exact nomark _ | rfl) : PT X (.Compare a [.Lt] [b] pos) (tMT G W (cB (e2 qLt fa fb))) := kt_op o_lt (pt_cmpR op_lt ha hb hm)
theorem t_gt (ha : PE X a (tM G W fa)) (hb : PE X b (tM G W fb)) (hm : behindInMarks .Gt b = false := by first | exact nomark _ | rfl) : PT X (.Compare a [.Gt] [b] pos) (tMT G W (cB (e2 qGt fa fb))) := kt_op o_gt (pt_cmpR op_gt ha hb hm)
theorem t_eq (hr : Room k X.A) (ha : PE X a (tM G W fa)) (hb : PE X b (tM G W fb)) (hK : X.K = G.K := by rfl) (hm : behindInMarks .Eq b = false := by first | exact nomark _ | rfl) : PT X (.Compare a [.Eq] [b] pos) (tMT G W (cB (e2 qEq fa fb))) := kt_op (r := rEqD X.K) (hK ▸ o_eq) (pt_cmpR (op_eqD hr.units) ha hb hm)
theorem t_ne (hr : Room k X.A) (ha : PE X a (tM G W fa)) (hb : PE X b (tM G W fb)) (hK : X.K = G.K := by rfl) (hm : behindInMarks .NotEq b = false := by first | exact nomark _ | rfl) : PT X (.Compare a [.NotEq] [b] pos) (tMT G W (cB (e2 qNe fa fb))) := kt_op (r := rNeD X.K) (hK ▸ o_ne) (pt_cmpR (op_neD hr.units) ha hb hm)
theorem t_inL (hr : Room k X.A) (ha : PE X a (tM G W fa)) (hb : PE X b (tM G W fb)) (hK : X.K = G.K := by rfl) (hm : behindInMarks .In b = false := by rfl) : PT X (.Compare a [.In] [b] pos) (tMT G W (cB (e2 qInL fa fb))) := kt_op (r := rInD X.K) (hK ▸ o_inL) (pt_cmpR (op_inD (by have := hr.un; omega)) ha hb hm)
theorem t_isN (ha : PE X a (tM G W fa)) (hb : PE X b (tM G W fb)) (hm : behindInMarks .Is b = false := by first | exact nomark _ | rfl) : PT X (.Compare a [.Is] [b] pos) (tMT G W (cB (e2 qIsN fa fb))) := kt_op o_isN (pt_cmpR op_isN ha hb hm)
theorem t_chain {op op' : CmpOp} {r r' : R2} {g g' : MV → MV → MH → Res MV} (hr : Op2 G r g) (ho : OpR X (compareOp op) r) (hr' : Op2 G r' g') (ho' : OpR X (compareOp op') r') (ha : PE X a (tM G W fa)) (hb : PE X b (tM G W fb)) (hc : PE X c (tM G W fc)) (hm : lastMarks [op, op'] [b, c] = false := by with_unfolding_all rfl) :
    PT X (.Compare a [op, op'] [b, c] pos) (tMT G W (cB (eChain g g' fa fb fc))) := kt_chain hr hr' (pt_chain ho ho' ha hb hc hm)
theorem t_not {t : TM} (h : PT X a (tMT G W t)) : PT X (.UnaryOp .Not a pos) (tMT G W (cNot t)) := kt_not (pt_not h)
theorem w_or {t u : TM} {rest : List Expr} (h : PT X a (tMT G W t)) (h2 : PW X (.BoolOp .Or (b :: rest) pos) (tMT G W u)) : PW X (.BoolOp .Or (a :: b :: rest) pos) (tMT G W (cOr t u)) := kw_or (pw_or h h2)
theorem x_and {rest : List Expr} (h : PE X a (tM G W fa)) (h2 : PE X (.BoolOp .And (b :: rest) pos) (tM G W fb)) : PE X (.BoolOp .And (a :: b :: rest) pos) (tM G W (eAnd fa fb)) := k_and (pe_and h h2)
theorem x_or {rest : List Expr} (h : PE X a (tM G W fa)) (h2 : PE X (.BoolOp .Or (b :: rest) pos) (tM G W fb)) : PE X (.BoolOp .Or (a :: b :: rest) pos) (tM G W (eOr fa fb)) := k_or (pe_or h h2)
theorem x_not (h : PE X a (tM G W fa)) : PE X (.UnaryOp .Not a pos) (tM G W (eNot fa)) := k_not (pe_not h)
theorem x_if {t : TM} (ht : PT X c (tMT G W t)) (ha : PE X a (tM G W fa)) (hb : PE X b (tM G W fb)) : PE X (.IfExp c a b pos) (tM G W (eIf t fa fb)) := k_if (pe_ifExp ht ha hb)
/-! ### arguments, displays -/
theorem a_nil : PA X [] (tMA G W aNil) := ka_nil
theorem a_cons {es : List Expr} (ha : PE X e (tM G W fa)) (hr : PA X es (tMA G W am)) (hs : starEach (e :: es) X.env = (false, eval e X.env) :: starEach es X.env := by rfl) : PA X (e :: es) (tMA G W (aCons fa am)) := ka_cons (pa_cons ha hr hs)
theorem x_tup {es : List Expr} {x1} (h : PA X es (tMA G W am)) : PE X (.Tuple es x1 pos) (tM G W (eA qTup am)) := k_tup (pe_tup h)
theorem x_lst {es : List Expr} (h : PA X es (tMA G W am)) : PE X (.List es pos) (tM G W (eA qLst am)) := k_lst (pe_lst h)
/-! ### places -/
theorem x_fld {inj : ∀ i j, G.fl i = G.fl j → i = j} {c f : Nat} {fs : PySem.Str} (hf : fs = G.fl f) (hc : Cls G.K (G.cl c)) (hn : NoAttr G.K (G.cl c) (G.fl f)) (h : PE X e (tM G W fa)) (hK : X.K = G.K := by rfl) (hb : attributeBase e fs X.env (eval e X.env) = eval e X.env := by rfl) : PE X (.Attribute e fs pos) (tM G W (e1 (qFld c f) fa)) := by
  subst hf
  exact k_fld (inj := inj) (K := X.K) (hK ▸ hc) (hK ▸ hn) (pe_fld h hb)
theorem x_ix (ha : PE X a (tM G W fa)) (hb : PE X b (tM G W fb)) (hK : X.K = G.K := by rfl) (hs : PlainIx b := by intro _ _; rfl) : PE X (.Subscript a b pos) (tM G W (e2 qIx fa fb)) := k_op (r := rIxM X.K) (hK ▸ o_ix) (pe_ix ix_M ha hb hs)
theorem x_dget (hr : Room k X.A) (ha : PE X a (tM G W fa)) (hb : PE X b (tM G W fb)) (hs : NoSl b := by intro _ _; rfl) : PE X (.Subscript a b pos) (tM G W (e2 qDget fa fb)) := k_dget (pe_dget (hu_of hr) ha hb hs)
theorem x_sl {lo hi : Option Expr} {fl fh : Option EM} {p2 : Pos} (ha : PE X a (tM G W fa)) (hl : PO X lo (tPartM G W fl)) (hh : PO X hi (tPartM G W fh)) (hK : X.K = G.K := by rfl) : PE X (.Subscript a (.Slice lo hi none p2) pos) (tM G W (eSl fa fl fh)) := k_sl hK (pe_slice sl_M ha hl hh)
theorem o_none : PO X none (tPartM G W none) := po_none
theorem o_some (h : PE X e (tM G W fa)) : PO X (some e) (tPartM G W (some fa)) := po_some h
theorem x_rev {j : Nat} {p1 p2 p3 : Pos} (h : PE X e (tM G W fa)) (hK : X.K = G.K := by rfl) : PE X (.Subscript e (.Slice none none (some (.UnaryOp .USub (.Constant (.int 1) j p1) p2)) p3) pos) (tM G W (e1 qRev fa)) := k_rev hK (pe_revL h)
/-! ### globals -/
theorem x_gint {x : PySem.Str} {i : Int} (hm : ∃ t, X.mg x = some (.int i t)) (hg : Gl X x := by rfl) (hd : (x == ("__debug__" : PySem.Str)) = false := by decide) : PE X (.Name x pos) (tM G W (eC (.int i))) := by
  obtain ⟨t, e⟩ := hm
  exact m_glob (v := .int i) hg e ⟨t, rfl⟩ (fun m H => by simp only [RV]) hd
theorem x_gstr {x : PySem.Str} {s : List Nat} (hm : ∃ t, X.mg x = some (.str ⟨s.toArray⟩ t)) (hg : Gl X x := by rfl) (hd : (x == ("__debug__" : PySem.Str)) = false := by decide) : PE X (.Name x pos) (tM G W (eC (.str s))) := by
  obtain ⟨t, e⟩ := hm
  exact m_glob (v := .str ⟨s.toArray⟩) hg e ⟨t, rfl⟩ (fun m H => by simp only [RV]) hd
/-! ### calls -/
/-- f(e, ..), f built-in -/
theorem x_blt {x : PySem.Str} {p : Pos} {id : String} {r : List V → Hp → VK → Prop} {g : FM} {es : List Expr} (hc : CallR X (.builtin id) r) (cg : CallG G r g) (hm : X.mg x = none) (hv : bootBuiltins x = some (.builtin id)) (ha : PA X (e :: es) (tMA G W am)) (hg : Gl X x := by rfl) (hn : x ≠ "__name__" := by decide) (hdb : (x == ("__debug__" : PySem.Str)) = false := by decide)
    (he : starEach (e :: es) X.env = (false, eval e X.env) :: starEach es X.env := by rfl) (hpl : (backTo pos (starEach es X.env)).any (·.1) = false := by rfl) : PE X (.Call (.Name x p) (e :: es) [] pos) (tM G W (eA g am)) := k_cb cg (pe_callB hc hg hm hv ha hn hdb he hpl)
theorem x_bty {x : PySem.Str} {p : Pos} {T : String} {r : List V → Hp → VK → Prop} {g : FM} {es : List Expr} (hc : CallR X (.type T) r) (cg : CallG G r g) (hm : X.mg x = none) (hv : bootBuiltins x = some (.type T)) (ha : PA X (e :: es) (tMA G W am)) (hg : Gl X x := by rfl) (hn : x ≠ "__name__" := by decide) (hdb : (x == ("__debug__" : PySem.Str)) = false := by decide)
    (he : starEach (e :: es) X.env = (false, eval e X.env) :: starEach es X.env := by rfl) (hpl : (backTo pos (starEach es X.env)).any (·.1) = false := by rfl) : PE X (.Call (.Name x p) (e :: es) [] pos) (tM G W (eA g am)) := k_cb cg (pe_callTy hc hg hm hv ha hn hdb he hpl)
/-- isinstance(e, T) -/
theorem x_isi {nc j : Nat} {u : Value} {cv : V} {x : PySem.Str} {p : Pos} {tc : Expr} (hx : x = "isinstance") (I : IsiOk G nc j u) (hc : ClsV cv u) (hm : X.mg "isinstance" = none) (ha : PE X e (tM G W fa)) (ht : PE X tc (L2.tC cv)) (hK : X.K = G.K := by rfl) (hg : Gl X "isinstance" := by rfl)
    (he : starEach [e, tc] X.env = (false, eval e X.env) :: starEach [tc] X.env := by rfl) (he2 : starEach [tc] X.env = (false, eval tc X.env) :: starEach [] X.env := by rfl) (hpl : (backTo pos (starEach [tc] X.env)).any (·.1) = false := by rfl) : PE X (.Call (.Name x p) [e, tc] [] pos) (tM G W (e1 (qIsi nc j) fa)) := by
  subst hx
  exact k_isi (K := X.K) hK I hc (pe_callB call_isi hg hm (by decide +kernel) (pa_cons ha (pa_cons ht pa_nil he2) he) (by decide) (by decide) he hpl)
theorem x_ty {x : PySem.Str} {n : String} (hm : X.mg x = none) (hv : bootBuiltins x = some (.type n)) (hg : Gl X x := by rfl) (hn : x ≠ "__name__" := by decide) (hd : (x == ("__debug__" : PySem.Str)) = false := by decide) : PE X (.Name x pos) (L2.tC (.ty n)) := pe_bltn hg hm hv rfl hn hd
theorem x_cls {x : PySem.Str} {C : Addr} (hm : X.mg x = some (.ref C)) (hg : Gl X x := by rfl) (hd : (x == ("__debug__" : PySem.Str)) = false := by decide) : PE X (.Name x pos) (L2.tC (.ref C)) := pe_glob hg hm rfl hd
/-- f(e, ..), f a def -/
theorem x_call {x : PySem.Str} {p : Pos} {f : Addr} {ps : List PySem.Str} {np : Nat} {g : FM} {es : List Expr} (D : Dn X.prog X.w X.K X.mg X.base G f k ps np g) (hr : Room k X.A) (hm : X.mg x = some (.ref f)) (hl : ∀ σ h vs h', am σ h = .ok vs h' → vs.length = np) (ha : PA X (e :: es) (tMA G W0 am)) (hg : Gl X x := by rfl)
    (hdb : (x == ("__debug__" : PySem.Str)) = false := by decide) (he : starEach (e :: es) X.env = (false, eval e X.env) :: starEach es X.env := by rfl) (hpl : (backTo pos (starEach es X.env)).any (·.1) = false := by rfl) :
    PE X (.Call (.Name x p) (e :: es) [] pos) (tM G W0 (eA g am)) := by
  obtain ⟨fd, F, bi⟩ := D.ex
  exact k_call hl (pe_call F hr hg hm D.kp bi .nil pass0 ha hdb he hpl)
theorem x_meth0 {o : Expr} {c : Nat} {mn : PySem.Str} {f : Addr} {ps : List PySem.Str} {np : Nat} {g : FM} {apos : Pos} {pl : Sem Bool} (D : Dn X.prog X.w X.K X.mg X.base G f k ps np g) (hr : Room k X.A) (hc : Cls G.K (G.cl c)) (hm : Meth G.K (G.cl c) mn f) (hf : ∀ i, G.fl i ≠ mn) (hl : 1 = np) (ho : PE X o (tM G W0 fa)) (hK : X.K = G.K := by rfl)
    (ht : eval (.Call (.Attribute o mn apos) [] [] pos) X.env = (do
      let ov ← eval o X.env
      standAt apos.atName
      let (f, first) ← holding [ov] (getMethod ov mn pl)
      callWith pos f first (backTo pos (starEach [] X.env)) (backToKw pos (keywordEach [] X.env))) := by rfl) :
    PE X (.Call (.Attribute o mn apos) [] [] pos) (tM G W0 (eMeth c g fa aNil)) := by
  obtain ⟨fd, F, bi⟩ := D.ex
  refine k_meth (n := np) hf (fun σ h vs h' e => by rw [len_nil σ h vs h' e]; exact hl) ((pe_meth0 (pl := pl) ho (hK ▸ hc) (hK ▸ hm) F hr bi .nil pass0 ht).wk fun σ H Q q => ?_)
  exact q.imp fun x H1 ⟨a, dx, fs, e1, e2, e3, q⟩ => ⟨a, dx, fs, e1, e2, e3, by
    obtain ⟨m, h, σm, S, R, p⟩ := q
    exact RP.now p S .nil⟩
/-- C(e, ..), every parameter written -/
theorem x_make {x : PySem.Str} {p : Pos} {c : Nat} {f : Addr} {ps : List PySem.Str} {np : Nat} {g : FM} {es : List Expr} (M : Mk G.K (G.cl c) f) (D : Dn X.prog X.w X.K X.mg X.base G f k ps np g) (hr : Room (k + 1) X.A) (hm : X.mg x = some (.ref (G.cl c))) (hl : ∀ σ h vs h', am σ h = .ok vs h' → vs.length + 1 = np) (ha : PA X (e :: es) (tMA G W0 am)) (hK : X.K = G.K := by rfl) (hg : Gl X x := by rfl)
    (hdb : (x == ("__debug__" : PySem.Str)) = false := by decide) (he : starEach (e :: es) X.env = (false, eval e X.env) :: starEach es X.env := by rfl) (hpl : (backTo pos (starEach es X.env)).any (·.1) = false := by rfl) :
    PE X (.Call (.Name x p) (e :: es) [] pos) (tM G W0 (eNew c g am)) := by
  obtain ⟨fd, F, bi⟩ := D.ex
  exact k_make hl (pe_make (hK ▸ M) F hr hg hm bi .nil pass0 ha hdb he hpl)
/-! ### walks -/
variable {tg : Expr}
theorem i_seq (h : PE X e (tM G W fa)) (hK : X.K = G.K := by rfl) : PI X tg e (tMI G W (wSeq fa)) := ki_seq hK (pi_list h)
theorem i_tup (h : PE X e (tM G W fa)) (hK : X.K = G.K := by rfl) : PI X tg e (tMI G W (wTup fa)) := ki_tup hK (pi_tup h)
theorem i_str (h : PE X e (tM G W fa)) : PI X tg e (tMI G W (wStr fa)) := ki_str (pi_str h)
theorem i_rng1 {p : Pos} (hm : X.mg "range" = none) (h : PE X e (tM G W fa)) (hg : Gl X "range" := by rfl) (hs : starEach [e] X.env = [(false, eval e X.env)] := by rfl) : PI X tg (.Call (.Name "range" p) [e] [] pos) (tMI G W (wRng1 fa)) := ki_rng1 (pi_range1 hg hm (pa_cons h pa_nil hs) hs)
theorem i_rng3 {p : Pos} (hm : X.mg "range" = none) (ha : PE X a (tM G W fa)) (hb : PE X b (tM G W fb)) (hc : PE X c (tM G W fc)) (hg : Gl X "range" := by rfl) (h1 : starEach [a, b, c] X.env = (false, eval a X.env) :: starEach [b, c] X.env := by rfl) (h2 : starEach [b, c] X.env = (false, eval b X.env) :: starEach [c] X.env := by rfl) (h3 : starEach [c] X.env = (false, eval c X.env) :: starEach [] X.env := by rfl) (hpl : (backTo pos (starEach [b, c] X.env)).any (·.1) = false := by rfl) :
    PI X tg (.Call (.Name "range" p) [a, b, c] [] pos) (tMI G W (wRng3 fa fb fc)) := ki_rng3 (pi_range3 hg hm (pa_cons ha (pa_cons hb (pa_cons hc pa_nil h3) h2) h1) h1 hpl)
theorem i_enum {p tpos : Pos} {elts : List Expr} {kk : Nat} (hm : X.mg "enumerate" = none) (h : PE X e (tM G W fa)) (hK : X.K = G.K := by rfl) (hg : Gl X "enumerate" := by rfl) (hs : starEach [e] X.env = [(false, eval e X.env)] := by rfl) : PI X (.Tuple elts kk tpos) (.Call (.Name "enumerate" p) [e] [] pos) (tMI G W (wEnum fa)) := ki_enum hK (pi_enum hg hm (pa_cons h pa_nil hs) hs)
theorem i_keys (h : PE X e (tM G W fa)) : PI X tg e (tMI G W (wDct 0 fa)) := ki_keys (pi_keys h)
theorem i_vals {apos : Pos} (h : PE X e (tM G W fa)) (hbase : attributeBase e "values" X.env (eval e X.env) = eval e X.env := by rfl) (hline : (apos.endLine == pos.line) = true := by rfl) : PI X tg (.Call (.Attribute e "values" apos) [] [] pos) (tMI G W (wDct 1 fa)) := ki_vals (pi_values h hbase hline)
theorem i_items {apos tpos : Pos} {elts : List Expr} {kk : Nat} (h : PE X e (tM G W fa)) (hbase : attributeBase e "items" X.env (eval e X.env) = eval e X.env := by rfl) (hline : (apos.endLine == pos.line) = true := by rfl) : PI X (.Tuple elts kk tpos) (.Call (.Attribute e "items" apos) [] [] pos) (tMI G W (wDct 2 fa)) := ki_items (pi_items h hbase hline)
/-! ### targets -/
theorem g_nm {i : Nat} {x : PySem.Str} (hN : X.N.Nodup) (hx : Loc X.env.scope x) (hi : X.N[i]? = some x := by rfl) (hf : X.fn x = true ∨ X.env.scope.names.lookup x = some .local := by first | exact .inl rfl | exact .inr rfl | assumption) : PG X (.Name x pos) (gP G (.nm i)) := kg_name (pg_name hN hi hx hf)
theorem gs_nil : PGs X [] (gPs G .nil) := kgs_nil pgs_nil
theorem gs_cons {tgs : List Expr} {p q : Pt} (h1 : PG X e (gP G p)) (h2 : PGs X tgs (gPs G q)) (hs : (assignEach (e :: tgs) X.env).map (·.2) = assign e X.env :: (assignEach tgs X.env).map (·.2) := by rfl) : PGs X (e :: tgs) (gPs G (.cons p q)) := kgs_cons (pgs_cons h1 h2 hs)
theorem g_tup {tgs : List Expr} {kk : Nat} {p q : Pt} (hc : X.calm = true) (h : PGs X tgs (gPs G (.cons p q))) (hn : (assignEach tgs X.env).length = (Pt.cons p q).len := by rfl) (hst : (assignEach tgs X.env).findIdx? (·.1) = none := by rfl) : PG X (.Tuple tgs kk pos) (gP G (.cons p q)) := kg_tup (K := X.K) (fun i z => by cases z) (pg_tup hc h hn hst)
/-! ### statements -/
variable {sa sb : SM} {t : TM} {body els : List Stmt}
theorem s_set {i : Nat} {x : PySem.Str} {pos' : Pos} (hN : X.N.Nodup) (hx : Loc X.env.scope x) (he : PE X e (tM G W fa)) (hi : X.N[i]? = some x := by rfl) (hs : swapsWith e (some (.Name x pos')) pos.line X.env = pure false := by rfl) (hf : X.fn x = true ∨ X.env.scope.names.lookup x = some .local := by first | exact .inl rfl | exact .inr rfl | assumption) :
    PS X (.Assign [.Name x pos'] e pos) (tMS G W (jAsg fa (.nm i))) := js_set (ps_set hN hi hx he hs hf)
theorem s_par {i j : Nat} {x y : PySem.Str} {px py pt : Pos} {kt k2 pt2} (hN : X.N.Nodup) (hij : i ≠ j) (ha : PE X a (tM G W fa)) (hb : PE X b (tM G W fb)) (hc : X.calm = true := by rfl) (hi : X.N[i]? = some x := by rfl) (hj : X.N[j]? = some y := by rfl)
    (hx : X.env.scope.names.lookup x = some .local := by rfl) (hy : X.env.scope.names.lookup y = some .local := by rfl) (h1 : starEach [a, b] X.env = (false, eval a X.env) :: starEach [b] X.env := by rfl) (h2 : starEach [b] X.env = (false, eval b X.env) :: starEach [] X.env := by rfl)
    (hw : swappedStores [.Tuple [.Name x px, .Name y py] kt pt] (.Tuple [a, b] k2 pt2) X.env = pure (some [x, y]) := by rfl)
    (hs : swapsWithSole [.Tuple [.Name x px, .Name y py] kt pt] (.Tuple [a, b] k2 pt2) pos.line X.env = pure false := by rfl) :
    PS X (.Assign [.Tuple [.Name x px, .Name y py] kt pt] (.Tuple [a, b] k2 pt2) pos) (tMS G W (jPar i j fa fb)) := js_par (ps_par hc hN hi hj hij hx hy (pa_cons ha (pa_cons hb pa_nil h2) h1) hw hs)
theorem s_expr (h : PE X e (tM G W fa)) (hs : swapsWith e none pos.line X.env = pure false := by rfl) : PS X (.Expr e pos) (tMS G W (jDrop fa)) := js_expr (ps_expr h hs)
theorem s_ret (h : PE X e (tM G W fa)) : PS X (.Return (some e) pos) (tMS G W (jRet fa)) := js_ret (ps_ret h)
theorem s_if (h : PT X c (tMT G W t)) (ha : PSs X body (tMS G W sa)) (hb : PSs X els (tMS G W sb)) : PS X (.If c body els pos) (tMS G W (jIf t sa sb)) := js_if (ps_if h ha hb)
theorem s_for {w : WM} {p : Pt} {iter tg : Expr} (hi : PI X tg iter (tMI G W w)) (hg : PG X tg (gP G p)) (hb : PSs X body (tMS G W sb)) (hp : PassesOwn (model X.prog X.w) X.A X.env X.xe) (hc : X.calm = true := by rfl) (hs : ∀ x, foldedSetIterable iter X.env x = pure x := by intro _; rfl) : PS X (.For tg iter body [] pos) (tMS G W (jFor w p sb)) := js_for (ps_for hp hc hi hg hb hs)
theorem s_while (n : Nat) (hc : PT X c (tMT G W t)) (hb : PSs X body (tMS G W sb)) (hp : PassesOwn (model X.prog X.w) X.A X.env X.xe) : PS X (.While c body [] pos) (tMS G W (jWhile n t sb)) := js_while n (ps_while hp hc hb)
theorem s_fld {inj : ∀ i j, G.fl i = G.fl j → i = j} {c f : Nat} {o v : Expr} {fs : PySem.Str} {pos' : Pos} (hf : fs = G.fl f) (hc : Cls G.K (G.cl c)) (hn : NoAttr G.K (G.cl c) (G.fl f)) (ho : PE X o (tM G W fa)) (hv : PE X v (tM G W fb)) (hK : X.K = G.K := by rfl) (hs : swapsWith v (some (.Attribute o fs pos')) pos.line X.env = pure false := by rfl) :
    PS X (.Assign [.Attribute o fs pos'] v pos) (tMS G W (jFld c f fa fb)) := by
  subst hf
  exact js_fld (inj := inj) (K := X.K) (hK ▸ hc) (hK ▸ hn) (ps_fld ho hv hs)
theorem s_dput {pos' : Pos} {d i v : Expr} (hr : Room k X.A) (hd : PE X d (tM G W fa)) (hi : PE X i (tM G W fb)) (hv : PE X v (tM G W fc)) (hs : swapsWith v (some (.Subscript d i pos')) pos.line X.env = pure false := by rfl) : PS X (.Assign [.Subscript d i pos'] v pos) (tMS G W (jDput fa fb fc)) := js_dput (ps_dput (hu_of hr) hd hi hv hs)
theorem js_setL {st : Stmt} (h : PS X st (L2.tAsg (tM G W fc) (L2.gSub (tM G W fa) (tM G W fb) L2.rSetL))) : PS X st (tMS G W (jSetL fa fb fc)) := h.wk fun D σ H q => by
  refine (tMS.out (Rel := RV G) (k := fun σ y h1 => (fa σ h1).out σ fun x h2 => (fb σ h2).out σ fun k h3 => match x, k with
  | .ref n, .int k => (match h3.get n with
    | some (.lst xs) => (match ixM xs.length k with
      | some j => .nx σ (h3.set n (.lst (xs.set j y)))
      | none => .bad)
    | _ => .bad)
  | _, _ => .bad) q).imp fun y H1 ⟨m1, h1, ym, σm, S1, R1, r1, p1⟩ => ?_
  refine ⟨m1, h1, σm, S1, R1, (OP.out (Rel := RV G) R1 p1).imp fun x H2 ⟨m2, h2, xm, x2, S2, r2, p2⟩ => ?_⟩
  have R2' := R1.mono x2.toLe
  refine ⟨m2, h2, σm, S2, R2', (OP.out (Rel := RV G) R2' p2).imp fun i H3 ⟨m3, h3, im, x3, S3, r3, p3⟩ => ?_⟩
  cases xm with
  | ref n =>
    cases im with
    | int k =>
      dsimp only at p3
      cases eg : h3.get n with
      | none => rw [eg] at p3; exact False.elim p3
      | some o =>
        rw [eg] at p3
        cases o with
        | lst xs =>
          dsimp only at p3
          cases ei : ixM xs.length k with
          | none => rw [ei] at p3; exact False.elim p3
          | some j =>
            rw [ei] at p3
            simp only [RV] at r3
            obtain ⟨a, us, ea, rfl, eh, rs⟩ := S3.lst eg (r2.mono x3.toLe)
            have rv3 := (r1.mono x2.toLe).mono x3.toLe
            have pl : Plain (H3 a) := by rw [eh]; trivial
            have x4 : Ex G m3 H3 m3 (upd H3 a (.lst (us.set j y))) := .upd a _ pl (.inl (List.mem_of_getElem? ea))
            refine ⟨a, us, k, j, rfl, r3, eh, by rw [← ixM_eq, rs.length]; exact ei, ?_⟩
            exact p3 m3 _ σ x4 (S3.write ea pl.l ⟨_, rfl, (rs.set j rv3).mono x4.toLe⟩) ((R2'.mono x3.toLe).mono x4.toLe)
        | _ => exact False.elim p3
    | _ => exact False.elim p3
  | _ => exact False.elim p3
theorem s_setL {pos' : Pos} {o i v : Expr} (ho : PE X o (tM G W fa)) (hi : PE X i (tM G W fb)) (hv : PE X v (tM G W fc)) (hs : swapsWithSole [.Subscript o i pos'] v pos.line X.env = pure false := by rfl) (hw : swappedStores [.Subscript o i pos'] v X.env = pure none := by rfl) (h1 : (assignEach [.Subscript o i pos'] X.env).map (·.2) = [assign (.Subscript o i pos') X.env] := by rfl)
    (ha : ∀ v, assign (.Subscript o i pos') X.env v = (do
      let ov ← holding [v] (eval o X.env)
      let iv ← holding [v, ov] (eval i X.env)
      standAt pos'
      holding [v, ov, iv] (setItem ov iv v)
      release [v, ov, iv] []) := by intro _; rfl) : PS X (.Assign [.Subscript o i pos'] v pos) (tMS G W (jSetL fa fb fc)) := js_setL (ps_asg hv (pg_sub ho hi set_list ha) hs hw h1)
end
/-! ### C(.., k = v, ..) -/
structure Kb (P : Program) (w : World) (K : PySem.W.Frag) (mg : PySem.Str → Option Value) (base : Heap) (G : GC) (f : Addr) (k : Nat) (ps : List PySem.Str) (np n : Nat) (ks : List PySem.Str) (g : FM) (kf : List MV → List MV → List MV) : Prop where
  ex : ∃ (fd : FuncData) (gg : List Value → List Value → List Value) (gV : List V → List V → List V), FnOk P w K mg base CX0 k f fd ps (spM G np g) ∧ KBn K fd ps (n + 1) ks gg gV ∧ KwM G n ks.length np kf gV
theorem x_makeN {X : Cx} {G : GC} {e : Expr} {am ak : AM} {pos : Pos} {k : Nat} {x : PySem.Str} {p : Pos} {c n np : Nat} {f : Addr} {ps ks : List PySem.Str} {g : FM} {kf : List MV → List MV → List MV} {es : List Expr} {kws : List Keyword} (M : Mk G.K (G.cl c) f) (D : Kb X.prog X.w X.K X.mg X.base G f k ps np n ks g kf) (hr : Room (k + 1) X.A) (hm : X.mg x = some (.ref (G.cl c)))
    (hl : ∀ σ h vs h', am σ h = .ok vs h' → vs.length = n) (hl2 : ∀ σ h vs h', ak σ h = .ok vs h' → vs.length = ks.length) (ha : PA X (e :: es) (tMA G W0 am)) (hkw : PK X kws (tMA G W0 ak)) (hK : X.K = G.K := by rfl) (hg : Gl X x := by rfl)
    (hall : (backToKw pos (keywordEach kws X.env)).all (·.1.isSome) = true := by rfl) (hks : (backToKw pos (keywordEach kws X.env)).filterMap (·.1) = ks := by rfl)
    (hdb : (x == ("__debug__" : PySem.Str)) = false := by decide) (he : starEach (e :: es) X.env = (false, eval e X.env) :: starEach es X.env := by rfl)
    (hpl : ((backTo pos (starEach (e :: es) X.env)).any (·.1) || (backToKw pos (keywordEach kws X.env)).any (·.1.isNone)) = false := by rfl) :
    PE X (.Call (.Name x p) (e :: es) kws pos) (tM G W0 (eNewK c g kf am ak)) := by
  obtain ⟨fd, gg, gV, F, hb, KM⟩ := D.ex
  exact k_makeN KM hl hl2 (pe_makeN (hK ▸ M) F hr hg hm hb pass0 ha hkw hall hks hdb he hpl)
theorem rvs_ints {G : GC} {m : List Addr} {H : Hp} : ∀ is : List Int, RVs G m H (is.map MV.int) (is.map V.int)
  | [] => .nil
  | _ :: r => .cons (by simp only [RV]) (rvs_ints r)
/-! ### what is locked stands at a name, or in a field of it -/
def LkOk (G : GC) (fp : EM) : Prop := ∀ (m : List Addr) (h : MH) (H : Hp) (σm : Sl) (σ : L2.St) (v : MV) (h' : MH), Sim G m h H → RS G m H σm σ → fp σm h = .ok v h' → h' = h ∧ ∃ x, RV G m H v x
theorem lk_var {G : GC} (i : Nat) : LkOk G (eV i) := fun m h H σm σ v h' S R e => by
  unfold eV at e
  cases q : σm[i]? with
  | none => rw [q] at e; cases e
  | some u =>
    rw [q] at e
    cases u with
    | none => cases e
    | some w =>
      cases e
      obtain ⟨x, _, r⟩ := R.at_ i v q
      exact ⟨rfl, x, r⟩
theorem lk_fld {G : GC} {inj : ∀ i j, G.fl i = G.fl j → i = j} {c f : Nat} {fp : EM} (hp : LkOk G fp) : LkOk G (e1 (qFld c f) fp) := fun m h H σm σ v h' S R e => by
  unfold e1 at e
  cases q : fp σm h with
  | bad => rw [q] at e; cases e
  | exc _ _ _ => rw [q] at e; cases e
  | ok w h2 =>
    rw [q] at e
    obtain ⟨rfl, x, r⟩ := hp m h H σm σ w h2 S R q
    dsimp only [Res.bind] at e
    unfold qFld at e
    cases w with
    | ref n =>
      dsimp only at e
      cases eg : h2.get n with
      | none => rw [eg] at e; cases e
      | some o =>
        rw [eg] at e
        cases o with
        | ins d fs =>
          dsimp only at e
          cases ed : Nat.beq d c with
          | false => rw [ed] at e; cases e
          | true =>
            rw [ed] at e
            dsimp only at e
            cases ef : fget f fs with
            | none => rw [ef] at e; cases e
            | some u =>
              rw [ef] at e
              cases e
              obtain ⟨a, dx, gs, _, rfl, _, pr⟩ := S.ins eg r
              obtain ⟨y, _, ry⟩ := fget_of (inj := inj) pr ef
              exact ⟨rfl, y, ry⟩
        | _ => cases e
    | _ => cases e
section
variable {X : Cx} {G : GC} {e : Expr} {st : Stmt} {fa fp : EM} {sa : SM}
theorem s_lock (hp : LkOk G fp) (h : PS X st (tMS G W0 sa)) : PS X st (tMS G W0 (jLock fp sa)) := js_lock (fun m h H σm σ v h' S R e => (hp m h H σm σ v h' S R e).2) h
end
end KA
set_option autoImplicit false
set_option maxHeartbeats 200000
set_option maxRecDepth 512
set_option Elab.async false
set_option autoImplicit false
set_option linter.all false
set_option maxRecDepth 100000
set_option maxHeartbeats 400000
/-! KMore: more operators. -/
namespace KA
open PySem PySem.Spec PyProof.Rows L2
theorem flat_rv {G : GC} {m : List Addr} {H : Hp} {v : MV} {x : V} (e : flatM v = true) (r : RV G m H v x) : flatV x = true := by
  cases v with
  | non => simp only [RV] at r; subst r; rfl
  | bl b => simp only [RV] at r; subst r; rfl
  | int i => simp only [RV] at r; subst r; rfl
  | str s => simp only [RV] at r; subst r; rfl
  | _ => cases e
theorem str_eqV (a b : List Nat) : ((⟨a.toArray⟩ : PySem.Str) == ⟨b.toArray⟩) = decide (a = b) := by
  by_cases c : a = b
  · subst c; simp
  · rw [decide_eq_false c]
    refine beq_eq_false_iff_ne.mpr fun z => c ?_
    have e2 : a.toArray = b.toArray := PySem.Str.mk.inj z
    simpa using e2
theorem eq_flat {G : GC} {m : List Addr} {h : MH} {H : Hp} {v w : MV} {x y : V} (ev : flatM v = true) (ew : flatM w = true) (r : RV G m H v x) (q : RV G m H w y) : eqB 1 h v w = eqV x y := by
  cases v with
  | non =>
    cases w with
    | non => simp only [RV] at r q; subst r q; rfl
    | bl b => simp only [RV] at r q; subst r q; rfl
    | int i => simp only [RV] at r q; subst r q; rfl
    | str s => simp only [RV] at r q; subst r q; rfl
    | _ => cases ew
  | bl a =>
    cases w with
    | non => simp only [RV] at r q; subst r q; rfl
    | bl b => simp only [RV] at r q; subst r q; rfl
    | int i => simp only [RV] at r q; subst r q; cases a <;> rfl
    | str s => simp only [RV] at r q; subst r q; rfl
    | _ => cases ew
  | int a =>
    cases w with
    | non => simp only [RV] at r q; subst r q; rfl
    | bl b => simp only [RV] at r q; subst r q; cases b <;> rfl
    | int i => simp only [RV] at r q; subst r q; rfl
    | str s => simp only [RV] at r q; subst r q; rfl
    | _ => cases ew
  | str a =>
    cases w with
    | non => simp only [RV] at r q; subst r q; rfl
    | bl b => simp only [RV] at r q; subst r q; rfl
    | int i => simp only [RV] at r q; subst r q; rfl
    | str s =>
      simp only [RV] at r q; subst r q
      show beqN a s = ((⟨a.toArray⟩ : PySem.Str) == ⟨s.toArray⟩)
      rw [str_eqV, beqN_iff]
    | _ => cases ew
  | _ => cases ev
end KA
set_option autoImplicit false
set_option maxHeartbeats 200000
set_option maxRecDepth 512
set_option Elab.async false
set_option autoImplicit false
set_option linter.all false
set_option maxRecDepth 100000
set_option maxHeartbeats 400000
/-! KIs: x is True, x is not False. -/
set_option autoImplicit false
set_option maxHeartbeats 200000
set_option maxRecDepth 512
set_option Elab.async false
set_option autoImplicit false
set_option linter.all false
set_option maxRecDepth 100000
set_option maxHeartbeats 800000
/-! KInn: iterators within enumerate and zip. -/
set_option autoImplicit false
set_option maxHeartbeats 200000
set_option maxRecDepth 512
set_option Elab.async false
set_option autoImplicit false
set_option linter.all false
set_option maxRecDepth 100000
set_option maxHeartbeats 800000
/-! KInn2: dicts walked from within zip. -/
set_option autoImplicit false
set_option maxHeartbeats 200000
set_option maxRecDepth 512
set_option Elab.async false
set_option autoImplicit false
set_option linter.all false
set_option maxRecDepth 100000
set_option maxHeartbeats 1600000
/-! KZip: zip of two inner iterators. -/
namespace KA
open PySem PySem.Spec PyProof.Rows L2
/-! ### zip(a, b): two iterators are made -/
/-! ### what zip draws from, by values -/
def vwHO (n : String) (v d : Addr) : HO := .ext fun h => h.get? v = some { cls := .type n, data := .fields #[.ref d] }
end KA
set_option autoImplicit false
set_option maxHeartbeats 200000
set_option maxRecDepth 512
set_option Elab.async false
set_option autoImplicit false
set_option linter.all false
set_option maxRecDepth 100000
set_option maxHeartbeats 1600000
/-! KZip2: zip(a, b) over lists, tuples, dicts, their values and items. -/
namespace KA
open PySem PySem.Spec PyProof.Rows L2
section
variable {X : Cx} {e : Expr} {td : TE} {apos cpos : Pos}
theorem Inv.view {pins : List (Addr × Obj)} {σ : L2.St} {H : Hp} {s : Shared} {n : String} {d : Addr} (I : Inv X pins σ H s) : Inv X pins σ (upd H s.heap.objs.size (vwHO n s.heap.objs.size d)) { s with heap := s.heap.push { cls := .type n, data := .fields #[.ref d] } } :=
  I.turnedNew (t' := s.toks) (ch := []) (fun b o _ q => Heap.get?_push_of_some _ q) (fun b hb => by simp at hb) (Nat.le_refl _)
    ⟨Heap.get?_push_size _ rfl, ⟨_, Heap.get?_push_size _ rfl⟩, fun h1 h2 q k => k _ q⟩
end
section
variable {G : GC} {W : XW} {X : Cx} {e : Expr} {fa fb : EM}
/-- the argument of zip, as it stands -/
def SrcT (G : GC) (k : Nat) (m : List Addr) (H : Hp) (v : MV) (x : V) : Prop := match k with
  | 0 => RV G m H v x
  | 1 => RV G m H v x
  | 2 => ∃ y d, x = .ref y ∧ y ∉ m ∧ H y = some (vwHO "dict_values" y d) ∧ RV G m H v (.ref d)
  | 3 => ∃ y d, x = .ref y ∧ y ∉ m ∧ H y = some (vwHO "dict_items" y d) ∧ RV G m H v (.ref d)
  | _ => False
theorem SrcT.mono {k : Nat} {m m' : List Addr} {H H' : Hp} {v : MV} {x : V} (s : SrcT G k m H v x) (e : Ex G m H m' H') : SrcT G k m' H' v x := by
  have pr : ∀ y u, y ∉ m → H y = some u → (∀ ps, u ≠ .tbl ps) → y ∉ m' ∧ H' y = some u := fun y u hy hu nt => ⟨fun q => by
    obtain ⟨ps, z⟩ := e.new y q hy u hu
    exact nt ps z, (e.out y hy (by rw [hu]; simp) (by rw [hu]; exact fun ps z => nt ps (Option.some.inj z))).trans hu⟩
  match k, s with
  | 0, s => exact RV.mono e.toLe s
  | 1, s => exact RV.mono e.toLe s
  | 2, ⟨y, d, ex, hy, hu, r⟩ => exact ⟨y, d, ex, (pr y _ hy hu (fun ps z => by cases z)).1, (pr y _ hy hu (fun ps z => by cases z)).2, r.mono e.toLe⟩
  | 3, ⟨y, d, ex, hy, hu, r⟩ => exact ⟨y, d, ex, (pr y _ hy hu (fun ps z => by cases z)).1, (pr y _ hy hu (fun ps z => by cases z)).2, r.mono e.toLe⟩
end
end KA
set_option autoImplicit false
set_option maxHeartbeats 200000
set_option maxRecDepth 512
set_option Elab.async false
set_option autoImplicit false
set_option linter.all false
set_option maxRecDepth 100000
set_option maxHeartbeats 1600000
/-! KOwn: operations on instances of the program's own classes. -/
namespace KA
open PySem PySem.Spec PyProof.Rows L2
section
variable {X : Cx} {G : GC} {pins : List (Addr × Obj)} {σ : L2.St} {H : Hp} {s : Shared} {k np c : Nat} {f : Addr} {ps : List PySem.Str} {g : FM}
/-- a def called somewhere below the running body -/
theorem run_own {A : Around} {us : List Value} {xs : List V} {Q : VK} (D : Dn X.prog X.w X.K X.mg X.base G f k ps np g) (sb : Sub X k A) (I : Inv X pins σ H s) (r : Vals xs us) (h : spM G np g xs H Q E0) :
    wpAny (model X.prog X.w) A (call (.ref f) us) (EP X pins σ Q) X.xe s := by
  obtain ⟨fd, F, hb⟩ := D.ex
  have e0 : Env0 X.prog X.w X.K X.mg X.base A X.stack s H := by
    have e := I.env0
    exact ⟨by rw [sb.fr]; exact e.frames, e.mod, e.bs, e.bsz, e.funs, e.frf, e.hok, e.bare⟩
  have hl := F.len _ _ _ _ h
  refine wpAny_call (codeAny_mono (F.run A X.stack s H ⟨us, []⟩ us xs Q E0 sb.room e0 (by
    have := hb s us I.kIn (by rw [← hl, r.length]; simp)
    simpa using this) r h) fun r s' hq => ?_)
  cases r with
  | error e => exact pass0 pins σ H s e s' I hq
  | ok fl =>
    cases fl with
    | ret w => exact I.after hq
    | next => exact False.elim hq
    | brk => exact False.elim hq
    | cont => exact False.elim hq
theorem sub_here (hr : Room k X.A) : Sub X k X.A := ⟨hr, rfl⟩
/-- an instance of the class at C -/
def InsA (H : Hp) (C a : Addr) : Prop := ∃ dx fs, H a = some (.ins C dx fs)
theorem ins_at {C a : Addr} (I : Inv X pins σ H s) (h : InsA H C a) : ∃ od, PySem.W.InstAt s.heap a (PySem.W.instObj C (h.choose)) C od := by
  have hc := h.choose_spec
  obtain ⟨fs, hc⟩ := hc
  obtain ⟨mA, J, _⟩ := ins_get I.hok hc
  obtain ⟨od, J, _⟩ := J.look
  exact ⟨_, J⟩
/-! ### == and != -/
def rOwEq (G : GC) (c : Nat) (g : FM) : R2 := fun x y H Q => ∃ a b, x = .ref a ∧ y = .ref b ∧ InsA H (G.cl c) a ∧ InsA H (G.cl c) b ∧ spM G 2 g [x, y] H Q E0
theorem own_eq {A : Around} (D : Dn X.prog X.w X.K X.mg X.base G f k ps 2 g) (hm : Meth X.K (G.cl c) "__eq__" f) (sb : Sub X k A) {x y : V} {v u : Value} {Q : VK} (I : Inv X pins σ H s) (rx : RelV x v) (ry : RelV y u) (h : rOwEq G c g x y H Q) :
    wpAny (model X.prog X.w) A (richCompare .Eq v u) (EP X pins σ Q) X.xe s := by
  obtain ⟨a, b, rfl, rfl, ha, hb, q⟩ := h
  cases (show v = Value.ref a from rx)
  cases (show u = Value.ref b from ry)
  obtain ⟨od, J⟩ := ins_at I ha
  obtain ⟨od', J'⟩ := ins_at I hb
  obtain ⟨m, hF⟩ := I.fr
  refine PySem.W.cmp_K (op := .Eq) (tb := .ref (G.cl c)) sb.room.units0 hF I.ok.mod.kin J J'.type (by simp [PySem.W.notFirst]) hm.at_ hm.fn ?_
  refine wpAny_mono (run_own (us := [.ref a, .ref b]) (xs := [.ref a, .ref b]) D sb I (.cons rfl (.cons rfl .nil)) q) (fun w s' z => ?_) fun _ _ x => x
  obtain ⟨z', H', I', rz, qz⟩ := z
  exact SlX.cmpback rz ⟨z', H', I', rz, qz⟩
theorem op_owEq (D : Dn X.prog X.w X.K X.mg X.base G f k ps 2 g) (hm : Meth X.K (G.cl c) "__eq__" f) (hr : Room k X.A) : OpR X (compareOp .Eq) (rOwEq G c g) :=
  fun pins s σ H x y v u Q I rx ry h => own_eq D hm (sub_here hr) I rx ry h
/-! ### in, not in, a[b], len, bool, truth -/
end
/-! ### over the mini heap -/
/-- a binary operation, where nothing is raised -/
def Op20 (G : GC) (r : R2) (g : MV → MV → MH → Res MV) : Prop :=
  ∀ (m : List Addr) (h : MH) (H : Hp) (σ : L2.St) (v w : MV) (x y : V) (Q : VK), Sim G m h H → RV G m H v x → RV G m H w y → RP G W0 (RV G) m H σ (g v w h) Q → r x y H Q
section
variable {X : Cx} {G : GC} {e a b : Expr} {fa fb : EM} {am : AM} {pos : Pos} {k c : Nat} {f : Addr} {ps : List PySem.Str} {g : FM}
theorem tOp0_of {r : R2} {q : MV → MV → MH → Res MV} (hr : Op20 G r q) {σ : L2.St} {H : Hp} {Q : VK} (h : tM G W0 (e2 q fa fb) σ H Q) : tOp r (tM G W0 fa) (tM G W0 fb) σ H Q := by
  refine (tMR.bind (Rel := RV G) (k := fun σ v h1 => (fb σ h1).bind fun w h2 => q v w h2) h).imp fun x H1 ⟨m1, h1, v, σm, S1, R1, r1, p1⟩ => ?_
  refine ⟨m1, h1, σm, S1, R1, (RP.bind (Rel := RV G) p1).imp fun y H2 ⟨m2, h2, w, x2, S2, r2, p2⟩ => ?_⟩
  exact hr m2 h2 H2 σ v w x y Q S2 (r1.mono x2.toLe) r2 p2
theorem k_op0 {r : R2} {q : MV → MV → MH → Res MV} (hr : Op20 G r q) (h : PE X e (tOp r (tM G W0 fa) (tM G W0 fb))) : PE X e (tM G W0 (e2 q fa fb)) := h.wk fun _ _ _ p => tOp0_of hr p
theorem kt_op0 {r : R2} {q : MV → MV → MH → Res MV} (hr : Op20 G r q) (h : PT X e (tTest (tOp r (tM G W0 fa) (tM G W0 fb)))) : PT X e (tMT G W0 (cB (e2 q fa fb))) := h.wk fun σ H Q p => tOp0_of (Q := fun x H' => ∃ k, x = .bl k ∧ Q k H') hr (cB_of p)
theorem sp_of {n : Nat} {m : List Addr} {h : MH} {H : Hp} {σ : L2.St} {vs : List MV} {xs : List V} {Q : VK} {E : XK} (S : Sim G m h H) (r : RVs G m H vs xs) (hl : vs.length = n) (p : RP G W0 (RV G) m H σ (g vs h) Q) : spM G n g xs H Q E :=
  ⟨by rw [r.length]; exact hl, m, h, vs, S, r, p.w0⟩
theorem isIns_of {m : List Addr} {h : MH} {H : Hp} {v : MV} {x : V} (S : Sim G m h H) (r : RV G m H v x) (e : isIns c h v = true) : ∃ a, x = .ref a ∧ InsA H (G.cl c) a := by
  unfold isIns at e
  cases v with
  | ref n =>
    dsimp only at e
    cases eg : h.get n with
    | none => rw [eg] at e; cases e
    | some o =>
      rw [eg] at e
      cases o with
      | ins d fs =>
        have ed : d = c := Nat.eq_of_beq_eq_true e
        subst ed
        obtain ⟨a, dx, gs, ea, rfl, eh, pr⟩ := S.ins eg r
        exact ⟨a, rfl, dx, gs, eh⟩
      | lst _ => cases e
      | dct _ _ _ => cases e
  | _ => cases e
theorem o_owEq : Op20 G (rOwEq G c g) (qOwB c g) := by
  intro m h H σ v w x y Q S r1 r2 p
  unfold qOwB at p
  cases e : (isIns c h v && isIns c h w) with
  | false => rw [e] at p; exact p.elim
  | true =>
    rw [e] at p
    obtain ⟨e1, e2⟩ := Bool.and_eq_true_iff.mp e
    obtain ⟨a, rfl, ha⟩ := isIns_of S r1 e1
    obtain ⟨b, rfl, hb⟩ := isIns_of S r2 e2
    exact ⟨a, b, rfl, rfl, ha, hb, sp_of S (.cons r1 (.cons r2 .nil)) rfl p⟩
/-! ### the rules -/
theorem t_oeq (D : Dn X.prog X.w X.K X.mg X.base G f k ps 2 g) (hm : Meth G.K (G.cl c) "__eq__" f) (hr : Room k X.A) (ha : PE X a (tM G W0 fa)) (hb : PE X b (tM G W0 fb)) (hK : X.K = G.K := by rfl) (hb2 : behindInMarks .Eq b = false := by first | exact nomark _ | rfl) : PT X (.Compare a [.Eq] [b] pos) (tMT G W0 (cB (e2 (qOwB c g) fa fb))) := kt_op0 o_owEq (pt_cmpR (op_owEq D (hK ▸ hm) hr) ha hb hb2)
/-! ### a property; an instance called -/
end
end KA
set_option autoImplicit false
set_option maxHeartbeats 200000
set_option maxRecDepth 512
set_option Elab.async false
set_option autoImplicit false
set_option linter.all false
set_option maxRecDepth 100000
set_option maxHeartbeats 1600000
/-! KOwn2: an instance called; list(d.items()); (*a, b). -/
namespace KA
open PySem PySem.Spec PyProof.Rows L2
section
variable {G : GC} {m : List Addr} {h : MH} {H H' : Hp}
/-- the abstract heap has grown beside -/
theorem ex_ext (e : ∀ b o, H b = some o → H' b = some o) : Ex G m H m H' :=
  ⟨⟨⟨[], by simp⟩, fun b xs q => e _ _ q, fun b o xs q => e _ _ q⟩, fun b o u q => e _ _ q, fun b h1 h2 => absurd h1 h2, fun b _ hb _ => by
    cases q : H b with
    | none => exact absurd q hb
    | some o => exact e _ _ q⟩
theorem Sim.ext' (S : Sim G m h H) (e : ∀ b o, H b = some o → H' b = some o) : Sim G m h H' := by
  refine ⟨S.len, S.nd, fun i u q => ?_, fun a ha => ?_, S.tb.ext e, fun a ha => ?_⟩
  · obtain ⟨a, ea, r⟩ := S.at_ i u q
    refine ⟨a, ea, ?_⟩
    have ha := S.trk a (List.mem_of_getElem? ea)
    cases q2 : H a with
    | none => exact absurd q2 ha
    | some o =>
      rw [q2] at r
      rw [e a o q2]
      exact r.mono (ex_ext e).toLe
  · have ha := S.trk a ha
    cases q2 : H a with
    | none => exact absurd q2 ha
    | some o => rw [e a o q2]; exact fun z => nomatch z
  · cases q2 : H a with
    | none => exact absurd q2 (S.trk a ha)
    | some o =>
      have z := S.trt a ha
      rw [q2] at z
      rw [e a o q2]; exact z
end
section
variable {X : Cx} {G : GC} {W : XW} {e : Expr} {es : List Expr} {fa : EM} {am : AM} {pos p apos cpos : Pos}
/-! ### list(d.items()) -/
theorem k_listItems (h : PE X e (LiI.tListItems (tM G W fa))) : PE X e (tM G W (e1 qListItems fa)) := h.wk fun σ H Q q => by
  refine (tMR.bind (Rel := RV G) (k := fun _ v h1 => qListItems v h1) q).imp fun x H1 ⟨m1, h1, v, σm, S1, R1, r1, p1⟩ => ?_
  unfold qListItems at p1
  cases v with
  | ref n =>
    dsimp only at p1
    cases eg : h1.get n with
    | none => rw [eg] at p1; exact p1.elim
    | some o =>
      rw [eg] at p1
      cases o with
      | dct tk lk kvs =>
        dsimp only at p1
        cases tk with
        | true => exact p1.elim
        | false =>
          cases lk with
          | true => exact p1.elim
          | false =>
            obtain ⟨a, w, ea, rfl, dr, eh⟩ := S1.dct eg r1
            obtain ⟨ps, rfl, pr⟩ := dr
            have eh' : H1 a = some (.dK ps) := eh
            refine ⟨a, ps, rfl, eh', fun H' l ts ext hl hts hnl el hp => ?_⟩
            have x0 : Ex G m1 H1 m1 (fun b => if b = l then none else H' b) := ex_ext fun b o q => by
              have ne : b ≠ l := fun z => by rw [z, hl] at q; cases q
              show (if b = l then none else H' b) = some o
              rw [if_neg ne]
              exact ext b o q
            have S0 : Sim G m1 h1 (fun b => if b = l then none else H' b) := S1.ext' fun b o q => by
              have ne : b ≠ l := fun z => by rw [z, hl] at q; cases q
              show (if b = l then none else H' b) = some o
              rw [if_neg ne]
              exact ext b o q
            have hl0 : (fun b => if b = l then none else H' b) l = none := by simp
            have eH : upd (fun b => if b = l then none else H' b) l (.lst (ts.map V.ref)) = H' := by
              funext b
              by_cases c : b = l
              · rw [c, upd_same, el]
              · rw [upd_ne c]
                show (if b = l then none else H' b) = H' b
                rw [if_neg c]
            have xl : Ex G m1 H1 m1 H' := ex_ext ext
            have rvs : RVs G m1 H' (kvs.map fun p => MV.tup [p.1, p.2]) (ts.map V.ref) := by
              clear el hnl eH hl0 S0 x0 p1
              have go : ∀ {kvs : List (MV × MV)} {ps : List (Key × V)} {ts : List Addr}, Paired (fun p q => KR p.1 q.1 ∧ RV G m1 H1 p.2 q.2) kvs ps → Paired (fun (t : Addr) (q : Key × V) => H' t = some (.tup [kV q.1, q.2])) ts ps → RVs G m1 H' (kvs.map fun p => MV.tup [p.1, p.2]) (ts.map V.ref) := by
                intro kvs ps ts pr
                induction pr generalizing ts with
                | nil => intro hp; cases hp; simp only [List.map_nil, RVs]
                | cons r t ih =>
                  intro hp
                  cases hp with
                  | cons r2 t2 =>
                    simp only [List.map_cons, RVs]
                    refine ⟨_, _, rfl, ?_, ih t2⟩
                    simp only [RV]
                    exact ⟨_, _, rfl, r2, .cons (kr_rv r.1) (.cons (r.2.mono xl.toLe) .nil)⟩
              exact go pr hp
            have x1 : Ex G m1 (fun b => if b = l then none else H' b) (m1 ++ [l]) (upd (fun b => if b = l then none else H' b) l (.lst (ts.map V.ref))) := (Ex.upd l _ (plain_none hl0) (.inr hl0)).app hl0
            have S2 := S0.push hl0 (u := .lst (kvs.map fun p => MV.tup [p.1, p.2])) (o := .lst (ts.map V.ref)) ⟨_, rfl, by
              rw [eH]
              exact rvs.mono ⟨⟨[l], rfl⟩, fun _ _ q => q, fun _ _ _ q => q⟩⟩
            have x2 := x0.trans x1
            rw [eH] at S2 x2
            refine p1 _ _ (.ref l) x2 S2 ?_
            simp only [RV]
            exact ⟨l, by rw [← S1.len]; simp, rfl⟩
      | _ => exact p1.elim
  | _ => exact p1.elim
theorem x_listItems (hm : X.mg "list" = none) (h : PE X e (tM G W fa)) (hc : X.calm = true := by rfl) (hg : Gl X "list" := by rfl) (hv : bootBuiltins "list" = some (.type "list") := by decide +kernel) (hbase : attributeBase e "items" X.env (eval e X.env) = eval e X.env := by rfl) (hline : (apos.endLine == cpos.line) = true := by rfl)
    (hs : starEach [.Call (.Attribute e "items" apos) [] [] cpos] X.env = (false, eval (.Call (.Attribute e "items" apos) [] [] cpos) X.env) :: starEach [] X.env := by rfl) :
    PE X (.Call (.Name "list" p) [.Call (.Attribute e "items" apos) [] [] cpos] [] pos) (tM G W (e1 qListItems fa)) := k_listItems (LiI.pe_listItems hc h hg hm hv hbase hline hs)
/-! ### (*a, b) -/
end
/-! ### o(a, ..) -/
end KA
set_option autoImplicit false
set_option maxHeartbeats 200000
set_option maxRecDepth 512
set_option Elab.async false
set_option autoImplicit false
set_option linter.all false
set_option maxRecDepth 100000
set_option maxHeartbeats 1600000
/-! KOwn3: list(range(n)); list(f(..)) of a generator def. -/
set_option autoImplicit false
set_option maxHeartbeats 200000
set_option maxRecDepth 512
set_option Elab.async false
set_option autoImplicit false
set_option linter.all false
set_option maxRecDepth 100000
set_option maxHeartbeats 1600000
/-! KGen: list(f(..)) of a generator def that ends in «yield from» a list. -/
namespace KA
open PySem PySem.Spec PyProof.Rows L2
section
variable {X : Cx} {G : GC} {st : Stmt} {rest : List Stmt} {fe : EM} {e : Expr} {yp pos : Pos}
theorem PS.calm {t : TS} (h : PS X.nox st t) : PS X st t := ⟨fun pins s σ H D I hw =>
  wpAny_mono (h.run pins s σ H D (I.wish _) hw) (fun _ _ q => q.unwish) fun _ _ z => False.elim z⟩
end
section
variable {X : Cx} {G : GC} {e o : Expr} {am : AM} {fa : EM} {pos : Pos} {k c np : Nat} {f : Addr} {ps : List PySem.Str} {g : FM}
theorem nolook {m : List Addr} {H : Hp} {mn : PySem.Str} (hm : ∀ i, G.fl i ≠ mn) {fs : List (Nat × MV)} {gs : List (PySem.Str × V)} (pr : Paired (fun (p : Nat × MV) (q : PySem.Str × V) => q.1 = G.fl p.1 ∧ RV G m H p.2 q.2) fs gs) : gs.lookup mn = none := by
  induction pr with
  | nil => rfl
  | @cons p q fs' gs' r t ih =>
    obtain ⟨n', u⟩ := q
    have e' : n' = G.fl p.1 := r.1
    rw [List.lookup_cons, show (mn == n') = false by rw [e']; exact beq_eq_false_iff_ne.mpr (fun z => hm _ z.symm)]
    exact ih
end
end KA
set_option autoImplicit false
set_option maxHeartbeats 200000
set_option maxRecDepth 512
set_option Elab.async false
set_option autoImplicit false
set_option linter.all false
set_option maxRecDepth 100000
set_option maxHeartbeats 4000000
/-! KTup: a tuple times an int of at least 1. -/
namespace KA
open PySem PySem.Spec PyProof.Rows L2
theorem tuple_mul1 (l : Addr) (items : Array Value) (n : Nat) (dd : Option Addr) (sl : Array (Option Value)) (u : Tok) :
    Meets (Builtin.«tuple.__mul__» ⟨[.ref l, .int 1 u], []⟩) (fun _ R s => s.heap.get? l = some { cls := .type "tuple", dict := dd, data := .seq items n, slots := sl } ∧ R (.ok (.ret (Value.ref l))) s) :=
  .of_wp fun prog w A R s h => by
    obtain ⟨hp, g, d, tk, os⟩ := s
    obtain ⟨hl, h⟩ := h
    have f1 := AutoSeq1.idx_int
    have b : (items.isEmpty || (1 : Int) == 1) = true := by simp
    wp_walk using wpAny_loadPart' hl
    exact ⟨_, rfl, h⟩
def rRep1 (K : PySem.W.Frag) : R2 := fun x y H Q => ∃ l xs, x = .ref l ∧ y = .int 1 ∧ SqT K H l xs ∧ Q (.ref l) H
section
variable {X : Cx} {G : GC} {W : XW}
theorem op_rep1 : OpR X (binaryOp .Mult) (rRep1 X.K) := by
  intro pins s σ H x y v u Q I rx ry h
  obtain ⟨l, xs, rfl, rfl, hT, q⟩ := h
  cases rx
  obtain ⟨t, rfl⟩ := ry
  obtain ⟨its, r, ⟨⟨cls, dd, data, sl⟩, ho, hc, n, hd⟩, hs⟩ := I.tuple hT
  simp only at hc hd
  subst hc hd
  exact wpAny_binaryOp_repeat_ref (T := "tuple") (U := "int") (by decide) ⟨_, ho, rfl⟩ (fun s' => typeIs_int s' 1 t) noFill_tuple_mul F.fills_int_mul F.slot_int_rmul repeat_tuple F.slot_int_index.lookup
    (call_meets F.slot_int_rmul (typeIs_int s 1 t) F.entry_int_rmul (F.args_int_rmul_2 _ _) (int_rmul_tuple 1 t l its.toArray n dd sl)
      ⟨ho, rfl, ⟨_, ho, rfl⟩, call_meets F.slot_tuple_mul ⟨_, ho, rfl⟩ F.entry_tuple_mul (F.args_tuple_mul_2 _ _) (tuple_mul1 l its.toArray n dd sl t) ⟨ho, .ref l, H, I, rfl, q⟩⟩)
def rRep (K : PySem.W.Frag) : R2 := fun x y H Q => rRep1 K x y H Q ∨ rRepT K x y H Q
theorem op_rep : OpR X (binaryOp .Mult) (rRep X.K) := fun pins s σ H x y v u Q I rx ry h => h.elim (op_rep1 pins s σ H x y v u Q I rx ry) (op_repT pins s σ H x y v u Q I rx ry)
end
end KA
set_option autoImplicit false
set_option maxHeartbeats 200000
set_option maxRecDepth 512
set_option Elab.async false
set_option autoImplicit false
set_option linter.all false
set_option maxRecDepth 100000
set_option maxHeartbeats 1600000
/-! KEq: == of lists of tuples of flat things and own instances, either answer. -/
namespace KQ
open PySem PySem.SeqAt
open AutoSeq1 (wpAny_loadPart')
open MeetsSeq MeetsSeq2 MeetsSeq3 SeqRoads2
section
variable {prog : Program} {w : World} {A : Around} {R : Result → Shared → Prop}
/-- two lists as they stand, N items each -/
def LR (l b : Addr) (N : Nat) (s : Shared) : Prop := ∃ (xs ys : Array Value) (n m : Nat), s.heap.get? l = some { cls := .type "list", data := .seq xs n } ∧ s.heap.get? b = some { cls := .type "list", data := .seq ys m } ∧ xs.size = N ∧ ys.size = N
structure Turns (prog : Program) (w : World) (A : Around) (R : Result → Shared → Prop) (l b : Addr) (N : Nat) (I : Nat → Shared → Prop) (J : Shared → Prop) : Prop where
  rd : ∀ i s, I i s → LR l b N s
  go : ∀ i s (xs ys : Array Value) (n m : Nat), I i s → s.heap.get? l = some { cls := .type "list", data := .seq xs n } → s.heap.get? b = some { cls := .type "list", data := .seq ys m } → ∀ (h1 : i < xs.size) (h2 : i < ys.size),
    wpAny (model prog w) A.in1 (eqBool xs[i] ys[i]) (fun r s' => match r with
      | true => I (i + 1) s'
      | false => LR l b N s' ∧ J s') (fun e s' => R (.error e) s') s
  yes : ∀ s, I N s → R (.ok (.ret (.bool true))) s
  no : ∀ s, J s → R (.ok (.ret (.bool false))) s
theorem loop2 {l b : Addr} {N : Nat} {I : Nat → Shared → Prop} {J : Shared → Prop} (T : Turns prog w A R l b N I J) : ∀ (d i : Nat) (s : Shared), N - i = d → i ≤ N → I i s →
    wpAny (model prog w) A.in1 (Builtin.«list.__eq__.loop» ⟨[.ref l, .ref b, rawInt i, rawInt 2], []⟩) (GQ.FinOf prog w A R) (fun e s' => R (.error e) s') s := by
  intro d
  induction d with
  | zero =>
    intro i s hd hi h
    obtain ⟨xs, ys, n, m, e1, e2, z1, z2⟩ := T.rd i s h
    have e : i = N := by omega
    have fin := T.yes s (e ▸ h)
    obtain ⟨hp, g, dr, tk, os⟩ := s
    wp_walk using wpAny_loadPart' e1, wpAny_loadPart' e2
    have q1 : xs[((i : Nat) : Int).toNat]? = none := by simp; omega
    have q2 : ys[((i : Nat) : Int).toNat]? = none := by simp; omega
    rw [q1, q2]
    wp_walk using wpAny_loadPart' e1, wpAny_loadPart' e2
    show R (.ok (.ret (.bool (xs.size == ys.size)))) _
    rw [z1, z2]
    simpa using fin
  | succ d ih =>
    intro i s hd hi h
    obtain ⟨xs, ys, n, m, e1, e2, z1, z2⟩ := T.rd i s h
    have l1 : i < xs.size := by omega
    have l2 : i < ys.size := by omega
    have go := T.go i s xs ys n m h e1 e2 l1 l2
    obtain ⟨hp, g, dr, tk, os⟩ := s
    wp_walk using wpAny_loadPart' e1, wpAny_loadPart' e2
    have q1 : xs[((i : Nat) : Int).toNat]? = some xs[i] := by simp [l1]
    have q2 : ys[((i : Nat) : Int).toNat]? = some ys[i] := by simp [l2]
    rw [q1, q2]
    refine wpAny_bind (wpAny_mono go (fun r s2 z => ?_) fun _ _ x => x)
    cases r with
    | true =>
      have up : ((i : Int) + 1) = ((i + 1 : Nat) : Int) := by omega
      have next := ih (i + 1) s2 (by omega) (by omega) z
      obtain ⟨hp2, g2, dr2, tk2, os2⟩ := s2
      wp_walk
      rw [up]
      exact ⟨plainId_quiet plain_eq_loop _, codeAny_builtin entry_eq_loop (by
        rw [Around.under_plainId plain_eq_loop _]
        exact next)⟩
    | false =>
      obtain ⟨⟨us, vs, n2, m2, f1, f2, y1, y2⟩, j⟩ := z
      have fin := T.no s2 j
      obtain ⟨hp2, g2, dr2, tk2, os2⟩ := s2
      wp_walk using wpAny_loadPart' f1, wpAny_loadPart' f2
      have k1 : i < us.size := by omega
      have k2 : i < vs.size := by omega
      have p1 : us[((i : Nat) : Int).toNat]? = some us[i] := by simp [k1]
      have p2 : vs[((i : Nat) : Int).toNat]? = some vs[i] := by simp [k2]
      rw [p1, p2]
      wp_walk
      exact fin
theorem list2 {l b : Addr} {N : Nat} {I : Nat → Shared → Prop} {J : Shared → Prop} (T : Turns prog w A R l b N I J) {s : Shared} (h : I 0 s) :
    wpAny (model prog w) A.in1 (Builtin.«list.__eq__» ⟨[.ref l, .ref b], []⟩) (GQ.FinOf prog w A R) (fun e s' => R (.error e) s') s := by
  obtain ⟨xs, ys, n, m, e1, e2, z1, z2⟩ := T.rd 0 s h
  have go := loop2 T N 0 s (by omega) (by omega) h
  obtain ⟨hp, g, dr, tk, os⟩ := s
  have sub := AutoSeq1.sub_list_list
  have same : ¬ (xs.size != ys.size) = true := by simp [z1, z2]
  wp_walk using wpAny_loadPart' e1, wpAny_loadPart' e2
  exact ⟨plainId_quiet plain_eq_loop _, codeAny_builtin entry_eq_loop (by
    rw [Around.under_plainId plain_eq_loop _]
    exact go)⟩
/-- two tuples of one length -/
structure TurnsT (prog : Program) (w : World) (A : Around) (R : Result → Shared → Prop) (xs ys : Array Value) (I : Nat → Shared → Prop) (J : Shared → Prop) : Prop where
  go : ∀ i (h1 : i < xs.size) (h2 : i < ys.size) s, I i s → wpAny (model prog w) A.in1 (eqBool xs[i] ys[i]) (fun r s' => match r with
    | true => I (i + 1) s'
    | false => J s') (fun e s' => R (.error e) s') s
  yes : ∀ s, I xs.size s → R (.ok (.ret (.bool true))) s
  no : ∀ s, J s → R (.ok (.ret (.bool false))) s
theorem tuple2 {l b : Addr} {xs ys : Array Value} {n n2 : Nat} {dd dd2 : Option Addr} {sl sl2 : Array (Option Value)} {I : Nat → Shared → Prop} {J : Shared → Prop} (T : TurnsT prog w A R xs ys I J) (hz : xs.size = ys.size) {s : Shared}
    (e1 : s.heap.get? l = some { cls := .type "tuple", dict := dd, data := .seq xs n, slots := sl }) (e2 : s.heap.get? b = some { cls := .type "tuple", dict := dd2, data := .seq ys n2, slots := sl2 }) (h : I 0 s) :
    wpAny (model prog w) A.in1 (Builtin.«tuple.__eq__» ⟨[.ref l, .ref b], []⟩) (GQ.FinOf prog w A R) (fun e s' => R (.error e) s') s := by
  have sub := AutoSeq1.sub_tuple_tuple
  have hZ : (xs.toList.zip ys.toList).length = xs.size := by simp [hz]
  have h0 := h
  obtain ⟨hp, g, dr, tk, os⟩ := s
  wp_walk using wpAny_loadPart' e1, wpAny_loadPart' e2, wpAny_forIn_list _ (fun rest b s' => b.1 = none ∧ ∃ i, rest = (xs.toList.zip ys.toList).drop i ∧ i ≤ xs.size ∧ I i s') _
  case turn =>
    rintro ⟨y, x⟩ rest b s' ⟨hb', i, hr, hi, hI⟩
    have hlt : i < (xs.toList.zip ys.toList).length := by
      rcases Nat.lt_or_ge i (xs.toList.zip ys.toList).length with z | z
      · exact z
      · rw [List.drop_of_length_le z] at hr; cases hr
    have l1 : i < xs.size := hZ ▸ hlt
    have l2 : i < ys.size := hz ▸ l1
    rw [List.drop_eq_getElem_cons hlt] at hr
    injection hr with hyx hrest
    have hy : y = xs[i] := by have := congrArg Prod.fst hyx; simpa using this
    have hx : x = ys[i] := by have := congrArg Prod.snd hyx; simpa using this
    subst hy hx
    refine wpAny_bind (wpAny_mono (T.go i l1 l2 s' hI) (fun r s2 q => ?_) fun _ _ x => x)
    cases r with
    | true =>
      wp_walk
      exact ⟨rfl, i + 1, hrest, l1, q⟩
    | false =>
      wp_walk
      exact T.no s2 q
  case fin =>
    rintro ⟨b1, b2⟩ s' ⟨hb', i, hr, hi, hI⟩
    simp only at hb'
    subst hb'
    have hge : xs.size ≤ i := by
      rcases Nat.lt_or_ge i (xs.toList.zip ys.toList).length with z | z
      · rw [List.drop_eq_getElem_cons z] at hr; cases hr
      · exact hZ ▸ z
    have hi' : i = xs.size := by omega
    have fin := T.yes s' (hi' ▸ hI)
    wp_walk
    simpa [Builtin.Tuple.tupleCompareSizes, hz] using fin
  case h =>
    exact ⟨rfl, 0, rfl, Nat.zero_le _, h0⟩
end
end KQ
namespace KA
open PySem PySem.Spec PyProof.Rows L2
section
variable {X : Cx} {G : GC} {pins : List (Addr × Obj)} {σ τ : L2.St} {H : Hp} {s : Shared} {k c : Nat} {f : Addr} {ps : List PySem.Str} {g : FM} {m : List Addr} {h : MH}
abbrev BRel (G : GC) : List Addr → Hp → Bool → Bool → Prop := fun _ _ a b => b = a
theorem ref_same {n j : Nat} {a : Addr} (S : Sim G m h H) (r1 : RV G m H (.ref n) (.ref a)) (r2 : RV G m H (.ref j) (.ref a)) : n = j := by
  simp only [RV] at r1 r2
  obtain ⟨b, e1, z1⟩ := r1
  obtain ⟨b', e2, z2⟩ := r2
  cases z1
  cases z2
  obtain ⟨l1, q1⟩ := List.getElem?_eq_some_iff.mp e1
  obtain ⟨l2, q2⟩ := List.getElem?_eq_some_iff.mp e2
  exact (List.getElem_inj S.nd).mp (q1.trans q2.symm)
theorem flat_self {v : MV} {x : V} (e : flatM v = true) (r : RV G m H v x) : eqV x x = true := by
  cases v with
  | non => simp only [RV] at r; subst r; rfl
  | bl b => simp only [RV] at r; subst r; simp [eqV]
  | int i => simp only [RV] at r; subst r; simp [eqV]
  | str z => simp only [RV] at r; subst r; simp [eqV]
  | _ => cases e
/-- one item against one, inside a built-in's comparison -/
theorem elE_ok {A : Around} (D : Dn X.prog X.w X.K X.mg X.base G f k ps 2 g) (hm : Meth X.K (G.cl c) "__eq__" f) (sb : Sub X k A) {v w : MV} {x y : V} {u1 u2 : Value} {Q : Bool → Hp → Prop} (I : Inv X pins σ H s) (S : Sim G m h H) (r1 : RV G m H v x) (r2 : RV G m H w y) (rx : RelV x u1) (ry : RelV y u2)
    (p : RP G W0 (BRel G) m H τ (elE c g v w h) Q) : wpAny (model X.prog X.w) A (eqBool u1 u2) (TP X pins σ Q) X.xe s := by
  unfold elE at p
  cases e : (flatM v && flatM w) with
  | true =>
    rw [e] at p
    obtain ⟨e1, e2⟩ := Bool.and_eq_true_iff.mp e
    have q := eqAt_V (A := A) (s := s) rx ry (flat_rv e1 r1) (flat_rv e2 r2)
    exact q X.prog X.w X.xe _ ⟨H, I, RP.now p S (eq_flat e1 e2 r1 r2).symm⟩
  | false =>
    rw [e] at p
    cases v with
    | ref n =>
      cases w with
      | ref j =>
        dsimp only at p
        cases ei : (isIns c h (.ref n) && isIns c h (.ref j)) with
        | false => rw [ei] at p; exact p.elim
        | true =>
          rw [ei] at p
          obtain ⟨e1, e2⟩ := Bool.and_eq_true_iff.mp ei
          obtain ⟨a, rfl, ha⟩ := isIns_of S r1 e1
          obtain ⟨b, rfl, hb⟩ := isIns_of S r2 e2
          cases (show u1 = Value.ref a from rx)
          cases (show u2 = Value.ref b from ry)
          cases en : Nat.beq n j with
          | true =>
            rw [en] at p
            have hn := Nat.eq_of_beq_eq_true en
            subst hn
            have hab : a = b := by
              simp only [RV] at r1 r2
              obtain ⟨a1, q1, z1⟩ := r1
              obtain ⟨a2, q2, z2⟩ := r2
              cases z1
              cases z2
              exact Option.some.inj (q1.symm.trans q2)
            subst hab
            exact SeqAt.EqAt.same (A := A) (s := s) (.ref a) X.prog X.w X.xe _ ⟨H, I, RP.now p S rfl⟩
          | false =>
            rw [en] at p
            have hab : a ≠ b := fun z => by
              subst z
              rw [ref_same S r1 r2, Nat.beq_refl] at en
              cases en
            have q : rOwEq G c g (.ref a) (.ref b) H (fun z H' => ∃ t, z = .bl t ∧ Q t H') := ⟨a, b, rfl, rfl, ha, hb, sp_of (σ := τ) S (.cons r1 (.cons r2 .nil)) rfl ((RP.bind (Rel := RV G) p).imp fun y H2 ⟨m2, h2, w2, x2, S2, rr, p2⟩ => by
              unfold qB at p2
              cases w2 with
              | bl t => exact ⟨t, by simpa only [RV] using rr, RP.now (y := t) p2 S2 rfl⟩
              | _ => exact p2.elim)⟩
            refine GQ.eqBool_refG hab (wpAny_mono (own_eq D hm sb I (show RelV (.ref a) (.ref a) from rfl) (show RelV (.ref b) (.ref b) from rfl) q) (fun z s' hz => ?_) fun _ _ x => x)
            obtain ⟨z', H', I', rz, t, ez, qz⟩ := hz
            subst ez
            exact ⟨t, rz, H', I', qz⟩
      | _ => exact p.elim
    | _ => exact p.elim
theorem elE_self {v w : MV} {x : V} {Q : Bool → Hp → Prop} {M : Bool → MH → Res Bool} (S : Sim G m h H) (r1 : RV G m H v x) (r2 : RV G m H w x) (p : RP G W0 (BRel G) m H τ ((elE c g v w h).bind M) Q) : RP G W0 (BRel G) m H τ (M true h) Q := by
  unfold elE at p
  cases e : (flatM v && flatM w) with
  | true =>
    rw [e] at p
    obtain ⟨e1, e2⟩ := Bool.and_eq_true_iff.mp e
    have q := eq_flat (h := h) e1 e2 r1 r2
    rw [flat_self e1 r1] at q
    rw [q] at p
    exact p
  | false =>
    rw [e] at p
    cases v with
    | ref n =>
      cases w with
      | ref j =>
        dsimp only at p
        cases ei : (isIns c h (.ref n) && isIns c h (.ref j)) with
        | false => rw [ei] at p; exact p.elim
        | true =>
          rw [ei] at p
          obtain ⟨e1, e2⟩ := Bool.and_eq_true_iff.mp ei
          obtain ⟨a, rfl, ha⟩ := isIns_of S r1 e1
          rw [show Nat.beq n j = true from by rw [ref_same S r1 r2]; exact Nat.beq_refl j] at p
          exact p
      | _ => exact p.elim
    | _ => exact p.elim
theorem seqE_self : ∀ {vs ws : List MV} {xs : List V} {Q : Bool → Hp → Prop}, Sim G m h H → RVs G m H vs xs → RVs G m H ws xs → RP G W0 (BRel G) m H τ (seqE c g vs ws h) Q → Q true H
  | [], [], _, _, S, _, _, p => RP.now p S rfl
  | [], _ :: _, _, _, S, _, _, p => p.elim
  | _ :: _, [], _, _, S, _, _, p => p.elim
  | v :: vs, w :: ws, xs, Q, S, r1, r2, p => by
    simp only [RVs] at r1 r2
    obtain ⟨y, ys, rfl, ry, rys⟩ := r1
    obtain ⟨z, zs, e, rz, rzs⟩ := r2
    cases e
    have p2 := elE_self (M := fun b h1 => match b with
      | true => seqE c g vs ws h1
      | false => .ok false h1) S ry rz p
    exact seqE_self S rys rzs p2
/-- what stands between two turns -/
def Mid (X : Cx) (G : GC) (pins : List (Addr × Obj)) (σ τ : L2.St) (m : List Addr) (H : Hp) (r : MH → Res Bool) (Q : Bool → Hp → Prop) (s' : Shared) : Prop := ∃ H' m' h', Inv X pins σ H' s' ∧ Ex G m H m' H' ∧ Sim G m' h' H' ∧ RP G W0 (BRel G) m' H' τ (r h') Q
theorem rvs_drop : ∀ {vs : List MV} {xs : List V} (i : Nat), RVs G m H vs xs → RVs G m H (vs.drop i) (xs.drop i)
  | _, _, 0, r => r
  | [], xs, i + 1, r => by
    simp only [RVs] at r
    subst r
    simp only [List.drop_nil, RVs]
  | v :: vs, xs, i + 1, r => by
    simp only [RVs] at r
    obtain ⟨y, ys, rfl, _, r⟩ := r
    exact rvs_drop i r
theorem tupE_rc {A : Around} (hK : X.K = G.K) (D : Dn X.prog X.w X.K X.mg X.base G f k ps 2 g) (hm : Meth X.K (G.cl c) "__eq__" f) (sb : Sub X (k + 1) A) {vs ws : List MV} {a b : Addr} {xs ys : List V} {Q : Bool → Hp → Prop} (I : Inv X pins σ H s) (S : Sim G m h H) (ha : H a = some (.tup xs)) (hb : H b = some (.tup ys)) (r1 : RVs G m H vs xs) (r2 : RVs G m H ws ys)
    (hl : vs.length = ws.length) (p : RP G W0 (BRel G) m H τ (seqE c g vs ws h) Q) : wpAny (model X.prog X.w) A (richCompare .Eq (.ref a) (.ref b)) (fun v s' => ∃ r, v = .bool r ∧ TP X pins σ Q r s') X.xe s := by
  obtain ⟨its, r, e, z⟩ := I.tuple (SqT.of ha)
  obtain ⟨its2, r', e', z'⟩ := I.tuple (SqT.of hb)
  have hsz : its.toArray.size = its2.toArray.size := by rw [List.size_toArray, List.size_toArray, ← r.length, ← r'.length, r1.length, r2.length]; exact hl
  have e0 := e
  obtain ⟨⟨cls, dd, data, sl⟩, ho, hc, n, hd⟩ := e
  obtain ⟨⟨cls2, dd2, data2, sl2⟩, ho2, hc2, n2, hd2⟩ := e'
  simp only at hc hd hc2 hd2
  subst hc hd hc2 hd2
  refine wpAny_richCompare_same_room (op := .Eq) ⟨_, ho, rfl⟩ ⟨_, ho2, rfl⟩ F.slot_tuple_eq (GQ.call_here F.slot_tuple_eq ⟨_, ho, rfl⟩ F.entry_tuple_eq (F.args_tuple_eq_2 _ _) ?_) sb.room.units0
  refine KQ.tuple2 (I := fun i s' => Mid X G pins σ τ m H (fun h' => seqE c g (vs.drop i) (ws.drop i) h') Q s') (J := fun s' => TP X pins σ Q false s') ⟨fun i h1 h2 s' hI => ?_, fun s' hI => ?_, fun s' hj => ⟨(fun x => nomatch x), false, rfl, hj⟩⟩ hsz ho ho2 ⟨H, m, h, I, .refl, S, p⟩
  · obtain ⟨H1, m1, h1', I1, x1, S1, p1⟩ := hI
    have k1 : i < xs.length := by rw [r.length]; simpa using h1
    have k2 : i < ys.length := by rw [r'.length]; simpa using h2
    obtain ⟨u, hu, ru⟩ := r.get (List.getElem?_eq_getElem k1)
    obtain ⟨v, hv, rv⟩ := r'.get (List.getElem?_eq_getElem k2)
    have g1 : its[i]? = some its.toArray[i] := by
      have h1' : i < its.length := by simpa using h1
      rw [List.getElem?_eq_getElem h1'] <;> simp
    have g2 : its2[i]? = some its2.toArray[i] := by
      have h2' : i < its2.length := by simpa using h2
      rw [List.getElem?_eq_getElem h2'] <;> simp
    rw [g1] at hu
    rw [g2] at hv
    rw [Option.some.inj hu, Option.some.inj hv]
    have d1 := rvs_drop i (r1.mono x1.toLe)
    have d2 := rvs_drop i (r2.mono x1.toLe)
    rw [List.drop_eq_getElem_cons k1] at d1
    rw [List.drop_eq_getElem_cons k2] at d2
    have j1 : i < vs.length := by rw [← r1.length]; exact k1
    have j2 : i < ws.length := by rw [← r2.length]; exact k2
    rw [List.drop_eq_getElem_cons j1] at d1 p1
    rw [List.drop_eq_getElem_cons j2] at d2 p1
    simp only [RVs] at d1 d2
    obtain ⟨y1, t1, z1, q1, _⟩ := d1
    obtain ⟨y2, t2, z2, q2, _⟩ := d2
    cases z1
    cases z2
    have p2 : RP G W0 (BRel G) m1 H1 τ ((elE c g vs[i] ws[i] h1').bind fun b h1 => match b with
      | true => seqE c g (vs.drop (i + 1)) (ws.drop (i + 1)) h1
      | false => .ok false h1) Q := p1
    refine wpAny_mono (elE_ok D hm (A := A.in1) sb.in1 I1 S1 q1 q2 ru rv (RP.bind (Rel := BRel G) p2)) (fun t s2 z => ?_) fun _ _ x => x
    obtain ⟨H2, I2, m2, h2, t2, x2, S2, et, p3⟩ := z
    subst et
    cases t with
    | true => exact ⟨H2, m2, h2, I2, x1.trans x2, S2, p3⟩
    | false => exact ⟨H2, I2, RP.now p3 S2 rfl⟩
  · obtain ⟨H1, m1, h1', I1, x1, S1, p1⟩ := hI
    have w1 : vs.drop its.toArray.size = [] := by
      apply List.drop_of_length_le
      have := r.length
      have := r1.length
      simp only [List.size_toArray]; omega
    have w2 : ws.drop its.toArray.size = [] := by
      apply List.drop_of_length_le
      have := r.length
      have := r1.length
      simp only [List.size_toArray]; omega
    dsimp only at p1
    rw [w1, w2] at p1
    exact ⟨(fun x => nomatch x), true, rfl, H1, I1, RP.now (y := true) p1 S1 rfl⟩
theorem itE_ok {A : Around} (hK : X.K = G.K) (D : Dn X.prog X.w X.K X.mg X.base G f k ps 2 g) (hm : Meth X.K (G.cl c) "__eq__" f) (sb : Sub X (k + 1) A) {v w : MV} {x y : V} {u1 u2 : Value} {Q : Bool → Hp → Prop} (I : Inv X pins σ H s) (S : Sim G m h H) (r1 : RV G m H v x) (r2 : RV G m H w y) (rx : RelV x u1) (ry : RelV y u2)
    (p : RP G W0 (BRel G) m H τ (itE c g v w h) Q) : wpAny (model X.prog X.w) A (eqBool u1 u2) (TP X pins σ Q) X.xe s := by
  cases v with
  | tup vs =>
    cases w with
    | tup ws =>
      unfold itE at p
      dsimp only at p
      cases el : Nat.beq vs.length ws.length with
      | false => rw [el] at p; exact p.elim
      | true =>
        rw [el] at p
        simp only [RV] at r1 r2
        obtain ⟨a, xs, rfl, ha, rx1⟩ := r1
        obtain ⟨b, ys, rfl, hb, ry1⟩ := r2
        cases (show u1 = Value.ref a from rx)
        cases (show u2 = Value.ref b from ry)
        by_cases hab : a = b
        · subst hab
          rw [ha] at hb
          cases hb
          exact SeqAt.EqAt.same (A := A) (s := s) (.ref a) X.prog X.w X.xe _ ⟨H, I, seqE_self S rx1 ry1 p⟩
        · exact GQ.eqBool_refG hab (tupE_rc hK D hm sb I S ha hb rx1 ry1 (Nat.eq_of_beq_eq_true el) p)
    | _ => exact p.elim
  | _ => exact p.elim
/-- two mini lists stand as they are read -/
theorem twoL_of {n j N : Nat} {xs ys : List MV} {a b : Addr} (S : Sim G m h H) (r1 : RV G m H (.ref n) (.ref a)) (r2 : RV G m H (.ref j) (.ref b)) (e : twoL n j N h = some (xs, ys)) : ∃ us vs, H a = some (.lst us) ∧ H b = some (.lst vs) ∧ RVs G m H xs us ∧ RVs G m H ys vs ∧ xs.length = N ∧ ys.length = N := by
  unfold twoL at e
  cases e1 : h.get n with
  | none => rw [e1] at e; cases e
  | some o1 =>
    cases e2 : h.get j with
    | none => rw [e1, e2] at e; cases o1 <;> cases e
    | some o2 =>
      rw [e1, e2] at e
      cases o1 with
      | lst xs' =>
        cases o2 with
        | lst ys' =>
          dsimp only at e
          cases el : (Nat.beq xs'.length N && Nat.beq ys'.length N) with
          | false => rw [el] at e; cases e
          | true =>
            rw [el] at e
            cases e
            obtain ⟨l1, l2⟩ := Bool.and_eq_true_iff.mp el
            obtain ⟨a', us, ea, za, ha, ru⟩ := S.lst e1 r1
            obtain ⟨b', vs, eb, zb, hb, rv⟩ := S.lst e2 r2
            cases za
            cases zb
            exact ⟨us, vs, ha, hb, ru, rv, Nat.eq_of_beq_eq_true l1, Nat.eq_of_beq_eq_true l2⟩
        | _ => cases e
      | _ => cases o2 <;> cases e
theorem two_LR {n j N : Nat} {xs ys : List MV} {a b : Addr} (I : Inv X pins σ H s) (S : Sim G m h H) (r1 : RV G m H (.ref n) (.ref a)) (r2 : RV G m H (.ref j) (.ref b)) (e : twoL n j N h = some (xs, ys)) : KQ.LR a b N s := by
  obtain ⟨us, vs, ha, hb, ru, rv, l1, l2⟩ := twoL_of S r1 r2 e
  obtain ⟨_, its, k1, q1, g1⟩ := I.hok a _ ha
  obtain ⟨_, its2, k2, q2, g2⟩ := I.hok b _ hb
  exact ⟨its.toArray, its2.toArray, k1, k2, g1, g2, by rw [List.size_toArray, ← q1.length, ru.length]; exact l1, by rw [List.size_toArray, ← q2.length, rv.length]; exact l2⟩
theorem lstE_two {n j N d i : Nat} {Q : Bool → Hp → Prop} (p : RP G W0 (BRel G) m H τ (lstE c g n j N d i h) Q) : ∃ xs ys, twoL n j N h = some (xs, ys) := by
  cases d with
  | zero =>
    unfold lstE at p
    cases e : twoL n j N h with
    | none => rw [e] at p; exact p.elim
    | some q => exact ⟨q.1, q.2, rfl⟩
  | succ d =>
    unfold lstE at p
    cases e : twoL n j N h with
    | none => rw [e] at p; exact p.elim
    | some q => exact ⟨q.1, q.2, rfl⟩
theorem lstE_rc {A : Around} (hK : X.K = G.K) (D : Dn X.prog X.w X.K X.mg X.base G f k ps 2 g) (hm : Meth X.K (G.cl c) "__eq__" f) (sb : Sub X (k + 2) A) {n j N : Nat} {a b : Addr} {Q : Bool → Hp → Prop} (I : Inv X pins σ H s) (S : Sim G m h H) (r1 : RV G m H (.ref n) (.ref a)) (r2 : RV G m H (.ref j) (.ref b))
    (p : RP G W0 (BRel G) m H τ (lstE c g n j N N 0 h) Q) : wpAny (model X.prog X.w) A (richCompare .Eq (.ref a) (.ref b)) (fun v s' => ∃ r, v = .bool r ∧ TP X pins σ Q r s') X.xe s := by
  obtain ⟨xs0, ys0, e0⟩ := lstE_two p
  obtain ⟨xs, ys, k1, k2, g1, g2, z1, z2⟩ := two_LR I S r1 r2 e0
  refine wpAny_richCompare_same_room (op := .Eq) ⟨_, g1, rfl⟩ ⟨_, g2, rfl⟩ F.slot_list_eq (GQ.call_here F.slot_list_eq ⟨_, g1, rfl⟩ F.entry_list_eq (F.args_list_eq_2 _ _) ?_) sb.room.units0
  refine KQ.list2 (N := N) (I := fun i s' => Mid X G pins σ τ m H (fun h' => lstE c g n j N (N - i) i h') Q s') (J := fun s' => TP X pins σ Q false s') ⟨fun i s' hI => ?_, fun i s' us vs c1 c2 hI f1 f2 h1 h2 => ?_, fun s' hI => ?_, fun s' hj => ⟨(fun x => nomatch x), false, rfl, hj⟩⟩ ⟨H, m, h, I, .refl, S, p⟩
  · obtain ⟨H1, m1, h1', I1, x1, S1, p1⟩ := hI
    obtain ⟨xs1, ys1, e1⟩ := lstE_two p1
    exact two_LR I1 S1 (r1.mono x1.toLe) (r2.mono x1.toLe) e1
  · obtain ⟨H1, m1, h1', I1, x1, S1, p1⟩ := hI
    have s1 := r1.mono x1.toLe
    have s2 := r2.mono x1.toLe
    obtain ⟨xs1, ys1, e1⟩ := lstE_two p1
    obtain ⟨us1, vs1, ha, hb, ru, rv, l1, l2⟩ := twoL_of S1 s1 s2 e1
    obtain ⟨_, its, q1, v1, t1⟩ := I1.hok a _ ha
    obtain ⟨_, its2, q2, v2, t2⟩ := I1.hok b _ hb
    rw [t1] at f1
    rw [t2] at f2
    cases f1
    cases f2
    have k1 : i < us1.length := by rw [v1.length]; simpa using h1
    have k2 : i < vs1.length := by rw [v2.length]; simpa using h2
    have j1 : i < xs1.length := by rw [← ru.length]; exact k1
    have j2 : i < ys1.length := by rw [← rv.length]; exact k2
    have hd : N - i = (N - (i + 1)) + 1 := by omega
    rw [hd] at p1
    unfold lstE at p1
    dsimp only at p1
    rw [e1] at p1
    dsimp only at p1
    rw [List.getElem?_eq_getElem j1, List.getElem?_eq_getElem j2] at p1
    dsimp only at p1
    obtain ⟨x', ex, rx'⟩ := ru.get (List.getElem?_eq_getElem j1)
    obtain ⟨y', ey, ry'⟩ := rv.get (List.getElem?_eq_getElem j2)
    obtain ⟨u, hu, wu⟩ := v1.get ex
    obtain ⟨v, hv, wv⟩ := v2.get ey
    have i1 : its[i]? = some its.toArray[i] := by
      have h1' : i < its.length := by simpa using h1
      rw [List.getElem?_eq_getElem h1'] <;> simp
    have i2 : its2[i]? = some its2.toArray[i] := by
      have h2' : i < its2.length := by simpa using h2
      rw [List.getElem?_eq_getElem h2'] <;> simp
    rw [i1] at hu
    rw [i2] at hv
    rw [Option.some.inj hu, Option.some.inj hv]
    refine wpAny_mono (itE_ok hK D hm (A := A.in1) sb.in1 I1 S1 rx' ry' wu wv (RP.bind (Rel := BRel G) p1)) (fun t s2' z => ?_) fun _ _ x => x
    obtain ⟨H2, I2, m2, h2', t2, x2, S2, et, p3⟩ := z
    subst et
    cases t with
    | true => exact ⟨H2, m2, h2', I2, x1.trans x2, S2, p3⟩
    | false =>
      dsimp only at p3
      cases e3 : twoL n j N h2' with
      | none => rw [e3] at p3; exact p3.elim
      | some q =>
        rw [e3] at p3
        exact ⟨two_LR I2 S2 (s1.mono x2.toLe) (s2.mono x2.toLe) e3, H2, I2, RP.now p3 S2 rfl⟩
  · obtain ⟨H1, m1, h1', I1, x1, S1, p1⟩ := hI
    rw [Nat.sub_self] at p1
    unfold lstE at p1
    dsimp only at p1
    cases e : twoL n j N h1' with
    | none => rw [e] at p1; exact p1.elim
    | some q =>
      rw [e] at p1
      exact ⟨(fun x => nomatch x), true, rfl, H1, I1, RP.now (y := true) p1 S1 rfl⟩
/-- a == b of lists: what is said of the mini heap -/
def rEqDp (G : GC) (c : Nat) (g : FM) : R2 := fun x y H Q => ∃ m h n j N a b τ, x = .ref a ∧ y = .ref b ∧ Sim G m h H ∧ RV G m H (.ref n) (.ref a) ∧ RV G m H (.ref j) (.ref b) ∧ RP G W0 (BRel G) m H τ (lstE c g n j N N 0 h) fun t H' => Q (.bl t) H'
theorem op_eqDp (hK : X.K = G.K) (D : Dn X.prog X.w X.K X.mg X.base G f k ps 2 g) (hm : Meth X.K (G.cl c) "__eq__" f) (hr : Room (k + 2) X.A) : OpR X (compareOp .Eq) (rEqDp G c g) := by
  intro pins s σ H x y v u Q I rx ry hq
  obtain ⟨m, h, n, j, N, a, b, τ, rfl, rfl, S, r1, r2, p⟩ := hq
  cases (show v = Value.ref a from rx)
  cases (show u = Value.ref b from ry)
  show wpAny (model X.prog X.w) X.A (richCompare .Eq (.ref a) (.ref b)) (EP X pins σ Q) X.xe s
  refine wpAny_mono (lstE_rc hK D hm (sub_here hr) I S r1 r2 p) (fun r s' z => ?_) fun _ _ x => x
  obtain ⟨t, rfl, H', I', q⟩ := z
  exact ⟨.bl t, H', I', rfl, q⟩
theorem o_eqDp : Op20 G (rEqDp G c g) (qEqD c g) := by
  intro m h H σ v w x y Q S r1 r2 p
  unfold qEqD at p
  cases v with
  | ref n =>
    cases w with
    | ref j =>
      dsimp only at p
      cases e : h.get n with
      | none => rw [e] at p; exact p.elim
      | some o =>
        rw [e] at p
        cases o with
        | lst xs =>
          have q1 := r1
          have q2 := r2
          simp only [RV] at r1 r2
          obtain ⟨a, _, rfl⟩ := r1
          obtain ⟨b, _, rfl⟩ := r2
          exact ⟨m, h, n, j, xs.length, a, b, σ, rfl, rfl, S, q1, q2, (RP.bind (Rel := BRel G) p).imp fun t H2 ⟨m2, h2, t2, x2, S2, et, p2⟩ => by
            subst et
            exact RP.now p2 S2 (by simp [RV])⟩
        | _ => exact p.elim
    | _ => exact p.elim
  | _ => exact p.elim
end
section
variable {X : Cx} {G : GC} {a b : Expr} {fa fb : EM} {pos : Pos} {k c : Nat} {f : Addr} {ps : List PySem.Str} {g : FM}
theorem x_deq (D : Dn X.prog X.w X.K X.mg X.base G f k ps 2 g) (hm : Meth G.K (G.cl c) "__eq__" f) (hr : Room (k + 2) X.A) (ha : PE X a (tM G W0 fa)) (hb : PE X b (tM G W0 fb)) (hK : X.K = G.K := by rfl) (hb2 : behindInMarks .Eq b = false := by first | exact nomark _ | rfl) : PE X (.Compare a [.Eq] [b] pos) (tM G W0 (e2 (qEqD c g) fa fb)) := k_op0 o_eqDp (pe_cmpR (op_eqDp hK D (hK ▸ hm) hr) ha hb hb2)
end
end KA
set_option autoImplicit false
set_option maxHeartbeats 200000
set_option maxRecDepth 512
set_option Elab.async false
set_option autoImplicit false
set_option linter.all false
set_option maxRecDepth 100000
set_option maxHeartbeats 1000000
/-! KDc2: {k: v for p in w if t for q in u if r}: a dict comprehension with two fors. -/
set_option autoImplicit false
set_option maxHeartbeats 200000
set_option maxRecDepth 512
set_option Elab.async false
set_option autoImplicit false
set_option linter.all false
set_option maxRecDepth 100000
set_option maxHeartbeats 1000000
/-! KDc3: .. read off the mini semantics. -/
set_option autoImplicit false
set_option maxHeartbeats 200000
set_option maxRecDepth 512
set_option Elab.async false
set_option autoImplicit false
set_option linter.all false
set_option maxRecDepth 100000
set_option maxHeartbeats 400000
/-! KCls: a class method that makes an instance of its class; its call. -/
set_option autoImplicit false
set_option maxHeartbeats 200000
set_option maxRecDepth 512
set_option Elab.async false
set_option autoImplicit false
set_option linter.all false
set_option maxRecDepth 100000
set_option maxHeartbeats 400000
/-! KHead: what is known of the module's names; the hook by one more Bool. -/
namespace KA
open PySem PySem.Spec PyProof.Rows L2
abbrev AlK : Type := He.AlD × Bool
/-- what is known -/
structure EnvK (fa : List He.Fa) (fn : List He.DefD) (ex : PySem.W.Frag → Bool) (K : PySem.W.Frag) (mg : PySem.Str → Option Value) : Prop where
  c : He.SaysD fa fn K
  e : ex K = true
  h : ∃ h : Heap, K.In h ∧ h.Ns mainGlobals mg
section
variable {fa : List He.Fa} {fn : List He.DefD} {ex : PySem.W.Frag → Bool} {K : PySem.W.Frag} {mg : PySem.Str → Option Value}
theorem EnvK.glo (E : EnvK fa fn ex K mg) {x : PySem.Str} (i : Nat) (h : fa[i]? = some (.glo x)) : mg x = some (.ref (He.ga K x)) := by
  obtain ⟨hp, X, Gm⟩ := E.h
  exact He.glo_ok X Gm (E.c.fact i h)
theorem EnvK.free (E : EnvK fa fn ex K mg) {x : PySem.Str} (i : Nat) (h : fa[i]? = some (.free x)) : mg x = none := by
  obtain ⟨hp, X, Gm⟩ := E.h
  exact He.free_ok X Gm (E.c.fact i h)
theorem EnvK.int (E : EnvK fa fn ex K mg) {x : PySem.Str} {j : Int} (i : Nat) (h : fa[i]? = some (.int x j)) : ∃ t, mg x = some (.int j t) := by
  obtain ⟨hp, X, Gm⟩ := E.h
  exact He.int_ok X Gm (E.c.fact i h)
theorem EnvK.str (E : EnvK fa fn ex K mg) {x z : PySem.Str} (i : Nat) (h : fa[i]? = some (.str x z)) : ∃ t, mg x = some (.str z t) := by
  obtain ⟨hp, X, Gm⟩ := E.h
  exact He.str_ok X Gm (E.c.fact i h)
theorem EnvK.cls (E : EnvK fa fn ex K mg) {x : PySem.Str} (i : Nat) (h : fa[i]? = some (.cls x)) : Cls K (He.ga K x) := He.cls_ok (E.c.fact i h)
theorem EnvK.noat (E : EnvK fa fn ex K mg) {x f : PySem.Str} (i : Nat) (h : fa[i]? = some (.noat x f)) : NoAttr K (He.ga K x) f := He.noat_ok (E.c.fact i h)
theorem EnvK.meth (E : EnvK fa fn ex K mg) {x m : PySem.Str} (i : Nat) (h : fa[i]? = some (.meth x m)) : Meth K (He.ga K x) m (He.ma K (He.ga K x) m) := He.meth_ok (E.c.fact i h)
theorem EnvK.mkr (E : EnvK fa fn ex K mg) {x : PySem.Str} (i : Nat) (h : fa[i]? = some (.mkr x)) : Mk K (He.ga K x) (He.ma K (He.ga K x) "__init__") := He.mkr_ok (E.c.fact i h)
end
/-! ### isinstance -/
def insB (K : PySem.W.Frag) (C : Addr) : Bool := He.eqO (PySem.W.findIn K (.ref C) "__class__") (some (some (.builtin "object.__class__"))) && (He.eqO (PySem.W.specialIn K (.builtin "object.__class__") "__get__") (some (some (.builtin "getset_descriptor.__get__"))) && (decide (PySem.W.takesIn K (.builtin "object.__class__") = some true) && decide (PySem.W.mroIn K C (.type "object") = some true)))
theorem insB_ok {K : PySem.W.Frag} {C : Addr} (c : Cls K C) (h : insB K C = true) : InsOk K C := by
  obtain ⟨h1, h⟩ := He.ba h
  obtain ⟨h2, h⟩ := He.ba h
  obtain ⟨h3, h4⟩ := He.ba h
  exact ⟨c, He.eqO_ok h1, He.eqO_ok h2, of_decide_eq_true h3, of_decide_eq_true h4⟩
def isiB (G : GC) (nc k : Nat) (u : Value) : Bool := (List.range nc).all fun j => (Nat.ble 7 j && Nat.blt j 10) || decide (PySem.W.kitOne G.K (kty G j) u = some (isA j k))
theorem isiB_ok {G : GC} {nc k : Nat} {u : Value} (hi : ∀ c, c + 10 < nc → InsOk G.K (G.cl c)) (h : isiB G nc k u = true) : IsiOk G nc k u := by
  refine ⟨hi, fun j hj z => ?_⟩
  have h1 := List.all_eq_true.mp h j (List.mem_range.mpr hj)
  rcases Bool.or_eq_true_iff.mp h1 with q | q
  · obtain ⟨q1, q2⟩ := Bool.and_eq_true_iff.mp q
    have a1 : 7 ≤ j := Nat.le_of_ble_eq_true q1
    have a2 : j < 10 := Nat.le_of_ble_eq_true q2
    omega
  · exact of_decide_eq_true q
end KA
set_option autoImplicit false
set_option maxHeartbeats 200000
set_option maxRecDepth 512
set_option Elab.async false
set_option autoImplicit false
set_option linter.all false
set_option maxRecDepth 100000
set_option maxHeartbeats 400000
/-! KHead2: what is known of own classes' operations, by Bools. -/
namespace KA
open PySem PySem.Spec PyProof.Rows L2
/-! ### getters of properties -/
/-- where the getter of the property p of the class C stands, or the def of its class method p -/
def gAd (K : PySem.W.Frag) (C p : PySem.Str) : Addr := match PySem.W.recIn K (He.ma K (He.ga K C) p) "property" with
  | some (.ref g :: _) => g
  | _ => He5.wf K (He.ga K C) "classmethod" p
/-- a maker that says super() -/
def isSup (d : He.DefD) : Bool := match d.scope.names.lookup ("__class__" : PySem.Str) with
  | some .free => true
  | _ => false
def gOf (K : PySem.W.Frag) (d : He.DefD) : Addr := match isSup d with
  | true => He.ma K (He.ga K d.at_.1) (d.at_.2.getD "")
  | false => gAd K d.at_.1 (d.at_.2.getD "")
def wAt (K : PySem.W.Frag) (a : Addr) : He.FnW := match K.lookup a with
  | some ⟨_, _, .func fd, _⟩ => some (fd.name, fd.qualname, fd.params, fd.body, fd.scope, fd.globals, [], fd.builtins)
  | _ => none
/-- its cell, its code's file -/
def supB (K : PySem.W.Frag) (fl : PySem.Str) (C : Addr) (cl : List (PySem.Str × Addr)) (cdv : Value) : Bool := match cl, cdv with
  | [(n, cc)], .ref cda => decide (n = "__class__") && ((match K.lookup cc with
    | some ⟨_, _, .cell (some (.ref C')), _⟩ => decide (C' = C)
    | _ => false) && (match K.lookup cda with
    | some ⟨_, _, .fields vs, _⟩ => (match (vs[2]? : Option Value) with
      | some (.str f _) => decide (fl = f)
      | _ => false)
    | _ => false))
  | _, _ => false
/-- the file's name -/
def fileS : PySem.Str := "/claim/cut.py"
def okAt (K : PySem.W.Frag) (a : Addr) (d : He.DefD) : Bool := match K.lookup a with
  | some ⟨_, _, .func fd, _⟩ => (match isSup d with
    | true => supB K fileS (He.ga K d.at_.1) fd.closure fd.code
    | false => fd.closure.isEmpty) && (PySem.W.keepIn K (.ref a) && (PySem.W.codeIn K fd.code d.qual && (He.dflB K fd.defaults (d.dvs K) && He.kwdB K fd.kwdefaults (d.kws K))))
  | _ => false
/-- such a maker, known -/
structure FunS (K : PySem.W.Frag) (x qual : PySem.Str) (params : Arguments) (body : List Stmt) (scope : Scope) (C f : Addr) (fd : FuncData) : Prop where
  ex : ∃ (oc : Value) (od : Option Addr) (kV doc pm : Value) (an : Option Addr) (cda cc : Addr) (ct : Value) (osl : Array (Option Value)) (cl ccl : Value) (cld cdd : Option Addr) (csl ccs : Array (Option Value)) (cvs : Array Value) (tf : Tok),
    fd = PySem.W.ksFn x qual params body scope .none kV doc pm an (.ref cda) ct cc ∧ K.lookup f = some ⟨oc, od, .func fd, osl⟩ ∧ PySem.W.codeIn K (.ref cda) qual = true ∧ K.lookup cc = some ⟨cl, cld, .cell (some (.ref C)), csl⟩ ∧ K.lookup cda = some ⟨ccl, cdd, .fields cvs, ccs⟩ ∧ cvs[2]? = some (.str fileS tf)
  kp : PySem.W.keepIn K (.ref f) = true
theorem funS_at {K : PySem.W.Frag} {a : Addr} {d : He.DefD} (hs : isSup d = true) (hd : d.dvs K = []) (e : wAt K a = d.val) (c : okAt K a d = true) : ∃ fd, FunS K d.name d.qual d.params d.body d.scope (He.ga K d.at_.1) a fd := by
  unfold wAt at e
  unfold okAt at c
  rw [hs] at c
  cases q : K.lookup a with
  | none => rw [q] at c; cases c
  | some o =>
    obtain ⟨oc, od, dt, osl⟩ := o
    rw [q] at c e
    cases dt with
    | func fd =>
      obtain ⟨n1, n2, n3, n4, n5, n6, n7, n8, n9, n10, n11, n12, n13, n14, n15⟩ := fd
      have e2 : (some (n1, n2, n3, n4, n5, n6, [], n15) : He.FnW) = some (d.name, d.qual, d.params, .stmts d.body, d.scope, mainGlobals, [], builtinsNs) := e
      simp only [Option.some.injEq, Prod.mk.injEq] at e2
      obtain ⟨h1, h2, h3, h4, h5, h6, _, h8⟩ := e2
      subst h1 h2 h3 h4 h5 h6 h8
      obtain ⟨hc, c1⟩ := He.ba (show (supB K fileS (He.ga K d.at_.1) n7 n13 && (PySem.W.keepIn K (.ref a) && (PySem.W.codeIn K n13 d.qual && (He.dflB K n8 (d.dvs K) && He.kwdB K n9 (d.kws K))))) = true from c)
      obtain ⟨kp, c2⟩ := He.ba c1
      obtain ⟨k1, k2⟩ := He.ba c2
      obtain ⟨k3, k4⟩ := He.ba k2
      have k5 := He.dflB_ok k3
      rw [hd] at k5
      have hn8 : n8 = .none := by
        rcases k5 with ⟨z, _⟩ | ⟨z, _⟩
        · assumption
        · exact absurd rfl z
      subst hn8
      unfold supB at hc
      split at hc
      · rename_i n cc cda
        obtain ⟨hn, hc⟩ := He.ba hc
        obtain ⟨hc1, hc2⟩ := He.ba hc
        have hn := of_decide_eq_true hn
        subst hn
        split at hc1
        · rename_i cl cld C' csl qc
          have := of_decide_eq_true hc1
          subst this
          split at hc2
          · rename_i ccl cdd cvs ccs qd
            split at hc2
            · rename_i f tf qv
              have := of_decide_eq_true hc2
              subst this
              exact ⟨_, ⟨oc, od, n9, n10, n11, n12, cda, cc, n14, osl, cl, ccl, cld, cdd, csl, ccs, cvs, tf, rfl, q, k1, qc, qd, qv⟩, kp⟩
            · cases hc2
          · cases hc2
        · cases hc1
      · cases hc
    | _ => cases c
/-- what the names reach in n steps, and the interpreter's own statics -/
def asP (g : Addr → Option Obj) (n : Nat) : List Addr := He.asD g n ++ [PySem.cStatics]
abbrev AlP : Type := AlK × List He.FnW
def obsPG (n : Nat) (fa : List He.Fa) (fn gt : List He.DefD) (ex : PySem.W.Frag → Bool) (g : Addr → Option Obj) : AlP := ((He.obsD fa fn (He.frG g (asP g n)), ex (He.frG g (asP g n)) && gt.all fun d => okAt (He.frG g (asP g n)) (gOf (He.frG g (asP g n)) d) d), gt.map fun d => wAt (He.frG g (asP g n)) (gOf (He.frG g (asP g n)) d))
def hookP (n : Nat) (fa : List He.Fa) (fn gt : List He.DefD) (ex : PySem.W.Frag → Bool) : PySem.W.Hook where
  α := AlP
  obs := fun s => obsPG n fa fn gt ex s.heap.get?
  val := fun _ => ((He.valD fn, true), gt.map He.DefD.val)
  says := fun _ h => ∃ K : PySem.W.Frag, K.In h ∧ He.SaysD fa fn K ∧ (ex K && gt.all fun d => okAt K (gOf K d) d) = true ∧ (gt.map fun d => wAt K (gOf K d)) = gt.map He.DefD.val
  of := fun _ _ e => ⟨_, He.frG_in, congrArg (fun z : AlP => z.1.1) e, congrArg (fun z : AlP => z.1.2) e, congrArg (fun z : AlP => z.2) e⟩
  keeps := fun _ _ _ ⟨K, hK, c⟩ k => ⟨K, PySem.W.Frag.In.keeps hK k, c⟩
theorem obsPG_eq {n : Nat} {fa : List He.Fa} {fn gt : List He.DefD} {ex : PySem.W.Frag → Bool} {g : Addr → Option Obj} {s : Shared} (h : ∀ a, g a = s.heap.get? a) : obsPG n fa fn gt ex g = (hookP n fa fn gt ex).obs s := by
  have e : g = s.heap.get? := funext h
  rw [e] <;> rfl
/-- what is known, getters too -/
structure EnvP (fa : List He.Fa) (fn gt : List He.DefD) (ex : PySem.W.Frag → Bool) (K : PySem.W.Frag) (mg : PySem.Str → Option Value) : Prop extends EnvK fa fn ex K mg where
  go : (gt.all fun d => okAt K (gOf K d) d) = true
  gv : (gt.map fun d => wAt K (gOf K d)) = gt.map He.DefD.val
theorem EnvP.maker {fa : List He.Fa} {fn gt : List He.DefD} {ex : PySem.W.Frag → Bool} {K : PySem.W.Frag} {mg : PySem.Str → Option Value} (E : EnvP fa fn gt ex K mg) (i : Nat) {d : He.DefD} (h : gt[i]? = some d) (hs : isSup d = true) (hd : d.dvs K = []) : ∃ fd, FunS K d.name d.qual d.params d.body d.scope (He.ga K d.at_.1) (gOf K d) fd := by
  have e2 : (gt.map fun d => wAt K (gOf K d))[i]? = (gt.map He.DefD.val)[i]? := by rw [E.gv]
  rw [List.getElem?_map, List.getElem?_map, h] at e2
  exact funS_at hs hd (Option.some.inj e2) (List.all_eq_true.mp E.go d (List.mem_of_getElem? h))
end KA
set_option autoImplicit false
set_option maxHeartbeats 200000
set_option maxRecDepth 512
set_option Elab.async false
set_option autoImplicit false
set_option linter.all false
set_option maxRecDepth 100000
set_option maxHeartbeats 1000000
/-! KLam: a lambda with one parameter and no captured name; max(xs, key=lambda ..). -/
namespace KA
open PySem PySem.Spec PyProof.Rows L2 LamX
section
variable {X : Cx} {pins : List (Addr × Obj)} {σ : L2.St} {H H' : Hp} {s s' : Shared}
/-- objects that nothing tracks have turned -/
theorem inv_moved {S I : Addr} (J : Inv X pins σ H s) (fS : FpOk X pins H S) (fI : FpOk X pins H I) (mv : Moved [S, I] (fun a b => b = a) s s') : Inv X pins σ H s' := by
  obtain ⟨h', g', d', t', o'⟩ := s'
  have eg : g' = s.gens := mv.gens
  have eo : o' = s.os := mv.os
  have ed : d' = s.drawn := mv.drawn
  subst eg eo ed
  have k : ∀ b o, b ∉ [S, I] → s.heap.get? b = some o → h'.get? b = some o := fun b o hb e => mv.heap b o hb e
  have nt : ∀ b u, H b = some u → b ∉ [S, I] := fun b u e z => by
    rcases List.mem_cons.mp z with z | z
    · rw [z, fS.1] at e; cases e
    · rw [List.mem_singleton.mp z, fI.1] at e; cases e
  refine J.step (ch := [S, I]) (fun b hb => ?_) (fun b o _ _ hc e _ => k b o hc e) (fun b o _ _ hc e _ => ⟨o.slots, k b o hc e⟩) (fun _ _ _ _ n => n) (fun b o hc e => ⟨o, k b o hc e⟩) (fun _ _ e => e) (fun _ _ _ e => e) (fun b ps e => ⟨#[], by rw [e]; simp⟩) (fun m hm => ?_) (fun b u e => ?_) J.bare
  · rcases List.mem_cons.mp hb with z | z
    · subst z
      exact ⟨fS.2.2.2.1, fS.2.1, fS.2.2.2.2.1, fS.2.2.2.2.2⟩
    · have z := List.mem_singleton.mp z
      subst z
      exact ⟨fI.2.2.2.1, fI.2.1, fI.2.2.2.2.1, fI.2.2.2.2.2⟩
  · obtain ⟨o, es, ep, ho, r⟩ := hm
    refine ⟨o, es, ep, k _ o (fun z => ?_) ho, r⟩
    rcases List.mem_cons.mp z with z | z
    · exact fS.2.1 z.symm
    · exact fI.2.1 (List.mem_singleton.mp z).symm
  · refine (J.hok b u e).stay (fun c v hc q => k c v ?_ q) (fun _ q => q) fun _ _ q => q
    rcases hc with z | z
    · rw [z]; exact nt b u e
    · exact nt c _ z
end
/-! ### max(xs, key=lambda one: (one[1], -one[0])), xs pairs of ints -/
end KA
set_option autoImplicit false
set_option maxHeartbeats 200000
set_option maxRecDepth 512
set_option Elab.async false
set_option autoImplicit false
set_option linter.all false
set_option maxRecDepth 100000
set_option maxHeartbeats 1000000
/-! KLam2: .. read off the mini semantics. -/
set_option autoImplicit false
set_option maxHeartbeats 200000
set_option maxRecDepth 512
set_option Elab.async false
set_option autoImplicit false
set_option linter.all false
set_option maxRecDepth 100000
set_option maxHeartbeats 400000
/-! KHead3: the head of a law whose program makes lambdas: the makers' tables are left out of what is known. -/
set_option autoImplicit false
set_option maxHeartbeats 200000
set_option maxRecDepth 512
set_option Elab.async false
set_option autoImplicit false
set_option linter.all false
set_option maxRecDepth 100000
set_option maxHeartbeats 1600000
/-! KTxt: texts: str(n), int(s), split, join; *xs in a list; *x, y = xs; a try that nothing leaves; dict(pairs). -/
namespace KA
open PySem PySem.Spec PyProof.Rows L2
/-! ### plain -/
theorem small_str : ((List.range 100).all fun n => decide ((toString (n : Int) : PySem.Str) = ⟨(digS n).toArray⟩)) = true := by decide +kernel
theorem str_small {i : Int} (h0 : 0 ≤ i) (h1 : i < 100) : (toString i : PySem.Str) = ⟨(digS i).toArray⟩ := by
  have := List.all_eq_true.mp small_str i.toNat (List.mem_range.mpr (by omega))
  rw [show ((i.toNat : Nat) : Int) = i by omega] at this
  exact of_decide_eq_true this
theorem one_dig : ((List.range 58).all fun a => !digB a || decide (PySem.intText? ⟨#[a]⟩ = some ((a - 48 : Nat) : Int))) = true := by decide +kernel
theorem two_dig : ((List.range 58).all fun a => (List.range 58).all fun b => !(digB a && digB b) || decide (PySem.intText? ⟨#[a, b]⟩ = some (((a - 48) * 10 + (b - 48) : Nat) : Int))) = true := by decide +kernel
theorem digB_lt {a : Nat} (h : digB a = true) : a < 58 := by
  unfold digB at h
  simp at h
  omega
theorem int_one {a : Nat} (h : digB a = true) : PySem.intText? ⟨([a] : List Nat).toArray⟩ = some ((a - 48 : Nat) : Int) := by
  have := List.all_eq_true.mp one_dig a (List.mem_range.mpr (digB_lt h))
  rw [h] at this
  simpa using this
theorem int_two {a b : Nat} (h : digB a = true) (h' : digB b = true) : PySem.intText? ⟨([a, b] : List Nat).toArray⟩ = some (((a - 48) * 10 + (b - 48) : Nat) : Int) := by
  have := List.all_eq_true.mp (List.all_eq_true.mp two_dig a (List.mem_range.mpr (digB_lt h))) b (List.mem_range.mpr (digB_lt h'))
  rw [h, h'] at this
  simpa using this
theorem splitC_ne (c : Nat) : ∀ l : List Nat, splitC c l ≠ []
  | [] => by simp [splitC]
  | x :: r => by
    unfold splitC
    split
    · simp
    · split <;> simp
theorem spl_splitC (c : Nat) : ∀ (l acc : List Nat), TL.spl [c] 0 acc l = match splitC c l with
    | [] => []
    | p :: ps => (acc ++ p) :: ps
  | [], acc => by simp [splitC, TL.spl]
  | x :: r, acc => by
    have ih := spl_splitC c r
    have hp : TL.pre [c] (x :: r) = Nat.beq x c := by
      unfold TL.pre
      by_cases e : x = c
      · subst e; simp
      · rw [show Nat.beq x c = false from by
          cases q : Nat.beq x c with
          | false => rfl
          | true => exact absurd (Nat.eq_of_beq_eq_true q) e]
        simpa using e
    unfold splitC
    cases q : splitC c r with
    | nil => exact absurd q (splitC_ne c r)
    | cons p ps =>
      cases e : Nat.beq x c with
      | true =>
        rw [TL.spl_hit (by rw [hp, e]), show ([c] : List Nat).length - 1 = 0 from rfl, ih [], q]
        simp
      | false =>
        rw [TL.spl_miss (by rw [hp, e]), ih, q]
        simp
theorem split_C {a : List Nat} {c : Nat} (hc : c < 256) : Txt.split ⟨a.toArray⟩ ⟨([c] : List Nat).toArray⟩ = (splitC c a).map fun s => (⟨s.toArray⟩ : PySem.Str) := by
  apply TL.map_tl_inj
  rw [TL.split_spl _ _ (by simp [TL.tl]) (TL.kind_ok (by simp [hc]))]
  show TL.spl [c] 0 [] a = _
  rw [spl_splitC, List.map_map]
  cases q : splitC c a with
  | nil => exact absurd q (splitC_ne c a)
  | cons p ps =>
    have : (TL.tl ∘ fun s : List Nat => (⟨s.toArray⟩ : PySem.Str)) = id := by funext s; simp [TL.tl]
    rw [this]; simp
theorem join_C (a : List Nat) (ps : List (List Nat)) : Txt.join ⟨a.toArray⟩ (ps.map fun s => (⟨s.toArray⟩ : PySem.Str)) = ⟨(joinC a ps).toArray⟩ := by
  apply TL.ext_tl
  rw [TL.join_eq, TL.tl_join, List.map_map]
  have : (TL.tl ∘ fun s : List Nat => (⟨s.toArray⟩ : PySem.Str)) = id := by funext s; simp [TL.tl]
  rw [this, List.map_id]
  show TL.joinL a ps = joinC a ps
  induction ps with
  | nil => rfl
  | cons p r ih =>
    cases r with
    | nil => rfl
    | cons q r => show p ++ (a ++ TL.joinL a (q :: r)) = p ++ (a ++ joinC a (q :: r)); rw [ih]
theorem strs_map : ∀ {ys : List MV} {ps : List (List Nat)}, strs? ys = some ps → ys = ps.map MV.str
  | [], ps, e => by simp [strs?] at e; subst e; rfl
  | .str s :: r, ps, e => by
    unfold strs? at e
    cases q : strs? r with
    | none => rw [q] at e; cases e
    | some ss => rw [q] at e; cases e; rw [List.map_cons, ← strs_map q]
  | .non :: r, ps, e => by cases e
  | .bl _ :: r, ps, e => by cases e
  | .int _ :: r, ps, e => by cases e
  | .ref _ :: r, ps, e => by cases e
  | .tup _ :: r, ps, e => by cases e
  | .flst _ :: r, ps, e => by cases e
section
variable {G : GC} {m : List Addr} {H : Hp}
theorem rvs_strs : ∀ {ps : List (List Nat)} {us : List V}, RVs G m H (ps.map MV.str) us → us = ps.map fun s => V.str ⟨s.toArray⟩
  | [], us, h => h.nil_inv
  | s :: ps, us, h => by
    obtain ⟨y, ys, rfl, r, q⟩ := RVs.cons_inv h
    simp only [RV] at r
    rw [r, rvs_strs q]; rfl
theorem rvs_ofStrs : ∀ ps : List (List Nat), RVs G m H (ps.map MV.str) (ps.map fun s => V.str ⟨s.toArray⟩)
  | [] => .nil
  | s :: ps => .cons (by simp only [RV]) (rvs_ofStrs ps)
end
/-! ### the rules -/
section
variable {X : Cx} {G : GC} {W : XW} {e o : Expr} {fa fb : EM} {am : AM} {pos apos : Pos} {es : List Expr}
theorem c_strI : CallG G (fun xs H Q => ∃ i, xs = [.int i] ∧ i.natAbs.log2 < 1920 ∧ Q (.str (toString i)) H) qStrI := call1 fun W m h H σ v x Q S r1 p => by
  unfold qStrI1 at p
  cases v with
  | int i =>
    simp only [RV] at r1
    subst r1
    dsimp only at p
    cases c : (decide (0 ≤ i) && decide (i < 100)) with
    | false => rw [c] at p; exact p.elim
    | true =>
      rw [c] at p
      simp only [Bool.and_eq_true, decide_eq_true_eq] at c
      refine ⟨i, rfl, ?_, ?_⟩
      · by_cases z : i.natAbs = 0
        · rw [z]; decide
        · have : i.natAbs < 2 ^ 1920 := Nat.lt_of_lt_of_le (show i.natAbs < 2 ^ 7 by omega) (Nat.pow_le_pow_right (by decide) (by decide))
          exact (Nat.log2_lt z).mpr this
      · rw [str_small c.1 c.2]
        exact RP.now p S (by simp only [RV])
  | _ => exact p.elim
theorem c_intS : CallG G (fun xs H Q => ∃ a n, xs = [.str a] ∧ PySem.intText? a = some n ∧ a.length ≤ 640 ∧ Q (.int n) H) qIntS := call1 fun W m h H σ v x Q S r1 p => by
  unfold qIntS1 at p
  cases v with
  | str s =>
    simp only [RV] at r1
    subst r1
    match s, p with
    | [a], p =>
      dsimp only at p
      cases c : digB a with
      | false => rw [c] at p; exact p.elim
      | true => rw [c] at p; exact ⟨_, _, rfl, int_one c, by show ([a] : List Nat).toArray.size ≤ 640; simp, RP.now p S (by simp only [RV])⟩
    | [a, b], p =>
      dsimp only at p
      cases c : digB a && digB b with
      | false => rw [c] at p; exact p.elim
      | true =>
        rw [c] at p
        rw [Bool.and_eq_true] at c
        exact ⟨_, _, rfl, int_two c.1 c.2, by show ([a, b] : List Nat).toArray.size ≤ 640; simp, RP.now p S (by simp only [RV])⟩
    | [], p => exact p.elim
    | _ :: _ :: _ :: _, p => exact p.elim
  | _ => exact p.elim
def SmG (G : GC) (r : V → List V → Hp → VK → Prop) (g : MV → FM) : Prop :=
  ∀ (W : XW) (m : List Addr) (h : MH) (H : Hp) (σ : L2.St) (s : List Nat) (w : MV) (y : V) (Q : VK), Sim G m h H → RV G m H w y → RP G W (RV G) m H σ (g (.str s) [w] h) Q → r (.str ⟨s.toArray⟩) [y] H Q
theorem k_sm {r : V → List V → Hp → VK → Prop} {g : MV → FM} (hr : SmG G r g) (h : PE X e (tM1 r (tM G W fa) (tM G W fb))) : PE X e (tM G W (eSm g fa fb)) := h.wk fun σ H Q q => by
  refine (tMR.bind (Rel := RV G) (k := fun σ v h1 => match v with
  | .str s => (fb σ h1).bind fun w h2 => g (.str s) [w] h2
  | _ => .bad) q).imp fun x H1 ⟨m1, h1, v, σm, S1, R1, r1, p1⟩ => ?_
  cases v with
  | str s =>
    simp only [RV] at r1
    subst r1
    refine ⟨⟨_, rfl⟩, m1, h1, σm, S1, R1, (RP.bind (Rel := RV G) p1).imp fun y H2 ⟨m2, h2, w, x2, S2, r2, p2⟩ => ?_⟩
    exact hr W m2 h2 H2 σ s w y Q S2 r2 p2
  | _ => exact p1.elim
theorem b_split : SmG G (fun x xs H Q => ∃ a b, x = .str a ∧ xs = [.str b] ∧ (b.length == 0) = false ∧ a.length + 2 ≤ sizeLine ∧ rNewStrs (Txt.split a b) H Q) qSplit := fun W m h H σ s w y Q S r1 p => by
  unfold qSplit f1 at p
  cases w with
  | str b =>
    simp only [RV] at r1
    subst r1
    match b, p with
    | [c], p =>
      dsimp only at p
      cases q : Nat.blt c 256 with
      | false => rw [q] at p; exact p.elim
      | true =>
        rw [q] at p
        dsimp only at p
        rcases lim_cases (s.length + 2) (Res.ok (MV.ref h.n) (h.push (.lst ((splitC c s).map .str)))) with ⟨z, e1⟩ | e1
        · rw [e1] at p
          refine ⟨_, _, rfl, rfl, rfl, by rw [str_len, sizeLine_eq]; exact z, fun l hl => ?_⟩
          rw [split_C (by simpa using q), List.map_map]
          exact RP.newLst p S (rvs_ofStrs _) hl
        · rw [e1] at p; exact p.elim
    | [], p => exact p.elim
    | _ :: _ :: _, p => exact p.elim
  | _ => exact p.elim
theorem b_join {K : PySem.W.Frag} : SmG G (fun x xs H Q => ∃ a p, ∃ ys : List PySem.Str, x = .str a ∧ xs = [.ref p] ∧ (SqL K H p (ys.map V.str) ∨ SqT K H p (ys.map V.str)) ∧
    (ys.map (·.length)).sum + ys.length * a.length ≤ 16777216 ∧ Q (.str (Txt.join a ys)) H) qJoin := fun W m h H σ s w y Q S r1 p => by
  unfold qJoin f1 at p
  cases w with
  | ref n =>
    dsimp only at p
    cases eg : h.get n with
    | none => rw [eg] at p; exact p.elim
    | some ob =>
      rw [eg] at p
      cases ob with
      | lst ts =>
        obtain ⟨a, us, _, rfl, ha, rs⟩ := S.lst eg r1
        dsimp only at p
        cases q : strs? ts with
        | none => rw [q] at p; exact p.elim
        | some ps =>
          rw [q] at p
          dsimp only at p
          rcases lim_cases ((ps.map List.length).sum + ps.length * s.length) (Res.ok (MV.str (joinC s ps)) h) with ⟨z, e1⟩ | e1
          · rw [e1] at p
            have e2 := rvs_strs (strs_map q ▸ rs)
            refine ⟨_, a, ps.map fun s => (⟨s.toArray⟩ : PySem.Str), rfl, rfl, .inl ?_, ?_, ?_⟩
            · rw [List.map_map]
              have : us = ps.map (V.str ∘ fun s => (⟨s.toArray⟩ : PySem.Str)) := e2
              rw [← this]
              exact SqL.of ha
            · rw [List.map_map, List.length_map, str_len]
              have : ((fun x : PySem.Str => x.length) ∘ fun s : List Nat => (⟨s.toArray⟩ : PySem.Str)) = List.length := by funext s; exact str_len s
              rw [this]; exact z
            · rw [join_C]
              exact RP.now p S (by simp only [RV])
          · rw [e1] at p; exact p.elim
      | _ => exact p.elim
  | _ => exact p.elim
theorem x_split (ho : PE X o (tM G W fa)) (he : PE X e (tM G W fb)) (hs : starEach [e] X.env = [(false, eval e X.env)] := by rfl) (hbase : attributeBase o "split" X.env (eval o X.env) = eval o X.env := by rfl) (hline : (apos.endLine == pos.line) = true := by rfl) :
    PE X (.Call (.Attribute o "split" apos) [e] [] pos) (tM G W (eSm qSplit fa fb)) := k_sm b_split (pe_m1 F.slot_str_split F.type_str_split mt_split ho he hs hbase hline)
theorem x_join (ho : PE X o (tM G W fa)) (he : PE X e (tM G W fb)) (hs : starEach [e] X.env = [(false, eval e X.env)] := by rfl) (hbase : attributeBase o "join" X.env (eval o X.env) = eval o X.env := by rfl) (hline : (apos.endLine == pos.line) = true := by rfl) :
    PE X (.Call (.Attribute o "join" apos) [e] [] pos) (tM G W (eSm qJoin fa fb)) := k_sm b_join (pe_m1 F.slot_str_join F.type_str_join mt_join ho he hs hbase hline)
/-! ### *xs in a list -/
theorem ka_starL (h : PA X es (StX.tStar G.K (tM G W fa) (tMA G W am))) : PA X es (tMA G W (aStarL fa am)) := h.wk fun σ H Q q => by
  refine (tMR.bind (Rel := RV G) (k := fun σ v h1 => match v with
  | .ref n => (match h1.get n with
    | some (.lst xs) => (am σ h1).bind fun ys h2 => .ok (xs ++ ys) h2
    | _ => .bad)
  | _ => .bad) q).imp fun x H1 ⟨m1, h1, v, σm, S1, R1, r1, p1⟩ => ?_
  cases v with
  | ref n =>
    dsimp only at p1
    cases eg : h1.get n with
    | none => rw [eg] at p1; exact p1.elim
    | some ob =>
      rw [eg] at p1
      cases ob with
      | lst ts =>
        obtain ⟨a, us, _, rfl, ha, rs⟩ := S1.lst eg r1
        refine ⟨a, us, rfl, .inr (SqL.of ha), m1, h1, σm, S1, R1, (RP.bind (Rel := RVs G) p1).imp fun zs H2 ⟨m2, h2, ws, x2, S2, r2, p2⟩ => ?_⟩
        exact RP.now p2 S2 ((rs.mono x2.toLe).append r2)
      | _ => exact p1.elim
  | _ => exact p1.elim
theorem a_starL {ps : Pos} (he : PE X e (tM G W fa)) (hr : PA X es (tMA G W am)) (hK : X.K = G.K := by rfl) (hs : starEach (.Starred e ps :: es) X.env = (true, eval e X.env) :: starEach es X.env := by rfl) : PA X (.Starred e ps :: es) (tMA G W (aStarL fa am)) := ka_starL (hK ▸ StX.pa_star he hr hs)
/-! ### a try that nothing leaves -/
theorem s_try {body orelse : List Stmt} {h₀ : ExceptHandler} {hs : List ExceptHandler} {sa sb : SM} (hb : PSs X body (tMS G W sa)) (ho : PSs X orelse (tMS G W sb)) (hn : ∀ e s, ¬ X.xe e s := by exact fun _ _ z => z) : PS X (.Try body (h₀ :: hs) orelse [] pos) (tMS G W (jSeq sa sb)) :=
  (ps_try_never hn hb ho).wk fun D σ H ⟨m, h, σm, S, R, p⟩ => by
  refine ⟨m, h, σm, S, R, ?_⟩
  unfold jSeq at p
  cases e : sa σm h with
  | nx σ1 h1 =>
    rw [e] at p
    exact fun m' H' s x S' R' => ⟨m', h1, σ1, S', R', OP.later p x⟩
  | rt v h1 => rw [e] at p; exact p
  | bk σ1 h1 => rw [e] at p; exact p
  | ct σ1 h1 => rw [e] at p; exact p
  | exc c v σ1 h1 => rw [e] at p; exact p
  | bad => rw [e] at p; exact p
end
/-! ### *x, y = xs -/
section
variable {X : Cx} {G : GC}
def gStar (K : PySem.W.Frag) (i j : Nat) : TG := fun v σ H Q => ∃ (a : Addr) (xs : List V) (y : V), v = .ref a ∧ SqL K H a xs ∧ xs.getLast? = some y ∧ ∀ p, H p = none → Q ((σ.set i (some (.ref p))).set j (some y)) (upd H p (.lst xs.dropLast))
theorem pg_star2 {i j kt : Nat} {x y : PySem.Str} {px py sp pt : Pos} (hc : X.calm = true) (hN : X.N.Nodup) (hi : X.N[i]? = some x) (hj : X.N[j]? = some y) (hx : Loc X.env.scope x) (hy : Loc X.env.scope y)
    (hfx : X.fn x = true ∨ X.env.scope.names.lookup x = some .local) (hfy : X.fn y = true ∨ X.env.scope.names.lookup y = some .local) :
    PG X (.Tuple [.Starred (.Name x px) sp, .Name y py] kt pt) (gStar X.K i j) := by
  refine ⟨fun pins s σ H v u Q I r hw => ?_⟩
  obtain ⟨a, xs, z, e1, hq, hl, hw⟩ := hw
  subst e1
  cases r
  obtain ⟨its, rv, pl, hz⟩ := I.list hq
  rw [PyProof.Rows.assign_Tuple]
  refine wpAny_bind (wpAny_standAt ?_)
  have hg : PGs X [.Name x px, .Name y py] (gCons (gName i) (gCons (gName j) gNil)) := pgs_cons (pg_name hN hi hx hfx) (pgs_cons (pg_name hN hj hy hfy) pgs_nil)
  show wpAny _ _ (unpack (.ref a) [(true, assign (.Name x px) X.env), (false, assign (.Name y py) X.env)]) _ _ _
  unfold unpack
  refine wpAny_bind (wpAny_holding ?_)
  show wpAny _ _ (unpackItems (.ref a) 2 (some 0)) _ _ _
  have I2 : Inv X pins σ H { s with heap := s.heap.push { cls := .type "list_iterator", data := .fields #[.ref a, .int 0 0] } } := I.kept (t' := s.toks) fun b u e => Heap.get?_push_of_some _ e
  have fI : FpOk X pins H s.heap.objs.size := I.fpOk (Nat.le_refl _) (I.hok.fresh (Nat.le_refl _))
  have szlt : a < s.heap.objs.size := by
    obtain ⟨o, ho, _⟩ := pl.isList
    exact Heap.lt_size ho
  have it0 : (s.heap.push { cls := .type "list_iterator", data := .fields #[.ref a, .int 0 0] }).get? s.heap.objs.size = some { cls := .type "list_iterator", data := .fields #[.ref a, .int 0 0] } := Heap.get?_push_size _ rfl
  have sz2 : (s.heap.push { cls := .type "list_iterator", data := .fields #[.ref a, .int 0 0] }).objs.size = s.heap.objs.size + 1 := Heap.size_push _ _
  have lst0 : (s.heap.push { cls := .type "list_iterator", data := .fields #[.ref a, .int 0 0] }).IsList a its.toArray := by
    obtain ⟨o, ho, z⟩ := pl.isList
    exact ⟨o, Heap.get?_push_of_some _ ho, z⟩
  unfold unpackItems notIterableAtAll
  refine wpAny_bind (wpAny_bind (wpAny_specialOf pl.isList.typeIs F.slot_list_iter.lookup (wpAny_pure ?_)))
  simp only [Bool.false_eq_true, if_false]
  refine wpAny_bind (wpAny_holding (wpAny_pyIter_list pl.isList ?_))
  refine wpAny_bind (wpAny_holding (wpAny_pure ?_))
  simp only [List.length_nil, Nat.lt_irrefl, if_false]
  refine wpAny_bind (wpAny_holding ?_)
  generalize hh2 : s.heap.push { cls := .type "list_iterator", data := .fields #[.ref a, .int 0 0] } = h2 at I2 it0 sz2 lst0
  generalize hIa : s.heap.objs.size = Ia at fI szlt it0 sz2
  refine wpAny_collect_iter (T := "list_iterator") (fp := [Ia, a]) (.inr (.inr (.inl rfl))) (Walks.list (show X.A.in1.handled = none from I.ok.hd hc) Ia a (Nat.ne_of_lt szlt) its.toArray).toS ?_ ⟨⟨_, it0, rfl, rfl⟩, lst0⟩ ?_ (List.mem_cons_self ..) (fun s' acc mv ia => ?_) ?_
  · intro i s st
    obtain ⟨⟨o, ho, hc', _⟩, _⟩ := st
    exact ⟨o, ho, hc'⟩
  · intro b hb
    rcases List.mem_cons.mp hb with z | z
    · rw [z]; show @LT.lt Nat _ Ia h2.objs.size; omega
    · rw [List.mem_singleton.mp z]; have q : @LT.lt Nat _ a Ia := szlt; show @LT.lt Nat _ a h2.objs.size; omega
  · have J := inv_moved (S := Ia) (I := Ia) I2 fI fI ⟨fun b o hb e => mv.heap b o (fun z => hb (List.mem_cons_of_mem _ z)) e, mv.gens, mv.drawn, mv.os, mv.toks⟩
    have ea : acc.toList = its := by
      apply List.ext_getElem?
      intro k
      by_cases ck : k < its.length
      · have hk : k < acc.size := by rw [ia.1]; simpa using ck
        have := ia.2 k acc[k] (by rw [Array.getElem?_eq_getElem hk])
        rw [Array.getElem?_toList, Array.getElem?_eq_getElem hk, ← this, List.getElem?_toArray]
      · have h1 : acc.toList.length = its.length := by rw [Array.length_toList, ia.1]; simp
        rw [List.getElem?_eq_none (by omega), List.getElem?_eq_none (by omega)]
    rw [ea]
    have ln : xs.length = its.length := rv.length
    have xn : xs ≠ [] := fun e => by rw [e] at hl; cases hl
    have l1 : 1 ≤ its.length := by
      have : xs.length ≠ 0 := fun e => xn (List.length_eq_zero_iff.mp e)
      omega
    rw [if_neg (by omega)]
    refine wpAny_bind (wpAny_newList ?_ (by rw [List.length_take]; omega))
    refine wpAny_pure ?_
    rw [show its.length - (2 - 1 - 0) = its.length - 1 from rfl]
    have hp : H s'.heap.objs.size = none := J.hok.fresh (Nat.le_refl _)
    have J2 : Inv X pins σ (upd H s'.heap.objs.size (.lst xs.dropLast)) { s' with heap := s'.heap.push { cls := .type "list", data := .seq (its.take (its.length - 1)).toArray } } := by
      refine J.laid (t' := s'.toks) (fun b u e => Heap.get?_push_of_some _ e) (Nat.le_refl _) ⟨by rw [List.length_dropLast]; omega, its.take (its.length - 1), _, ?_, Heap.get?_push_size _ rfl⟩
      rw [List.dropLast_eq_take, ln]
      exact rv.take _
    obtain ⟨xs', ex⟩ := List.getLast?_eq_some_iff.mp hl
    have rd := rv.drop (its.length - 1)
    have ed : xs.drop (its.length - 1) = [z] := by
      rw [ex] at ln ⊢
      rw [List.length_append, List.length_singleton] at ln
      rw [← ln, Nat.add_sub_cancel]
      simp
    rw [ed] at rd
    show wpAny _ _ (assignInOrder (List.map (fun x => x.2) (assignEach [.Name x px, .Name y py] X.env)) ([] ++ [Value.ref s'.heap.objs.size] ++ its.drop (its.length - 1))) _ _ _
    refine hg.run pins _ σ _ [.ref s'.heap.objs.size, z] _ Q J2 (.cons rfl rd) ?_
    exact ⟨_, _, rfl, _, _, rfl, rfl, hw _ hp⟩
  · show its.toArray.size ≤ sizeLine
    have ln : xs.length = its.length := rv.length
    simp; omega
theorem s_star {i j kt : Nat} {x y : PySem.Str} {px py sp pt pos : Pos} {e : Expr} {fa : EM} (hN : X.N.Nodup) (he : PE X e (tM G W0 fa)) (hx : Loc X.env.scope x) (hy : Loc X.env.scope y) (hc : X.calm = true := by rfl) (hK : X.K = G.K := by rfl) (hi : X.N[i]? = some x := by rfl) (hj : X.N[j]? = some y := by rfl)
    (hfx : X.fn x = true ∨ X.env.scope.names.lookup x = some .local := by first | exact .inl rfl | exact .inr rfl) (hfy : X.fn y = true ∨ X.env.scope.names.lookup y = some .local := by first | exact .inl rfl | exact .inr rfl)
    (hs : swapsWithSole [.Tuple [.Starred (.Name x px) sp, .Name y py] kt pt] e pos.line X.env = pure false := by rfl) (hw : swappedStores [.Tuple [.Starred (.Name x px) sp, .Name y py] kt pt] e X.env = pure none := by rfl) :
    PS X (.Assign [.Tuple [.Starred (.Name x px) sp, .Name y py] kt pt] e pos) (tMS G W0 (jStar i j fa)) := (ps_asg he (pg_star2 hc hN hi hj hx hy hfx hfy) hs hw).wk fun D σ H q => by
  refine (tMS.out (Rel := RV G) (k := fun σ v h1 => match v with
  | .ref n => (match h1.get n with
    | some (.lst xs) => (match xs.getLast? with
      | some y => .nx ((σ.set i (some (.ref h1.n))).set j (some y)) (h1.push (.lst xs.dropLast))
      | none => .bad)
    | _ => .bad)
  | _ => .bad) q).imp fun v' H1 ⟨m1, h1, v, σm, S1, R1, r1, p1⟩ => ?_
  cases v with
  | ref n =>
    dsimp only at p1
    cases eg : h1.get n with
    | none => rw [eg] at p1; exact p1.elim
    | some ob =>
      rw [eg] at p1
      cases ob with
      | lst ts =>
        obtain ⟨a, us, _, rfl, ha, rs⟩ := S1.lst eg r1
        dsimp only at p1
        cases el : ts.getLast? with
        | none => rw [el] at p1; exact p1.elim
        | some z =>
          rw [el] at p1
          obtain ⟨ts', et⟩ := List.getLast?_eq_some_iff.mp el
          have eu : us[ts'.length]? = us.getLast? := by
            rw [List.getLast?_eq_getElem?, rs.length, et, List.length_append]; rfl
          obtain ⟨u, e1, ru⟩ := rs.get (i := ts'.length) (v := z) (by rw [et]; simp)
          refine ⟨a, us, u, rfl, hK ▸ SqL.of ha, by rw [← eu]; exact e1, fun l hl => ?_⟩
          have x : Ex G m1 H1 (m1 ++ [l]) (upd H1 l (.lst us.dropLast)) := (Ex.upd l _ (plain_none hl) (.inr hl)).app hl
          have rd : RVs G m1 H1 ts.dropLast us.dropLast := by
            rw [List.dropLast_eq_take, List.dropLast_eq_take, rs.length]
            exact rs.take _
          have xl : Ex G m1 H1 m1 (upd H1 l (.lst us.dropLast)) := Ex.upd l _ (plain_none hl) (.inr hl)
          have S2 := S1.push hl (u := .lst ts.dropLast) (o := .lst us.dropLast) ⟨_, rfl, rd.mono x.toLe⟩
          refine p1 _ _ _ x S2 (((R1.mono x.toLe).set i ?_).set j (ru.mono x.toLe))
          simp only [RV]
          exact ⟨l, by rw [← S1.len]; simp, rfl⟩
      | _ => exact p1.elim
  | _ => exact p1.elim
end
/-! ### dict(pairs) -/
section
variable {G : GC} {m : List Addr} {H : Hp}
theorem merge_of {ms : List (MV × MV)} {ks : List (Key × V)} {acc : List (MV × MV)} {ak : List (Key × V)} (h : Paired (fun p q => KR p.1 q.1 ∧ RV G m H p.2 q.2) ms ks) (pa : Paired (fun p q => KR p.1 q.1 ∧ RV G m H p.2 q.2) acc ak) :
    Paired (fun p q => KR p.1 q.1 ∧ RV G m H p.2 q.2) (mergeM acc ms) (mergeK ak ks) := by
  induction h generalizing acc ak with
  | nil => exact pa
  | cons h t ih => exact ih (dput_of keyB_eq h.1 h.2 pa)
theorem pairs_of {K : PySem.W.Frag} : ∀ {xs : List MV} {ms : List (MV × MV)} {us : List V}, pairsKV xs = some ms → RVs G m H xs us → ∃ (ps : List Addr) (ks : List (Key × V)), us = ps.map V.ref ∧ Paired (fun (p : Addr) (kv : Key × V) => SqT K H p [kV kv.1, kv.2]) ps ks ∧ Paired (fun p q => KR p.1 q.1 ∧ RV G m H p.2 q.2) ms ks
  | [], ms, us, e, r => by
    cases e
    exact ⟨[], [], r.nil_inv, .nil, .nil⟩
  | .tup [k, v] :: xs, ms, us, e, r => by
    unfold pairsKV at e
    cases ek : keyA k with
    | false => rw [ek] at e; cases e
    | true =>
      rw [ek] at e
      dsimp only at e
      cases eq : pairsKV xs with
      | none => rw [eq] at e; cases e
      | some ps' =>
        rw [eq] at e
        cases e
        obtain ⟨y, ys, rfl, ry, rys⟩ := r.cons_inv
        obtain ⟨ps, ks, rfl, p1, p2⟩ := pairs_of (K := K) eq rys
        simp only [RV] at ry
        obtain ⟨a, zs, rfl, ha, rz⟩ := ry
        obtain ⟨z1, zr, rfl, r1, rr⟩ := RVs.cons_inv rz
        obtain ⟨z2, zr2, rfl, r2, rr2⟩ := RVs.cons_inv rr
        obtain rfl := rr2.nil_inv
        obtain ⟨kk, rk⟩ := keyA_kr ek
        have := kr_rv' rk r1
        subst this
        exact ⟨a :: ps, (kk, z2) :: ks, rfl, .cons (SqT.of ha) p1, .cons ⟨rk, r2⟩ p2⟩
  | .non :: _, _, _, e, _ => by cases e
  | .bl _ :: _, _, _, e, _ => by cases e
  | .int _ :: _, _, _, e, _ => by cases e
  | .str _ :: _, _, _, e, _ => by cases e
  | .ref _ :: _, _, _, e, _ => by cases e
  | .flst _ :: _, _, _, e, _ => by cases e
  | .tup [] :: _, _, _, e, _ => by cases e
  | .tup [_] :: _, _, _, e, _ => by cases e
  | .tup (_ :: _ :: _ :: _) :: _, _, _, e, _ => by cases e
theorem c_dictP : CallG G (fun xs H Q => ∃ (a : Addr) (ps : List Addr) (kvs : List (Key × V)), xs = [.ref a] ∧ SqL G.K H a (ps.map V.ref) ∧ Paired (fun p kv => SqT G.K H p [kV kv.1, kv.2]) ps kvs ∧ ∀ p, H p = none → Q (.ref p) (upd H p (.dK (mergeK [] kvs)))) qDictP := call1 fun W m h H σ v x Q S r1 p => by
  unfold qDictP1 at p
  cases v with
  | ref n =>
    dsimp only at p
    cases eg : h.get n with
    | none => rw [eg] at p; exact p.elim
    | some ob =>
      rw [eg] at p
      cases ob with
      | lst ts =>
        obtain ⟨a, us, _, rfl, ha, rs⟩ := S.lst eg r1
        dsimp only at p
        cases q : pairsKV ts with
        | none => rw [q] at p; exact p.elim
        | some ms =>
          rw [q] at p
          obtain ⟨ps, ks, rfl, p1, p2⟩ := pairs_of (K := G.K) q rs
          refine ⟨a, ps, ks, rfl, SqL.of ha, p1, fun l hl => ?_⟩
          have x : Ex G m H (m ++ [l]) (upd H l (.dK (mergeK [] ks))) := (Ex.upd l _ (plain_none hl) (.inr hl)).app hl
          have xl : Ex G m H m (upd H l (.dK (mergeK [] ks))) := Ex.upd l _ (plain_none hl) (.inr hl)
          refine p _ _ (.ref l) x (S.push hl ⟨.dK (mergeK [] ks), ⟨_, rfl, merge_of (Paired.mapP p2 fun _ _ z => ⟨z.1, z.2.mono x.toLe⟩) .nil⟩, rfl⟩) ?_
          simp only [RV]
          exact ⟨l, by rw [← S.len]; simp, rfl⟩
      | _ => exact p.elim
  | _ => exact p.elim
end
end KA
/-! ### lists of two lengths -/
namespace KQ
open PySem PySem.Spec PyProof.Rows PySem.W
open MeetsSeq MeetsSeq2 MeetsSeq3 SeqRoads2
section
variable {prog : Program} {w : World} {A : Around} {R : Result → Shared → Prop}
theorem list3 {l b : Addr} {xs ys : Array Value} {n m : Nat} {s : Shared} (e1 : s.heap.get? l = some { cls := .type "list", data := .seq xs n }) (e2 : s.heap.get? b = some { cls := .type "list", data := .seq ys m }) (ne : xs.size ≠ ys.size) (fin : R (.ok (.ret (.bool false))) s) :
    wpAny (model prog w) A.in1 (Builtin.«list.__eq__» ⟨[.ref l, .ref b], []⟩) (GQ.FinOf prog w A R) (fun e s' => R (.error e) s') s := by
  obtain ⟨hp, g, dr, tk, os⟩ := s
  have sub := AutoSeq1.sub_list_list
  have diff : (xs.size != ys.size) = true := by simp [ne]
  wp_walk using wpAny_loadPart' e1, wpAny_loadPart' e2
  exact fin
end
end KQ
namespace KA
open PySem PySem.Spec PyProof.Rows L2
def rEqLen : R2 := fun x y H Q => ∃ a b xs ys, x = .ref a ∧ y = .ref b ∧ H a = some (.lst xs) ∧ H b = some (.lst ys) ∧ xs.length ≠ ys.length ∧ Q (.bl false) H
section
variable {X : Cx} {G : GC} {W : XW} {a b : Expr} {fa fb : EM} {pos : Pos}
theorem op_eqLen (hr : Room 1 X.A) : OpR X (compareOp .Eq) rEqLen := by
  intro pins s σ H x y v u Q I rx ry hq
  obtain ⟨a, b, xs, ys, rfl, rfl, ha, hb, ne, q⟩ := hq
  cases (show v = Value.ref a from rx)
  cases (show u = Value.ref b from ry)
  show wpAny (model X.prog X.w) X.A (richCompare .Eq (.ref a) (.ref b)) (EP X pins σ Q) X.xe s
  obtain ⟨_, its, n1, v1, t1⟩ := I.hok a _ ha
  obtain ⟨_, its2, n2, v2, t2⟩ := I.hok b _ hb
  refine wpAny_richCompare_same_room (op := .Eq) ⟨_, t1, rfl⟩ ⟨_, t2, rfl⟩ F.slot_list_eq (GQ.call_here F.slot_list_eq ⟨_, t1, rfl⟩ F.entry_list_eq (F.args_list_eq_2 _ _) ?_) (sub_here hr).room.units0
  refine KQ.list3 t1 t2 (by have := v1.length; have := v2.length; simp; omega) ?_
  exact ⟨(fun x => nomatch x), .bl false, H, I, rfl, q⟩
theorem o_eqLen : Op20 G rEqLen qEqLen := by
  intro m h H σ v w x y Q S r1 r2 p
  unfold qEqLen at p
  cases v with
  | ref n =>
    cases w with
    | ref j =>
      dsimp only at p
      cases e : h.get n with
      | none => rw [e] at p; exact p.elim
      | some o =>
        rw [e] at p
        cases o with
        | lst xs =>
          cases e2 : h.get j with
          | none => rw [e2] at p; exact p.elim
          | some o2 =>
            rw [e2] at p
            cases o2 with
            | lst ys =>
              dsimp only at p
              cases q : Nat.beq xs.length ys.length with
              | true => rw [q] at p; exact p.elim
              | false =>
                rw [q] at p
                obtain ⟨a, us, _, rfl, ha, rs⟩ := S.lst e r1
                obtain ⟨b, vs, _, rfl, hb, rs2⟩ := S.lst e2 r2
                refine ⟨a, b, us, vs, rfl, rfl, ha, hb, fun z => ?_, RP.now p S (by simp [RV])⟩
                rw [rs.length, rs2.length] at z
                rw [z, Nat.beq_refl] at q
                cases q
            | _ => exact p.elim
        | _ => exact p.elim
    | _ => exact p.elim
  | _ => exact p.elim
theorem t_eqLen (hr : Room 1 X.A) (ha : PE X a (tM G W0 fa)) (hb : PE X b (tM G W0 fb)) (hb2 : behindInMarks .Eq b = false := by first | exact nomark _ | rfl) : PT X (.Compare a [.Eq] [b] pos) (tMT G W0 (cB (e2 qEqLen fa fb))) := kt_op0 o_eqLen (pt_cmpR (op_eqLen hr) ha hb hb2)
end
end KA
set_option autoImplicit false
set_option maxHeartbeats 200000
set_option maxRecDepth 512
set_option Elab.async false
set_option autoImplicit false
set_option linter.all false
set_option maxRecDepth 100000
set_option maxHeartbeats 1600000
/-! KSup: an own exception class whose maker says «super().__init__(text)», then stores one field. -/
namespace KA
open PySem PySem.Spec PyProof.Rows L2
/-- the body's context -/
def cxS (CX : CXT) (P : Program) (w : World) (K : PySem.W.Frag) (mg : PySem.Str → Option Value) (base : Heap) (N : List PySem.Str) (qual : PySem.Str) (scope : Scope) (f : Addr) (cd : Value) (cc : Addr) (A : Around) (outer : List Env) (s : Shared) (H : Hp) (E : XK) : Cx where
  prog := P
  w := w
  K := K
  mg := mg
  base := base
  A := A.deeper (PySem.W.ksEnv qual scope s.heap.objs.size f cd cc)
  N := N
  s_0 := s
  H_0 := H
  env := PySem.W.ksEnv qual scope s.heap.objs.size f cd cc
  outer := outer
  stack := PySem.W.ksEnv qual scope s.heap.objs.size f cd cc :: outer
  ex := []
  calm := true
  fn := fun _ => false
  pn := []
  xe := fun e s' => wpAny (model P w) (A.deeper (PySem.W.ksEnv qual scope s.heap.objs.size f cd cc)) (leaving (PySem.W.ksEnv qual scope s.heap.objs.size f cd cc) e) (fun _ s'' => CX outer H s E e s'') (fun e' s'' => CX outer H s E e' s'') s'
/-- such a def's names: two parameters, the cell, super -/
structure SupScope (p0 p1 : PySem.Str) (sc : Scope) : Prop where
  kind : sc.kind = .function
  ne : p1 ≠ p0
  l0 : sc.names.lookup p0 = some .local
  l1 : sc.names.lookup p1 = some .local
  fr : sc.names.lookup ("__class__" : PySem.Str) = some .free
  su : sc.names.lookup ("super" : PySem.Str) = some .globalImplicit
  one : ∀ y ∈ sc.names, y.2 = .free → y.1 = ("__class__" : PySem.Str)
  nocell : ∀ y ∈ sc.names, y.2 ≠ .cell
  co : sc.isCoroutine = false
  gen : sc.isGenerator = false
section
variable {CX : CXT} {P : Program} {w : World} {K : PySem.W.Frag} {mg : PySem.Str → Option Value} {base : Heap} {p0 p1 qual : PySem.Str} {scope : Scope} {f cc C : Addr} {cd : Value} {A : Around} {outer : List Env} {s : Shared} {H : Hp} {E : XK} {u0 u1 : Value} {v0 v1 : V}
theorem inv_sup (S : SupScope p0 p1 scope) (hd : A.handled = none) (e0 : Env0 P w K mg base A outer s H) {cl : Value} {cld : Option Addr} {csl : Array (Option Value)} (hcell : K.lookup cc = some ⟨cl, cld, .cell (some (.ref C)), csl⟩)
    (r0 : RelV v0 u0) (r1 : RelV v1 u1) {h₀ : Heap} {t : Nat} (hns : h₀.Ns s.heap.objs.size fun x => (([p0, p1].zip [u0, u1]).reverse).lookup x) (hk : ∀ b o, s.heap.get? b = some o → h₀.get? b = some o) :
    Inv (cxS CX P w K mg base [p0, p1] qual scope f cd cc A outer s H E) [] [some v0, some v1] H { s with heap := h₀, toks := t } := by
  have noA : ∀ b : Addr, b ∉ (cxS CX P w K mg base [p0, p1] qual scope f cd cc A outer s H E).ex := fun b z => absurd (show b ∈ ([] : List Addr) from z) (by simp)
  have one : ∀ y c, (cxS CX P w K mg base [p0, p1] qual scope f cd cc A outer s H E).env.cells.lookup y = some c → y = ("__class__" : PySem.Str) ∧ c = cc := fun y c h => by
    have h' : ([(("__class__" : PySem.Str), cc)]).lookup y = some c := h
    rw [List.lookup_cons] at h'
    cases e : (y == ("__class__" : PySem.Str)) with
    | true => rw [e] at h'; exact ⟨by simpa using e, (Option.some.inj h').symm⟩
    | false => rw [e] at h'; cases h'
  have cb := e0.mod.kin _ _ hcell
  have ch := (e0.bs _ _ cb)
  refine ⟨⟨e0.mod, S.kind, rfl, rfl, Nat.le_refl _, fun y z c h1 h2 => (one _ _ h1).1.trans (one _ _ h2).1.symm, fun y hy => ?_, fun y c z h => absurd z Bool.false_ne_true, fun _ => hd, Around.frames_deeper e0.frames, .inr ⟨rfl, rfl⟩, fun b z => absurd z (noA b), e0.bs, e0.bsz, fun b _ _ => noA b, fun b z => absurd z (noA b), e0.funs, e0.frf⟩,
    rfl, e0.bare, Un.kept hk, ⟨_, hns, fun i y v h1 h2 h3 => ?_⟩, fun y c h => ?_, e0.hok.fresh (Nat.le_refl _), fun y c h => ?_, fun p hp => absurd (show p ∈ ([] : List (Addr × Obj)) from hp) (by simp), e0.hok.kept hk, rfl⟩
  · have hy : scope.names.lookup y = some .cell ∨ scope.names.lookup y = some .free := hy
    rcases hy with hy | hy
    · exact absurd rfl (S.nocell _ (PySem.mem_of_lookup hy))
    · have e := S.one _ (PySem.mem_of_lookup hy) rfl
      refine ⟨cc, ?_⟩
      show ([(("__class__" : PySem.Str), cc)]).lookup y = some cc
      rw [show y = ("__class__" : PySem.Str) from e]
      simp [List.lookup]
  · have hne : (p0 == p1) = false := beq_eq_false_iff_ne.mpr fun z => S.ne z.symm
    match i, h1, h2 with
    | 0, h1, h2 =>
      have e1 : p0 = y := Option.some.inj h1
      have e2 : v0 = v := Option.some.inj (Option.some.inj h2)
      subst e1 e2
      exact ⟨u0, r0, .inl ⟨S.l0, by simp [List.lookup, hne]⟩⟩
    | 1, h1, h2 =>
      have e1 : p1 = y := Option.some.inj h1
      have e2 : v1 = v := Option.some.inj (Option.some.inj h2)
      subst e1 e2
      exact ⟨u1, r1, .inl ⟨S.l1, by simp [List.lookup]⟩⟩
    | (n + 2), h1, h2 => cases h1
  · obtain ⟨rfl, rfl⟩ := one _ _ h
    exact ⟨_, _, hk _ _ ch.1, rfl⟩
  · obtain ⟨rfl, rfl⟩ := one _ _ h
    exact ch.2
end
/-- what such a maker promises -/
def spSup (K : PySem.W.Frag) (C : Addr) (fld : PySem.Str) (R : V → Prop) : Sp := fun vs H Q _ => ∃ a y, vs = [.ref a, y] ∧ R y ∧ H a = some (exo a C none) ∧
  ∀ d, H d = none → d ≠ a → Q .non (upd (upd H d (exd d [(fld, y)])) a (exo a C (some d)))
section
variable {X : Cx} {pins : List (Addr × Obj)} {σ : L2.St} {H : Hp} {s : Shared}
theorem inv_pin (I : Inv X pins σ H s) {u : Addr} {o : Obj} (hu : s.heap.get? u = some o) (hn : H u = none) (nL : u ≠ X.env.locals) (nF : u ∉ X.fs) (nc : ∀ v, o.data ≠ .cell v) : Inv X ((u, o) :: pins) σ H s :=
  ⟨I.ok, I.os, I.bare, I.base, I.loc, I.cell, I.free, I.freeC, fun p hp => by
    rcases List.mem_append.mp hp with h | h
    · exact I.pin p (List.mem_append_left _ h)
    · rcases List.mem_cons.mp h with e | h
      · rw [e]; exact ⟨hu, hn, nL, nF, nc⟩
      · exact I.pin p (List.mem_append_right _ h), I.hok, I.len⟩
theorem inv_unpin {q : Addr × Obj} (I : Inv X (q :: pins) σ H s) : Inv X pins σ H s :=
  ⟨I.ok, I.os, I.bare, I.base, I.loc, I.cell, I.free, I.freeC, fun p hp => I.pin p (by
    rcases List.mem_append.mp hp with h | h
    · exact List.mem_append_left _ h
    · exact List.mem_append_right _ (List.mem_cons_of_mem _ h)), I.hok, I.len⟩
end
section
variable {CX : CXT} {P : Program} {w : World} {K : PySem.W.Frag} {mg : PySem.Str → Option Value} {base : Heap} {p0 p1 qual name fld : PySem.Str} {scope : Scope} {f cc cda C : Addr} {params : Arguments} {dV kV doc pm ct oc : Value} {an od : Option Addr} {osl : Array (Option Value)} {k : Nat}
  {arg : Expr} {q0 q1 q2 q3 q4 r0 r1 r2 r3 : Pos}
theorem fn_sup {cl ccl : Value} {cld cdd : Option Addr} {csl ccs : Array (Option Value)} {cvs : Array Value} {file : PySem.Str} {tf : Tok} {ar : Arg} {R : V → Prop} {ta : TE} {cdC : ClassData} (S : SupScope p0 p1 scope) (T : OexC K C)
    (lk : K.lookup f = some ⟨oc, od, .func (PySem.W.ksFn name qual params [.Expr (.Call (.Attribute (.Call (.Name "super" q0) [] [] q1) "__init__" q2) [arg] [] q3) q4, .Assign [.Attribute (.Name p0 r0) fld r1] (.Name p1 r2) r3] scope dV kV doc pm an (.ref cda) ct cc), osl⟩)
    (hcd : PySem.W.codeIn K (.ref cda) qual = true) (hp : (params.posonlyargs ++ params.args).head? = some ar) (har : ar.arg = p0)
    (hcell : K.lookup cc = some ⟨cl, cld, .cell (some (.ref C)), csl⟩) (hcode : K.lookup cda = some ⟨ccl, cdd, .fields cvs, ccs⟩) (hvs : cvs[2]? = some (.str file tf)) (hfile : ((P.main.file : PySem.Str) == file) = true)
    (hD : PySem.W.clsIn K C = some cdC) (hsub : PySem.W.mroIn K C (.ref C) = some true) (hB : PySem.W.subIn K (.ref C) (.type "ValueError") = some true) (hsuper : mg ("super" : PySem.Str) = none)
    (htop : (P.main.scope.names.lookup ("super" : PySem.Str)).isSome = false) (hany : PySem.W.nsIn K PySem.cStatics "thirdparty.any" = some none)
    (hm : PySem.W.ks_superIn K C C "__init__" = some (some (.builtin "ValueError.__init__"))) (hno : PySem.W.findIn K (.ref C) fld = some none)
    (ha : ∀ (A : Around) (outer : List Env) (s : Shared) (H : Hp) (E : XK), PE (cxS CX P w K mg base [p0, p1] qual scope f (.ref cda) cc A outer s H E) arg ta)
    (hta : ∀ (a : Addr) (y : V) (H : Hp) (Q : VK), R y → (∀ z, Q z H) → ta [some (.ref a), some y] H Q)
    (hd0 : (p0 == ("__debug__" : PySem.Str)) = false := by decide) (hd1 : (p1 == ("__debug__" : PySem.Str)) = false := by decide) (hc0 : (p0 == ("__classdict__" : PySem.Str)) = false := by decide) (hc1 : (p1 == ("__classdict__" : PySem.Str)) = false := by decide)
    (hint : ∀ L, interactive (PySem.W.ksEnv qual scope L f (.ref cda) cc) = false := by intro L; rfl)
    (hs1 : ∀ L, swapsWith (.Call (.Attribute (.Call (.Name "super" q0) [] [] q1) "__init__" q2) [arg] [] q3) none q4.line (PySem.W.ksEnv qual scope L f (.ref cda) cc) = pure false := by intro L; rfl)
    (hs2 : ∀ L, swapsWith (.Name p1 r2) (some (.Attribute (.Name p0 r0) fld r1)) r3.line (PySem.W.ksEnv qual scope L f (.ref cda) cc) = pure false := by intro L; rfl)
    (hcall : ∀ L, ∃ pl : Sem Bool, eval (.Call (.Attribute (.Call (.Name "super" q0) [] [] q1) "__init__" q2) [arg] [] q3) (PySem.W.ksEnv qual scope L f (.ref cda) cc) = (do
      let ov ← attributeBase (.Call (.Name "super" q0) [] [] q1) "__init__" (PySem.W.ksEnv qual scope L f (.ref cda) cc) (eval (.Call (.Name "super" q0) [] [] q1) (PySem.W.ksEnv qual scope L f (.ref cda) cc))
      standAt q2.atName
      let (g, first) ← holding [ov] (getMethod ov "__init__" pl)
      callWith q3 g first (backTo q3 (starEach [arg] (PySem.W.ksEnv qual scope L f (.ref cda) cc))) []) := by intro L; exact ⟨_, rfl⟩)
    (he : ∀ L, starEach [arg] (PySem.W.ksEnv qual scope L f (.ref cda) cc) = (false, eval arg (PySem.W.ksEnv qual scope L f (.ref cda) cc)) :: starEach [] (PySem.W.ksEnv qual scope L f (.ref cda) cc) := by intro L; rfl) :
    FnOk P w K mg base CX (k + 1) f (PySem.W.ksFn name qual params [.Expr (.Call (.Attribute (.Call (.Name "super" q0) [] [] q1) "__init__" q2) [arg] [] q3) q4, .Assign [.Attribute (.Name p0 r0) fld r1] (.Name p1 r2) r3] scope dV kV doc pm an (.ref cda) ct cc) [p0, p1] (spSup K C fld R) := by
  refine ⟨fun vs H Q E ⟨a, y, e, _⟩ => by rw [e]; rfl, fun A outer s H args us vs Q E hr e0 hb rv hsp => ?_⟩
  obtain ⟨a, y, rfl, hy, ea, hq⟩ := hsp
  obtain ⟨u0, us1, rfl, r0', rv1⟩ : ∃ u0 us1, us = u0 :: us1 ∧ RelV (V.ref a) u0 ∧ Vals [y] us1 := by
    cases rv with
    | cons x t => exact ⟨_, _, rfl, x, t⟩
  obtain ⟨u1, rfl, r1'⟩ : ∃ u1, us1 = [u1] ∧ RelV y u1 := by
    cases rv1 with
    | cons x t => cases t; exact ⟨_, rfl, x⟩
  have KX : K.In s.heap := e0.mod.kin.keeps fun b o e => (e0.bs b o e).1
  have lim : s.heap.NoLimit := e0.mod.nolimit.keeps fun b o e => (e0.bs b o e).1
  obtain ⟨m0, hns0, hbl⟩ := e0.mod.blt
  refine PySem.ks_codeAny_call_defAt (body := [.Expr (.Call (.Attribute (.Call (.Name "super" q0) [] [] q1) "__init__" q2) [arg] [] q3) q4, .Assign [.Attribute (.Name p0 r0) fld r1] (.Name p1 r2) r3]) (binds := [p0, p1].zip [u0, u1]) hr.depth (KX _ _ lk) rfl lim (PySem.W.codeRec_of KX hcd) rfl hb S.nocell (fun z hz => ?_) (fun h₀ hns hk₀ => ?_) S.co S.gen S.kind
  · rcases List.mem_cons.mp hz with e | hz
    · rw [e]; exact S.l0
    · rcases List.mem_cons.mp hz with e | hz
      · rw [e]; exact S.l1
      · cases hz
  have I0 : Inv (cxS CX P w K mg base [p0, p1] qual scope f (.ref cda) cc A outer s H E) [] [some (.ref a), some y] H { s with heap := h₀, toks := s.toks + ([p0, p1].zip [u0, u1]).length } :=
    inv_sup S hr.hd e0 hcell r0' r1' hns hk₀
  have eu0 : u0 = Value.ref a := r0'
  subst eu0
  obtain ⟨nm, q, N, bs, bm, sn, sub, ab, col, dd, k0, k1, k2, k3, k5, hC, hbm⟩ := T.cls
  show _root_.PySem.wpAt (model P w) (A.deeper (PySem.W.ksEnv qual scope s.heap.objs.size f (.ref cda) cc)) (.func _ (PySem.W.ksEnv qual scope s.heap.objs.size f (.ref cda) cc)) (execs _ (PySem.W.ksEnv qual scope s.heap.objs.size f (.ref cda) cc)) _ _ _
  generalize hs0 : ({ s with heap := h₀, toks := s.toks + ([p0, p1].zip [Value.ref a, u1]).length } : Shared) = s0 at I0 ⊢
  have hns' : s0.heap.Ns s.heap.objs.size fun x => (([p0, p1].zip [Value.ref a, u1]).reverse).lookup x := by rw [← hs0]; exact hns
  have hX : (cxS CX P w K mg base [p0, p1] qual scope f (.ref cda) cc A outer s H E).env = PySem.W.ksEnv qual scope s.heap.objs.size f (.ref cda) cc := rfl
  have KI : K.In s0.heap := I0.kIn
  obtain ⟨oD, hD1, hD2⟩ : ∃ oD, s0.heap.get? C = some oD ∧ oD.data = .cls cdC := by
    unfold PySem.W.clsIn at hD
    split at hD
    · rename_i c d cd' sl ho
      cases hD
      exact ⟨_, KI _ _ ho, rfl⟩
    · cases hD
  obtain ⟨pl, hcl⟩ := hcall s.heap.objs.size
  refine PySem.ks_wpAt_execs_cons (PySem.ks_wpAt_Expr_any (PySem.ks_wpAt_MethodCall (pl := pl) ?_ hcl) (hint _) (hs1 _))
  refine PySem.ks_wpAt_super_base (env := PySem.W.ksEnv qual scope s.heap.objs.size f (.ref cda) cc) S.su S.fr (by decide) rfl (KI _ _ lk) rfl hp rfl (KI _ _ hcode) rfl hvs hfile htop ?_
  refine PySem.W.ks_loadName_global S.kind S.su (Calls.loadGlobal_builtin (env := PySem.W.ksEnv qual scope s.heap.objs.size f (.ref cda) cc) (e0.mod.glob.keeps I0.bk) hsuper (hns0.keeps I0.bk) ((hbl _ (by decide +kernel)).trans (show bootBuiltins ("super" : PySem.Str) = some (.type "super") from by first | boot_by_name | rfl | kernel_rfl)) ⟨rfl, ?_⟩)
  refine wpAny_loadName_free S.kind S.fr rfl ⟨_, KI _ _ hcell, rfl⟩ ?_
  rw [har]
  refine wpAny_loadName_local S.kind S.l0 hns' (show List.lookup p0 [(p1, u1), (p0, Value.ref a)] = some (Value.ref a) from by
    rw [List.lookup_cons, show (p0 == p1) = false from beq_eq_false_iff_ne.mpr fun z => S.ne z.symm]; simp) ?_
  refine PySem.ks_wpAny_isType_cls hD1 hD2 ⟨rfl, ?_⟩
  obtain ⟨t1, ho⟩ := exo_at I0.hok ea
  obtain ⟨h0, g, d, t, os⟩ := s0
  refine PySem.ks_wpAny_call_super hD1 hD2 ho rfl (fun c z => by cases z) (PySem.W.looks_mroIn KI hsub) (fun h' e k => ?_)
  have I1 : Inv (cxS CX P w K mg base [p0, p1] qual scope f (.ref cda) cc A outer s H E) [] [some (.ref a), some y] H ⟨h', g, d, t, os⟩ := I0.kept (t' := t) k
  have K1 : K.In h' := I1.kIn
  obtain ⟨t2, ho2⟩ := exo_at I1.hok ea
  have hxC : a ≠ C := fun z => by
    have z2 := k _ _ hD1
    rw [← z] at z2
    rw [ho2] at z2
    rw [← Option.some.inj z2] at hD2
    cases hD2
  have hI : PySem.W.Looks (model P w) h' (isInstance (.ref a) (.type "ValueError")) true := (PySem.W.InstAt.type (od := none) ⟨ho2, rfl, rfl, trivial⟩).andThen (PySem.W.looks_subIn K1 hB)
  have hm2 : PySem.W.alongIn K "__init__" ((cdC.mro.dropWhile (· != .ref C)).drop 1) = some (some (.builtin "ValueError.__init__")) := by
    unfold PySem.W.ks_superIn at hm
    rw [hD] at hm
    exact hm
  refine PySem.W.kxs_getMethod PySem.W.kxs_ValueError e (PySem.W.looks_opaque K1 hany) (l₀ := cdC.mro) (fun A Q E s k q => wpAny_bind ((PySem.W.looks_clsIn K1 hD) A _ E s k (wpAny_pure q))) rfl K1 hm2 hI hxC (by decide) ?_
  have k2 : ∀ b o, h'.get? b = some o → (h'.push (PySem.W.kxs_mw "ValueError.__init__" a)).get? b = some o := fun b o e => Heap.get?_push_of_some _ e
  have I2 : Inv (cxS CX P w K mg base [p0, p1] qual scope f (.ref cda) cc A outer s H E) [] [some (.ref a), some y] H ⟨h'.push (PySem.W.kxs_mw "ValueError.__init__" a), g, d, t + 1, os⟩ := I1.kept (t' := t + 1) k2
  have hu : (h'.push (PySem.W.kxs_mw "ValueError.__init__" a)).get? h'.objs.size = some (PySem.W.kxs_mw "ValueError.__init__" a) := Heap.get?_push_at rfl rfl
  have I3 := inv_pin I2 hu (I1.hok.fresh (Nat.le_refl _)) (Nat.ne_of_gt I1.lt) (I1.nofs (Nat.le_refl _)) (fun v z => by cases z)
  refine PySem.W.kxs_callWith (i := "ValueError.__init__") (x := a) (by rw [he]; rfl) ?_
  rw [he]
  refine Calls.evalArgs_plain ?_
  have eqs : spliced (backTo q3 (starEach [arg] (PySem.W.ksEnv qual scope s.heap.objs.size f (.ref cda) cc))) = spliced ((false, eval arg (PySem.W.ksEnv qual scope s.heap.objs.size f (.ref cda) cc)) :: backTo q3 (starEach [] (PySem.W.ksEnv qual scope s.heap.objs.size f (.ref cda) cc))) := by rw [he]; rfl
  show wpAny (model P w) (A.deeper (PySem.W.ksEnv qual scope s.heap.objs.size f (.ref cda) cc)) (spliced ((false, eval arg (PySem.W.ksEnv qual scope s.heap.objs.size f (.ref cda) cc)) :: backTo q3 (starEach [] (PySem.W.ksEnv qual scope s.heap.objs.size f (.ref cda) cc)))) _ _ _
  rw [← eqs]
  have PAa : PA (cxS CX P w K mg base [p0, p1] qual scope f (.ref cda) cc A outer s H E) [arg] (L2.tCons ta L2.tNil) := pa_cons (ha A outer s H E) pa_nil (he _)
  refine thn (PAa.run q3 _ _ _ H (fun vs H' => vs.length = 1 ∧ H' = H) (I3.tok _) (hta a y H _ hy fun z => ⟨rfl, rfl⟩)) fun us s1 hz => ?_
  obtain ⟨vs1, H1, I4, rv4, hl4, rfl⟩ := hz
  obtain ⟨h4, g4, d4, t4, os4⟩ := s1
  have hu4 : h4.get? h'.objs.size = some (PySem.W.kxs_mw "ValueError.__init__" a) := (I4.pin (h'.objs.size, PySem.W.kxs_mw "ValueError.__init__" a) (by simp)).1
  refine ⟨hu4, ?_⟩
  have I5 := inv_unpin I4
  obtain ⟨t5, ho5⟩ := exo_at I5.hok ea
  have hC5 := I5.kIn _ _ hC
  have hus : us.length ≤ sizeLine := by
    rw [← Paired.length rv4, hl4, sizeLine_eq]; decide
  show wpAny (model P w) (A.deeper (PySem.W.ksEnv qual scope s.heap.objs.size f (.ref cda) cc)) (call (.ref h'.objs.size) us) _ _ _
  refine wpAny_call (codeAny_of_tree ?_)
  show wpAny _ (Around.in1 (A.deeper (PySem.W.ksEnv qual scope s.heap.objs.size f (.ref cda) cc))) (callAny (.ref h'.objs.size) ⟨us, []⟩) _ _ _
  simp only [callAny]
  refine wpAny_bind (wpAny_load hu4 ?_)
  simp only [PySem.W.kxs_mw, show (Value.type "method-wrapper" == Value.type "method" || Value.type "method-wrapper" == Value.type "builtin_function_or_method" || Value.type "method-wrapper" == Value.type "method-wrapper") = true by decide, if_true]
  refine PySem.W.KFB.if_so (by decide) ?_
  refine wpAny_bind (PySem.W.check_bound_init F.excBase_ValueError.toExcCallFacts hC5 ho5 rfl ?_)
  refine wpAny_bind (wpAny_pure (wpAny_pure ?_))
  refine ⟨plainId_quiet F.excBase_ValueError.init.plain _, codeAny_builtin F.excBase_ValueError.initEntry ?_⟩
  refine PySem.W.exc_init_tree (cls := .ref C) (t0 := t5) (dv := none) (c2 := .none) (c3 := .none) (b4 := .bool false) ho5 hus fun h6 k6 hx6 _ => ?_
  have J := I5.write (t' := t4) (x := a) (e := a) (o := exo a C none) (by rw [ea]; exact True.intro) (.inl rfl) k6 ⟨_, hx6⟩ (exo_ok hx6)
  have eu : upd H1 a (exo a C none) = H1 := by
    funext b
    by_cases hb : b = a
    · rw [hb, upd_same, ea]
    · rw [upd_ne hb]
  rw [eu] at J
  refine wpAt_of_wpAny ?_
  have P2 : PSs (cxS CX P w K mg base [p0, p1] qual scope f (.ref cda) cc A outer s H1 E) [.Assign [.Attribute (.Name p0 r0) fld r1] (.Name p1 r2) r3] (tOst K fld (L2.tVar 0) (L2.tVar 1)) :=
    pss_one (ps_ost (pv 0 rfl (.inl S.l0) hd0 hc0) (pv 1 rfl (.inl S.l1) hd1 hc1) (hs2 _))
  refine wpAny_mono (P2.run [] _ [some (.ref a), some y] H1 { nx := fun _ H' => Q .non H', rt := Q } J ?_) (fun fl s' hs => ?_) fun e s' hs => hs
  · refine ⟨y, rfl, .ref a, rfl, a, C, rfl, T, hno, .inl ⟨ea, fun dx hn hne => ?_⟩⟩
    exact hq dx hn hne
  · have fin : ∀ {σ' : L2.St} {H' : Hp} {v : V} {u : Value}, Inv (cxS CX P w K mg base [p0, p1] qual scope f (.ref cda) cc A outer s H1 E) [] σ' H' s' → RelV v u → Q v H' → CE outer P w H1 s Q u s' :=
      fun {σ' H' v u} J rv q => ⟨v, H', J.os, J.bare, J.base, J.hok, rv, q⟩
    cases fl with
    | ret u =>
      obtain ⟨v, σ', H', J, rv, q⟩ := hs
      exact fin J rv q
    | next =>
      obtain ⟨σ', H', J, q⟩ := hs
      exact fin (v := V.non) (u := Value.none) J rfl q
    | brk =>
      obtain ⟨_, _, _, q⟩ := hs
      exact False.elim q
    | cont =>
      obtain ⟨_, _, _, q⟩ := hs
      exact False.elim q
end
end KA
set_option autoImplicit false
set_option maxHeartbeats 200000
set_option maxRecDepth 512
set_option Elab.async false
set_option autoImplicit false
set_option linter.all false
set_option maxRecDepth 100000
set_option maxHeartbeats 1600000
/-! KX: exceptions: raised, let out by defs, caught. -/
namespace KA
open PySem PySem.Spec PyProof.Rows L2
section
variable {X : Cx} {G : GC} {W : XW} {e : Expr} {fa fb : EM} {am : AM} {st : Stmt} {sts : List Stmt} {sa sb : SM} {tc : TM}
/-! ### where nothing is raised -/
theorem noR_of {α β : Type} {Rel : List Addr → Hp → α → β → Prop} {m : List Addr} {H : Hp} {σ : L2.St} {r : Res α} {Q : β → Hp → Prop} (p : RP G W Rel m H σ (noR r) Q) : RP G W0 Rel m H σ r Q := by
  cases r with
  | ok v h => exact p
  | exc c v h => exact p.elim
  | bad => exact p
theorem tMR_nox {α β : Type} {Rel : List Addr → Hp → α → β → Prop} {f : Sl → MH → Res α} {σ : L2.St} {H : Hp} {Q : β → Hp → Prop} (q : tMR G W Rel (fun σ h => noR (f σ h)) σ H Q) : tMR G W0 Rel f σ H Q := by
  obtain ⟨m, h, σm, S, R, p⟩ := q
  exact ⟨m, h, σm, S, R, noR_of p⟩
theorem x_nox (h : PE X.nox e (tM G W0 fa)) : PE X e (tM G W (eNox fa)) := (PE.nox h).wk fun _ _ _ q => tMR_nox q
theorem t_nox (h : PT X.nox e (tMT G W0 tc)) : PT X e (tMT G W (tNox tc)) := (PT.nox h).wk fun _ _ _ q => tMR_nox q
theorem ps_nox {t : TS} (h : PS X.nox st t) : PS X st t := ⟨fun pins s σ H D I hw =>
  wpAny_mono (h.run pins s σ H D (I.wish _) hw) (fun _ _ q => q.unwish) fun _ _ z => False.elim z⟩
theorem s_nox (h : PS X.nox st (tMS G W0 sa)) : PS X st (tMS G W (jNox sa)) := (ps_nox h).wk fun D σ H ⟨m, h, σm, S, R, p⟩ => by
  refine ⟨m, h, σm, S, R, ?_⟩
  unfold jNox at p
  cases eo : sa σm h with
  | nx _ _ => rw [eo] at p; exact p
  | rt _ _ => rw [eo] at p; exact p
  | bk _ _ => rw [eo] at p; exact p
  | ct _ _ => rw [eo] at p; exact p
  | exc _ _ _ _ => rw [eo] at p; exact p.elim
  | bad => rw [eo] at p; exact p.elim
/-! ### defs that let exceptions out -/
def spX (G : GC) (n : Nat) (g : FM) : Sp := fun vs H Q E => vs.length = n ∧ ∃ m h ms, Sim G m h H ∧ RVs G m H ms vs ∧ RP G (fun c d _ H' => E c d H') (RV G) m H [] (g ms h) Q
theorem RP.atx {α β : Type} {Rel : List Addr → Hp → α → β → Prop} {m : List Addr} {H : Hp} {σ σ' : L2.St} {r : Res α} {Q : β → Hp → Prop} (p : RP G W Rel m H σ r Q) : RP G (fun c d _ H' => W c d σ H') Rel m H σ' r Q := by
  cases r with
  | ok v h => exact p
  | exc c v h => exact fun m' H' d e s q => p m' H' d e s q
  | bad => exact p
theorem fn_okX {P : Program} {w : World} {K : PySem.W.Frag} {mg : PySem.Str → Option Value} {base : Heap} {x qual : PySem.Str} {params : Arguments} {body : List Stmt} {scope : Scope} {dvs : List V} {kws : List (PySem.Str × V)} {f : Addr} {fd : FuncData} {N ps : List PySem.Str} {k n np : Nat} {G : GC} {b : SM}
    (F : FunD K x qual params body scope dvs kws f fd) (S : FnScope N ps scope) (hn : N.length = n := by rfl) (hp : ps.length = np := by rfl)
    (hb : ∀ (cdv : Value) (A : Around) (outer : List Env) (s : Shared) (H : Hp) (E : XK), Room k (A.deeper (envOfC qual scope s.heap.objs.size f cdv)) → Takes (cxOf (L2.CX P w) P w K mg base N qual scope f cdv A outer s H E) (fun c d _ H' => E c d H') →
      PassesOwn (model P w) (A.deeper (envOfC qual scope s.heap.objs.size f cdv)) (envOfC qual scope s.heap.objs.size f cdv) (cxOf (L2.CX P w) P w K mg base N qual scope f cdv A outer s H E).xe →
      PSs (cxOf (L2.CX P w) P w K mg base N qual scope f cdv A outer s H E) body (tMS G (fun c d _ H' => E c d H') b)) :
    FnOk P w K mg base (L2.CX P w) (k + 1) f fd ps (spX G np (fn n b)) := by
  refine F.ok S (fun vs H Q E h => hp ▸ h.1) (fun cdv A outer s H vs Q E hr h => ⟨_, hb cdv A outer s H E hr (takes_of rfl rfl rfl rfl) (passes_of rfl), ?_⟩)
  obtain ⟨hl, m, h, ms, Sm, r, p⟩ := h
  refine ⟨m, h, ms.map some ++ List.replicate (n - ms.length) none, Sm, RS.start r N n hn, ?_⟩
  unfold fn at p
  cases e : b (ms.map some ++ List.replicate (n - ms.length) none) h with
  | nx σ1 h1 => rw [e] at p; exact fun m' H' s x S' _ => p m' H' .non x S' (by simp [RV])
  | rt v h1 => rw [e] at p; exact p
  | bk σ1 h1 => rw [e] at p; exact p.elim
  | ct σ1 h1 => rw [e] at p; exact p.elim
  | exc c v σ1 h1 =>
    rw [e] at p
    exact fun m' H' s d x S' R' q => p m' H' d x S' q
  | bad => rw [e] at p; exact p.elim
structure Dx (P : Program) (w : World) (K : PySem.W.Frag) (mg : PySem.Str → Option Value) (base : Heap) (G : GC) (f : Addr) (k : Nat) (ps : List PySem.Str) (np : Nat) (g : FM) : Prop where
  ex : ∃ fd, FnOk P w K mg base (L2.CX P w) k f fd ps (spX G np g) ∧ Binds K fd ps []
  kp : PySem.W.keepIn K (.ref f) = true
theorem dx_of {P : Program} {w : World} {K : PySem.W.Frag} {mg : PySem.Str → Option Value} {base : Heap} {x qual : PySem.Str} {params : Arguments} {body : List Stmt} {scope : Scope} {dvs : List V} {kws : List (PySem.Str × V)} {f : Addr} {fd : FuncData} {N ps : List PySem.Str} {k n np : Nat} {G : GC} {b : SM}
    (F : FunD K x qual params body scope dvs kws f fd) (S : FnScope N ps scope) (hn : N.length = n) (hp : ps.length = np) (hbi : Binds K fd ps [])
    (hb : ∀ (cdv : Value) (A : Around) (outer : List Env) (s : Shared) (H : Hp) (E : XK), Room k (A.deeper (envOfC qual scope s.heap.objs.size f cdv)) → Takes (cxOf (L2.CX P w) P w K mg base N qual scope f cdv A outer s H E) (fun c d _ H' => E c d H') →
      PassesOwn (model P w) (A.deeper (envOfC qual scope s.heap.objs.size f cdv)) (envOfC qual scope s.heap.objs.size f cdv) (cxOf (L2.CX P w) P w K mg base N qual scope f cdv A outer s H E).xe →
      PSs (cxOf (L2.CX P w) P w K mg base N qual scope f cdv A outer s H E) body (tMS G (fun c d _ H' => E c d H') b)) :
    Dx P w K mg base G f (k + 1) ps np (fn n b) := ⟨⟨fd, fn_okX F S hn hp hb, hbi⟩, F.kp⟩
/-- f(e, ..), f a def that may raise -/
theorem x_callX {x : PySem.Str} {p pos : Pos} {f : Addr} {ps : List PySem.Str} {np k : Nat} {g : FM} {es : List Expr} (D : Dx X.prog X.w X.K X.mg X.base G f k ps np g) (tk : Takes X W) (hr : Room k X.A) (hm : X.mg x = some (.ref f)) (hl : ∀ σ h vs h', am σ h = .ok vs h' → vs.length = np) (ha : PA X (e :: es) (tMA G W am)) (hg : Gl X x := by rfl)
    (hdb : (x == ("__debug__" : PySem.Str)) = false := by decide) (he : starEach (e :: es) X.env = (false, eval e X.env) :: starEach es X.env := by rfl) (hpl : (backTo pos (starEach es X.env)).any (·.1) = false := by rfl) :
    PE X (.Call (.Name x p) (e :: es) [] pos) (tM G W (eA g am)) := by
  obtain ⟨fd, F, bi⟩ := D.ex
  refine (pe_callS (E := WE W) F hr hg hm D.kp bi (fun σ => passAt tk σ) ha hdb he hpl).wk fun σ H Q q => ?_
  obtain ⟨m, h, σm, S, R, p⟩ := q
  refine ⟨m, h, σm, S, R, ?_⟩
  have p2 : RP G W (RV G) m H σ ((am σm h).bind g) Q := p
  cases ea : am σm h with
  | bad => rw [ea] at p2; exact p2.elim
  | exc c v h' => rw [ea] at p2; exact p2
  | ok vs h' =>
    rw [ea] at p2
    intro m' H' xs x S' r
    refine ⟨?_, m', h', vs, S', r, (RP.later p2 x).atx⟩
    simp [r.length, hl _ _ _ _ ea]
/-! ### a op b by an own def that may raise -/
/-! ### a lock that an exception leaves -/
/-- the wish within: the dict is let go -/
def WL (X : Cx) (W : XW) : XW := fun c d σ H => W c d σ H ∨ ∃ a u od, H a = some (.frz od u) ∧ (∀ o' u', X.H_0 a ≠ some (.frz o' u')) ∧ W c d σ (upd H a u)
theorem ps_lockX {t u : TS} (h : PS X st t) (h2 : ∀ D σ H, u D σ H → t D σ H ∨ ∃ d w, H d = some w ∧ Mut (some w) ∧ ((∀ o' u', X.H_0 d ≠ some (.frz o' u')) → ∀ od, t ⟨fun σ' H' => H' d = some (.frz od w) ∧ D.nx σ' (upd H' d w), fun v H' => H' d = some (.frz od w) ∧ D.rt v (upd H' d w), fun σ' H' => H' d = some (.frz od w) ∧ D.bk σ' (upd H' d w), fun σ' H' => H' d = some (.frz od w) ∧ D.ct σ' (upd H' d w)⟩ σ (upd H d (.frz od w)))) : PS X st u := ⟨fun pins s σ H D I q => by
  rcases h2 D σ H q with q | ⟨d, w, hd, mu, hw⟩
  · exact h.run pins s σ H D I q
  · obtain ⟨od, I1⟩ := I.lock hd mu
    refine thn (h.run pins s σ _ _ I1 (hw (I.nofrz hd mu) od)) fun f s1 q => ?_
    cases f with
    | next => obtain ⟨σ', H', I2, e, q⟩ := q; exact ⟨σ', _, I2.unlock e (I.nofrz hd mu), q⟩
    | brk => obtain ⟨σ', H', I2, e, q⟩ := q; exact ⟨σ', _, I2.unlock e (I.nofrz hd mu), q⟩
    | cont => obtain ⟨σ', H', I2, e, q⟩ := q; exact ⟨σ', _, I2.unlock e (I.nofrz hd mu), q⟩
    | ret v => obtain ⟨x, σ', H', I2, r, e, q⟩ := q; exact ⟨x, σ', _, I2.unlock e (I.nofrz hd mu), r, q⟩⟩
theorem OP.wl {D : Ends} {m : List Addr} {H : Hp} {o : Out} (p : OP G W D m H o) : OP G (WL X W) D m H o := by
  cases o with
  | exc c v σ h => exact fun m' H' s d e S R q => .inl (p m' H' s d e S R q)
  | nx _ _ => exact p
  | rt _ _ => exact p
  | bk _ _ => exact p
  | ct _ _ => exact p
  | bad => exact p
theorem s_lockX {fp : EM} (hp : LkOk G fp) (h : PS X st (tMS G (WL X W) sa)) : PS X st (tMS G W (jLockX fp sa)) := ps_lockX h fun D σ H ⟨m, h, σm, S, R, p⟩ => by
  unfold jLockX at p
  cases ep : fp σm h with
  | exc c v h' => rw [ep] at p; exact False.elim p
  | bad => rw [ep] at p; exact False.elim p
  | ok v h' =>
    rw [ep] at p
    dsimp only at p
    cases v with
    | ref n =>
      dsimp only at p
      cases eg : h.get n with
      | none => rw [eg] at p; exact False.elim p
      | some o =>
        rw [eg] at p
        cases o with
        | dct tk lk kvs =>
          dsimp only at p
          cases lk with
          | true => exact .inl ⟨m, h, σm, S, R, p.wl⟩
          | false =>
            right
            obtain ⟨a, ea, w, dr, eh⟩ := S.at_ n _ eg
            have eh' : H a = some w := eh
            obtain ⟨_, _, mu⟩ := S.lock ea dr eh' default
            refine ⟨a, w, eh', mu, fun h0 od => ?_⟩
            obtain ⟨S1, x1, _⟩ := S.lock ea dr eh' od
            refine ⟨m, _, σm, S1, R.mono x1.toLe, ?_⟩
            have hm : a ∈ m := List.mem_of_getElem? ea
            have frz0 : upd H a (.frz od w) a = some (.frz od w) := upd_same
            cases eo : sa σm (h.set n (.dct tk true kvs)) with
            | nx σ1 h1 =>
              dsimp only at p
              rw [eo] at p
              unfold unlockOX at p
              dsimp only at p
              cases eu : unlockH n h1 with
              | none => rw [eu] at p; exact False.elim p
              | some h2 =>
                rw [eu] at p
                intro m' H' s x S' R'
                have ef := x.frd a od w frz0
                obtain ⟨S2, le⟩ := S'.unlock (x.toLe.ix ea) ef eu
                exact ⟨ef, p m' _ s (ex_unlock hm mu eh' x le x1.toLe) S2 (R'.mono le)⟩
            | rt v1 h1 =>
              dsimp only at p
              rw [eo] at p
              unfold unlockOX at p
              dsimp only at p
              cases eu : unlockH n h1 with
              | none => rw [eu] at p; exact False.elim p
              | some h2 =>
                rw [eu] at p
                intro m' H' s x S' R'
                have ef := x.frd a od w frz0
                obtain ⟨S2, le⟩ := S'.unlock (x.toLe.ix ea) ef eu
                exact ⟨ef, p m' _ s (ex_unlock hm mu eh' x le x1.toLe) S2 (R'.mono le)⟩
            | bk σ1 h1 =>
              dsimp only at p
              rw [eo] at p
              unfold unlockOX at p
              dsimp only at p
              cases eu : unlockH n h1 with
              | none => rw [eu] at p; exact False.elim p
              | some h2 =>
                rw [eu] at p
                intro m' H' s x S' R'
                have ef := x.frd a od w frz0
                obtain ⟨S2, le⟩ := S'.unlock (x.toLe.ix ea) ef eu
                exact ⟨ef, p m' _ s (ex_unlock hm mu eh' x le x1.toLe) S2 (R'.mono le)⟩
            | ct σ1 h1 =>
              dsimp only at p
              rw [eo] at p
              unfold unlockOX at p
              dsimp only at p
              cases eu : unlockH n h1 with
              | none => rw [eu] at p; exact False.elim p
              | some h2 =>
                rw [eu] at p
                intro m' H' s x S' R'
                have ef := x.frd a od w frz0
                obtain ⟨S2, le⟩ := S'.unlock (x.toLe.ix ea) ef eu
                exact ⟨ef, p m' _ s (ex_unlock hm mu eh' x le x1.toLe) S2 (R'.mono le)⟩
            | exc c v σ1 h1 =>
              dsimp only at p
              rw [eo] at p
              unfold unlockOX at p
              dsimp only at p
              cases eu : unlockH n h1 with
              | none => rw [eu] at p; exact False.elim p
              | some h2 =>
                rw [eu] at p
                intro m' H' s d x S' R' q
                have ef := x.frd a od w frz0
                obtain ⟨S2, le⟩ := S'.unlock (x.toLe.ix ea) ef eu
                refine .inr ⟨a, w, od, ef, h0, p m' _ s d (ex_unlock hm mu eh' x le x1.toLe) S2 (R'.mono le) ?_⟩
                cases v with
                | none => exact q
                | some v =>
                  obtain ⟨b, y, e1, e2, r⟩ := q
                  have ne : b ≠ a := fun z => by rw [z, ef] at e2; cases e2
                  exact ⟨b, y, e1, by rw [upd_ne ne]; exact e2, r.mono le⟩
            | bad => dsimp only at p; rw [eo] at p; exact False.elim p
        | _ => exact False.elim p
    | _ => exact False.elim p
/-! ### raise -/
/-- raise C('..') -/
theorem s_raise {c : Nat} {C : Addr} {x m : PySem.Str} {j : Nat} {p p2 pos pos' : Pos} (tk : Takes X W) (hC : G.xc c = .ref C) (q : PySem.W.excIn G.K C [.type "Exception", .type "BaseException", .type "object"] "ValueError.__new__" = true ∨ True) (mk : PMk X (.Call (.Name x p) [.Constant (.str m) j p2] [] pos) (fun _ H Q => Q (.ref C) none H)) (hc : X.calm = true := by rfl) :
    PS X (.Raise (some (.Call (.Name x p) [.Constant (.str m) j p2] [] pos)) none pos') (tMS G W (jRaise c)) := (ps_raise hc tk mk).wk fun D σ H ⟨m, h, σm, S, R, p⟩ => by
  rw [← hC]
  exact p m H σ none .refl S R rfl
/-! ### try -/
theorem takes0' : Takes X W0 := fun u s' ⟨_, _, _, _, _, _, _, _, _, _, _, _, _, _, _, _, w⟩ => w.elim
/-- try: body except C as n: return n.f -/
theorem s_tryF {c i : Nat} {C : Addr} {x n f : PySem.Str} {body : List Stmt} {np pos pos' rp ap vp : Pos} (hC : G.xc c = .ref C) (hf : f = G.xf c) (hN : X.N.Nodup) (hi : X.N[i]? = some n) (hln : X.env.kindOf n = some .local) (hc : Names X x (.ref C)) (hm : PySem.W.exmOne X.K (.ref C) (.ref C) = some true) (T : XfC X.K C) (hno : PySem.W.findIn X.K (.ref C) f = some none)
    (hb : ∀ (W : XW) (pn : List (Addr × Obj)) (xe : Value → Shared → Prop), Takes (X.tr pn xe) W → PassesOwn (model X.prog X.w) X.A X.env xe → PSs (X.tr pn xe) body (tMS G W sa))
    (hs : X.stack = X.env :: X.outer := by rfl) (hfr : X.env.frame = some X.env.locals := by rfl)
    (hdb : (n == ("__debug__" : PySem.Str)) = false := by decide) (hcd : (n == ("__classdict__" : PySem.Str)) = false := by decide)
    (hat : attributeBase (.Name n vp) f X.env (eval (.Name n vp) X.env) = eval (.Name n vp) X.env := by rfl) :
    PS X (.Try body [.ExceptHandler (some (.Name x np)) (some n) [.Return (some (.Attribute (.Name n vp) f ap)) rp] pos'] [] [] pos) (tMS G W0 (jTryF c i sa)) := by
  subst hf
  refine (ps_try_as (ts := fun a cls d => L2.tRet (tXf a cls d C (G.xf c) (L2.tVar i))) (Wout := W0) hs hfr hN hi hln hc takes0' (fun W pn xe tk ps => hb W pn xe tk ps) (fun a oe cls d pn hz hv => pss_one (ps_ret (pe_xf T hno hz hv (pv i hi (.inl hln) hdb hcd) hat)))).wk fun D σ H ⟨m, h, σm, S, R, p⟩ => ?_
  refine ⟨m, h, σm, S, R, ?_⟩
  unfold jTryF at p
  cases eo : sa σm h with
  | nx _ _ => rw [eo] at p; exact p
  | rt _ _ => rw [eo] at p; exact p
  | bk _ _ => rw [eo] at p; exact p
  | ct _ _ => rw [eo] at p; exact p
  | bad => rw [eo] at p; exact p.elim
  | exc d v σ1 h1 =>
    rw [eo] at p
    cases v with
    | none => exact p.elim
    | some v =>
      dsimp only at p
      cases eq : (Nat.beq d c && Nat.blt i σ1.length) with
      | false => rw [eq] at p; exact p.elim
      | true =>
        rw [eq] at p
        obtain ⟨q1, q2⟩ := Bool.and_eq_true_iff.mp eq
        have ed : d = c := Nat.eq_of_beq_eq_true q1
        subst ed
        have hlt : i < σ1.length := Nat.le_of_ble_eq_true q2
        intro m' H' s dd x S' R' q
        obtain ⟨b, y, e1, e2, r⟩ := q
        refine ⟨true, by rw [hC]; exact hm, fun _ a na => ?_, fun z => by cases z⟩
        refine ⟨.ref a, List.getElem?_set_self (by rw [← R'.len]; exact hlt), rfl, hC, b, _, y, e1, e2, by simp [List.lookup], p m' H' y x S' r⟩
end
end KA
set_option autoImplicit false
set_option maxHeartbeats 200000
set_option maxRecDepth 512
set_option Elab.async false
set_option autoImplicit false
set_option linter.all false
set_option maxRecDepth 100000
set_option maxHeartbeats 400000
/-! KHead4: what is known of the program's exception classes, by Bools. -/
namespace KA
open PySem PySem.Spec PyProof.Rows L2
/-- a class without own __init__ -/
structure PlC (K : PySem.W.Frag) (C : Addr) : Prop where
  xP : PySem.W.excIn K C [.type "ValueError", .type "Exception", .type "BaseException", .type "object"] "ValueError.__new__" = true
  kP : PySem.W.keepIn K (.ref C) = true
  bP : PySem.W.subIn K (.ref C) (.type "BaseException") = some true
  tP : PySem.W.typeIn K (.ref C) = some (.type "type")
def plcB (K : PySem.W.Frag) (C : Addr) : Bool := PySem.W.excIn K C [.type "ValueError", .type "Exception", .type "BaseException", .type "object"] "ValueError.__new__" && (PySem.W.keepIn K (.ref C) && (decide (PySem.W.subIn K (.ref C) (.type "BaseException") = some true) && decide (PySem.W.typeIn K (.ref C) = some (.type "type"))))
theorem plcB_ok {K : PySem.W.Frag} {C : Addr} (h : plcB K C = true) : PlC K C := by
  obtain ⟨h1, h⟩ := He.ba h
  obtain ⟨h2, h⟩ := He.ba h
  obtain ⟨h3, h4⟩ := He.ba h
  exact ⟨h1, h2, of_decide_eq_true h3, of_decide_eq_true h4⟩
/-- raise C('..') -/
theorem s_raiseC {X : Cx} {G : GC} {W : XW} {c : Nat} {C : Addr} {x m : PySem.Str} {j : Nat} {p p2 pos pos' : Pos} (tk : Takes X W) (hC : G.xc c = .ref C) (T : PlC X.K C) (gC : X.mg x = some (.ref C)) (hg : Gl X x := by rfl) (hdb : (x == ("__debug__" : PySem.Str)) = false := by decide) (hc : X.calm = true := by rfl) :
    PS X (.Raise (some (.Call (.Name x p) [.Constant (.str m) j p2] [] pos)) none pos') (tMS G W (jRaise c)) := s_raise tk hC (.inr trivial) (pmk_own PySem.F.excBase_ValueError T.xP gC T.kP (raises_own T.bP T.tP) hg hdb) hc
/-- a class with a maker that stores one field -/
structure PayC (K : PySem.W.Frag) (C f : Addr) (fld : PySem.Str) : Prop where
  T : OexC K C
  D : ∃ cd, PySem.W.clsIn K C = some cd
  sub : PySem.W.mroIn K C (.ref C) = some true
  B : PySem.W.subIn K (.ref C) (.type "ValueError") = some true
  any : PySem.W.nsIn K PySem.cStatics "thirdparty.any" = some none
  m : PySem.W.ks_superIn K C C "__init__" = some (some (.builtin "ValueError.__init__"))
  no : PySem.W.findIn K (.ref C) fld = some none
  i : PySem.W.findIn K (.ref C) "__init__" = some (some (.ref f))
  t : PySem.W.typeIn K (.ref f) = some (.type "function")
  X : XfC K C
  ex : PySem.W.exmOne K (.ref C) (.ref C) = some true
def oexB (K : PySem.W.Frag) (C : Addr) : Bool := (match K.lookup C with
  | some ⟨.type t, _, .cls cd, sl⟩ => decide (t = "type") && (match cd.mro, sl.toList with
    | .ref C' :: bm, [_, _, _, _, some (.builtin n), _] => decide (C' = C) && (decide (n = "ValueError.__new__") && (!cd.hasDel && (cd.hasDict && PySem.HandSPX.refsVE bm)))
    | _, _ => false)
  | _ => false) && (He.eqO (PySem.W.findIn K (.ref C) "__setattr__") (some (some (.builtin "object.__setattr__"))) && (decide (PySem.W.subIn K (.ref C) (.type "BaseException") = some true) && (decide (PySem.W.typeIn K (.ref C) = some (.type "type")) && PySem.W.keepIn K (.ref C))))
theorem oexB_ok {K : PySem.W.Frag} {C : Addr} (h : oexB K C = true) : OexC K C := by
  obtain ⟨h1, h⟩ := He.ba h
  obtain ⟨h2, h⟩ := He.ba h
  obtain ⟨h3, h⟩ := He.ba h
  obtain ⟨h4, h5⟩ := He.ba h
  refine ⟨?_, He.eqO_ok h2, of_decide_eq_true h3, of_decide_eq_true h4, h5⟩
  split at h1
  · rename_i t dd cd sl ho
    obtain ⟨ht, h1⟩ := He.ba h1
    have ht := of_decide_eq_true ht
    subst ht
    split at h1
    · rename_i C' bm k0 k1 k2 k3 n k5 hm hs
      obtain ⟨_, h1⟩ := He.ba h1
      obtain ⟨q1, h1⟩ := He.ba h1
      obtain ⟨q2, h1⟩ := He.ba h1
      obtain ⟨q3, h1⟩ := He.ba h1
      obtain ⟨q4, q5⟩ := He.ba h1
      have q1 := of_decide_eq_true q1
      have q2 := of_decide_eq_true q2
      subst q1 q2
      obtain ⟨nm, bs, mro, ns, qn, hd, sn, sub, ab, col, del⟩ := cd
      dsimp only at hm q3 q4
      subst hm q4
      have q3 : del = false := by simpa using q3
      subst q3
      have hsl : sl = #[k0, k1, k2, k3, some (.builtin "ValueError.__new__"), k5] := by
        obtain ⟨l⟩ := sl
        simp only at hs
        rw [hs]
      subst hsl
      exact ⟨nm, qn, ns, bs, bm, sn, sub, ab, col, dd, k0, k1, k2, k3, k5, ho, q5⟩
    · cases h1
  · cases h1
def payB (K : PySem.W.Frag) (C f : Addr) (fld : PySem.Str) : Bool := oexB K C && ((PySem.W.clsIn K C).isSome && (decide (PySem.W.mroIn K C (.ref C) = some true) && (decide (PySem.W.subIn K (.ref C) (.type "ValueError") = some true) && (He.eqO (PySem.W.nsIn K PySem.cStatics "thirdparty.any") (some none) && (He.eqO (PySem.W.ks_superIn K C C "__init__") (some (some (.builtin "ValueError.__init__"))) && (He.eqO (PySem.W.findIn K (.ref C) fld) (some none) && (He.eqO (PySem.W.findIn K (.ref C) "__init__") (some (some (.ref f))) && (decide (PySem.W.typeIn K (.ref f) = some (.type "function")) && (xfB K C && decide (PySem.W.exmOne K (.ref C) (.ref C) = some true))))))))))
theorem payB_ok {K : PySem.W.Frag} {C f : Addr} {fld : PySem.Str} (h : payB K C f fld = true) : PayC K C f fld := by
  obtain ⟨h1, h⟩ := He.ba h
  obtain ⟨h2, h⟩ := He.ba h
  obtain ⟨h3, h⟩ := He.ba h
  obtain ⟨h4, h⟩ := He.ba h
  obtain ⟨h5, h⟩ := He.ba h
  obtain ⟨h6, h⟩ := He.ba h
  obtain ⟨h7, h⟩ := He.ba h
  obtain ⟨h8, h⟩ := He.ba h
  obtain ⟨h9, h⟩ := He.ba h
  obtain ⟨h10, h11⟩ := He.ba h
  exact ⟨oexB_ok h1, Option.isSome_iff_exists.mp h2, of_decide_eq_true h3, of_decide_eq_true h4, He.eqO_ok h5, He.eqO_ok h6, He.eqO_ok h7, He.eqO_ok h8, of_decide_eq_true h9, xfB_ok h10, of_decide_eq_true h11⟩
/-- what is known, the program's file too -/
structure EnvPX (fa : List He.Fa) (fn gt : List He.DefD) (ex : PySem.W.Frag → Bool) (P : Program) (K : PySem.W.Frag) (mg : PySem.Str → Option Value) : Prop extends EnvP fa fn gt ex K mg where
  pf : ((P.main.file : PySem.Str) == fileS) = true
  pt : (P.main.scope.names.lookup ("super" : PySem.Str)).isSome = false
/-- its maker keeps the promise -/
theorem mk_sup {P : Program} {w : World} {K : PySem.W.Frag} {mg : PySem.Str → Option Value} {base : Heap} {p0 p1 qual name fld : PySem.Str} {scope : Scope} {C f : Addr} {params : Arguments} {fd : FuncData} {k : Nat}
    {arg : Expr} {q0 q1 q2 q3 q4 r0 r1 r2 r3 : Pos} {ar : Arg} {R : V → Prop} {ta : TE}
    (F : FunS K name qual params [.Expr (.Call (.Attribute (.Call (.Name "super" q0) [] [] q1) "__init__" q2) [arg] [] q3) q4, .Assign [.Attribute (.Name p0 r0) fld r1] (.Name p1 r2) r3] scope C f fd) (PC : PayC K C f fld) (S : SupScope p0 p1 scope) (hp : (params.posonlyargs ++ params.args).head? = some ar) (har : ar.arg = p0)
    (hfile : ((P.main.file : PySem.Str) == fileS) = true) (htop : (P.main.scope.names.lookup ("super" : PySem.Str)).isSome = false) (hsuper : mg ("super" : PySem.Str) = none)
    (hbind : ∀ (kV doc pm : Value) (an : Option Addr) (cdv ct : Value) (cc : Addr) (us : List Value), us.length = 2 → bindArgs (PySem.W.ksFn name qual params [.Expr (.Call (.Attribute (.Call (.Name "super" q0) [] [] q1) "__init__" q2) [arg] [] q3) q4, .Assign [.Attribute (.Name p0 r0) fld r1] (.Name p1 r2) r3] scope .none kV doc pm an cdv ct cc) ⟨us, []⟩ = pure ([p0, p1].zip us))
    (ha : ∀ (fa : Addr) (cdv : Value) (cc : Addr) (A : Around) (outer : List Env) (s : Shared) (H : Hp) (E : XK), PE (cxS CX0 P w K mg base [p0, p1] qual scope fa cdv cc A outer s H E) arg ta)
    (hta : ∀ (a : Addr) (y : V) (H : Hp) (Q : VK), R y → (∀ z, Q z H) → ta [some (.ref a), some y] H Q)
    (hcall : ∀ (fa : Addr) (cdv : Value) (cc : Addr) L, ∃ pl : Sem Bool, eval (.Call (.Attribute (.Call (.Name "super" q0) [] [] q1) "__init__" q2) [arg] [] q3) (PySem.W.ksEnv qual scope L fa cdv cc) = (do
      let ov ← attributeBase (.Call (.Name "super" q0) [] [] q1) "__init__" (PySem.W.ksEnv qual scope L fa cdv cc) (eval (.Call (.Name "super" q0) [] [] q1) (PySem.W.ksEnv qual scope L fa cdv cc))
      standAt q2.atName
      let (g, first) ← holding [ov] (getMethod ov "__init__" pl)
      callWith q3 g first (backTo q3 (starEach [arg] (PySem.W.ksEnv qual scope L fa cdv cc))) []) := by intro _ _ _ L; exact ⟨_, rfl⟩)
    (he : ∀ (fa : Addr) (cdv : Value) (cc : Addr) L, starEach [arg] (PySem.W.ksEnv qual scope L fa cdv cc) = (false, eval arg (PySem.W.ksEnv qual scope L fa cdv cc)) :: starEach [] (PySem.W.ksEnv qual scope L fa cdv cc) := by intro _ _ _ L; rfl)
    (hs1 : ∀ (fa : Addr) (cdv : Value) (cc : Addr) L, swapsWith (.Call (.Attribute (.Call (.Name "super" q0) [] [] q1) "__init__" q2) [arg] [] q3) none q4.line (PySem.W.ksEnv qual scope L fa cdv cc) = pure false := by intro _ _ _ L; rfl)
    (hint : ∀ (fa : Addr) (cdv : Value) (cc : Addr) L, interactive (PySem.W.ksEnv qual scope L fa cdv cc) = false := by intro _ _ _ L; rfl)
    (hs2 : ∀ (fa : Addr) (cdv : Value) (cc : Addr) L, swapsWith (.Name p1 r2) (some (.Attribute (.Name p0 r0) fld r1)) r3.line (PySem.W.ksEnv qual scope L fa cdv cc) = pure false := by intro _ _ _ L; rfl)
    (hd0 : (p0 == ("__debug__" : PySem.Str)) = false := by decide) (hd1 : (p1 == ("__debug__" : PySem.Str)) = false := by decide) (hc0 : (p0 == ("__classdict__" : PySem.Str)) = false := by decide) (hc1 : (p1 == ("__classdict__" : PySem.Str)) = false := by decide) :
    FnOk P w K mg base CX0 (k + 1) f fd [p0, p1] (spSup K C fld R) ∧ Binds K fd [p0, p1] [] := by
  obtain ⟨oc, od, kV, doc, pm, an, cda, cc, ct, osl, cl, ccl, cld, cdd, csl, ccs, cvs, tf, rfl, lk, hcd, hcell, hcode, hvs⟩ := F.ex
  obtain ⟨cd, hD⟩ := PC.D
  exact ⟨fn_sup S PC.T lk hcd hp har hcell hcode hvs hfile hD PC.sub PC.B hsuper htop PC.any PC.m PC.no (fun A outer s H E => ha f (.ref cda) cc A outer s H E) hta hd0 hd1 hc0 hc1 (hint f (.ref cda) cc) (hs1 f (.ref cda) cc) (hs2 f (.ref cda) cc) (hcall f (.ref cda) cc) (he f (.ref cda) cc), .all (hbind kV doc pm an (.ref cda) ct cc)⟩
end KA
set_option autoImplicit false
set_option maxHeartbeats 200000
set_option maxRecDepth 512
set_option Elab.async false
set_option autoImplicit false
set_option linter.all false
set_option maxRecDepth 100000
set_option maxHeartbeats 1000000
/-! KDc4: {k: v for p in w if t}, k a tuple; also stored to a local name. -/
set_option autoImplicit false
set_option maxHeartbeats 200000
set_option maxRecDepth 512
set_option Elab.async false
set_option autoImplicit false
set_option linter.all false
set_option maxRecDepth 100000
set_option maxHeartbeats 1000000
/-! KItT: dicts with tuple keys, walked by keys and by items. -/
set_option autoImplicit false
set_option maxHeartbeats 200000
set_option maxRecDepth 512
set_option Elab.async false
set_option autoImplicit false
set_option linter.all false
set_option maxRecDepth 100000
set_option maxHeartbeats 1000000
/-! KSort: sorted(xs, key=lambda one: (an int, a tuple of ints)), the lambda with captured names. -/
set_option autoImplicit false
set_option maxHeartbeats 200000
set_option maxRecDepth 512
set_option Elab.async false
set_option autoImplicit false
set_option linter.all false
set_option maxRecDepth 100000
set_option maxHeartbeats 1000000
/-! KSort2: sorted(e, key=lambda x: ..), read off the mini semantics. -/
set_option autoImplicit false
set_option maxHeartbeats 200000
set_option maxRecDepth 512
/-! KMini9: sorted(xs) of ints or of tuples of ints; one reading or the other. -/
set_option linter.all false
set_option autoImplicit false
set_option autoImplicit false
set_option maxHeartbeats 200000
set_option maxRecDepth 512
set_option Elab.async false
set_option autoImplicit false
set_option linter.all false
set_option maxRecDepth 100000
set_option maxHeartbeats 1000000
/-! KSort3: sorted(xs), xs ints or tuples of ints; one reading or the other. -/
set_option autoImplicit false
set_option maxHeartbeats 200000
set_option maxRecDepth 512
set_option Elab.async false
set_option autoImplicit false
set_option linter.all false
set_option maxRecDepth 100000
set_option maxHeartbeats 1000000
/-! KDis: {k: v, ..}, keys ints and texts. -/
set_option autoImplicit false
set_option maxHeartbeats 200000
set_option maxRecDepth 512
set_option Elab.async false
set_option autoImplicit false
set_option linter.all false
set_option maxRecDepth 100000
set_option maxHeartbeats 1000000
/-! KEqT: != of dicts with tuples as their keys, their values data. -/
namespace KA
open PySem PySem.W PySem.Calls PySem.Spec PyProof.Rows PyProof.V L2
section
variable {prog : Program} {w : World} {K : Type} [DecidableEq K] {knd : HeapKind prog w K} {A : Around} {E : Value → Shared → Prop} {s : Shared}
/-- entry by entry: is it there, are the values equal -/
inductive HitsT (prog : Program) (w : World) (A : Around) (s : Shared) (kb : List (K × Addr × Value)) : List (K × Addr × Value) → Bool → Prop
  | nil : HitsT prog w A s kb [] true
  | miss {k : K} {a : Addr} {v : Value} {r : List (K × Addr × Value)} : (∀ (j : Nat) (p : Addr × Value), kb[j]? ≠ some (k, p)) → HitsT prog w A s kb ((k, a, v) :: r) false
  | hit {k : K} {a : Addr} {v : Value} {r : List (K × Addr × Value)} {e b : Bool} : (∃ (j : Nat) (p : Addr), ∃ y, kb[j]? = some (k, p, y)) → (∀ (j : Nat) (p : Addr) (y : Value), kb[j]? = some (k, p, y) → SeqAt.EqP prog w A s v y e) → HitsT prog w A s kb r b → HitsT prog w A s kb ((k, a, v) :: r) (e && b)
theorem HitsT.inv {kb : List (K × Addr × Value)} {k : K} {a : Addr} {v : Value} {r : List (K × Addr × Value)} {b : Bool} (h : HitsT prog w A s kb ((k, a, v) :: r) b) :
    ((∀ (j : Nat) (p : Addr × Value), kb[j]? ≠ some (k, p)) ∧ b = false) ∨ ∃ e b', (∃ (j : Nat) (p : Addr), ∃ y, kb[j]? = some (k, p, y)) ∧ (∀ (j : Nat) (p : Addr) (y : Value), kb[j]? = some (k, p, y) → SeqAt.EqP prog w A s v y e) ∧ HitsT prog w A s kb r b' ∧ b = (e && b') := by
  cases h with
  | miss hn => exact .inl ⟨hn, rfl⟩
  | hit h1 h2 h3 => exact .inr ⟨_, _, h1, h2, h3, rfl⟩
end
/-! ### as a rule of the layer -/
section
variable {X : Cx} {G : GC} {pos : Pos} {k : Nat}
theorem nil_of {G : GC} {σ : L2.St} {H : Hp} {Q : List V → Hp → Prop} (q : tMA G W0 aNil σ H Q) : L2.tNil σ H Q := by
  obtain ⟨m, h, σm, S, R, p⟩ := q
  exact p m H [] .refl S .nil
/-- f() -/
theorem x_call0 {x : PySem.Str} {p : Pos} {f : Addr} {ps : List PySem.Str} {g : FM} (D : Dn X.prog X.w X.K X.mg X.base G f k ps 0 g) (hr : Room k X.A) (hm : X.mg x = some (.ref f)) (hg : Gl X x := by rfl) (hdb : (x == ("__debug__" : PySem.Str)) = false := by decide) :
    PE X (.Call (.Name x p) [] [] pos) (tM G W0 (eA g aNil)) := by
  obtain ⟨fd, F, bi⟩ := D.ex
  exact k_call (fun σ h vs h' e => by cases e; rfl) ((pe_call0 F hr hg hm D.kp bi .nil pass0 hdb).wk fun σ H Q q => nil_of q)
end
end KA
set_option autoImplicit false
set_option maxHeartbeats 200000
set_option maxRecDepth 512
set_option Elab.async false
set_option autoImplicit false
set_option linter.all false
set_option maxRecDepth 100000
set_option maxHeartbeats 1000000
/-! KDisT: {k: v, ..}, keys tuples. -/
set_option autoImplicit false
set_option maxHeartbeats 200000
set_option maxRecDepth 512
set_option Elab.async false
set_option autoImplicit false
set_option linter.all false
set_option maxRecDepth 100000
set_option maxHeartbeats 1000000
/-! KDT: list(d), list(d.items()), dict(pairs): keys tuples. -/
set_option autoImplicit false
set_option maxHeartbeats 200000
set_option maxRecDepth 512
set_option Elab.async false
set_option autoImplicit false
set_option linter.all false
set_option maxRecDepth 100000
set_option maxHeartbeats 1600000
/-! KLz: list(zip(a, b)). -/
set_option autoImplicit false
set_option maxHeartbeats 200000
set_option maxRecDepth 512
set_option Elab.async false
set_option autoImplicit false
set_option linter.all false
set_option maxRecDepth 100000
set_option maxHeartbeats 1600000
/-! KXM: new instances whose makers may raise. -/
namespace KA
open PySem PySem.Spec PyProof.Rows L2
section
variable {X : Cx} {G : GC} {W : XW} {e : Expr} {am ak : AM} {k n : Nat} {f C : Addr} {fd : FuncData} {ps ks : List PySem.Str} {sp : Sp} {x : PySem.Str} {p pos : Pos} {es : List Expr} {kws : List Keyword} {ta tz : TA}
/-- the maker, run on a fresh instance; what it raises is wanted -/
theorem run_mkX {args : Args} {pins : List (Addr × Obj)} {σ : L2.St} {H : Hp} {s : Shared} {Q : VK} {all : List Value} {alv : List V} (M : Mk X.K C f) (F : FnOk X.prog X.w X.K X.mg X.base (L2.CX X.prog X.w) k f fd ps sp) (hr : Room (k + 1) X.A) (tk : Takes X W) (I : Inv X pins σ H s)
    (hbi : ∀ s1 : Shared, X.K.In s1.heap → BindsTo s1 fd ⟨.ref (s.heap.objs.size + 1) :: args.pos, args.kw⟩ (ps.zip all)) (r2 : Vals alv all)
    (hq : sp alv (upd (upd H s.heap.objs.size (.own (s.heap.objs.size + 1))) (s.heap.objs.size + 1) (.ins C s.heap.objs.size [])) (fun v H2 => v = .non ∧ Q (.ref (s.heap.objs.size + 1)) H2) (WE W σ)) :
    wpAny (model X.prog X.w) X.A (call (.ref C) args.pos args.kw) (EP X pins σ Q) X.xe s := by
  have J := Inv.made (C := C) I
  have body := F.run _ X.stack _ _ ⟨.ref (s.heap.objs.size + 1) :: args.pos, args.kw⟩ all _ _ (WE W σ) (hr.make C args.pos args.kw) (J.env0.make C args.pos args.kw) (hbi _ J.kIn) r2 hq
  refine wpAny_call (make_map (f := f) I.kIn M.makes M.init (beq_iff_eq.mp M.fn) (codeAny_mono body fun o t ho => ?_))
  cases o with
  | error er => exact passAt tk σ pins _ _ er t J ho
  | ok fl =>
    cases fl with
    | ret u =>
      obtain ⟨v, H3, I3, rv, ev, q3⟩ := J.after ho
      subst ev
      exact ⟨rv, ⟨V.ref (s.heap.objs.size + 1), H3, I3, rfl, q3⟩⟩
    | _ => exact False.elim ho
/-- C(e, ..): values alone -/
def tMkX (C : Addr) (sp : Sp) (W : XW) (ta : TA) : TE := fun σ H Q => ta σ H fun vs H1 => ∀ x dx, H1 x = none → H1 dx = none → dx ≠ x →
  sp (.ref x :: vs) (upd (upd H1 dx (.own x)) x (.ins C dx [])) (fun v H2 => v = .non ∧ Q (.ref x) H2) (WE W σ)
/-- C(e, .., k = v, ..) -/
def tMkNX (C : Addr) (n mm : Nat) (sp : Sp) (gV : List V → List V → List V) (W : XW) (ta tz : TA) : TE := fun σ H Q => ta σ H fun vs H1 => tz σ H1 fun zs H2 => vs.length = n ∧ zs.length = mm ∧
  ∀ x dx, H2 x = none → H2 dx = none → dx ≠ x → sp (gV (.ref x :: vs) zs) (upd (upd H2 dx (.own x)) x (.ins C dx [])) (fun v H3 => v = .non ∧ Q (.ref x) H3) (WE W σ)
theorem pe_mkNX {g : List Value → List Value → List Value} {gV : List V → List V → List V} (M : Mk X.K C f) (F : FnOk X.prog X.w X.K X.mg X.base (L2.CX X.prog X.w) k f fd ps sp) (hr : Room (k + 1) X.A) (tk : Takes X W) (hb : KBn X.K fd ps (n + 1) ks g gV) (hm : X.mg x = some (.ref C))
    (ha : PA X (e :: es) ta) (hkw : PK X kws tz) (hg : Gl X x := by rfl) (hall : (backToKw pos (keywordEach kws X.env)).all (·.1.isSome) = true := by rfl) (hks : (backToKw pos (keywordEach kws X.env)).filterMap (·.1) = ks := by rfl)
    (hdb : (x == ("__debug__" : PySem.Str)) = false := by decide) (he : starEach (e :: es) X.env = (false, eval e X.env) :: starEach es X.env := by rfl)
    (hpl : ((backTo pos (starEach (e :: es) X.env)).any (·.1) || (backToKw pos (keywordEach kws X.env)).any (·.1.isNone)) = false := by rfl) :
    PE X (.Call (.Name x p) (e :: es) kws pos) (tMkNX C n ks.length sp gV W ta tz) := by
  constructor
  intro pins s σ H Q I h
  refine wpAny_Call_Name_kw (ld_glob I hg hm ?_ hdb)
  refine PySem.W.callWith_KW (h₀ := X.base) I.ok.mod.kin M.kp hall ?_ hpl he
  refine thn (ha.run pos pins s σ H _ I h) ?_
  rintro us s1 ⟨vs, H1, I1, r, q⟩
  refine thn (hkw.run pos pins s1 σ H1 _ I1 q) ?_
  rintro ws s2 ⟨zs, H2, I2, rz, l1, l2, q2⟩
  refine ⟨I2.kIn, ?_⟩
  rw [hks]
  have q1 := q2 (s2.heap.objs.size + 1) s2.heap.objs.size (I2.hok.fresh (Nat.le_succ _)) (I2.hok.fresh (Nat.le_refl _)) (Nat.ne_of_lt (Nat.lt_succ_self _))
  have r1 : Vals (V.ref (s2.heap.objs.size + 1) :: vs) (Value.ref (s2.heap.objs.size + 1) :: us) := .cons rfl r
  exact run_mkX (args := ⟨us, ks.zip ws⟩) (all := g (.ref (s2.heap.objs.size + 1) :: us) ws) M F hr tk I2 (fun s3 k3 => hb.to s3 (.ref (s2.heap.objs.size + 1) :: us) ws k3 (by rw [List.length_cons, ← r.length, l1]) (by rw [← rz.length, l2])) (hb.rel r1 rz) q1
/-- .. by the mini maker -/
theorem k_mkX {c np : Nat} {g : FM} (hl : ∀ σ h vs h', am σ h = .ok vs h' → vs.length + 1 = np) (h : PE X e (tMkX (G.cl c) (spX G np g) W (tMA G W am))) : PE X e (tM G W (eNew c g am)) := h.wk fun σ H Q q => by
  obtain ⟨m, h, σm, S, R, p⟩ := q
  refine ⟨m, h, σm, S, R, ?_⟩
  unfold eNew at p
  cases ea : am σm h with
  | bad => rw [ea] at p; exact False.elim p
  | exc c v h' => rw [ea] at p; exact p
  | ok vs h' =>
    rw [ea] at p
    intro m' H' xs x S' r y dx hy hdx ne
    have p2 := RP.later p x
    dsimp only [Res.bind] at p2
    have S1 := S'.fresh hdx (.own y)
    have hy1 : upd H' dx (.own y) y = none := by rw [upd_ne (Ne.symm ne)]; exact hy
    have x1 : Ex G m' H' m' (upd H' dx (.own y)) := .upd dx _ (plain_none hdx) (.inr hdx)
    have x2 := (Ex.upd (G := G) (m := m') y (.ins (G.cl c) dx []) (plain_none hy1) (.inr hy1)).app hy1
    have S2 : Sim G (m' ++ [y]) (h'.push (.ins c [])) _ := S1.push hy1 ⟨dx, [], rfl, .nil⟩
    have x12 := x1.trans x2
    have ry : RV G (m' ++ [y]) (upd (upd H' dx (.own y)) y (.ins (G.cl c) dx [])) (.ref h'.n) (.ref y) := by
      simp only [RV]
      exact ⟨y, by rw [← S'.len]; simp, rfl⟩
    refine ⟨by simp [r.length, hl _ _ _ _ ea], _, _, .ref h'.n :: vs, S2, .cons ry (r.mono x12.toLe), ?_⟩
    have p3 := RP.later p2 x12
    refine ((RP.bind (Rel := RV G) p3).imp fun z H3 ⟨m3, h3, w, x4, S3, r3, p4⟩ => ?_).atx
    cases w with
    | non =>
      simp only [RV] at r3
      exact ⟨r3, RP.now p4 S3 (ry.mono x4.toLe)⟩
    | _ => exact False.elim p4
theorem k_mkNX {c mm np : Nat} {g : FM} {kf : List MV → List MV → List MV} {gV : List V → List V → List V} (M : KwM G n mm np kf gV) (hl : ∀ σ h vs h', am σ h = .ok vs h' → vs.length = n) (hl2 : ∀ σ h vs h', ak σ h = .ok vs h' → vs.length = mm)
    (h : PE X e (tMkNX (G.cl c) n mm (spX G np g) gV W (tMA G W am) (tMA G W ak))) : PE X e (tM G W (eNewK c g kf am ak)) := h.wk fun σ H Q q => by
  obtain ⟨m, h, σm, S, R, p⟩ := q
  refine ⟨m, h, σm, S, R, ?_⟩
  unfold eNewK at p
  cases ea : am σm h with
  | bad => rw [ea] at p; exact False.elim p
  | exc c v h' => rw [ea] at p; exact p
  | ok vs h' =>
    rw [ea] at p
    intro m' H' xs x S' r
    refine ⟨m', h', σm, S', R.mono x.toLe, ?_⟩
    have p := RP.later p x
    dsimp only [Res.bind] at p
    cases eb : ak σm h' with
    | bad => rw [eb] at p; exact False.elim p
    | exc c v h' => rw [eb] at p; exact p
    | ok zs h2 =>
      rw [eb] at p
      dsimp only at p
      intro m2 H2 ys x' S2' r'
      have p2 := RP.later p x'
      refine ⟨by rw [r.length, hl _ _ _ _ ea], by rw [r'.length, hl2 _ _ _ _ eb], fun y dx hy hdx ne => ?_⟩
      have S1 := S2'.fresh hdx (.own y)
      have hy1 : upd H2 dx (.own y) y = none := by rw [upd_ne (Ne.symm ne)]; exact hy
      have x1 : Ex G m2 H2 m2 (upd H2 dx (.own y)) := .upd dx _ (plain_none hdx) (.inr hdx)
      have x2 := (Ex.upd (G := G) (m := m2) y (.ins (G.cl c) dx []) (plain_none hy1) (.inr hy1)).app hy1
      have S2 : Sim G (m2 ++ [y]) (h2.push (.ins c [])) _ := S1.push hy1 ⟨dx, [], rfl, .nil⟩
      have x12 := x1.trans x2
      have ry : RV G (m2 ++ [y]) (upd (upd H2 dx (.own y)) y (.ins (G.cl c) dx [])) (.ref h2.n) (.ref y) := by
        simp only [RV]
        exact ⟨y, by rw [← S2'.len]; simp, rfl⟩
      refine ⟨M.len _ _ (by simp [r.length, hl _ _ _ _ ea]) (by rw [r'.length, hl2 _ _ _ _ eb]), _, _, kf (.ref h2.n :: vs) zs, S2, M.rel (.cons ry ((r.mono x'.toLe).mono x12.toLe)) (r'.mono x12.toLe), ?_⟩
      have p3 := RP.later p2 x12
      refine ((RP.bind (Rel := RV G) p3).imp fun z H3 ⟨m3, h3, w, x4, S3, r3, p4⟩ => ?_).atx
      cases w with
      | non =>
        simp only [RV] at r3
        exact ⟨r3, RP.now p4 S3 (ry.mono x4.toLe)⟩
      | _ => exact False.elim p4
end
end KA
set_option autoImplicit false
set_option maxHeartbeats 200000
set_option maxRecDepth 512
set_option Elab.async false
set_option autoImplicit false
set_option linter.all false
set_option maxRecDepth 100000
set_option maxHeartbeats 1600000
/-! KXN: exceptions whose context is known to be None. -/
namespace KA
open PySem PySem.Spec PyProof.Rows L2
/-- C(e), stored by its own maker: the record's context is None -/
theorem pmk_oexN {X : Cx} {CX : CXT} {x : PySem.Str} {e : Expr} {ta : TA} {p pos : Pos} {C fI : Addr} {k : Nat} {fd : FuncData} {ps : List PySem.Str} {sp : Sp} (T : OexC X.K C) (iC : PySem.W.findIn X.K (.ref C) "__init__" = some (some (.ref fI))) (tI : PySem.W.typeIn X.K (.ref fI) = some (.type "function"))
    (F1 : FnOk X.prog X.w X.K X.mg X.base CX k fI fd ps sp) (hr : Room (k + 1) X.A) (hb : Binds X.K fd ps []) (hx : Passes CX X (fun _ _ _ => False)) (hg : Gl X x) (hm : X.mg x = some (.ref C)) (ha : PA X [e] ta)
    (hdb : (x == ("__debug__" : PySem.Str)) = false := by decide) (he : starEach [e] X.env = (false, eval e X.env) :: starEach [] X.env := by rfl) (hpl : (backTo pos (starEach [] X.env)).any (·.1) = false := by rfl) :
    L2N.PMk X (.Call (.Name x p) [e] [] pos) (tMkO C sp [] ta) := by
  intro pins s σ H Q I h
  obtain ⟨nm, q, N, bs, bm, sn, sub, ab, col, dd, k0, k1, k2, k3, k5, hC, hbm⟩ := T.cls
  refine wpAny_Call_Name_kw (ld_glob I hg hm ?_ hdb)
  refine PySem.W.callWith_K (h₀ := X.base) I.ok.mod.kin T.kC ?_ he hpl
  refine thn (ha.run pos pins s σ H _ I h) ?_
  rintro us ⟨hp, g, dr, tk, os⟩ ⟨vs, H1, I1, r1, hz, q1⟩
  refine ⟨I1.kIn, ?_⟩
  show wpAny _ _ (call (.ref C) us) _ _ _
  generalize hA : hp.objs.size + 1 = a
  have hsz : hp.objs.size ≤ a := by rw [← hA]; exact Nat.le_succ _
  have hn := I1.hok.fresh hsz
  have hq := q1 a hn
  rw [List.append_nil] at hq
  generalize hP : (hp.push (PySem.W.kdv_tup us)).push (PySem.HandSPX.excO C hp.objs.size) = hp2
  have kk : ∀ b o, hp.get? b = some o → hp2.get? b = some o := fun b o e => by rw [← hP]; exact Heap.get?_push_of_some _ (Heap.get?_push_of_some _ e)
  have hget : hp2.get? a = some (PySem.HandSPX.excO C hp.objs.size) := by rw [← hP, ← hA]; heap_get
  have I2 : Inv X pins σ (upd H1 a (exo a C none)) ⟨hp2, g, dr, tk, os⟩ := I1.laid (t' := tk) (a := a) (o := exo a C none) (h' := hp2) kk hsz (exo_ok hget)
  have ra : RelV (V.ref a) (Value.ref a) := rfl
  have r2 : Vals (V.ref a :: vs) (Value.ref a :: us) := .cons ra r1
  have hl : (Value.ref a :: us ++ []).length = ps.length := by
    rw [List.append_nil, ← F1.len _ _ _ _ hq]
    exact r2.length.symm
  have hus : us.length ≤ sizeLine := by
    rw [← Paired.length r1, sizeLine_eq]
    omega
  have b2 := hb _ (Value.ref a :: us) I2.kIn hl
  rw [List.append_nil] at b2
  have run := F1.run _ X.stack _ _ ⟨Value.ref a :: us, []⟩ (Value.ref a :: us) _ _ (fun _ _ _ => False) (hr.make C us []) (I2.env0.make C us []) b2 r2 hq
  rw [← hA, ← hP] at run
  refine wpAny_call (PySem.HandSPX.call_own F.excBase_ValueError (fun Y => PySem.HandSPX.refsVE_contains Y bm hbm) (I1.kIn _ _ hC) (PySem.W.looks_findIn I1.kIn iC) (fun self => PySem.W.bind_fn I1.kIn self tI) hus (codeAny_mono run fun o t ho => ?_))
  rw [hA, hP] at ho
  rw [hA]
  cases o with
  | error er => exact hx pins σ _ _ er t I2 ho
  | ok fl =>
    cases fl with
    | ret u =>
      obtain ⟨v, H2, os2, bare2, un2, hok2, rv, ev, d, fs, ea, ed, hd1, q2⟩ := ho
      subst ev
      obtain ⟨h2, g2, d2, t2, os'⟩ := t
      obtain ⟨t0, G, J, kG, ge, hoe, na⟩ := mk_end0 (d2 := d2) (t2 := t2) I1 hsz kk un2 hok2 os2 bare2 ea ed hd1
      refine ⟨rv, ⟨a, _, _, ⟨G, g2, d2, t2, os'⟩, _, .ref C, some d, rfl, J, kG, ge, hoe, ⟨rfl, rfl, fun vs hv => ?_⟩, rfl, rfl, na, rfl, bare2, raises_own T.exC T.tyC, q2⟩⟩
      cases hv
      rfl
    | _ => exact False.elim ho
section
variable {X : Cx} {G : GC} {W : XW} {e : Expr} {fa fb : EM} {am ak : AM} {st : Stmt} {sts : List Stmt} {sa sb : SM}
/-! ### defs that let such out -/
theorem fn_okXN {P : Program} {w : World} {K : PySem.W.Frag} {mg : PySem.Str → Option Value} {base : Heap} {x qual : PySem.Str} {params : Arguments} {body : List Stmt} {scope : Scope} {dvs : List V} {kws : List (PySem.Str × V)} {f : Addr} {fd : FuncData} {N ps : List PySem.Str} {k n np : Nat} {G : GC} {b : SM}
    (F : FunD K x qual params body scope dvs kws f fd) (S : FnScope N ps scope) (hn : N.length = n := by rfl) (hp : ps.length = np := by rfl)
    (hb : ∀ (cdv : Value) (A : Around) (outer : List Env) (s : Shared) (H : Hp) (E : XK), Room k (A.deeper (envOfC qual scope s.heap.objs.size f cdv)) → L2N.Takes (cxOf (L2N.CX P w) P w K mg base N qual scope f cdv A outer s H E) (fun c d _ H' => E c d H') →
      PassesOwn (model P w) (A.deeper (envOfC qual scope s.heap.objs.size f cdv)) (envOfC qual scope s.heap.objs.size f cdv) (cxOf (L2N.CX P w) P w K mg base N qual scope f cdv A outer s H E).xe →
      PSs (cxOf (L2N.CX P w) P w K mg base N qual scope f cdv A outer s H E) body (tMS G (fun c d _ H' => E c d H') b)) :
    FnOk P w K mg base (L2N.CX P w) (k + 1) f fd ps (spX G np (fn n b)) := by
  refine F.ok S (fun vs H Q E h => hp ▸ h.1) (fun cdv A outer s H vs Q E hr h => ⟨_, hb cdv A outer s H E hr (L2N.takes_of rfl rfl rfl rfl) (passes_of rfl), ?_⟩)
  obtain ⟨hl, m, h, ms, Sm, r, p⟩ := h
  refine ⟨m, h, ms.map some ++ List.replicate (n - ms.length) none, Sm, RS.start r N n hn, ?_⟩
  unfold fn at p
  cases e : b (ms.map some ++ List.replicate (n - ms.length) none) h with
  | nx σ1 h1 => rw [e] at p; exact fun m' H' s x S' _ => p m' H' .non x S' (by simp [RV])
  | rt v h1 => rw [e] at p; exact p
  | bk σ1 h1 => rw [e] at p; exact p.elim
  | ct σ1 h1 => rw [e] at p; exact p.elim
  | exc c v σ1 h1 => rw [e] at p; exact fun m' H' s d x S' R' q => p m' H' d x S' q
  | bad => rw [e] at p; exact p.elim
structure DxN (P : Program) (w : World) (K : PySem.W.Frag) (mg : PySem.Str → Option Value) (base : Heap) (G : GC) (f : Addr) (k : Nat) (ps : List PySem.Str) (np : Nat) (g : FM) : Prop where
  ex : ∃ fd, FnOk P w K mg base (L2N.CX P w) k f fd ps (spX G np g) ∧ Binds K fd ps []
  kp : PySem.W.keepIn K (.ref f) = true
theorem dx_ofN {P : Program} {w : World} {K : PySem.W.Frag} {mg : PySem.Str → Option Value} {base : Heap} {x qual : PySem.Str} {params : Arguments} {body : List Stmt} {scope : Scope} {dvs : List V} {kws : List (PySem.Str × V)} {f : Addr} {fd : FuncData} {N ps : List PySem.Str} {k n np : Nat} {G : GC} {b : SM}
    (F : FunD K x qual params body scope dvs kws f fd) (S : FnScope N ps scope) (hn : N.length = n) (hp : ps.length = np) (hbi : Binds K fd ps [])
    (hb : ∀ (cdv : Value) (A : Around) (outer : List Env) (s : Shared) (H : Hp) (E : XK), Room k (A.deeper (envOfC qual scope s.heap.objs.size f cdv)) → L2N.Takes (cxOf (L2N.CX P w) P w K mg base N qual scope f cdv A outer s H E) (fun c d _ H' => E c d H') →
      PassesOwn (model P w) (A.deeper (envOfC qual scope s.heap.objs.size f cdv)) (envOfC qual scope s.heap.objs.size f cdv) (cxOf (L2N.CX P w) P w K mg base N qual scope f cdv A outer s H E).xe →
      PSs (cxOf (L2N.CX P w) P w K mg base N qual scope f cdv A outer s H E) body (tMS G (fun c d _ H' => E c d H') b)) :
    DxN P w K mg base G f (k + 1) ps np (fn n b) := ⟨⟨fd, fn_okXN F S hn hp hb, hbi⟩, F.kp⟩
/-! ### raise, a lock -/
theorem s_raisePN {CX : CXT} {c k : Nat} {C fI : Addr} {x : PySem.Str} {p pos pos' : Pos} {fd : FuncData} {ps : List PySem.Str} (tk : L2N.Takes X W) (hC : G.xc c = .ref C) (T : OexC X.K C) (iC : PySem.W.findIn X.K (.ref C) "__init__" = some (some (.ref fI))) (tI : PySem.W.typeIn X.K (.ref fI) = some (.type "function"))
    (F1 : FnOk X.prog X.w X.K X.mg X.base CX k fI fd ps (spSup X.K C (G.xf c) fun _ => True)) (hr : Room (k + 1) X.A) (hb : Binds X.K fd ps []) (hx : Passes CX X (fun _ _ _ => False)) (hg : Gl X x) (hm : X.mg x = some (.ref C)) (ha : PE X e (tM G W fa)) (hc : X.calm = true := by rfl)
    (hdb : (x == ("__debug__" : PySem.Str)) = false := by decide) (he : starEach [e] X.env = (false, eval e X.env) :: starEach [] X.env := by rfl) (hpl : (backTo pos (starEach [] X.env)).any (·.1) = false := by rfl) :
    PS X (.Raise (some (.Call (.Name x p) [e] [] pos)) none pos') (tMS G W (jRaiseP c fa)) := (L2N.ps_raise hc tk (pmk_oexN T iC tI F1 hr hb hx hg hm (pa_cons ha pa_nil he) hdb he hpl)).wk fun D σ H q => by
  refine (tMS.out (Rel := RV G) (k := fun σ v h1 => .exc c (some v) σ h1) q).imp fun y H1 ⟨m1, h1, v, σm, S1, R1, r1, p1⟩ => ?_
  refine ⟨by simp, fun a ha => ?_⟩
  refine ⟨a, y, rfl, trivial, upd_same, fun d hd nd => ⟨rfl, d, [(G.xf c, y)], upd_same, by rw [upd_ne nd, upd_same], ?_, ?_⟩⟩
  · rw [upd_ne nd] at hd; exact hd
  · have hd1 : H1 d = none := by rw [upd_ne nd] at hd; exact hd
    have eq : upd (del (upd (upd (upd H1 a (exo a C none)) d (exd d [(G.xf c, y)])) a (exo a C (some d))) a) d (.xd [(G.xf c, y)]) = upd H1 d (.xd [(G.xf c, y)]) := by
      funext b
      by_cases h1 : b = d
      · rw [h1, upd_same, upd_same]
      · rw [upd_ne h1, upd_ne h1]
        by_cases h2 : b = a
        · rw [h2, del_same, ha]
        · rw [del_ne h2, upd_ne h2, upd_ne h1, upd_ne h2]
    rw [eq, ← hC]
    have x1 : Ex G m1 H1 m1 (upd H1 d (.xd [(G.xf c, y)])) := .upd d _ (plain_none hd1) (.inr hd1)
    exact p1 m1 _ σ (some d) x1 (S1.fresh hd1 _) (R1.mono x1.toLe) ⟨d, y, rfl, upd_same, r1.mono x1.toLe⟩
theorem takes_lockN (tk : L2N.Takes X W) : L2N.Takes X (WL X W) := fun u s' ⟨a, B, sI, pins, σ, H, cls, d, e, I, nb, up, sky, na, os, ag, w⟩ => by
  rcases w with w | ⟨b, o, od, eb, hn, w⟩
  · exact tk u s' ⟨a, B, sI, pins, σ, H, cls, d, e, I, nb, up, sky, na, os, ag, w⟩
  · have ne : a ≠ b := fun z => by rw [z, eb] at na; cases na
    exact tk u s' ⟨a, B, sI, pins, σ, upd H b o, cls, d, e, I.unlock eb hn, nb, up, sky, by rw [upd_ne ne]; exact na, os, ag, w⟩
/-! ### makers -/
theorem run_mkXN {k : Nat} {f C : Addr} {fd : FuncData} {ps : List PySem.Str} {sp : Sp} {args : Args} {pins : List (Addr × Obj)} {σ : L2.St} {H : Hp} {s : Shared} {Q : VK} {all : List Value} {alv : List V} (M : Mk X.K C f) (F : FnOk X.prog X.w X.K X.mg X.base (L2N.CX X.prog X.w) k f fd ps sp) (hr : Room (k + 1) X.A) (tk : L2N.Takes X W) (I : Inv X pins σ H s)
    (hbi : ∀ s1 : Shared, X.K.In s1.heap → BindsTo s1 fd ⟨.ref (s.heap.objs.size + 1) :: args.pos, args.kw⟩ (ps.zip all)) (r2 : Vals alv all)
    (hq : sp alv (upd (upd H s.heap.objs.size (.own (s.heap.objs.size + 1))) (s.heap.objs.size + 1) (.ins C s.heap.objs.size [])) (fun v H2 => v = .non ∧ Q (.ref (s.heap.objs.size + 1)) H2) (WE W σ)) :
    wpAny (model X.prog X.w) X.A (call (.ref C) args.pos args.kw) (EP X pins σ Q) X.xe s := by
  have J := Inv.made (C := C) I
  have body := F.run _ X.stack _ _ ⟨.ref (s.heap.objs.size + 1) :: args.pos, args.kw⟩ all _ _ (WE W σ) (hr.make C args.pos args.kw) (J.env0.make C args.pos args.kw) (hbi _ J.kIn) r2 hq
  refine wpAny_call (make_map (f := f) I.kIn M.makes M.init (beq_iff_eq.mp M.fn) (codeAny_mono body fun o t ho => ?_))
  cases o with
  | error er => exact L2N.passAt tk σ pins _ _ er t J ho
  | ok fl =>
    cases fl with
    | ret u =>
      obtain ⟨v, H3, I3, rv, ev, q3⟩ := J.after ho
      subst ev
      exact ⟨rv, ⟨V.ref (s.heap.objs.size + 1), H3, I3, rfl, q3⟩⟩
    | _ => exact False.elim ho
theorem pe_mkXN {k : Nat} {f C : Addr} {fd : FuncData} {ps : List PySem.Str} {sp : Sp} {x : PySem.Str} {p pos : Pos} {es : List Expr} {ta : TA} (M : Mk X.K C f) (F : FnOk X.prog X.w X.K X.mg X.base (L2N.CX X.prog X.w) k f fd ps sp) (hr : Room (k + 1) X.A) (tk : L2N.Takes X W) (hb : Binds X.K fd ps []) (hm : X.mg x = some (.ref C)) (ha : PA X (e :: es) ta) (hg : Gl X x := by rfl)
    (hdb : (x == ("__debug__" : PySem.Str)) = false := by decide) (he : starEach (e :: es) X.env = (false, eval e X.env) :: starEach es X.env := by rfl) (hpl : (backTo pos (starEach es X.env)).any (·.1) = false := by rfl) :
    PE X (.Call (.Name x p) (e :: es) [] pos) (tMkX C sp W ta) := by
  constructor
  intro pins s σ H Q I h
  refine wpAny_Call_Name_kw (ld_glob I hg hm ?_ hdb)
  refine PySem.W.callWith_K (h₀ := X.base) I.ok.mod.kin M.kp ?_ he hpl
  refine thn (ha.run pos pins s σ H _ I h) ?_
  rintro us s1 ⟨vs, H1, I1, r, q⟩
  refine ⟨I1.kIn, ?_⟩
  have q1 := q (s1.heap.objs.size + 1) s1.heap.objs.size (I1.hok.fresh (Nat.le_succ _)) (I1.hok.fresh (Nat.le_refl _)) (Nat.ne_of_lt (Nat.lt_succ_self _))
  refine run_mkXN (args := ⟨us, []⟩) (all := .ref (s1.heap.objs.size + 1) :: us) M F hr tk I1 (fun s2 k2 => ?_) (.cons (show RelV (V.ref (s1.heap.objs.size + 1)) (Value.ref (s1.heap.objs.size + 1)) from rfl) r) q1
  have l2 := F.len _ _ _ _ q1
  have := hb s2 (.ref (s1.heap.objs.size + 1) :: us) k2 (by rw [List.append_nil, ← l2, List.length_cons, List.length_cons, r.length])
  rwa [List.append_nil] at this
/-- C(e), a class whose maker may raise -/
theorem x_mkXN {c np k : Nat} {f : Addr} {ps : List PySem.Str} {g : FM} {x : PySem.Str} {p pos : Pos} {es : List Expr} (M : Mk G.K (G.cl c) f) (D : DxN X.prog X.w X.K X.mg X.base G f k ps np g) (tk : L2N.Takes X W) (hr : Room (k + 1) X.A) (hm : X.mg x = some (.ref (G.cl c))) (hl : ∀ σ h vs h', am σ h = .ok vs h' → vs.length + 1 = np) (ha : PA X (e :: es) (tMA G W am)) (hK : X.K = G.K := by rfl) (hg : Gl X x := by rfl)
    (hdb : (x == ("__debug__" : PySem.Str)) = false := by decide) (he : starEach (e :: es) X.env = (false, eval e X.env) :: starEach es X.env := by rfl) (hpl : (backTo pos (starEach es X.env)).any (·.1) = false := by rfl) :
    PE X (.Call (.Name x p) (e :: es) [] pos) (tM G W (eNew c g am)) := by
  obtain ⟨fd, F, bi⟩ := D.ex
  exact k_mkX hl (pe_mkXN (hK ▸ M) F hr tk bi hm ha hg hdb he hpl)
/-- what a maker with keywords promises -/
structure KbX (P : Program) (w : World) (K : PySem.W.Frag) (mg : PySem.Str → Option Value) (base : Heap) (G : GC) (f : Addr) (k : Nat) (ps : List PySem.Str) (np n : Nat) (ks : List PySem.Str) (g : FM) (kf : List MV → List MV → List MV) : Prop where
  ex : ∃ (fd : FuncData) (gg : List Value → List Value → List Value) (gV : List V → List V → List V), FnOk P w K mg base (L2.CX P w) k f fd ps (spX G np g) ∧ KBn K fd ps (n + 1) ks gg gV ∧ KwM G n ks.length np kf gV
theorem x_mkNX {c n np k : Nat} {f : Addr} {ps ks : List PySem.Str} {g : FM} {kf : List MV → List MV → List MV} {x : PySem.Str} {p pos : Pos} {es : List Expr} {kws : List Keyword} (M : Mk G.K (G.cl c) f) (D : KbX X.prog X.w X.K X.mg X.base G f k ps np n ks g kf) (tk : Takes X W) (hr : Room (k + 1) X.A) (hm : X.mg x = some (.ref (G.cl c)))
    (hl : ∀ σ h vs h', am σ h = .ok vs h' → vs.length = n) (hl2 : ∀ σ h vs h', ak σ h = .ok vs h' → vs.length = ks.length) (ha : PA X (e :: es) (tMA G W am)) (hkw : PK X kws (tMA G W ak)) (hK : X.K = G.K := by rfl) (hg : Gl X x := by rfl)
    (hall : (backToKw pos (keywordEach kws X.env)).all (·.1.isSome) = true := by rfl) (hks : (backToKw pos (keywordEach kws X.env)).filterMap (·.1) = ks := by rfl)
    (hdb : (x == ("__debug__" : PySem.Str)) = false := by decide) (he : starEach (e :: es) X.env = (false, eval e X.env) :: starEach es X.env := by rfl)
    (hpl : ((backTo pos (starEach (e :: es) X.env)).any (·.1) || (backToKw pos (keywordEach kws X.env)).any (·.1.isNone)) = false := by rfl) :
    PE X (.Call (.Name x p) (e :: es) kws pos) (tM G W (eNewK c g kf am ak)) := by
  obtain ⟨fd, gg, gV, F, hb, KM⟩ := D.ex
  exact k_mkNX KM hl hl2 (pe_mkNX (hK ▸ M) F hr tk hb hm ha hkw hg hall hks hdb he hpl)
end
end KA
set_option autoImplicit false
set_option maxHeartbeats 200000
set_option maxRecDepth 512
set_option Elab.async false
set_option autoImplicit false
set_option linter.all false
set_option maxRecDepth 100000
set_option maxHeartbeats 1600000
/-! KXT: try .. except C: .. else: .. -/
namespace KA
open PySem PySem.Spec PyProof.Rows L2
section
variable {X : Cx} {G : GC} {W : XW} {sa ss su : SM} {body suite orelse : List Stmt} {b₀ : Stmt} {np pos pos' : Pos} {x : PySem.Str} {C : Addr} {c : Nat}
/-- how the mini statement's ends lead on -/
theorem tryC_op {D D' : Ends} {W' : XW} {m : List Addr} {H : Hp} {σm : Sl} {h : MH} (p : OP G W D m H (jTryC c sa ss su σm h)) (h1 : ∀ σ H', tMS G W su D σ H' → D'.nx σ H') (h2 : ∀ v H', D.rt v H' → D'.rt v H') (h3 : ∀ σ H', D.bk σ H' → D'.bk σ H') (h4 : ∀ σ H', D.ct σ H' → D'.ct σ H')
    (h5 : ∀ d σ H', tMS G W ss D σ H' → W' (G.xc c) d σ H') : OP G W' D' m H (sa σm h) := by
  unfold jTryC at p
  cases eo : sa σm h with
  | nx σ1 h1' =>
    rw [eo] at p
    exact fun m' H' s e S R => h1 _ _ ⟨m', h1', σ1, S, R, OP.later p e⟩
  | rt v h1' => rw [eo] at p; exact fun m' H' y e S r => h2 _ _ (p m' H' y e S r)
  | bk σ1 h1' => rw [eo] at p; exact fun m' H' s e S R => h3 _ _ (p m' H' s e S R)
  | ct σ1 h1' => rw [eo] at p; exact fun m' H' s e S R => h4 _ _ (p m' H' s e S R)
  | exc d v σ1 h1' =>
    rw [eo] at p
    dsimp only at p
    cases eq : Nat.beq d c with
    | false => rw [eq] at p; exact p.elim
    | true =>
      rw [eq] at p
      have ed : d = c := Nat.eq_of_beq_eq_true eq
      subst ed
      exact fun m' H' s dd e S R _ => h5 _ _ _ ⟨m', h1', σ1, S, R, OP.later p e⟩
  | bad => rw [eo] at p; exact p.elim
/-- a suite that raises nothing -/
theorem s_tryE (hC : G.xc c = .ref C) (hc : Names X x (.ref C)) (hm : PySem.W.exmOne X.K (.ref C) (.ref C) = some true)
    (hb : ∀ (W : XW) (pn : List (Addr × Obj)) (xe : Value → Shared → Prop), Takes (X.tr pn xe) W → PassesOwn (model X.prog X.w) X.A X.env xe → PSs (X.tr pn xe) body (tMS G W sa))
    (hsu : ∀ (a : Addr) (oe : Obj) (pn : List (Addr × Obj)), PSs (X.suite a ((a, oe) :: pn)) (b₀ :: suite) (tMS G W ss)) (ho : PSs X orelse (tMS G W su)) (hs : X.stack = X.env :: X.outer := by rfl) (hfr : X.env.frame = some X.env.locals := by rfl) :
    PS X (.Try body [.ExceptHandler (some (.Name x np)) none (b₀ :: suite) pos'] orelse [] pos) (tMS G W (jTryC c sa ss su)) :=
  (ps_try_onlyE (ts := fun _ _ _ => tMS G W ss) (Wout := W0) ho hs hfr hc takes0' (fun W pn xe tk ps => hb W pn xe tk ps) (fun a oe cls d pn _ _ => hsu a oe pn)).wk fun D σ H ⟨m, h, σm, S, R, p⟩ =>
    ⟨m, h, σm, S, R, tryC_op p (fun _ _ q => q) (fun _ _ q => q) (fun _ _ q => q) (fun _ _ q => q) fun d σ H' q => ⟨true, by rw [hC]; exact hm, fun _ a na => q, fun z => by cases z⟩⟩
/-- the body's wish: what it raises is taken -/
def wTake (K : PySem.W.Frag) (c : Value) (ts : TS) (D : Ends) : XW := fun cls _ σ H => PySem.W.exmOne K cls c = some true ∧ ts D σ H
/-- a suite that raises, an else: all that the body raises is taken by the clause -/
theorem ps_tryER {cv : Value} {tb : XW → TS} {ts u : TS} {Wout : XW} (ho : PSs X orelse u) (hc : Names X x cv) (hpa : ∀ hd : Option Value, PassesOwnAt (model X.prog X.w) (X.A.mark hd) X.A X.env X.xe) (tk : Takes X Wout)
    (hb : ∀ (W : XW) (pn : List (Addr × Obj)) (xe : Value → Shared → Prop), L2N.Takes (X.tr pn xe) W → PassesOwn (model X.prog X.w) X.A X.env xe → PSs (X.tr pn xe) body (tb W))
    (hsu : ∀ (a : Addr) (oe : Obj) (pn : List (Addr × Obj)), Takes (L2H.suiteX X a ((a, oe) :: pn)) Wout → L2H.HotC (L2H.suiteX X a ((a, oe) :: pn)) → PSs (L2H.suiteX X a ((a, oe) :: pn)) (b₀ :: suite) ts)
    (hs : X.stack = X.env :: X.outer := by rfl) (hf : X.env.frame = some X.env.locals := by rfl) :
    PS X (.Try body [.ExceptHandler (some (.Name x np)) none (b₀ :: suite) pos'] orelse [] pos) (fun D σ H => tb (wTake X.K cv ts D) { D with nx := u D } σ H) := by
  constructor
  intro pins s σ H D I h
  have ok := I.ok
  have frs0 : X.A.frames = some (X.env :: X.outer) := by rw [ok.frames, hs]
  refine wpAny_Try_except ?_
  have B0 := hb (wTake X.K cv ts D) (X.pn ++ pins) (fun e s₁ => wpAny (model X.prog X.w) X.A (noteFrame e X.env) (fun _ s₂ => wpAny (model X.prog X.w) X.A (setFlight e none) (fun _ s₃ => wpAny (model X.prog X.w) X.A (handleBy e X.env [.ExceptHandler (some (.Name x np)) none (b₀ :: suite) pos']) (SP X pins D) X.xe s₃) X.xe s₂) X.xe s₁)
  have caught : L2N.Takes (X.tr (X.pn ++ pins) (fun e s₁ => wpAny (model X.prog X.w) X.A (noteFrame e X.env) (fun _ s₂ => wpAny (model X.prog X.w) X.A (setFlight e none) (fun _ s₃ => wpAny (model X.prog X.w) X.A (handleBy e X.env [.ExceptHandler (some (.Name x np)) none (b₀ :: suite) pos']) (SP X pins D) X.xe s₃) X.xe s₂) X.xe s₁)) (wTake X.K cv ts D) := by
    rintro v s' ⟨a, B, sI, pins', σ', H', cls, d, rfl, J', nb, up, sky, na, os, ag, yes, q⟩
    have J : Inv X pins σ' H' sI := J'.ofTry ok
    have sky1 : Sky B (X.env :: X.outer) a (L2N.Zn cls d) X.env.locals s'.heap := by rw [← hs]; exact sky
    show wpAny (model X.prog X.w) X.A (noteFrame (.ref a) X.env) _ _ _
    refine L2N.Sky.land L2N.Zn.steady frs0 hf sky1 fun h3 fl3 up3 => ?_
    obtain ⟨oe3, vs3, he3, hz3, hd3⟩ := fl3.there
    have K3 : Inv X pins σ' H' { s' with heap := h3 } := J.landed nb fl3.1 (up.trans up3) os ag
    have apart : a ∉ frs (X.env :: X.outer) := fun hm => by
      obtain ⟨_, o', e', hnf⟩ := fl3.2.2.1.mem hm
      rw [he3] at e'
      cases e'
      exact hnf _ hd3
    have nL : a ≠ X.env.locals := fun z => apart (List.mem_filterMap.mpr ⟨X.env, List.mem_cons_self, by rw [hf, z]⟩)
    have nF : a ∉ X.fs := fun hm => by
      obtain ⟨e, he, w⟩ := List.mem_filterMap.mp hm
      exact apart (List.mem_filterMap.mpr ⟨e, List.mem_cons_of_mem _ he, w⟩)
    have S3 := K3.suite he3 hd3 na nL nF
    refine wpAny_handleBy_cons (codeAny_handlers_test ?_) (by intro q; cases q)
    have ty : PySem.W.Looks (model X.prog X.w) h3 (typeOf (.ref a)) cls := fun A Q E s k w => wpAny_typeOf_ref (k _ _ he3) (by rw [hz3.1]; exact w)
    have matched := PySem.W.exm_one (M := model X.prog X.w) K3.kIn ty yes
    have named : ∀ {Q : Value → Shared → Prop} {E : Value → Shared → Prop}, Q cv { s' with heap := h3 } → wpAny (model X.prog X.w) (X.A.mark (some (.ref a))) (eval (.Name x np) X.env) Q E { s' with heap := h3 } := fun {Q E} w => by
      obtain ⟨hg, hdbg, hm | ⟨hm, hv, hnn⟩⟩ := hc
      · exact ld_glob (X := X.suite a ((a, oe3) :: (X.pn ++ pins))) S3 hg hm w hdbg
      · exact ld_blt (X := X.suite a ((a, oe3) :: (X.pn ++ pins))) S3 hg hm hv w hnn hdbg
    refine named (matched.here ?_)
    refine codeAny_handlers_suite ?_
    refine HandSPX.lands_againZ fl3 fun h4 fl4 up4 => ?_
    obtain ⟨oe4, vs4, he4, hz4, hd4⟩ := fl4.there
    have K4 : Inv X pins σ' H' { s' with heap := h4 } := J.landed nb fl4.1 ((up.trans up3).trans up4) os ag
    have S4 := K4.suite he4 hd4 na nL nF
    have tkS : Takes (L2H.suiteX X a ((a, oe4) :: (X.pn ++ pins))) Wout := by
      rintro u2 s2 ⟨a2, B2, sI2, pn2, σ2, H2, cls2, d2, e2, I2, nb2, up2, sky2, na2, os2, ag2, w2⟩
      exact tk u2 s2 ⟨a2, B2, sI2, pins, σ2, H2, cls2, d2, e2, L2H.unsuiteX I2 ok, nb2, up2, sky2, na2, os2, ag2, w2⟩
    have hot : L2H.HotC (L2H.suiteX X a ((a, oe4) :: (X.pn ++ pins))) := ⟨(a, oe4), ⟨rfl, vs4, hd4, hz4.2.2 vs4 hd4⟩, List.mem_cons_self⟩
    have run := (hsu a oe4 (X.pn ++ pins) tkS hot).run [] _ _ H' _ (L2H.suiteX_of S4) q
    refine wpAny_mono run (fun f s6 r6 => ?_) (fun e6 s6 z => hpa (some (.ref a)) e6 s6 z)
    cases f with
    | ret u => obtain ⟨v6, σ6, H6, S6, r, w⟩ := r6; exact ⟨_, _, _, L2H.unsuiteX S6 ok, r, w⟩
    | next => obtain ⟨σ6, H6, S6, w⟩ := r6; exact ⟨_, _, L2H.unsuiteX S6 ok, w⟩
    | brk => obtain ⟨σ6, H6, S6, w⟩ := r6; exact ⟨_, _, L2H.unsuiteX S6 ok, w⟩
    | cont => obtain ⟨σ6, H6, S6, w⟩ := r6; exact ⟨_, _, L2H.unsuiteX S6 ok, w⟩
  refine wpAny_mono ((B0 caught PassesOwn.looking).run [] s σ H { D with nx := u D } (I.toTry _) h) (fun f s1 r1 => ?_) (fun e s1 he => he)
  cases f with
  | ret w => obtain ⟨v, σ', H', J, r, z⟩ := r1; exact ⟨v, σ', H', J.ofTry ok, r, z⟩
  | next => obtain ⟨σ', H', J, z⟩ := r1; exact ho.run pins s1 σ' H' D (J.ofTry ok) z
  | brk => obtain ⟨σ', H', J, z⟩ := r1; exact ⟨σ', H', J.ofTry ok, z⟩
  | cont => obtain ⟨σ', H', J, z⟩ := r1; exact ⟨σ', H', J.ofTry ok, z⟩
theorem s_tryR (tk : Takes X W) (hC : G.xc c = .ref C) (hc : Names X x (.ref C)) (hm : PySem.W.exmOne X.K (.ref C) (.ref C) = some true) (hpa : ∀ hd : Option Value, PassesOwnAt (model X.prog X.w) (X.A.mark hd) X.A X.env X.xe)
    (hb : ∀ (W : XW) (pn : List (Addr × Obj)) (xe : Value → Shared → Prop), L2N.Takes (X.tr pn xe) W → PassesOwn (model X.prog X.w) X.A X.env xe → PSs (X.tr pn xe) body (tMS G W sa))
    (hsu : ∀ (a : Addr) (oe : Obj) (pn : List (Addr × Obj)), Takes (L2H.suiteX X a ((a, oe) :: pn)) W → L2H.HotC (L2H.suiteX X a ((a, oe) :: pn)) → PSs (L2H.suiteX X a ((a, oe) :: pn)) (b₀ :: suite) (tMS G W ss)) (ho : PSs X orelse (tMS G W su)) (hs : X.stack = X.env :: X.outer := by rfl) (hfr : X.env.frame = some X.env.locals := by rfl) :
    PS X (.Try body [.ExceptHandler (some (.Name x np)) none (b₀ :: suite) pos'] orelse [] pos) (tMS G W (jTryC c sa ss su)) :=
  (ps_tryER (ts := tMS G W ss) (Wout := W) ho hc hpa tk hb hsu hs hfr).wk fun D σ H ⟨m, h, σm, S, R, p⟩ =>
    ⟨m, h, σm, S, R, tryC_op p (fun _ _ q => q) (fun _ _ q => q) (fun _ _ q => q) (fun _ _ q => q) fun d σ H' q => ⟨by rw [hC]; exact hm, q⟩⟩
end
end KA
set_option autoImplicit false
set_option maxHeartbeats 200000
set_option maxRecDepth 512
set_option Elab.async false
set_option autoImplicit false
set_option linter.all false
set_option maxRecDepth 100000
set_option maxHeartbeats 1600000
/-! KSupH: KSup where an exception is handled. -/
namespace KA
open PySem PySem.Spec PyProof.Rows L2
/-- the body's context -/
def cxSH (pp : Addr × Obj) (CX : CXT) (P : Program) (w : World) (K : PySem.W.Frag) (mg : PySem.Str → Option Value) (base : Heap) (N : List PySem.Str) (qual : PySem.Str) (scope : Scope) (f : Addr) (cd : Value) (cc : Addr) (A : Around) (outer : List Env) (s : Shared) (H : Hp) (E : XK) : Cx where
  prog := P
  w := w
  K := K
  mg := mg
  base := base
  A := A.deeper (PySem.W.ksEnv qual scope s.heap.objs.size f cd cc)
  N := N
  s_0 := s
  H_0 := H
  env := PySem.W.ksEnv qual scope s.heap.objs.size f cd cc
  outer := outer
  stack := PySem.W.ksEnv qual scope s.heap.objs.size f cd cc :: outer
  ex := []
  calm := false
  fn := fun _ => false
  pn := [pp]
  xe := fun e s' => wpAny (model P w) (A.deeper (PySem.W.ksEnv qual scope s.heap.objs.size f cd cc)) (leaving (PySem.W.ksEnv qual scope s.heap.objs.size f cd cc) e) (fun _ s'' => CX outer H s E e s'') (fun e' s'' => CX outer H s E e' s'') s'
section
variable {pp : Addr × Obj} {CX : CXT} {P : Program} {w : World} {K : PySem.W.Frag} {mg : PySem.Str → Option Value} {base : Heap} {p0 p1 qual : PySem.Str} {scope : Scope} {f cc C : Addr} {cd : Value} {A : Around} {outer : List Env} {s : Shared} {H : Hp} {E : XK} {u0 u1 : Value} {v0 v1 : V}
theorem inv_supH (S : SupScope p0 p1 scope) (hpin : L2H.PinOk outer H s pp) (e0 : Env0 P w K mg base A outer s H) {cl : Value} {cld : Option Addr} {csl : Array (Option Value)} (hcell : K.lookup cc = some ⟨cl, cld, .cell (some (.ref C)), csl⟩)
    (r0 : RelV v0 u0) (r1 : RelV v1 u1) {h₀ : Heap} {t : Nat} (hns : h₀.Ns s.heap.objs.size fun x => (([p0, p1].zip [u0, u1]).reverse).lookup x) (hk : ∀ b o, s.heap.get? b = some o → h₀.get? b = some o) :
    Inv (cxSH pp CX P w K mg base [p0, p1] qual scope f cd cc A outer s H E) [] [some v0, some v1] H { s with heap := h₀, toks := t } := by
  have noA : ∀ b : Addr, b ∉ (cxSH pp CX P w K mg base [p0, p1] qual scope f cd cc A outer s H E).ex := fun b z => absurd (show b ∈ ([] : List Addr) from z) (by simp)
  have one : ∀ y c, (cxSH pp CX P w K mg base [p0, p1] qual scope f cd cc A outer s H E).env.cells.lookup y = some c → y = ("__class__" : PySem.Str) ∧ c = cc := fun y c h => by
    have h' : ([(("__class__" : PySem.Str), cc)]).lookup y = some c := h
    rw [List.lookup_cons] at h'
    cases e : (y == ("__class__" : PySem.Str)) with
    | true => rw [e] at h'; exact ⟨by simpa using e, (Option.some.inj h').symm⟩
    | false => rw [e] at h'; cases h'
  have cb := e0.mod.kin _ _ hcell
  have ch := (e0.bs _ _ cb)
  refine ⟨⟨e0.mod, S.kind, rfl, rfl, Nat.le_refl _, fun y z c h1 h2 => (one _ _ h1).1.trans (one _ _ h2).1.symm, fun y hy => ?_, fun y c z h => absurd z Bool.false_ne_true, fun z => absurd z Bool.false_ne_true, Around.frames_deeper e0.frames, .inr ⟨rfl, rfl⟩, fun b z => absurd z (noA b), e0.bs, e0.bsz, fun b _ _ => noA b, fun b z => absurd z (noA b), e0.funs, e0.frf⟩,
    rfl, e0.bare, Un.kept hk, ⟨_, hns, fun i y v h1 h2 h3 => ?_⟩, fun y c h => ?_, e0.hok.fresh (Nat.le_refl _), fun y c h => ?_, fun q hq => ?_, e0.hok.kept hk, rfl⟩
  · have hy : scope.names.lookup y = some .cell ∨ scope.names.lookup y = some .free := hy
    rcases hy with hy | hy
    · exact absurd rfl (S.nocell _ (PySem.mem_of_lookup hy))
    · have e := S.one _ (PySem.mem_of_lookup hy) rfl
      refine ⟨cc, ?_⟩
      show ([(("__class__" : PySem.Str), cc)]).lookup y = some cc
      rw [show y = ("__class__" : PySem.Str) from e]
      simp [List.lookup]
  · have hne : (p0 == p1) = false := beq_eq_false_iff_ne.mpr fun z => S.ne z.symm
    match i, h1, h2 with
    | 0, h1, h2 =>
      have e1 : p0 = y := Option.some.inj h1
      have e2 : v0 = v := Option.some.inj (Option.some.inj h2)
      subst e1 e2
      exact ⟨u0, r0, .inl ⟨S.l0, by simp [List.lookup, hne]⟩⟩
    | 1, h1, h2 =>
      have e1 : p1 = y := Option.some.inj h1
      have e2 : v1 = v := Option.some.inj (Option.some.inj h2)
      subst e1 e2
      exact ⟨u1, r1, .inl ⟨S.l1, by simp [List.lookup]⟩⟩
    | (n + 2), h1, h2 => cases h1
  · obtain ⟨rfl, rfl⟩ := one _ _ h
    exact ⟨_, _, hk _ _ ch.1, rfl⟩
  · obtain ⟨rfl, rfl⟩ := one _ _ h
    exact ch.2
  · have eq : q = pp := by simpa using (show q ∈ [pp] ++ ([] : List (Addr × Obj)) from hq)
    subst eq
    exact ⟨hk q.1 q.2 hpin.get, hpin.free, Nat.ne_of_lt (Heap.lt_size hpin.get), hpin.nofs, hpin.nocell⟩
end
section
variable {CX : CXT} {P : Program} {w : World} {K : PySem.W.Frag} {mg : PySem.Str → Option Value} {base : Heap} {p0 p1 qual name fld : PySem.Str} {scope : Scope} {f cc cda C : Addr} {params : Arguments} {dV kV doc pm ct oc : Value} {an od : Option Addr} {osl : Array (Option Value)} {k : Nat}
  {arg : Expr} {q0 q1 q2 q3 q4 r0 r1 r2 r3 : Pos}
theorem fn_supH {cl ccl : Value} {cld cdd : Option Addr} {csl ccs : Array (Option Value)} {cvs : Array Value} {file : PySem.Str} {tf : Tok} {ar : Arg} {R : V → Prop} {ta : TE} {cdC : ClassData} (S : SupScope p0 p1 scope) (T : OexC K C)
    (lk : K.lookup f = some ⟨oc, od, .func (PySem.W.ksFn name qual params [.Expr (.Call (.Attribute (.Call (.Name "super" q0) [] [] q1) "__init__" q2) [arg] [] q3) q4, .Assign [.Attribute (.Name p0 r0) fld r1] (.Name p1 r2) r3] scope dV kV doc pm an (.ref cda) ct cc), osl⟩)
    (hcd : PySem.W.codeIn K (.ref cda) qual = true) (hp : (params.posonlyargs ++ params.args).head? = some ar) (har : ar.arg = p0)
    (hcell : K.lookup cc = some ⟨cl, cld, .cell (some (.ref C)), csl⟩) (hcode : K.lookup cda = some ⟨ccl, cdd, .fields cvs, ccs⟩) (hvs : cvs[2]? = some (.str file tf)) (hfile : ((P.main.file : PySem.Str) == file) = true)
    (hD : PySem.W.clsIn K C = some cdC) (hsub : PySem.W.mroIn K C (.ref C) = some true) (hB : PySem.W.subIn K (.ref C) (.type "ValueError") = some true) (hsuper : mg ("super" : PySem.Str) = none)
    (htop : (P.main.scope.names.lookup ("super" : PySem.Str)).isSome = false) (hany : PySem.W.nsIn K PySem.cStatics "thirdparty.any" = some none)
    (hm : PySem.W.ks_superIn K C C "__init__" = some (some (.builtin "ValueError.__init__"))) (hno : PySem.W.findIn K (.ref C) fld = some none)
    (ha : ∀ (pp : Addr × Obj) (A : Around) (outer : List Env) (s : Shared) (H : Hp) (E : XK), PE (cxSH pp CX P w K mg base [p0, p1] qual scope f (.ref cda) cc A outer s H E) arg ta)
    (hta : ∀ (a : Addr) (y : V) (H : Hp) (Q : VK), R y → (∀ z, Q z H) → ta [some (.ref a), some y] H Q)
    (hd0 : (p0 == ("__debug__" : PySem.Str)) = false := by decide) (hd1 : (p1 == ("__debug__" : PySem.Str)) = false := by decide) (hc0 : (p0 == ("__classdict__" : PySem.Str)) = false := by decide) (hc1 : (p1 == ("__classdict__" : PySem.Str)) = false := by decide)
    (hint : ∀ L, interactive (PySem.W.ksEnv qual scope L f (.ref cda) cc) = false := by intro L; rfl)
    (hs1 : ∀ L, swapsWith (.Call (.Attribute (.Call (.Name "super" q0) [] [] q1) "__init__" q2) [arg] [] q3) none q4.line (PySem.W.ksEnv qual scope L f (.ref cda) cc) = pure false := by intro L; rfl)
    (hs2 : ∀ L, swapsWith (.Name p1 r2) (some (.Attribute (.Name p0 r0) fld r1)) r3.line (PySem.W.ksEnv qual scope L f (.ref cda) cc) = pure false := by intro L; rfl)
    (hcall : ∀ L, ∃ pl : Sem Bool, eval (.Call (.Attribute (.Call (.Name "super" q0) [] [] q1) "__init__" q2) [arg] [] q3) (PySem.W.ksEnv qual scope L f (.ref cda) cc) = (do
      let ov ← attributeBase (.Call (.Name "super" q0) [] [] q1) "__init__" (PySem.W.ksEnv qual scope L f (.ref cda) cc) (eval (.Call (.Name "super" q0) [] [] q1) (PySem.W.ksEnv qual scope L f (.ref cda) cc))
      standAt q2.atName
      let (g, first) ← holding [ov] (getMethod ov "__init__" pl)
      callWith q3 g first (backTo q3 (starEach [arg] (PySem.W.ksEnv qual scope L f (.ref cda) cc))) []) := by intro L; exact ⟨_, rfl⟩)
    (he : ∀ L, starEach [arg] (PySem.W.ksEnv qual scope L f (.ref cda) cc) = (false, eval arg (PySem.W.ksEnv qual scope L f (.ref cda) cc)) :: starEach [] (PySem.W.ksEnv qual scope L f (.ref cda) cc) := by intro L; rfl) :
    L2H.FnH P w K mg base CX (k + 1) f (PySem.W.ksFn name qual params [.Expr (.Call (.Attribute (.Call (.Name "super" q0) [] [] q1) "__init__" q2) [arg] [] q3) q4, .Assign [.Attribute (.Name p0 r0) fld r1] (.Name p1 r2) r3] scope dV kV doc pm an (.ref cda) ct cc) [p0, p1] (spSup K C fld R) := by
  refine ⟨fun vs H Q E ⟨a, y, e, _⟩ => by rw [e]; rfl, fun A outer s H args us vs Q E pp hr hot hpin e0 hb rv hsp => ?_⟩
  obtain ⟨a, y, rfl, hy, ea, hq⟩ := hsp
  obtain ⟨u0, us1, rfl, r0', rv1⟩ : ∃ u0 us1, us = u0 :: us1 ∧ RelV (V.ref a) u0 ∧ Vals [y] us1 := by
    cases rv with
    | cons x t => exact ⟨_, _, rfl, x, t⟩
  obtain ⟨u1, rfl, r1'⟩ : ∃ u1, us1 = [u1] ∧ RelV y u1 := by
    cases rv1 with
    | cons x t => cases t; exact ⟨_, rfl, x⟩
  have KX : K.In s.heap := e0.mod.kin.keeps fun b o e => (e0.bs b o e).1
  have lim : s.heap.NoLimit := e0.mod.nolimit.keeps fun b o e => (e0.bs b o e).1
  obtain ⟨m0, hns0, hbl⟩ := e0.mod.blt
  refine PySem.ks_codeAny_call_defAt (body := [.Expr (.Call (.Attribute (.Call (.Name "super" q0) [] [] q1) "__init__" q2) [arg] [] q3) q4, .Assign [.Attribute (.Name p0 r0) fld r1] (.Name p1 r2) r3]) (binds := [p0, p1].zip [u0, u1]) hr.depth (KX _ _ lk) rfl lim (PySem.W.codeRec_of KX hcd) rfl hb S.nocell (fun z hz => ?_) (fun h₀ hns hk₀ => ?_) S.co S.gen S.kind
  · rcases List.mem_cons.mp hz with e | hz
    · rw [e]; exact S.l0
    · rcases List.mem_cons.mp hz with e | hz
      · rw [e]; exact S.l1
      · cases hz
  have I0 : Inv (cxSH pp CX P w K mg base [p0, p1] qual scope f (.ref cda) cc A outer s H E) [] [some (.ref a), some y] H { s with heap := h₀, toks := s.toks + ([p0, p1].zip [u0, u1]).length } :=
    inv_supH S hpin e0 hcell r0' r1' hns hk₀
  have eu0 : u0 = Value.ref a := r0'
  subst eu0
  obtain ⟨nm, q, N, bs, bm, sn, sub, ab, col, dd, k0, k1, k2, k3, k5, hC, hbm⟩ := T.cls
  show _root_.PySem.wpAt (model P w) (A.deeper (PySem.W.ksEnv qual scope s.heap.objs.size f (.ref cda) cc)) (.func _ (PySem.W.ksEnv qual scope s.heap.objs.size f (.ref cda) cc)) (execs _ (PySem.W.ksEnv qual scope s.heap.objs.size f (.ref cda) cc)) _ _ _
  generalize hs0 : ({ s with heap := h₀, toks := s.toks + ([p0, p1].zip [Value.ref a, u1]).length } : Shared) = s0 at I0 ⊢
  have hns' : s0.heap.Ns s.heap.objs.size fun x => (([p0, p1].zip [Value.ref a, u1]).reverse).lookup x := by rw [← hs0]; exact hns
  have hX : (cxSH pp CX P w K mg base [p0, p1] qual scope f (.ref cda) cc A outer s H E).env = PySem.W.ksEnv qual scope s.heap.objs.size f (.ref cda) cc := rfl
  have KI : K.In s0.heap := I0.kIn
  obtain ⟨oD, hD1, hD2⟩ : ∃ oD, s0.heap.get? C = some oD ∧ oD.data = .cls cdC := by
    unfold PySem.W.clsIn at hD
    split at hD
    · rename_i c d cd' sl ho
      cases hD
      exact ⟨_, KI _ _ ho, rfl⟩
    · cases hD
  obtain ⟨pl, hcl⟩ := hcall s.heap.objs.size
  refine PySem.ks_wpAt_execs_cons (PySem.ks_wpAt_Expr_any (PySem.ks_wpAt_MethodCall (pl := pl) ?_ hcl) (hint _) (hs1 _))
  refine PySem.ks_wpAt_super_base (env := PySem.W.ksEnv qual scope s.heap.objs.size f (.ref cda) cc) S.su S.fr (by decide) rfl (KI _ _ lk) rfl hp rfl (KI _ _ hcode) rfl hvs hfile htop ?_
  refine PySem.W.ks_loadName_global S.kind S.su (Calls.loadGlobal_builtin (env := PySem.W.ksEnv qual scope s.heap.objs.size f (.ref cda) cc) (e0.mod.glob.keeps I0.bk) hsuper (hns0.keeps I0.bk) ((hbl _ (by decide +kernel)).trans (show bootBuiltins ("super" : PySem.Str) = some (.type "super") from by first | boot_by_name | rfl | kernel_rfl)) ⟨rfl, ?_⟩)
  refine wpAny_loadName_free S.kind S.fr rfl ⟨_, KI _ _ hcell, rfl⟩ ?_
  rw [har]
  refine wpAny_loadName_local S.kind S.l0 hns' (show List.lookup p0 [(p1, u1), (p0, Value.ref a)] = some (Value.ref a) from by
    rw [List.lookup_cons, show (p0 == p1) = false from beq_eq_false_iff_ne.mpr fun z => S.ne z.symm]; simp) ?_
  refine PySem.ks_wpAny_isType_cls hD1 hD2 ⟨rfl, ?_⟩
  obtain ⟨t1, ho⟩ := exo_at I0.hok ea
  obtain ⟨h0, g, d, t, os⟩ := s0
  refine PySem.ks_wpAny_call_super hD1 hD2 ho rfl (fun c z => by cases z) (PySem.W.looks_mroIn KI hsub) (fun h' e k => ?_)
  have I1 : Inv (cxSH pp CX P w K mg base [p0, p1] qual scope f (.ref cda) cc A outer s H E) [] [some (.ref a), some y] H ⟨h', g, d, t, os⟩ := I0.kept (t' := t) k
  have K1 : K.In h' := I1.kIn
  obtain ⟨t2, ho2⟩ := exo_at I1.hok ea
  have hxC : a ≠ C := fun z => by
    have z2 := k _ _ hD1
    rw [← z] at z2
    rw [ho2] at z2
    rw [← Option.some.inj z2] at hD2
    cases hD2
  have hI : PySem.W.Looks (model P w) h' (isInstance (.ref a) (.type "ValueError")) true := (PySem.W.InstAt.type (od := none) ⟨ho2, rfl, rfl, trivial⟩).andThen (PySem.W.looks_subIn K1 hB)
  have hm2 : PySem.W.alongIn K "__init__" ((cdC.mro.dropWhile (· != .ref C)).drop 1) = some (some (.builtin "ValueError.__init__")) := by
    unfold PySem.W.ks_superIn at hm
    rw [hD] at hm
    exact hm
  refine PySem.W.kxs_getMethod PySem.W.kxs_ValueError e (PySem.W.looks_opaque K1 hany) (l₀ := cdC.mro) (fun A Q E s k q => wpAny_bind ((PySem.W.looks_clsIn K1 hD) A _ E s k (wpAny_pure q))) rfl K1 hm2 hI hxC (by decide) ?_
  have k2 : ∀ b o, h'.get? b = some o → (h'.push (PySem.W.kxs_mw "ValueError.__init__" a)).get? b = some o := fun b o e => Heap.get?_push_of_some _ e
  have I2 : Inv (cxSH pp CX P w K mg base [p0, p1] qual scope f (.ref cda) cc A outer s H E) [] [some (.ref a), some y] H ⟨h'.push (PySem.W.kxs_mw "ValueError.__init__" a), g, d, t + 1, os⟩ := I1.kept (t' := t + 1) k2
  have hu : (h'.push (PySem.W.kxs_mw "ValueError.__init__" a)).get? h'.objs.size = some (PySem.W.kxs_mw "ValueError.__init__" a) := Heap.get?_push_at rfl rfl
  have I3 := inv_pin I2 hu (I1.hok.fresh (Nat.le_refl _)) (Nat.ne_of_gt I1.lt) (I1.nofs (Nat.le_refl _)) (fun v z => by cases z)
  refine PySem.W.kxs_callWith (i := "ValueError.__init__") (x := a) (by rw [he]; rfl) ?_
  rw [he]
  refine Calls.evalArgs_plain ?_
  have eqs : spliced (backTo q3 (starEach [arg] (PySem.W.ksEnv qual scope s.heap.objs.size f (.ref cda) cc))) = spliced ((false, eval arg (PySem.W.ksEnv qual scope s.heap.objs.size f (.ref cda) cc)) :: backTo q3 (starEach [] (PySem.W.ksEnv qual scope s.heap.objs.size f (.ref cda) cc))) := by rw [he]; rfl
  show wpAny (model P w) (A.deeper (PySem.W.ksEnv qual scope s.heap.objs.size f (.ref cda) cc)) (spliced ((false, eval arg (PySem.W.ksEnv qual scope s.heap.objs.size f (.ref cda) cc)) :: backTo q3 (starEach [] (PySem.W.ksEnv qual scope s.heap.objs.size f (.ref cda) cc)))) _ _ _
  rw [← eqs]
  have PAa : PA (cxSH pp CX P w K mg base [p0, p1] qual scope f (.ref cda) cc A outer s H E) [arg] (L2.tCons ta L2.tNil) := pa_cons (ha pp A outer s H E) pa_nil (he _)
  refine thn (PAa.run q3 _ _ _ H (fun vs H' => vs.length = 1 ∧ H' = H) (I3.tok _) (hta a y H _ hy fun z => ⟨rfl, rfl⟩)) fun us s1 hz => ?_
  obtain ⟨vs1, H1, I4, rv4, hl4, rfl⟩ := hz
  obtain ⟨h4, g4, d4, t4, os4⟩ := s1
  have hu4 : h4.get? h'.objs.size = some (PySem.W.kxs_mw "ValueError.__init__" a) := (I4.pin (h'.objs.size, PySem.W.kxs_mw "ValueError.__init__" a) (by simp)).1
  refine ⟨hu4, ?_⟩
  have I5 := inv_unpin I4
  obtain ⟨t5, ho5⟩ := exo_at I5.hok ea
  have hC5 := I5.kIn _ _ hC
  have hus : us.length ≤ sizeLine := by
    rw [← Paired.length rv4, hl4, sizeLine_eq]; decide
  show wpAny (model P w) (A.deeper (PySem.W.ksEnv qual scope s.heap.objs.size f (.ref cda) cc)) (call (.ref h'.objs.size) us) _ _ _
  refine wpAny_call (codeAny_of_tree ?_)
  show wpAny _ (Around.in1 (A.deeper (PySem.W.ksEnv qual scope s.heap.objs.size f (.ref cda) cc))) (callAny (.ref h'.objs.size) ⟨us, []⟩) _ _ _
  simp only [callAny]
  refine wpAny_bind (wpAny_load hu4 ?_)
  simp only [PySem.W.kxs_mw, show (Value.type "method-wrapper" == Value.type "method" || Value.type "method-wrapper" == Value.type "builtin_function_or_method" || Value.type "method-wrapper" == Value.type "method-wrapper") = true by decide, if_true]
  refine PySem.W.KFB.if_so (by decide) ?_
  refine wpAny_bind (PySem.W.check_bound_init F.excBase_ValueError.toExcCallFacts hC5 ho5 rfl ?_)
  refine wpAny_bind (wpAny_pure (wpAny_pure ?_))
  refine ⟨plainId_quiet F.excBase_ValueError.init.plain _, codeAny_builtin F.excBase_ValueError.initEntry ?_⟩
  refine PySem.W.exc_init_tree (cls := .ref C) (t0 := t5) (dv := none) (c2 := .none) (c3 := .none) (b4 := .bool false) ho5 hus fun h6 k6 hx6 _ => ?_
  have J := I5.write (t' := t4) (x := a) (e := a) (o := exo a C none) (by rw [ea]; exact True.intro) (.inl rfl) k6 ⟨_, hx6⟩ (exo_ok hx6)
  have eu : upd H1 a (exo a C none) = H1 := by
    funext b
    by_cases hb : b = a
    · rw [hb, upd_same, ea]
    · rw [upd_ne hb]
  rw [eu] at J
  refine wpAt_of_wpAny ?_
  have P2 : PSs (cxSH pp CX P w K mg base [p0, p1] qual scope f (.ref cda) cc A outer s H1 E) [.Assign [.Attribute (.Name p0 r0) fld r1] (.Name p1 r2) r3] (tOst K fld (L2.tVar 0) (L2.tVar 1)) :=
    pss_one (ps_ost (pv 0 rfl (.inl S.l0) hd0 hc0) (pv 1 rfl (.inl S.l1) hd1 hc1) (hs2 _))
  refine wpAny_mono (P2.run [] _ [some (.ref a), some y] H1 { nx := fun _ H' => Q .non H', rt := Q } J ?_) (fun fl s' hs => ?_) fun e s' hs => hs
  · refine ⟨y, rfl, .ref a, rfl, a, C, rfl, T, hno, .inl ⟨ea, fun dx hn hne => ?_⟩⟩
    exact hq dx hn hne
  · have fin : ∀ {σ' : L2.St} {H' : Hp} {v : V} {u : Value}, Inv (cxSH pp CX P w K mg base [p0, p1] qual scope f (.ref cda) cc A outer s H1 E) [] σ' H' s' → RelV v u → Q v H' → CE outer P w H1 s Q u s' :=
      fun {σ' H' v u} J rv q => ⟨v, H', J.os, J.bare, J.base, J.hok, rv, q⟩
    cases fl with
    | ret u =>
      obtain ⟨v, σ', H', J, rv, q⟩ := hs
      exact fin J rv q
    | next =>
      obtain ⟨σ', H', J, q⟩ := hs
      exact fin (v := V.non) (u := Value.none) J rfl q
    | brk =>
      obtain ⟨_, _, _, q⟩ := hs
      exact False.elim q
    | cont =>
      obtain ⟨_, _, _, q⟩ := hs
      exact False.elim q
end
end KA
set_option autoImplicit false
set_option maxHeartbeats 200000
set_option maxRecDepth 512
set_option Elab.async false
set_option autoImplicit false
set_option linter.all false
set_option maxRecDepth 100000
set_option maxHeartbeats 1600000
/-! KXR: an exception whose message tells the index of a line; raised calm, raised while another is handled. -/
namespace KA
open PySem PySem.Spec PyProof.Rows L2
/-- the index of a line -/
def LineV (y : V) : Prop := ∃ i : Int, y = .int i ∧ 0 ≤ i ∧ i < 100
theorem line_str : ∀ n : Fin 100, (toString ((n.val : Nat) : Int) : PySem.Str).length ≤ 2 := by decide +kernel
/-- text + str(row) -/
def tRow (m : PySem.Str) (j : Nat) : TE := L2.tOp (fun x y H Q => ∃ i j, x = .str i ∧ y = .str j ∧ i.length + j.length ≤ sizeLine ∧ Q (.str (i ++ j)) H) (L2.tC (.str m)) (L2.tCB (fun xs H Q => ∃ i, xs = [.int i] ∧ i.natAbs.log2 < 1920 ∧ Q (.str (toString i)) H) (L2.tCons (L2.tVar j) L2.tNil))
theorem row_ok {m : PySem.Str} (hm : m.length ≤ 100) (a : Addr) (y : V) (H : Hp) (Q : VK) (r : LineV y) (k : ∀ z, Q z H) : tRow m 1 [some (.ref a), some y] H Q := by
  obtain ⟨i, rfl, h0, h1⟩ := r
  refine ⟨.int i, rfl, i, rfl, ?_, m, toString i, rfl, rfl, ?_, k _⟩
  · have : i.natAbs < 2 ^ 7 := by omega
    by_cases z : i.natAbs = 0
    · rw [z]; decide
    · have := (Nat.log2_lt z).mpr this
      omega
  · have := line_str ⟨i.toNat, by omega⟩
    rw [show ((⟨i.toNat, by omega⟩ : Fin 100).val : Int) = i by show ((i.toNat : Nat) : Int) = i; omega] at this
    rw [sizeLine_eq]
    omega
theorem pe_row {X : Cx} {m nm : PySem.Str} {j jj : Nat} {p1 p2 p3 p4 p5 : Pos} (hm : X.mg "str" = none) (hN : X.N[j]? = some nm) (hl : X.env.kindOf nm = some .local) (hg : Gl X "str" := by rfl) (hdb : (nm == ("__debug__" : PySem.Str)) = false := by decide) (hcd : (nm == ("__classdict__" : PySem.Str)) = false := by decide)
    (he : starEach [.Name nm p4] X.env = (false, eval (.Name nm p4) X.env) :: starEach [] X.env := by rfl) :
    PE X (.BinOp (.Constant (.str m) jj p1) .Add (.Call (.Name "str" p3) [.Name nm p4] [] p2) p5) (tRow m j) :=
  pe_op op_add_str pe_str (pe_callTy call_str_int hg hm (by decide +kernel) (pa_cons (pv j hN (.inl hl) hdb hcd) pa_nil he))
/-- a maker's promise where an exception is handled -/
theorem mk_supH {P : Program} {w : World} {K : PySem.W.Frag} {mg : PySem.Str → Option Value} {base : Heap} {p0 p1 qual name fld : PySem.Str} {scope : Scope} {C f : Addr} {params : Arguments} {fd : FuncData} {k : Nat}
    {arg : Expr} {q0 q1 q2 q3 q4 r0 r1 r2 r3 : Pos} {ar : Arg} {R : V → Prop} {ta : TE}
    (F : FunS K name qual params [.Expr (.Call (.Attribute (.Call (.Name "super" q0) [] [] q1) "__init__" q2) [arg] [] q3) q4, .Assign [.Attribute (.Name p0 r0) fld r1] (.Name p1 r2) r3] scope C f fd) (PC : PayC K C f fld) (S : SupScope p0 p1 scope) (hp : (params.posonlyargs ++ params.args).head? = some ar) (har : ar.arg = p0)
    (hfile : ((P.main.file : PySem.Str) == fileS) = true) (htop : (P.main.scope.names.lookup ("super" : PySem.Str)).isSome = false) (hsuper : mg ("super" : PySem.Str) = none)
    (hbind : ∀ (kV doc pm : Value) (an : Option Addr) (cdv ct : Value) (cc : Addr) (us : List Value), us.length = 2 → bindArgs (PySem.W.ksFn name qual params [.Expr (.Call (.Attribute (.Call (.Name "super" q0) [] [] q1) "__init__" q2) [arg] [] q3) q4, .Assign [.Attribute (.Name p0 r0) fld r1] (.Name p1 r2) r3] scope .none kV doc pm an cdv ct cc) ⟨us, []⟩ = pure ([p0, p1].zip us))
    (ha : ∀ (pp : Addr × Obj) (fa : Addr) (cdv : Value) (cc : Addr) (A : Around) (outer : List Env) (s : Shared) (H : Hp) (E : XK), PE (cxSH pp CX0 P w K mg base [p0, p1] qual scope fa cdv cc A outer s H E) arg ta)
    (hta : ∀ (a : Addr) (y : V) (H : Hp) (Q : VK), R y → (∀ z, Q z H) → ta [some (.ref a), some y] H Q)
    (hcall : ∀ (fa : Addr) (cdv : Value) (cc : Addr) L, ∃ pl : Sem Bool, eval (.Call (.Attribute (.Call (.Name "super" q0) [] [] q1) "__init__" q2) [arg] [] q3) (PySem.W.ksEnv qual scope L fa cdv cc) = (do
      let ov ← attributeBase (.Call (.Name "super" q0) [] [] q1) "__init__" (PySem.W.ksEnv qual scope L fa cdv cc) (eval (.Call (.Name "super" q0) [] [] q1) (PySem.W.ksEnv qual scope L fa cdv cc))
      standAt q2.atName
      let (g, first) ← holding [ov] (getMethod ov "__init__" pl)
      callWith q3 g first (backTo q3 (starEach [arg] (PySem.W.ksEnv qual scope L fa cdv cc))) []) := by intro _ _ _ L; exact ⟨_, rfl⟩)
    (he : ∀ (fa : Addr) (cdv : Value) (cc : Addr) L, starEach [arg] (PySem.W.ksEnv qual scope L fa cdv cc) = (false, eval arg (PySem.W.ksEnv qual scope L fa cdv cc)) :: starEach [] (PySem.W.ksEnv qual scope L fa cdv cc) := by intro _ _ _ L; rfl)
    (hs1 : ∀ (fa : Addr) (cdv : Value) (cc : Addr) L, swapsWith (.Call (.Attribute (.Call (.Name "super" q0) [] [] q1) "__init__" q2) [arg] [] q3) none q4.line (PySem.W.ksEnv qual scope L fa cdv cc) = pure false := by intro _ _ _ L; rfl)
    (hint : ∀ (fa : Addr) (cdv : Value) (cc : Addr) L, interactive (PySem.W.ksEnv qual scope L fa cdv cc) = false := by intro _ _ _ L; rfl)
    (hs2 : ∀ (fa : Addr) (cdv : Value) (cc : Addr) L, swapsWith (.Name p1 r2) (some (.Attribute (.Name p0 r0) fld r1)) r3.line (PySem.W.ksEnv qual scope L fa cdv cc) = pure false := by intro _ _ _ L; rfl)
    (hd0 : (p0 == ("__debug__" : PySem.Str)) = false := by decide) (hd1 : (p1 == ("__debug__" : PySem.Str)) = false := by decide) (hc0 : (p0 == ("__classdict__" : PySem.Str)) = false := by decide) (hc1 : (p1 == ("__classdict__" : PySem.Str)) = false := by decide) :
    L2H.FnH P w K mg base CX0 (k + 1) f fd [p0, p1] (spSup K C fld R) ∧ Binds K fd [p0, p1] [] := by
  obtain ⟨oc, od, kV, doc, pm, an, cda, cc, ct, osl, cl, ccl, cld, cdd, csl, ccs, cvs, tf, rfl, lk, hcd, hcell, hcode, hvs⟩ := F.ex
  obtain ⟨cd, hD⟩ := PC.D
  exact ⟨fn_supH S PC.T lk hcd hp har hcell hcode hvs hfile hD PC.sub PC.B hsuper htop PC.any PC.m PC.no (fun pp A outer s H E => ha pp f (.ref cda) cc A outer s H E) hta hd0 hd1 hc0 hc1 (hint f (.ref cda) cc) (hs1 f (.ref cda) cc) (hs2 f (.ref cda) cc) (hcall f (.ref cda) cc) (he f (.ref cda) cc), .all (hbind kV doc pm an (.ref cda) ct cc)⟩
section
variable {X : Cx} {G : GC} {W : XW} {e : Expr} {fa : EM}
theorem raiseI_imp {c : Nat} {C : Addr} (hC : G.xc c = .ref C) {D : Ends} {σ : L2.St} {H : Hp} (q : tMS G W (jRaiseI c fa) D σ H) : tMkO C (spSup X.K C (G.xf c) LineV) [] (L2.tCons (tM G W fa) L2.tNil) σ H (fun cls d H' => W cls d σ H') := by
  refine (tMS.out (Rel := RV G) (k := fun σ v h1 => match lineM v with | true => .exc c (some v) σ h1 | false => .bad) q).imp fun y H1 ⟨m1, h1, v, σm, S1, R1, r1, p1⟩ => ?_
  cases el : lineM v with
  | false => rw [el] at p1; exact p1.elim
  | true =>
  rw [el] at p1
  have ly : LineV y := by
    cases v with
    | int i =>
      simp only [RV] at r1
      unfold lineM at el
      simp only [Bool.and_eq_true, decide_eq_true_eq] at el
      exact ⟨i, r1, el.1, el.2⟩
    | _ => cases el
  refine ⟨by simp, fun a ha => ?_⟩
  refine ⟨a, y, rfl, ly, upd_same, fun d hd nd => ⟨rfl, d, [(G.xf c, y)], upd_same, by rw [upd_ne nd, upd_same], ?_, ?_⟩⟩
  · rw [upd_ne nd] at hd; exact hd
  · have hd1 : H1 d = none := by rw [upd_ne nd] at hd; exact hd
    have eq : upd (del (upd (upd (upd H1 a (exo a C none)) d (exd d [(G.xf c, y)])) a (exo a C (some d))) a) d (.xd [(G.xf c, y)]) = upd H1 d (.xd [(G.xf c, y)]) := by
      funext b
      by_cases h1 : b = d
      · rw [h1, upd_same, upd_same]
      · rw [upd_ne h1, upd_ne h1]
        by_cases h2 : b = a
        · rw [h2, del_same, ha]
        · rw [del_ne h2, upd_ne h2, upd_ne h1, upd_ne h2]
    rw [eq, ← hC]
    have x1 : Ex G m1 H1 m1 (upd H1 d (.xd [(G.xf c, y)])) := .upd d _ (plain_none hd1) (.inr hd1)
    exact p1 m1 _ σ (some d) x1 (S1.fresh hd1 _) (R1.mono x1.toLe) ⟨d, y, rfl, upd_same, r1.mono x1.toLe⟩
/-- raise C(i) -/
theorem s_raiseI {CX : CXT} {c k : Nat} {C fI : Addr} {x : PySem.Str} {p pos pos' : Pos} {fd : FuncData} {ps : List PySem.Str} (tk : Takes X W) (hC : G.xc c = .ref C) (T : OexC X.K C) (iC : PySem.W.findIn X.K (.ref C) "__init__" = some (some (.ref fI))) (tI : PySem.W.typeIn X.K (.ref fI) = some (.type "function"))
    (F1 : FnOk X.prog X.w X.K X.mg X.base CX k fI fd ps (spSup X.K C (G.xf c) LineV)) (hr : Room (k + 1) X.A) (hb : Binds X.K fd ps []) (hx : Passes CX X (fun _ _ _ => False)) (hm : X.mg x = some (.ref C)) (ha : PE X e (tM G W fa)) (hc : X.calm = true := by rfl) (hg : Gl X x := by rfl)
    (hdb : (x == ("__debug__" : PySem.Str)) = false := by decide) (he : starEach [e] X.env = (false, eval e X.env) :: starEach [] X.env := by rfl) (hpl : (backTo pos (starEach [] X.env)).any (·.1) = false := by rfl) :
    PS X (.Raise (some (.Call (.Name x p) [e] [] pos)) none pos') (tMS G W (jRaiseI c fa)) := (ps_raise hc tk (pmk_oex T iC tI F1 hr hb .nil hx hg hm (pa_cons ha pa_nil he) hdb he hpl)).wk fun D σ H q => raiseI_imp hC q
/-- .. while another is handled -/
theorem s_raiseIH {CX : CXT} {c k : Nat} {C fI : Addr} {x : PySem.Str} {p pos pos' : Pos} {fd : FuncData} {ps : List PySem.Str} (tk : Takes X W) (hC : G.xc c = .ref C) (T : OexC X.K C) (iC : PySem.W.findIn X.K (.ref C) "__init__" = some (some (.ref fI))) (tI : PySem.W.typeIn X.K (.ref fI) = some (.type "function"))
    (F1 : L2H.FnH X.prog X.w X.K X.mg X.base CX k fI fd ps (spSup X.K C (G.xf c) LineV)) (hr : L2H.RoomH (k + 1) X.A) (hb : Binds X.K fd ps []) (hx : Passes CX X (fun _ _ _ => False)) (hm : X.mg x = some (.ref C)) (ha : PE X e (tM G W fa)) (hc : L2H.HotC X) (hg : Gl X x := by rfl)
    (hdb : (x == ("__debug__" : PySem.Str)) = false := by decide) (he : starEach [e] X.env = (false, eval e X.env) :: starEach [] X.env := by rfl) (hpl : (backTo pos (starEach [] X.env)).any (·.1) = false := by rfl) :
    PS X (.Raise (some (.Call (.Name x p) [e] [] pos)) none pos') (tMS G W (jRaiseI c fa)) := (L2H.ps_raiseH hc tk (L2H.pmk5_oexH T iC tI F1 hr hc hb hx hg hm (pa_cons ha pa_nil he) hdb he hpl).pmk).wk fun D σ H q => raiseI_imp hC q
end
end KA
set_option autoImplicit false
set_option maxHeartbeats 200000
set_option maxRecDepth 512
set_option Elab.async false
set_option autoImplicit false
set_option linter.all false
set_option maxRecDepth 100000
set_option maxHeartbeats 1600000
/-! KSl: texts: s[:-1], s * 2. -/
namespace KA
open PySem PySem.Spec PyProof.Rows L2
theorem cut_init (s : List Nat) : cutS ⟨s.toArray⟩ none (some (-1)) = ⟨s.dropLast.toArray⟩ := by
  unfold cutS
  have hl : (⟨s.toArray⟩ : PySem.Str).length = s.length := by show s.toArray.size = _; simp
  rw [hl]
  have e1 : HT.sIx s.length 0 none = 0 := rfl
  have e2 : HT.sIx s.length s.length (some (-1)) = s.length - 1 := by
    unfold HT.sIx
    dsimp only
    rw [if_pos (by decide)]
    omega
  rw [e1, e2]
  show (⟨((s.toArray.toList.drop 0).take (s.length - 1 - 0)).toArray⟩ : PySem.Str) = _
  rw [List.drop_zero, Nat.sub_zero, List.dropLast_eq_take]
theorem op_mul2 {X : Cx} : OpR X (binaryOp .Mult) (fun x y H Q => ∃ z : PySem.Str, x = .str z ∧ y = .int 2 ∧ 1 ≤ z.length ∧ z.length ≤ 1000 ∧ Q (.str ⟨z.cps ++ z.cps⟩) H) := by
  rintro pins s σ H x y v u Q I rx ry ⟨z, rfl, rfl, h0, h1, q⟩
  obtain ⟨t, rfl⟩ := (show ∃ t, v = Value.str z t from rx)
  obtain ⟨t2, rfl⟩ := (show ∃ t, u = Value.int 2 t from ry)
  have nz : ((2 : Int) == 1 || z.length == 0) = false := by
    have : (z.length == 0) = false := by rw [beq_eq_false_iff_ne]; omega
    rw [this]; rfl
  refine P.mul_str (by decide) (fun _ _ => ?_) (fun _ _ => ?_) ?_
  · omega
  · have : z.length * (2 : Int).toNat ≤ 2000 := by show z.length * 2 ≤ 2000; omega
    show Builtin.Str.tooLong _ = false
    unfold Builtin.Str.tooLong
    rw [decide_eq_false_iff_not]
    have := sizeLine_eq
    omega
  · rw [if_neg (by decide), nz]
    rw [if_neg Bool.false_ne_true]
    have e2 : (List.replicate (2 : Int).toNat z.cps).foldl (· ++ ·) #[] = z.cps ++ z.cps := by
      show (List.replicate 2 z.cps).foldl (· ++ ·) #[] = _
      simp [List.replicate]
    rw [e2]
    refine ⟨?_, ⟨V.str ⟨z.cps ++ z.cps⟩, H, I.tok _, ⟨s.toks, rfl⟩, q⟩⟩
    show (z.cps ++ z.cps).size ≤ _
    have h1 : z.cps.size ≤ 1000 := h1
    rw [Array.size_append, sizeLine_eq]
    omega
section
variable {X : Cx} {G : GC} {W : XW} {e : Expr} {fa : EM} {pos p1 p2 p3 : Pos} {k : Nat}
theorem x_init (h : PE X e (tM G W fa)) : PE X (.Subscript e (.Slice none (some (.UnaryOp .USub (.Constant (.int 1) k p1) p3)) none p2) pos) (tM G W (e1 qInitS fa)) :=
  (pe_slice sl_str h po_none (po_some (pe_un un_neg pe_int))).wk fun σ H Q q => by
    refine (tMR.bind (Rel := RV G) (k := fun _ v h1 => qInitS v h1) q).imp fun x H1 ⟨m1, h1, v, σm, S1, R1, r1, p1⟩ => ?_
    unfold qInitS at p1
    cases v with
    | str s =>
      simp only [RV] at r1
      subst r1
      dsimp only at p1
      refine ⟨1, rfl, -1, rfl, ⟨s.toArray⟩, rfl, ?_, ?_⟩
      · rcases lim_cases s.length (Res.ok (MV.str s.dropLast) h1) with ⟨z, _⟩ | z
        · show s.toArray.size ≤ _
          rw [sizeLine_eq, List.size_toArray]
          exact z
        · rw [z] at p1; exact False.elim p1
      · rw [cut_init]
        rcases lim_cases s.length (Res.ok (MV.str s.dropLast) h1) with ⟨_, z⟩ | z
        · rw [z] at p1
          exact RP.now p1 S1 (by simp only [RV])
        · rw [z] at p1; exact False.elim p1
    | _ => exact False.elim p1
theorem x_twice (h : PE X e (tM G W fa)) : PE X (.BinOp e .Mult (.Constant (.int 2) k p1) pos) (tM G W (e1 qTwice fa)) :=
  (pe_op op_mul2 h pe_int).wk fun σ H Q q => by
    refine (tMR.bind (Rel := RV G) (k := fun _ v h1 => qTwice v h1) q).imp fun x H1 ⟨m1, h1, v, σm, S1, R1, r1, p1⟩ => ?_
    unfold qTwice at p1
    cases v with
    | str s =>
      simp only [RV] at r1
      subst r1
      dsimp only at p1
      cases c : (Nat.blt 0 s.length && Nat.blt s.length 1000) with
      | false => rw [c] at p1; exact False.elim p1
      | true =>
        rw [c] at p1
        obtain ⟨c1, c2⟩ := Bool.and_eq_true_iff.mp c
        have c1 := Nat.le_of_ble_eq_true c1
        have c2 := Nat.le_of_ble_eq_true c2
        have hl : (⟨s.toArray⟩ : PySem.Str).length = s.length := by show s.toArray.size = _; simp
        refine ⟨⟨s.toArray⟩, rfl, rfl, by rw [hl]; omega, by rw [hl]; omega, RP.now p1 S1 ?_⟩
        simp only [RV]
        simp
    | _ => exact False.elim p1
end
end KA
set_option autoImplicit false
set_option maxHeartbeats 200000
set_option maxRecDepth 512
set_option Elab.async false
set_option autoImplicit false
set_option linter.all false
set_option maxRecDepth 100000
set_option maxHeartbeats 1600000
/-! KEqN: two lists compared, of unlike lengths or both empty. -/
namespace KA
open PySem PySem.Spec PyProof.Rows L2
def rEqE (K : PySem.W.Frag) : R2 := fun x y H Q => rEqLen x y H Q ∨ rEqD K x y H Q
section
variable {X : Cx} {G : GC} {a b : Expr} {fa fb : EM} {pos : Pos}
theorem op_eqE (hr : Room 1 X.A) : OpR X (compareOp .Eq) (rEqE X.K) := by
  intro pins s σ H x y v u Q I rx ry hq
  rcases hq with hq | hq
  · exact op_eqLen hr pins s σ H x y v u Q I rx ry hq
  · exact op_eqD hr.units pins s σ H x y v u Q I rx ry hq
theorem o_eqE : Op20 G (rEqE G.K) qEqE := by
  intro m h H σ v w x y Q S r1 r2 p
  have p0 := p
  unfold qEqE at p
  cases v with
  | ref n =>
    cases w with
    | ref j =>
      dsimp only at p
      cases e : h.get n with
      | none => rw [e] at p; exact p.elim
      | some o =>
        rw [e] at p
        cases o with
        | lst xs =>
          cases e2 : h.get j with
          | none => rw [e2] at p; exact p.elim
          | some o2 =>
            rw [e2] at p
            cases o2 with
            | lst ys =>
              dsimp only at p
              cases q : Nat.beq xs.length ys.length with
              | true =>
                rw [q] at p
                dsimp only at p
                cases q0 : Nat.beq xs.length 0 with
                | true =>
                  rw [q0] at p
                  exact Or.inr (o_eq (W := W0) m h H σ _ _ x y Q S r1 r2 p)
                | false => rw [q0] at p; exact p.elim
              | false =>
                rw [q] at p
                obtain ⟨a, us, _, rfl, ha, rs⟩ := S.lst e r1
                obtain ⟨b, vs, _, rfl, hb, rs2⟩ := S.lst e2 r2
                refine Or.inl ⟨a, b, us, vs, rfl, rfl, ha, hb, fun z => ?_, RP.now p S (by simp [RV])⟩
                rw [rs.length, rs2.length] at z
                rw [z, Nat.beq_refl] at q
                cases q
            | _ => exact p.elim
        | _ => exact p.elim
    | _ => exact p.elim
  | _ => exact p.elim
theorem t_eqE (hr : Room 1 X.A) (ha : PE X a (tM G W0 fa)) (hb : PE X b (tM G W0 fb)) (hK : X.K = G.K := by rfl) (hb2 : behindInMarks .Eq b = false := by first | exact nomark _ | rfl) : PT X (.Compare a [.Eq] [b] pos) (tMT G W0 (cB (e2 qEqE fa fb))) := kt_op0 (r := rEqE X.K) (hK ▸ o_eqE) (pt_cmpR (op_eqE hr) ha hb hb2)
end
end KA
set_option autoImplicit true
set_option maxHeartbeats 200000
set_option maxRecDepth 512
set_option linter.all false
/-! KLaw: the laws' own functions (printed by gen.py). -/
namespace KA
def m__law_draw_0 : FM := fn 4 ((jSeq (jAsg (eA qTup (aCons (eC (.int 1000003)) (aCons (eC (.int 1000033)) (aCons (eC (.int 1000037)) (aCons (eC (.int 1000039)) (aCons (eC (.int 1000081)) (aCons (eC (.int 1000099)) (aCons (eC (.int 1000117)) (aCons (eC (.int 1000121)) (aCons (eC (.int 1000133)) (aCons (eC (.int 1000151)) (aCons (eC (.int 1000159)) (aCons (eC (.int 1000171)) (aCons (eC (.int 1000183)) (aCons (eC (.int 1000187)) (aCons (eC (.int 1000193)) (aCons (eC (.int 1000199)) aNil))))))))))))))))) (.nm 3))
    (jRet (e2 qMod (e2 qMod (e2 qAdd (e2 qMul (eV 0) (eC (.int 48271))) (e2 qMul (eV 1) (eC (.int 69621)))) (e2 qIx (eV 3) (e2 qMod (eV 1) (eC (.int 16))))) (eV 2)))))
def m__law_number_0 : FM := fn 7 ((jSeq (jAsg (eC (.int 1)) (.nm 3))
    (jSeq (jFor (wRng1 (e2 qMod (eV 1) (eC (.int 24)))) (.nm 4) (jAsg (e2 qMul (eV 3) (eC (.int 1009))) (.nm 3)))
    (jSeq (jAsg (e2 qDiv (e2 qSub (eV 0) (e2 qPow (eC (.int 10)) (eC (.int 18)))) (eV 3)) (.nm 5))
    (jSeq (jIf (cB (e2 qGt (eV 5) (eC (.int 0)))) (jRet (e2 qMod (e2 qMod (eV 5) (eC (.int 1009))) (eV 2))) jNil)
    (jSeq (jAsg (e2 qMod (eV 0) (eC (.int 1000003))) (.nm 6))
    (jRet (e2 qMod (eA m__law_draw_0 (aCons (e2 qMul (e2 qAdd (eV 6) (e2 qMul (eC (.int 977)) (eV 1))) (e2 qAdd (e2 qAdd (eV 6) (e2 qMul (eC (.int 31)) (eV 1))) (eC (.int 5)))) (aCons (e2 qAdd (e2 qMod (eV 1) (eC (.int 9))) (eC (.int 1))) (aCons (eC (.int 999983)) aNil)))) (eV 2)))))))))
def m__law_cell_at_0 : FM := fn 2 ((jSeq (jIf (cB (e2 qLt (eV 1) (eA qLen (aCons (eV 0) aNil)))) (jRet (e2 qIx (eV 0) (eV 1))) jNil)
    (jRet (eC (.int 0)))))
def m__law_next_0 : FM := fn 4 ((jSeq (jSetL (eV 0) (eC (.int 2)) (e2 qAdd (e2 qIx (eV 0) (eC (.int 2))) (eC (.int 1))))
    (jSeq (jAsg (e2 qDiv (e2 qIx (eV 0) (eC (.int 2))) (eC (.int 12))) (.nm 2))
    (jSeq (jAsg (e2 qAdd (eA m__law_cell_at_0 (aCons (e2 qIx (eV 0) (eC (.int 0))) (aCons (e2 qAdd (e2 qIx (eV 0) (eC (.int 1))) (eV 2)) aNil))) (e2 qMul (eC (.int 31)) (eV 2))) (.nm 3))
    (jRet (eA m__law_number_0 (aCons (eV 3) (aCons (e2 qAdd (e2 qMod (e2 qIx (eV 0) (eC (.int 2))) (eC (.int 12))) (eC (.int 1))) (aCons (eV 1) aNil)))))))))
def m__law_pick_0 : FM := fn 2 ((jRet (e2 qIx (eV 1) (eA m__law_next_0 (aCons (eV 0) (aCons (eA qLen (aCons (eV 1) aNil)) aNil))))))
def m__law_job_0 : FM := fn 1 ((jRet (eNewK 0 m_Job___init__ kfJob_2_start_cost (aCons (e2 qIx (eV 0) (eC (.int 0))) (aCons (e2 qIx (eV 0) (eC (.int 1))) aNil)) (aCons (e2 qIx (eV 0) (eC (.int 2))) (aCons (e2 qIx (eV 0) (eC (.int 3))) aNil)))))
def m__law_table_0 : FM := fn 3 ((jSeq (jAsg (eDNew false) (.nm 1))
    (jSeq (jLock (eV 0) (jFor (wDct 0 (eV 0)) (.nm 2) (jDput (eV 1) (eV 2) (eA m__law_job_0 (aCons (e2 qDget (eV 0) (eV 2)) aNil)))))
    (jRet (eNew 1 m_Timetable___init__ (aCons (eV 1) aNil))))))
def m__law_drawn_0 : FM := fn 7 ((jSeq (jPar 2 3 (eDNew false) (eC (.int 1)))
    (jSeq (jFor (wSeq (eSl (eA qLst (aCons (eC (.str [109, 97, 105, 108])) (aCons (eC (.str [98])) (aCons (eC (.str [108, 111, 103])) (aCons (eC (.str [97])) aNil))))) none (some (e2 qAdd (eC (.int 1)) (eA m__law_next_0 (aCons (eV 0) (aCons (eC (.int 4)) aNil))))))) (.nm 4) (jSeq (jAsg (eA m__law_pick_0 (aCons (eV 0) (aCons (eA qLst (aCons (eC (.int 2)) (aCons (eC (.int 3)) (aCons (eC (.int 4)) (aCons (eC (.int 6)) (aCons (eC (.int 8)) (aCons (eC (.int 9)) (aCons (eC (.int 12)) (aCons (e2 qAdd (eC (.int 1)) (eA m__law_next_0 (aCons (eV 0) (aCons (eC (.int 12)) aNil)))) (aCons (eC (.int 4)) (aCons (eC (.int 6)) aNil))))))))))) aNil))) (.nm 5))
    (jSeq (jWhile 1000 (cB (e2 qGt (e2 qMul (eV 3) (eV 5)) (eV 1))) (jSeq (jAsg (eIf (cB (e2 qGt (eV 5) (eC (.int 2)))) (e2 qAdd (eC (.int 1)) (e2 qDiv (eV 5) (eC (.int 2)))) (eC (.int 1))) (.nm 5))
    (jIf (cB (e2 qGt (e2 qMul (eV 3) (eV 5)) (eV 1))) (jAsg (eC (.int 1)) (.nm 5)) jNil)))
    (jSeq (jAsg (e2 qMul (eV 3) (eV 5)) (.nm 3))
    (jSeq (jAsg (e2 qAdd (eC (.int 1)) (eIf (cB (e2 qEq (eA m__law_next_0 (aCons (eV 0) (aCons (eC (.int 3)) aNil))) (eC (.int 0)))) (eA m__law_next_0 (aCons (eV 0) (aCons (eV 5) aNil))) (eC (.int 0)))) (.nm 6))
    (jDput (eV 2) (eV 4) (eA qTup (aCons (eV 5) (aCons (eV 6) (aCons (eA m__law_next_0 (aCons (eV 0) (aCons (eV 5) aNil))) (aCons (e2 qAdd (eC (.int 1)) (eA m__law_next_0 (aCons (eV 0) (aCons (eC (.int 4)) aNil)))) aNil)))))))))))
    (jRet (eV 2)))))
def m__law_row_0 : FM := fn 3 ((jSeq (jTryF 7 2 (jAsg (eA mx_read_timetable (aCons (eNox (eV 0)) aNil)) (.nm 1)))
    (jRet (eIf (cB (e2 qEq (eA m_timetable_text (aCons (eV 1) aNil)) (eV 0))) (e1 qNeg (eC (.int 1))) (e1 qNeg (eC (.int 2)))))))
def m__law_fixed_right_0 : FM := fn 7 ((jSeq (jFor (wTup (eA qTup (aCons (eC .non) (aCons (eC (.int 5)) (aCons (eA qLst aNil) (aCons (eC (.bl false)) aNil)))))) (.nm 0) (jIf (cB (e2 qNe (eA m__law_row_0 (aCons (eV 0) aNil)) (eC (.int 0)))) (jRet (eC (.bl false))) jNil))
    (jSeq (jAsg (eA qLst (aCons (eC (.str [97, 32, 49, 50, 32, 49, 50, 32, 49, 49, 32, 57, 10])) aNil)) (.nm 1))
    (jSeq (jAsg (e2 qAdd (eV 1) (eA qLst (aCons (eC (.str [97, 32, 49, 32, 49, 32, 48, 32, 49, 10, 98, 32, 49, 50, 32, 49, 32, 48, 32, 49, 10, 99, 32, 49, 50, 32, 49, 32, 49, 48, 32, 49, 10, 97, 98, 99, 100, 101, 102, 103, 104, 32, 49, 50, 32, 49, 48, 32, 48, 32, 49, 10])) aNil))) (.nm 1))
    (jSeq (jAsg (e2 qAdd (eV 1) (eA qLst (aCons (eC (.str [97, 32, 49, 48, 32, 49, 48, 32, 57, 32, 49, 10, 98, 32, 56, 32, 49, 32, 48, 32, 49, 10, 99, 32, 53, 32, 49, 32, 48, 32, 49, 10, 100, 32, 53, 32, 49, 32, 48, 32, 49, 10])) aNil))) (.nm 1))
    (jSeq (jFor (wSeq (eV 1)) (.nm 2) (jIf (cB (e2 qNe (eA m__law_row_0 (aCons (eV 2) aNil)) (e1 qNeg (eC (.int 1))))) (jRet (eC (.bl false))) jNil))
    (jSeq (jAsg (eA qLst (aCons (eC (.str [97, 32, 49, 50, 32, 49, 32, 48, 32, 49, 10, 98, 32, 49, 50, 32, 49, 32, 48, 32, 49, 10, 99, 32, 49, 50, 32, 49, 32, 48, 32, 49, 10, 100, 32, 50, 32, 49, 32, 48, 32, 49, 10])) (aCons (e1 qTwice (eC (.str [97, 32, 49, 32, 49, 32, 48, 32, 49, 10]))) aNil))) (.nm 3))
    (jSeq (jDrop (eBmL qAppend (eV 3) (aCons (eSm qJoin (eC (.str [])) (eLc (wStr (eC (.str [97, 98, 99, 100, 101]))) (.nm 6) cYes (e2 qAdd (eV 6) (eC (.str [32, 49, 32, 49, 32, 48, 32, 49, 10]))) [6])) aNil)))
    (jSeq (jFor (wSeq (eV 3)) (.nm 2) (jIf (cB (e2 qNe (eA m__law_row_0 (aCons (eV 2) aNil)) (eC (.int 0)))) (jRet (eC (.bl false))) jNil))
    (jSeq (jAsg (eA qLst (aCons (eA qTup (aCons (eC (.str [])) (aCons (eC (.int 0)) aNil))) (aCons (eA qTup (aCons (eC (.str [97, 32, 52, 32, 50, 32, 48, 32, 49])) (aCons (eC (.int 0)) aNil))) (aCons (eA qTup (aCons (eC (.str [10])) (aCons (eC (.int 0)) aNil))) (aCons (eA qTup (aCons (eC (.str [97, 32, 52, 32, 50, 32, 48, 32, 49, 10, 10])) (aCons (eC (.int 1)) aNil))) aNil))))) (.nm 4))
    (jSeq (jAsg (e2 qAdd (eV 4) (eA qLst (aCons (eA qTup (aCons (eC (.str [97, 32, 52, 32, 50, 32, 48, 32, 49, 10, 97, 32, 52, 32, 50, 32, 48, 32, 49, 10, 98, 10])) (aCons (eC (.int 2)) aNil))) (aCons (eA qTup (aCons (eC (.str [97, 32, 52, 32, 50, 32, 48, 32, 49, 10, 120])) (aCons (eC (.int 1)) aNil))) aNil)))) (.nm 4))
    (jSeq (jFor (wSeq (eV 4)) (.cons (.nm 2) (.cons (.nm 5) .nil)) (jIf (cB (e2 qNe (eA m__law_row_0 (aCons (eV 2) aNil)) (eV 5))) (jRet (eC (.bl false))) jNil))
    (jRet (eC (.bl true)))))))))))))))
def m__law_one_right_5 : FM := fn 9 ((jSeq (jAsg (eA m__law_drawn_0 (aCons (eV 0) (aCons (eC (.int 2000)) aNil))) (.nm 1))
    (jSeq (jLock (eV 1) (jAsg (eLc (wDct 0 (eV 1)) (.nm 7) cYes (e2 qAdd (eSm qJoin (eC (.str [32])) (e2 qAdd (eA qLst (aCons (eV 7) aNil)) (eLc (wTup (e2 qDget (eV 1) (eV 7))) (.nm 8) cYes (eA qStrI (aCons (eV 8) aNil)) [8]))) (eC (.str [10]))) [7]) (.nm 2)))
    (jSeq (jAsg (eSm qJoin (eC (.str [])) (eV 2)) (.nm 3))
    (jSeq (jIf (cOr (cB (e2 qNe (eA m_timetable_text (aCons (eA m__law_table_0 (aCons (eV 1) aNil)) aNil)) (eV 3))) (cNot (cB (e2 (qOwB 1 m_Timetable___eq__) (eA m_read_timetable (aCons (eV 3) aNil)) (eA m__law_table_0 (aCons (eV 1) aNil)))))) (jRet (eC (.bl false))) jNil)
    (jSeq (jAsg (eA qLst (aCons (eC (.str [])) (aCons (eC (.str [122])) (aCons (eC (.str [122, 32, 52])) (aCons (eC (.str [122, 32, 52, 32, 50, 32, 48])) (aCons (eC (.str [122, 32, 52, 32, 50, 32, 48, 32, 49, 32, 49])) (aCons (eC (.str [90, 32, 52, 32, 50, 32, 48, 32, 49])) (aCons (eC (.str [122, 32, 48, 32, 49, 32, 48, 32, 49])) aNil)))))))) (.nm 4))
    (jSeq (jAsg (e2 qAdd (eV 4) (eA qLst (aCons (eC (.str [122, 32, 49, 51, 32, 49, 32, 48, 32, 49])) (aCons (eC (.str [122, 32, 52, 32, 48, 32, 48, 32, 49])) (aCons (eC (.str [122, 32, 52, 32, 53, 32, 48, 32, 49])) (aCons (eC (.str [122, 32, 52, 32, 50, 32, 52, 32, 49])) (aCons (eC (.str [122, 32, 52, 32, 50, 32, 45, 49, 32, 49])) aNil))))))) (.nm 4))
    (jSeq (jAsg (e2 qAdd (eV 4) (eA qLst (aCons (eC (.str [122, 32, 52, 32, 50, 32, 48, 32, 48])) (aCons (eC (.str [122, 32, 52, 32, 50, 32, 48, 32, 49, 48])) (aCons (eC (.str [122, 32, 48, 52, 32, 50, 32, 48, 32, 49])) (aCons (eC (.str [122, 32, 52, 32, 48, 50, 32, 48, 32, 49])) (aCons (eC (.str [122, 32, 52, 32, 50, 32, 48, 48, 32, 49])) aNil))))))) (.nm 4))
    (jSeq (jAsg (e2 qAdd (eV 4) (eA qLst (aCons (eC (.str [122, 32, 52, 32, 50, 32, 48, 32, 48, 49])) aNil))) (.nm 4))
    (jSeq (jAsg (e2 qAdd (eV 4) (eA qLst (aCons (eC (.str [122, 32, 32, 52, 32, 50, 32, 48, 32, 49])) (aCons (eC (.str [32, 122, 32, 52, 32, 50, 32, 48, 32, 49])) (aCons (eC (.str [122, 32, 52, 32, 50, 32, 48, 32, 49, 32])) (aCons (eC (.str [122, 32, 52, 32, 120, 32, 48, 32, 49])) (aCons (eC (.str [52, 32, 50, 32, 48, 32, 49, 32, 122])) aNil))))))) (.nm 4))
    (jSeq (jAsg (e2 qAdd (eV 4) (eA qLst (aCons (eC (.str [97, 98, 99, 100, 101, 102, 103, 104, 105, 32, 52, 32, 50, 32, 48, 32, 49])) (aCons (eC (.str [122, 32, 52, 32, 50, 32, 48, 32, 43, 49])) (aCons (eC (.str [122, 32, 52, 46, 48, 32, 50, 32, 48, 32, 49])) (aCons (eC (.str [122, 32, 57, 57, 57, 57, 57, 32, 49, 32, 48, 32, 49])) aNil)))))) (.nm 4))
    (jSeq (jAsg (e2 qAdd (eV 4) (eA qLst (aCons (eC (.str [122, 49, 32, 52, 32, 50, 32, 48, 32, 49])) aNil))) (.nm 4))
    (jSeq (jPar 5 6 (eA m__law_next_0 (aCons (eV 0) (aCons (e2 qAdd (eA qLen (aCons (eV 2) aNil)) (eC (.int 1))) aNil))) (eA m__law_pick_0 (aCons (eV 0) (aCons (eV 4) aNil))))
    (jSeq (jIf (cB (e2 qNe (eA m__law_row_0 (aCons (eSm qJoin (eC (.str [])) (e2 qAdd (e2 qAdd (eSl (eV 2) none (some (eV 5))) (eA qLst (aCons (e2 qAdd (eV 6) (eC (.str [10]))) aNil))) (eSl (eV 2) (some (eV 5)) none))) aNil)) (eV 5))) (jRet (eC (.bl false))) jNil)
    (jSeq (jIf (cOr (cB (e2 qNe (eA m__law_row_0 (aCons (e2 qAdd (eV 3) (eC (.str [120]))) aNil)) (eA qLen (aCons (eV 2) aNil)))) (cB (e2 qNe (eA m__law_row_0 (aCons (e1 qInitS (eV 3)) aNil)) (e2 qSub (eA qLen (aCons (eV 2) aNil)) (eC (.int 1)))))) (jRet (eC (.bl false))) jNil)
    (jSeq (jIf (cB (e2 qNe (eA m__law_row_0 (aCons (eSm qJoin (eC (.str [])) (e1 qRev (eV 2))) aNil)) (e1 qNeg (eC (.int 1))))) (jRet (eC (.bl false))) jNil)
    (jSeq (jIf (cB (e2 qNe (eA m__law_row_0 (aCons (e2 qAdd (eV 3) (e2 qIx (eV 2) (eA m__law_next_0 (aCons (eV 0) (aCons (eA qLen (aCons (eV 2) aNil)) aNil))))) aNil)) (eC (.int 0)))) (jRet (eC (.bl false))) jNil)
    (jRet (eOr (e2 qLt (eA qLen (aCons (eV 2) aNil)) (eC (.int 2))) (e2 qEq (eA m__law_row_0 (aCons (eSm qJoin (eC (.str [])) (eSl (eV 2) (some (eC (.int 1))) none)) aNil)) (e1 qNeg (eC (.int 1)))))))))))))))))))))))
def m_law_14 : FM := fn 2 ((jSeq (jFor (wRng3 (eC (.int 0)) (eA qMax2 (aCons (eC (.int 1)) (aCons (eA qMin2 (aCons (eC (.int 24)) (aCons (eA qLen (aCons (eV 0) aNil)) aNil))) aNil))) (eC (.int 3))) (.nm 1) (jIf (cNot (cB (eA m__law_one_right_5 (aCons (eA qLst (aCons (eV 0) (aCons (eV 1) (aCons (eC (.int 0)) aNil)))) aNil)))) (jRet (eC (.bl false))) jNil))
    (jRet (eA m__law_fixed_right_0 aNil))))
end KA
set_option autoImplicit true
set_option maxHeartbeats 200000
set_option maxRecDepth 512
set_option linter.all false
/-! M13: the law (printed by gen.py). -/
namespace KA
namespace L13
abbrev m_law : FM := m_law_14
end L13
end KA
set_option autoImplicit false
set_option maxHeartbeats 200000
set_option maxRecDepth 512
set_option Elab.async false
set_option autoImplicit false
set_option linter.all false
set_option maxRecDepth 100000
set_option maxHeartbeats 400000
/-! D13: the derivations (printed by gen.py). -/
namespace KA
namespace L13
open PySem PySem.Spec PyProof.Rows L2
def top (i : Nat) : Stmt := PySem.Challenge.pw_keepapart_k13_whole_texts.main.body.getD i (.Pass ⟨0, 0, 0, 0⟩)
def cBody (s : Stmt) : List Stmt := match s with
  | .ClassDef _ _ _ b _ _ _ _ _ _ _ => b
  | _ => []
def clN : Nat → PySem.Str
  | 0 => "Job"
  | 1 => "Timetable"
  | 2 => "Spread"
  | 3 => "NoSpread"
  | 4 => "Desk"
  | _ => ""
def flN : Nat → PySem.Str
  | 0 => "cycle"
  | 1 => "length"
  | 2 => "begin"
  | 3 => "charge"
  | 4 => "lines"
  | 5 => "shifts"
  | 6 => "reasons"
  | 7 => "meetings"
  | 8 => "timetable"
  | 9 => "past"
  | 10 => "rows"
  | i => ⟨#[i]⟩
def xcN : Nat → PySem.Str
  | 0 => "BadJob"
  | 1 => "BadTimetable"
  | 2 => "BadName"
  | 3 => "BadTime"
  | 4 => "BadShifts"
  | 5 => "BadMeeting"
  | 6 => "NothingDone"
  | 7 => "BadText"
  | _ => ""
def xfN : Nat → PySem.Str
  | 1 => "part"
  | 7 => "row"
  | _ => ""
def Gk (K : PySem.W.Frag) : GC := ⟨K, fun c => He.ga K (clN c), flN, fun c => .ref (He.ga K (xcN c)), [], xfN⟩
theorem flN_big (i : Nat) (h : 11 ≤ i) : flN i = ⟨#[i]⟩ := by
  match i, h with
  | 0, h => exact absurd h (by decide)
  | 1, h => exact absurd h (by decide)
  | 2, h => exact absurd h (by decide)
  | 3, h => exact absurd h (by decide)
  | 4, h => exact absurd h (by decide)
  | 5, h => exact absurd h (by decide)
  | 6, h => exact absurd h (by decide)
  | 7, h => exact absurd h (by decide)
  | 8, h => exact absurd h (by decide)
  | 9, h => exact absurd h (by decide)
  | 10, h => exact absurd h (by decide)
  | i + 11, _ => rfl
theorem flN_small : ∀ i, i < 11 → ∀ j, j < 11 → flN i = flN j → i = j := by decide +kernel
theorem flN_len : ∀ i, i < 11 → (flN i).cps.size ≠ 1 := by decide +kernel
theorem flN_inj : ∀ i j, flN i = flN j → i = j := by
  intro i j e
  by_cases a : i < 11
  · by_cases b : j < 11
    · exact flN_small i a j b e
    · rw [flN_big j (by omega)] at e
      exact absurd (by rw [e]; rfl) (flN_len i a)
  · by_cases b : j < 11
    · rw [flN_big i (by omega)] at e
      exact absurd (by rw [← e]; rfl) (flN_len j b)
    · rw [flN_big i (by omega), flN_big j (by omega)] at e
      injection e with e
      simpa using e
theorem inj {K : PySem.W.Frag} : ∀ i j, (Gk K).fl i = (Gk K).fl j → i = j := flN_inj
theorem nofl {K : PySem.W.Frag} {a : PySem.Str} (h1 : ∀ i, i < 11 → flN i ≠ a) (h2 : a.cps.size ≠ 1) : ∀ i, (Gk K).fl i ≠ a := fun i e => by
  by_cases c : i < 11
  · exact h1 i c e
  · have e' : flN i = a := e
    rw [flN_big i (by omega)] at e'
    exact h2 (by rw [← e']; rfl)
def fa : List He.Fa := [.cls "Timetable", .noat "Timetable" "lines", .cls "Job", .noat "Job" "charge", .noat "Job" "begin", .noat "Job" "length", .noat "Job" "cycle", .meth "Job" "all_parts", .free "str", .glo "Timetable", .free "isinstance", .glo "check_timetable", .glo "timetable_text", .glo "BadText", .free "super", .glo "BadTimetable", .int "MAX_PRODUCT" 2000, .glo "Job", .str "LETTERS" "abcdefghijklmnopqrstuvwxyz", .free "all", .free "len", .int "MAX_NAME" 8, .glo "is_name", .int "MAX_JOBS" 4, .free "dict", .mkr "Timetable", .free "enumerate", .glo "BadJob", .free "bool", .free "int", .glo "is_whole", .int "MAX_COST" 9, .glo "is_integer", .int "MAX_PERIOD" 12, .mkr "Job", .str "DIGITS" "0123456789", .glo "number_in", .glo "job_in", .glo "read_timetable", .glo "_law_row", .glo "_law_fixed_right", .free "min", .free "max", .free "range", .glo "_law_draw", .glo "_law_number", .glo "_law_cell_at", .glo "_law_next", .glo "_law_pick", .glo "_law_job", .glo "_law_table", .free "list", .meth "Timetable" "all_parts", .meth "Job" "__eq__", .meth "Timetable" "__eq__", .glo "_law_drawn", .glo "_law_one_right", .glo "law"]
def st_Job_all_parts : Stmt := (cBody (top 19)).getD 2 (.Pass ⟨0, 0, 0, 0⟩)
def D_Job_all_parts : He.DefD := ⟨("Job", some "all_parts"), "all_parts", "Job.all_parts", defArgs st_Job_all_parts, defBody st_Job_all_parts, defScope st_Job_all_parts, [], []⟩
abbrev N_Job_all_parts : List PySem.Str := ["self"]
abbrev sc_Job_all_parts : Scope := defScope st_Job_all_parts
def st_check_timetable : Stmt := top 29
def D_check_timetable : He.DefD := ⟨("check_timetable", none), "check_timetable", "check_timetable", defArgs st_check_timetable, defBody st_check_timetable, defScope st_check_timetable, [], []⟩
abbrev N_check_timetable : List PySem.Str := ["timetable"]
abbrev sc_check_timetable : Scope := defScope st_check_timetable
def st_timetable_text : Stmt := top 32
def D_timetable_text : He.DefD := ⟨("timetable_text", none), "timetable_text", "timetable_text", defArgs st_timetable_text, defBody st_timetable_text, defScope st_timetable_text, [], []⟩
abbrev N_timetable_text : List PySem.Str := ["timetable", "rows", "name", "job", "row", "one"]
abbrev sc_timetable_text : Scope := defScope st_timetable_text
theorem nd_timetable_text : N_timetable_text.Nodup := by decide +kernel
def st_is_name : Stmt := top 17
def D_is_name : He.DefD := ⟨("is_name", none), "is_name", "is_name", defArgs st_is_name, defBody st_is_name, defScope st_is_name, [], []⟩
abbrev N_is_name : List PySem.Str := ["value", "sign"]
abbrev sc_is_name : Scope := defScope st_is_name
theorem nd_is_name : N_is_name.Nodup := by decide +kernel
def st_Timetable___init__ : Stmt := (cBody (top 22)).getD 0 (.Pass ⟨0, 0, 0, 0⟩)
def D_Timetable___init__ : He.DefD := ⟨("Timetable", some "__init__"), "__init__", "Timetable.__init__", defArgs st_Timetable___init__, defBody st_Timetable___init__, defScope st_Timetable___init__, [], []⟩
abbrev N_Timetable___init__ : List PySem.Str := ["self", "jobs", "name", "job", "product"]
abbrev sc_Timetable___init__ : Scope := defScope st_Timetable___init__
theorem nd_Timetable___init__ : N_Timetable___init__.Nodup := by decide +kernel
def st_is_whole : Stmt := top 15
def D_is_whole : He.DefD := ⟨("is_whole", none), "is_whole", "is_whole", defArgs st_is_whole, defBody st_is_whole, defScope st_is_whole, [], []⟩
abbrev N_is_whole : List PySem.Str := ["value"]
abbrev sc_is_whole : Scope := defScope st_is_whole
def st_is_integer : Stmt := top 16
def D_is_integer : He.DefD := ⟨("is_integer", none), "is_integer", "is_integer", defArgs st_is_integer, defBody st_is_integer, defScope st_is_integer, [], []⟩
abbrev N_is_integer : List PySem.Str := ["value", "low", "high"]
abbrev sc_is_integer : Scope := defScope st_is_integer
def st_Job___init__ : Stmt := (cBody (top 19)).getD 0 (.Pass ⟨0, 0, 0, 0⟩)
def D_Job___init__ : He.DefD := ⟨("Job", some "__init__"), "__init__", "Job.__init__", defArgs st_Job___init__, defBody st_Job___init__, defScope st_Job___init__, [.int 1], [("start", .int 0), ("cost", .int 1)]⟩
abbrev N_Job___init__ : List PySem.Str := ["self", "period", "duration", "start", "cost"]
abbrev sc_Job___init__ : Scope := defScope st_Job___init__
def st_number_in : Stmt := top 33
def D_number_in : He.DefD := ⟨("number_in", none), "number_in", "number_in", defArgs st_number_in, defBody st_number_in, defScope st_number_in, [], []⟩
abbrev N_number_in : List PySem.Str := ["word", "sign"]
abbrev sc_number_in : Scope := defScope st_number_in
theorem nd_number_in : N_number_in.Nodup := by decide +kernel
def st_job_in : Stmt := top 34
def D_job_in : He.DefD := ⟨("job_in", none), "job_in", "job_in", defArgs st_job_in, defBody st_job_in, defScope st_job_in, [], []⟩
abbrev N_job_in : List PySem.Str := ["words", "numbers", "found", "word"]
abbrev sc_job_in : Scope := defScope st_job_in
theorem nd_job_in : N_job_in.Nodup := by decide +kernel
def st_read_timetable : Stmt := top 35
def D_read_timetable : He.DefD := ⟨("read_timetable", none), "read_timetable", "read_timetable", defArgs st_read_timetable, defBody st_read_timetable, defScope st_read_timetable, [], []⟩
abbrev N_read_timetable : List PySem.Str := ["text", "lines", "rest", "found", "index", "line", "item", "timetable"]
abbrev sc_read_timetable : Scope := defScope st_read_timetable
theorem nd_read_timetable : N_read_timetable.Nodup := by decide +kernel
def st__law_row : Stmt := top 45
def D__law_row : He.DefD := ⟨("_law_row", none), "_law_row", "_law_row", defArgs st__law_row, defBody st__law_row, defScope st__law_row, [], []⟩
abbrev N__law_row : List PySem.Str := ["_law_text", "_law_found", "error"]
abbrev sc__law_row : Scope := defScope st__law_row
theorem nd__law_row : N__law_row.Nodup := by decide +kernel
def st__law_fixed_right : Stmt := top 47
def D__law_fixed_right : He.DefD := ⟨("_law_fixed_right", none), "_law_fixed_right", "_law_fixed_right", defArgs st__law_fixed_right, defBody st__law_fixed_right, defScope st__law_fixed_right, [], []⟩
abbrev N__law_fixed_right : List PySem.Str := ["_law_thing", "_law_cases", "_law_text", "_law_some", "_law_rows", "_law_due", "_law_name"]
abbrev sc__law_fixed_right : Scope := defScope st__law_fixed_right
theorem nd__law_fixed_right : N__law_fixed_right.Nodup := by decide +kernel
def st__law_draw : Stmt := top 38
def D__law_draw : He.DefD := ⟨("_law_draw", none), "_law_draw", "_law_draw", defArgs st__law_draw, defBody st__law_draw, defScope st__law_draw, [], []⟩
abbrev N__law_draw : List PySem.Str := ["_law_cell", "_law_k", "_law_below", "_law_primes"]
abbrev sc__law_draw : Scope := defScope st__law_draw
theorem nd__law_draw : N__law_draw.Nodup := by decide +kernel
def st__law_number : Stmt := top 39
def D__law_number : He.DefD := ⟨("_law_number", none), "_law_number", "_law_number", defArgs st__law_number, defBody st__law_number, defScope st__law_number, [], []⟩
abbrev N__law_number : List PySem.Str := ["_law_cell", "_law_k", "_law_below", "_law_power", "_law_times", "_law_remains", "_law_small"]
abbrev sc__law_number : Scope := defScope st__law_number
theorem nd__law_number : N__law_number.Nodup := by decide +kernel
def st__law_cell_at : Stmt := top 37
def D__law_cell_at : He.DefD := ⟨("_law_cell_at", none), "_law_cell_at", "_law_cell_at", defArgs st__law_cell_at, defBody st__law_cell_at, defScope st__law_cell_at, [], []⟩
abbrev N__law_cell_at : List PySem.Str := ["_law_script", "_law_k"]
abbrev sc__law_cell_at : Scope := defScope st__law_cell_at
def st__law_next : Stmt := top 40
def D__law_next : He.DefD := ⟨("_law_next", none), "_law_next", "_law_next", defArgs st__law_next, defBody st__law_next, defScope st__law_next, [], []⟩
abbrev N__law_next : List PySem.Str := ["_law_state", "_law_below", "_law_at", "_law_cell"]
abbrev sc__law_next : Scope := defScope st__law_next
theorem nd__law_next : N__law_next.Nodup := by decide +kernel
def st__law_pick : Stmt := top 41
def D__law_pick : He.DefD := ⟨("_law_pick", none), "_law_pick", "_law_pick", defArgs st__law_pick, defBody st__law_pick, defScope st__law_pick, [], []⟩
abbrev N__law_pick : List PySem.Str := ["_law_state", "_law_things"]
abbrev sc__law_pick : Scope := defScope st__law_pick
def st__law_job : Stmt := top 43
def D__law_job : He.DefD := ⟨("_law_job", none), "_law_job", "_law_job", defArgs st__law_job, defBody st__law_job, defScope st__law_job, [], []⟩
abbrev N__law_job : List PySem.Str := ["_law_row_here"]
abbrev sc__law_job : Scope := defScope st__law_job
def st__law_table : Stmt := top 44
def D__law_table : He.DefD := ⟨("_law_table", none), "_law_table", "_law_table", defArgs st__law_table, defBody st__law_table, defScope st__law_table, [], []⟩
abbrev N__law_table : List PySem.Str := ["_law_drawn_here", "_law_rows", "_law_name"]
abbrev sc__law_table : Scope := defScope st__law_table
theorem nd__law_table : N__law_table.Nodup := by decide +kernel
def st_Timetable_all_parts : Stmt := (cBody (top 22)).getD 2 (.Pass ⟨0, 0, 0, 0⟩)
def D_Timetable_all_parts : He.DefD := ⟨("Timetable", some "all_parts"), "all_parts", "Timetable.all_parts", defArgs st_Timetable_all_parts, defBody st_Timetable_all_parts, defScope st_Timetable_all_parts, [], []⟩
abbrev N_Timetable_all_parts : List PySem.Str := ["self"]
abbrev sc_Timetable_all_parts : Scope := defScope st_Timetable_all_parts
def st_Job___eq__ : Stmt := (cBody (top 19)).getD 1 (.Pass ⟨0, 0, 0, 0⟩)
def D_Job___eq__ : He.DefD := ⟨("Job", some "__eq__"), "__eq__", "Job.__eq__", defArgs st_Job___eq__, defBody st_Job___eq__, defScope st_Job___eq__, [], []⟩
abbrev N_Job___eq__ : List PySem.Str := ["self", "other"]
abbrev sc_Job___eq__ : Scope := defScope st_Job___eq__
def st_Timetable___eq__ : Stmt := (cBody (top 22)).getD 1 (.Pass ⟨0, 0, 0, 0⟩)
def D_Timetable___eq__ : He.DefD := ⟨("Timetable", some "__eq__"), "__eq__", "Timetable.__eq__", defArgs st_Timetable___eq__, defBody st_Timetable___eq__, defScope st_Timetable___eq__, [], []⟩
abbrev N_Timetable___eq__ : List PySem.Str := ["self", "other"]
abbrev sc_Timetable___eq__ : Scope := defScope st_Timetable___eq__
def st__law_drawn : Stmt := top 42
def D__law_drawn : He.DefD := ⟨("_law_drawn", none), "_law_drawn", "_law_drawn", defArgs st__law_drawn, defBody st__law_drawn, defScope st__law_drawn, [], []⟩
abbrev N__law_drawn : List PySem.Str := ["_law_state", "_law_most", "_law_rows", "_law_product", "_law_name", "_law_period", "_law_length"]
abbrev sc__law_drawn : Scope := defScope st__law_drawn
theorem nd__law_drawn : N__law_drawn.Nodup := by decide +kernel
def st__law_one_right : Stmt := top 46
def D__law_one_right : He.DefD := ⟨("_law_one_right", none), "_law_one_right", "_law_one_right", defArgs st__law_one_right, defBody st__law_one_right, defScope st__law_one_right, [], []⟩
abbrev N__law_one_right : List PySem.Str := ["_law_state", "_law_drawn_here", "_law_lines", "_law_text", "_law_odd", "_law_at", "_law_wrong", "_law_name", "_law_number_here"]
abbrev sc__law_one_right : Scope := defScope st__law_one_right
theorem nd__law_one_right : N__law_one_right.Nodup := by decide +kernel
def st_law : Stmt := top 48
def D_law : He.DefD := ⟨("law", none), "law", "law", defArgs st_law, defBody st_law, defScope st_law, [], []⟩
abbrev N_law : List PySem.Str := ["_law_script", "_law_by"]
abbrev sc_law : Scope := defScope st_law
theorem nd_law : N_law.Nodup := by decide +kernel
def st_BadText___init__ : Stmt := (cBody (top 7)).getD 0 (.Pass ⟨0, 0, 0, 0⟩)
def D_BadText___init__ : He.DefD := ⟨("BadText", some "__init__"), "__init__", "BadText.__init__", defArgs st_BadText___init__, defBody st_BadText___init__, defScope st_BadText___init__, [], []⟩
abbrev sc_BadText___init__ : Scope := defScope st_BadText___init__
def st_BadTimetable___init__ : Stmt := (cBody (top 4)).getD 0 (.Pass ⟨0, 0, 0, 0⟩)
def D_BadTimetable___init__ : He.DefD := ⟨("BadTimetable", some "__init__"), "__init__", "BadTimetable.__init__", defArgs st_BadTimetable___init__, defBody st_BadTimetable___init__, defScope st_BadTimetable___init__, [], []⟩
abbrev sc_BadTimetable___init__ : Scope := defScope st_BadTimetable___init__
def fnl : List He.DefD := [D_Job_all_parts, D_check_timetable, D_timetable_text, D_is_name, D_Timetable___init__, D_is_whole, D_is_integer, D_Job___init__, D_number_in, D_job_in, D_read_timetable, D__law_row, D__law_fixed_right, D__law_draw, D__law_number, D__law_cell_at, D__law_next, D__law_pick, D__law_job, D__law_table, D_Timetable_all_parts, D_Job___eq__, D_Timetable___eq__, D__law_drawn, D__law_one_right, D_law]
def gtl : List He.DefD := [D_BadText___init__, D_BadTimetable___init__]
def exs : List (PySem.W.Frag → Bool) := [fun K => insB K (He.ga K "Job"), fun K => insB K (He.ga K "Timetable"), fun K => isiB (Gk K) 12 11 (.ref (He.ga K "Timetable")), fun K => isiB (Gk K) 12 10 (.ref (He.ga K "Job")), fun K => isiB (Gk K) 12 3 (.type "str"), fun K => isiB (Gk K) 12 6 (.type "dict"), fun K => isiB (Gk K) 12 1 (.type "bool"), fun K => isiB (Gk K) 12 2 (.type "int"), fun K => payB K (He.ga K "BadText") (He.ma K (He.ga K "BadText") "__init__") "row", fun K => payB K (He.ga K "BadTimetable") (He.ma K (He.ga K "BadTimetable") "__init__") "part", fun K => plcB K (He.ga K "BadJob"), fun K => decide (PySem.W.exmOne K (.ref (He.ga K "BadJob")) (.ref (He.ga K "BadJob")) = some true)]
def ex (K : PySem.W.Frag) : Bool := exs.all fun p => p K
abbrev E (P : Program) (K : PySem.W.Frag) (mg : PySem.Str → Option Value) : Prop := EnvPX fa fnl gtl ex P K mg
section
variable {P : Program} {w : World} {K : PySem.W.Frag} {mg : PySem.Str → Option Value} {base : Heap}
theorem ex_at (e : E P K mg) (i : Nat) {p : PySem.W.Frag → Bool} (h : exs[i]? = some p) : p K = true := List.all_eq_true.mp e.e p (List.mem_of_getElem? h)
theorem c_Timetable (e : E P K mg) : Cls (Gk K).K ((Gk K).cl 1) := e.cls (x := "Timetable") 0 rfl
theorem n_Timetable_lines (e : E P K mg) : NoAttr (Gk K).K ((Gk K).cl 1) ((Gk K).fl 4) := e.noat (x := "Timetable") (f := "lines") 1 rfl
theorem c_Job (e : E P K mg) : Cls (Gk K).K ((Gk K).cl 0) := e.cls (x := "Job") 2 rfl
theorem n_Job_charge (e : E P K mg) : NoAttr (Gk K).K ((Gk K).cl 0) ((Gk K).fl 3) := e.noat (x := "Job") (f := "charge") 3 rfl
theorem n_Job_begin (e : E P K mg) : NoAttr (Gk K).K ((Gk K).cl 0) ((Gk K).fl 2) := e.noat (x := "Job") (f := "begin") 4 rfl
theorem n_Job_length (e : E P K mg) : NoAttr (Gk K).K ((Gk K).cl 0) ((Gk K).fl 1) := e.noat (x := "Job") (f := "length") 5 rfl
theorem n_Job_cycle (e : E P K mg) : NoAttr (Gk K).K ((Gk K).cl 0) ((Gk K).fl 0) := e.noat (x := "Job") (f := "cycle") 6 rfl
theorem me_Job_all_parts (e : E P K mg) : Meth (Gk K).K ((Gk K).cl 0) "all_parts" (He.ma K (He.ga K "Job") "all_parts") := e.meth (x := "Job") (m := "all_parts") 7 rfl
theorem g_str (e : E P K mg) : mg "str" = none := e.free 8 rfl
theorem g_Timetable (e : E P K mg) : mg "Timetable" = some (.ref (He.ga K "Timetable")) := e.glo 9 rfl
theorem g_isinstance (e : E P K mg) : mg "isinstance" = none := e.free 10 rfl
theorem g_check_timetable (e : E P K mg) : mg "check_timetable" = some (.ref (He.ga K "check_timetable")) := e.glo 11 rfl
theorem g_timetable_text (e : E P K mg) : mg "timetable_text" = some (.ref (He.ga K "timetable_text")) := e.glo 12 rfl
theorem g_BadText (e : E P K mg) : mg "BadText" = some (.ref (He.ga K "BadText")) := e.glo 13 rfl
theorem g_super (e : E P K mg) : mg "super" = none := e.free 14 rfl
theorem g_BadTimetable (e : E P K mg) : mg "BadTimetable" = some (.ref (He.ga K "BadTimetable")) := e.glo 15 rfl
theorem g_MAX_PRODUCT (e : E P K mg) : ∃ t, mg "MAX_PRODUCT" = some (.int 2000 t) := e.int 16 rfl
theorem g_Job (e : E P K mg) : mg "Job" = some (.ref (He.ga K "Job")) := e.glo 17 rfl
theorem g_LETTERS (e : E P K mg) : ∃ t, mg "LETTERS" = some (.str ⟨([97, 98, 99, 100, 101, 102, 103, 104, 105, 106, 107, 108, 109, 110, 111, 112, 113, 114, 115, 116, 117, 118, 119, 120, 121, 122] : List Nat).toArray⟩ t) := (show ("abcdefghijklmnopqrstuvwxyz" : PySem.Str) = ⟨([97, 98, 99, 100, 101, 102, 103, 104, 105, 106, 107, 108, 109, 110, 111, 112, 113, 114, 115, 116, 117, 118, 119, 120, 121, 122] : List Nat).toArray⟩ by decide +kernel) ▸ e.str 18 rfl
theorem g_all (e : E P K mg) : mg "all" = none := e.free 19 rfl
theorem g_len (e : E P K mg) : mg "len" = none := e.free 20 rfl
theorem g_MAX_NAME (e : E P K mg) : ∃ t, mg "MAX_NAME" = some (.int 8 t) := e.int 21 rfl
theorem g_is_name (e : E P K mg) : mg "is_name" = some (.ref (He.ga K "is_name")) := e.glo 22 rfl
theorem g_MAX_JOBS (e : E P K mg) : ∃ t, mg "MAX_JOBS" = some (.int 4 t) := e.int 23 rfl
theorem g_dict (e : E P K mg) : mg "dict" = none := e.free 24 rfl
theorem k_Timetable (e : E P K mg) : Mk (Gk K).K ((Gk K).cl 1) (He.ma K (He.ga K "Timetable") "__init__") := e.mkr (x := "Timetable") 25 rfl
theorem g_enumerate (e : E P K mg) : mg "enumerate" = none := e.free 26 rfl
theorem g_BadJob (e : E P K mg) : mg "BadJob" = some (.ref (He.ga K "BadJob")) := e.glo 27 rfl
theorem g_bool (e : E P K mg) : mg "bool" = none := e.free 28 rfl
theorem g_int (e : E P K mg) : mg "int" = none := e.free 29 rfl
theorem g_is_whole (e : E P K mg) : mg "is_whole" = some (.ref (He.ga K "is_whole")) := e.glo 30 rfl
theorem g_MAX_COST (e : E P K mg) : ∃ t, mg "MAX_COST" = some (.int 9 t) := e.int 31 rfl
theorem g_is_integer (e : E P K mg) : mg "is_integer" = some (.ref (He.ga K "is_integer")) := e.glo 32 rfl
theorem g_MAX_PERIOD (e : E P K mg) : ∃ t, mg "MAX_PERIOD" = some (.int 12 t) := e.int 33 rfl
theorem k_Job (e : E P K mg) : Mk (Gk K).K ((Gk K).cl 0) (He.ma K (He.ga K "Job") "__init__") := e.mkr (x := "Job") 34 rfl
theorem g_DIGITS (e : E P K mg) : ∃ t, mg "DIGITS" = some (.str ⟨([48, 49, 50, 51, 52, 53, 54, 55, 56, 57] : List Nat).toArray⟩ t) := (show ("0123456789" : PySem.Str) = ⟨([48, 49, 50, 51, 52, 53, 54, 55, 56, 57] : List Nat).toArray⟩ by decide +kernel) ▸ e.str 35 rfl
theorem g_number_in (e : E P K mg) : mg "number_in" = some (.ref (He.ga K "number_in")) := e.glo 36 rfl
theorem g_job_in (e : E P K mg) : mg "job_in" = some (.ref (He.ga K "job_in")) := e.glo 37 rfl
theorem g_read_timetable (e : E P K mg) : mg "read_timetable" = some (.ref (He.ga K "read_timetable")) := e.glo 38 rfl
theorem g__law_row (e : E P K mg) : mg "_law_row" = some (.ref (He.ga K "_law_row")) := e.glo 39 rfl
theorem g__law_fixed_right (e : E P K mg) : mg "_law_fixed_right" = some (.ref (He.ga K "_law_fixed_right")) := e.glo 40 rfl
theorem g_min (e : E P K mg) : mg "min" = none := e.free 41 rfl
theorem g_max (e : E P K mg) : mg "max" = none := e.free 42 rfl
theorem g_range (e : E P K mg) : mg "range" = none := e.free 43 rfl
theorem g__law_draw (e : E P K mg) : mg "_law_draw" = some (.ref (He.ga K "_law_draw")) := e.glo 44 rfl
theorem g__law_number (e : E P K mg) : mg "_law_number" = some (.ref (He.ga K "_law_number")) := e.glo 45 rfl
theorem g__law_cell_at (e : E P K mg) : mg "_law_cell_at" = some (.ref (He.ga K "_law_cell_at")) := e.glo 46 rfl
theorem g__law_next (e : E P K mg) : mg "_law_next" = some (.ref (He.ga K "_law_next")) := e.glo 47 rfl
theorem g__law_pick (e : E P K mg) : mg "_law_pick" = some (.ref (He.ga K "_law_pick")) := e.glo 48 rfl
theorem g__law_job (e : E P K mg) : mg "_law_job" = some (.ref (He.ga K "_law_job")) := e.glo 49 rfl
theorem g__law_table (e : E P K mg) : mg "_law_table" = some (.ref (He.ga K "_law_table")) := e.glo 50 rfl
theorem g_list (e : E P K mg) : mg "list" = none := e.free 51 rfl
theorem me_Timetable_all_parts (e : E P K mg) : Meth (Gk K).K ((Gk K).cl 1) "all_parts" (He.ma K (He.ga K "Timetable") "all_parts") := e.meth (x := "Timetable") (m := "all_parts") 52 rfl
theorem me_Job___eq__ (e : E P K mg) : Meth (Gk K).K ((Gk K).cl 0) "__eq__" (He.ma K (He.ga K "Job") "__eq__") := e.meth (x := "Job") (m := "__eq__") 53 rfl
theorem me_Timetable___eq__ (e : E P K mg) : Meth (Gk K).K ((Gk K).cl 1) "__eq__" (He.ma K (He.ga K "Timetable") "__eq__") := e.meth (x := "Timetable") (m := "__eq__") 54 rfl
theorem g__law_drawn (e : E P K mg) : mg "_law_drawn" = some (.ref (He.ga K "_law_drawn")) := e.glo 55 rfl
theorem g__law_one_right (e : E P K mg) : mg "_law_one_right" = some (.ref (He.ga K "_law_one_right")) := e.glo 56 rfl
theorem s_Job (e : E P K mg) : InsOk (Gk K).K ((Gk K).cl 0) := insB_ok (c_Job e) (ex_at e 0 (p := fun K => insB K (He.ga K "Job")) rfl)
theorem s_Timetable (e : E P K mg) : InsOk (Gk K).K ((Gk K).cl 1) := insB_ok (c_Timetable e) (ex_at e 1 (p := fun K => insB K (He.ga K "Timetable")) rfl)
theorem ins_all (e : E P K mg) : ∀ c, c + 10 < 12 → InsOk (Gk K).K ((Gk K).cl c) := fun c h => by
  match c, h with
  | 0, _ => exact s_Job e
  | 1, _ => exact s_Timetable e
  | c + 2, h => exact absurd h (by omega)
theorem y_Timetable (e : E P K mg) : IsiOk (Gk K) 12 11 (.ref (He.ga K "Timetable")) := isiB_ok (ins_all e) (ex_at e 2 (p := fun K => isiB (Gk K) 12 11 (.ref (He.ga K "Timetable"))) rfl)
theorem y_Job (e : E P K mg) : IsiOk (Gk K) 12 10 (.ref (He.ga K "Job")) := isiB_ok (ins_all e) (ex_at e 3 (p := fun K => isiB (Gk K) 12 10 (.ref (He.ga K "Job"))) rfl)
theorem y_str (e : E P K mg) : IsiOk (Gk K) 12 3 (.type "str") := isiB_ok (ins_all e) (ex_at e 4 (p := fun K => isiB (Gk K) 12 3 (.type "str")) rfl)
theorem y_dict (e : E P K mg) : IsiOk (Gk K) 12 6 (.type "dict") := isiB_ok (ins_all e) (ex_at e 5 (p := fun K => isiB (Gk K) 12 6 (.type "dict")) rfl)
theorem y_bool (e : E P K mg) : IsiOk (Gk K) 12 1 (.type "bool") := isiB_ok (ins_all e) (ex_at e 6 (p := fun K => isiB (Gk K) 12 1 (.type "bool")) rfl)
theorem y_int (e : E P K mg) : IsiOk (Gk K) 12 2 (.type "int") := isiB_ok (ins_all e) (ex_at e 7 (p := fun K => isiB (Gk K) 12 2 (.type "int")) rfl)
theorem pay_BadText (e : E P K mg) : PayC (Gk K).K (He.ga K "BadText") (He.ma K (He.ga K "BadText") "__init__") "row" := payB_ok (ex_at e 8 (p := fun K => payB K (He.ga K "BadText") (He.ma K (He.ga K "BadText") "__init__") "row") rfl)
theorem pay_BadTimetable (e : E P K mg) : PayC (Gk K).K (He.ga K "BadTimetable") (He.ma K (He.ga K "BadTimetable") "__init__") "part" := payB_ok (ex_at e 9 (p := fun K => payB K (He.ga K "BadTimetable") (He.ma K (He.ga K "BadTimetable") "__init__") "part") rfl)
theorem plc_BadJob (e : E P K mg) : PlC (Gk K).K (He.ga K "BadJob") := plcB_ok (ex_at e 10 (p := fun K => plcB K (He.ga K "BadJob")) rfl)
theorem exm_BadJob (e : E P K mg) : PySem.W.exmOne (Gk K).K (.ref (He.ga K "BadJob")) (.ref (He.ga K "BadJob")) = some true := of_decide_eq_true (ex_at e 11 (p := fun K => decide (PySem.W.exmOne K (.ref (He.ga K "BadJob")) (.ref (He.ga K "BadJob")) = some true)) rfl)
theorem nf_all_parts {K : PySem.W.Frag} : ∀ i, (Gk K).fl i ≠ ("all_parts" : PySem.Str) := nofl (by decide +kernel) (by decide +kernel)
theorem d_BadText___init__ (e : E P K mg) : ∃ fd, FnOk P w K mg base CX0 1 (He.ma K (He.ga K "BadText") "__init__") fd ["self", "row"] (spSup K (He.ga K "BadText") "row" LineV) ∧ Binds K fd ["self", "row"] [] := by
  obtain ⟨fd, F⟩ := e.maker 0 (d := D_BadText___init__) rfl rfl rfl
  have F : FunS K "__init__" "BadText.__init__" (defArgs st_BadText___init__) (defBody st_BadText___init__) sc_BadText___init__ (He.ga K "BadText") (He.ma K (He.ga K "BadText") "__init__") fd := F
  exact ⟨fd, mk_sup F (pay_BadText e) ⟨rfl, by decide, rfl, rfl, rfl, rfl, by decide +kernel, by decide +kernel, rfl, rfl⟩ rfl rfl e.pf e.pt (g_super e) (fun _ _ _ _ _ _ _ us hl => match us, hl with | [_, _], _ => rfl) (fun _ _ _ _ _ _ _ _ => pe_row (g_str e) rfl rfl) (fun _ _ _ _ r k => row_ok (by decide) _ _ _ _ r k)⟩
theorem dH_BadText___init__ (e : E P K mg) : ∃ fd, L2H.FnH P w K mg base CX0 1 (He.ma K (He.ga K "BadText") "__init__") fd ["self", "row"] (spSup K (He.ga K "BadText") "row" LineV) ∧ Binds K fd ["self", "row"] [] := by
  obtain ⟨fd, F⟩ := e.maker 0 (d := D_BadText___init__) rfl rfl rfl
  have F : FunS K "__init__" "BadText.__init__" (defArgs st_BadText___init__) (defBody st_BadText___init__) sc_BadText___init__ (He.ga K "BadText") (He.ma K (He.ga K "BadText") "__init__") fd := F
  exact ⟨fd, mk_supH F (pay_BadText e) ⟨rfl, by decide, rfl, rfl, rfl, rfl, by decide +kernel, by decide +kernel, rfl, rfl⟩ rfl rfl e.pf e.pt (g_super e) (fun _ _ _ _ _ _ _ us hl => match us, hl with | [_, _], _ => rfl) (fun _ _ _ _ _ _ _ _ _ => pe_row (g_str e) rfl rfl) (fun _ _ _ _ r k => row_ok (by decide) _ _ _ _ r k)⟩
theorem d_BadTimetable___init__ (e : E P K mg) : ∃ fd, FnOk P w K mg base CX0 1 (He.ma K (He.ga K "BadTimetable") "__init__") fd ["self", "part"] (spSup K (He.ga K "BadTimetable") "part" (fun _ => True)) ∧ Binds K fd ["self", "part"] [] := by
  obtain ⟨fd, F⟩ := e.maker 1 (d := D_BadTimetable___init__) rfl rfl rfl
  have F : FunS K "__init__" "BadTimetable.__init__" (defArgs st_BadTimetable___init__) (defBody st_BadTimetable___init__) sc_BadTimetable___init__ (He.ga K "BadTimetable") (He.ma K (He.ga K "BadTimetable") "__init__") fd := F
  exact ⟨fd, mk_sup F (pay_BadTimetable e) ⟨rfl, by decide, rfl, rfl, rfl, rfl, by decide +kernel, by decide +kernel, rfl, rfl⟩ rfl rfl e.pf e.pt (g_super e) (fun _ _ _ _ _ _ _ us hl => match us, hl with | [_, _], _ => rfl) (fun _ _ _ _ _ _ _ _ => pe_str) (fun _ _ _ _ _ k => k _)⟩
theorem f_Job_all_parts (e : E P K mg) : ∃ fd, FunD K "all_parts" "Job.all_parts" (defArgs st_Job_all_parts) (defBody st_Job_all_parts) sc_Job_all_parts ((D_Job_all_parts).dvs K) ((D_Job_all_parts).kws K) (He.ma K (He.ga K "Job") "all_parts") fd := e.c.def_ 0 (d := D_Job_all_parts) rfl
theorem d_Job_all_parts (e : E P K mg) : Dn P w K mg base (Gk K) (He.ma K (He.ga K "Job") "all_parts") 1 ["self"] 1 m_Job_all_parts := by
  obtain ⟨fd, F⟩ := f_Job_all_parts e
  exact dn_of (N := N_Job_all_parts) F ⟨rfl, rfl, rfl, by decide +kernel, rfl, by decide +kernel, by decide +kernel⟩ rfl rfl (FunD.bindsN F fun _ _ _ _ _ _ us hl => match us, hl with | [_], _ => rfl) fun cdv A outer s H E hr =>
    (js_one (s_ret (x_lst (a_cons (x_fld (inj := inj) (c := 0) (f := 0) rfl (c_Job e) (n_Job_cycle e) (m_var 0)) (a_cons (x_fld (inj := inj) (c := 0) (f := 1) rfl (c_Job e) (n_Job_length e) (m_var 0)) (a_cons (x_fld (inj := inj) (c := 0) (f := 2) rfl (c_Job e) (n_Job_begin e) (m_var 0)) (a_cons (x_fld (inj := inj) (c := 0) (f := 3) rfl (c_Job e) (n_Job_charge e) (m_var 0)) a_nil)))))))
theorem f_check_timetable (e : E P K mg) : ∃ fd, FunD K "check_timetable" "check_timetable" (defArgs st_check_timetable) (defBody st_check_timetable) sc_check_timetable ((D_check_timetable).dvs K) ((D_check_timetable).kws K) (He.ga K "check_timetable") fd := e.c.def_ 1 (d := D_check_timetable) rfl
theorem d_check_timetable (e : E P K mg) : Dn P w K mg base (Gk K) (He.ga K "check_timetable") 1 ["timetable"] 1 m_check_timetable := by
  obtain ⟨fd, F⟩ := f_check_timetable e
  exact dn_of (N := N_check_timetable) F ⟨rfl, rfl, rfl, by decide +kernel, rfl, by decide +kernel, by decide +kernel⟩ rfl rfl (FunD.bindsN F fun _ _ _ _ _ _ us hl => match us, hl with | [_], _ => rfl) fun cdv A outer s H E hr =>
    (js_one (s_if (t_not (t_val (x_isi rfl (y_Timetable e) (.own _) (g_isinstance e) (m_var 0) (x_cls (g_Timetable e))))) (js_one js_bad) js_nil))
theorem f_timetable_text (e : E P K mg) : ∃ fd, FunD K "timetable_text" "timetable_text" (defArgs st_timetable_text) (defBody st_timetable_text) sc_timetable_text ((D_timetable_text).dvs K) ((D_timetable_text).kws K) (He.ga K "timetable_text") fd := e.c.def_ 2 (d := D_timetable_text) rfl
theorem d_timetable_text (e : E P K mg) : Dn P w K mg base (Gk K) (He.ga K "timetable_text") 2 ["timetable"] 1 m_timetable_text := by
  obtain ⟨fd, F⟩ := f_timetable_text e
  exact dn_of (N := N_timetable_text) F ⟨rfl, rfl, rfl, by decide +kernel, rfl, by decide +kernel, by decide +kernel⟩ rfl rfl (FunD.bindsN F fun _ _ _ _ _ _ us hl => match us, hl with | [_], _ => rfl) fun cdv A outer s H E hr =>
    (js_cons (s_expr (x_call (d_check_timetable e) (hr.mono (by decide)) (g_check_timetable e) (len_cons len_nil) (a_cons (m_var 0) a_nil)))
    (js_cons (s_lock (lk_fld (inj := inj) (lk_var 0)) (js_setLc (by decide) (ps_setLc (i := 1) (own := [("name", 2), ("job", 3)]) rfl nd_timetable_text rfl rfl (sw_true rfl rfl rfl (by decide +kernel)) (i_items (x_fld (inj := inj) (c := 1) (f := 4) rfl (c_Timetable e) (n_Timetable_lines e) (m_var 0))) (blkOk_by (N := N_timetable_text) (sc := sc_timetable_text) (by decide +kernel)) (fun _ _ _ _ _ => (g_tup rfl (gs_cons (g_nm nd_timetable_text (by first | exact Or.inl rfl | exact Or.inr rfl)) (gs_cons (g_nm nd_timetable_text (by first | exact Or.inl rfl | exact Or.inr rfl)) gs_nil)))) (fun _ _ _ _ _ => kts_nil) (fun _ _ _ _ _ => (x_lst (a_cons (m_var 2) (a_starL (k_lc (by decide) (pe_lc (own := [("one", 5)]) rfl nd_timetable_text (i_seq (x_meth0 (c := 0) (d_Job_all_parts e) (hr.mono (by decide)) (c_Job e) (me_Job_all_parts e) nf_all_parts rfl (m_var 3))) (show BlkOk N_timetable_text (relS _ sc_timetable_text) _ _ from blkOk_by (by decide +kernel)) (fun _ _ _ _ _ => (g_nm nd_timetable_text (by first | exact Or.inl rfl | exact Or.inr rfl))) (fun _ _ _ _ _ => kts_nil) (fun _ _ _ _ _ => (x_bty call_str_int c_strI (g_str e) (by decide +kernel) (a_cons (m_var 5) a_nil))))) a_nil)))))))
    (js_one (s_ret (x_join (m_str []) (k_lc (by decide) (pe_lc (own := [("row", 4)]) rfl nd_timetable_text (i_seq (m_var 1)) (blkOk_by (N := N_timetable_text) (sc := sc_timetable_text) (by decide +kernel)) (fun _ _ _ _ _ => (g_nm nd_timetable_text (by first | exact Or.inl rfl | exact Or.inr rfl))) (fun _ _ _ _ _ => kts_nil) (fun _ _ _ _ _ => (x_add (x_join (m_str [32]) (m_var 4)) (m_str [10]))))))))))
theorem f_is_name (e : E P K mg) : ∃ fd, FunD K "is_name" "is_name" (defArgs st_is_name) (defBody st_is_name) sc_is_name ((D_is_name).dvs K) ((D_is_name).kws K) (He.ga K "is_name") fd := e.c.def_ 3 (d := D_is_name) rfl
theorem d_is_name (e : E P K mg) : Dn P w K mg base (Gk K) (He.ga K "is_name") 1 ["value"] 1 m_is_name := by
  obtain ⟨fd, F⟩ := f_is_name e
  exact dn_of (N := N_is_name) F ⟨rfl, rfl, rfl, by decide +kernel, rfl, by decide +kernel, by decide +kernel⟩ rfl rfl (FunD.bindsN F fun _ _ _ _ _ _ us hl => match us, hl with | [_], _ => rfl) fun cdv A outer s H E hr =>
    (js_one (s_ret (x_and (x_isi rfl (y_str e) (.ty "str") (g_isinstance e) (m_var 0) (x_ty (g_str e) (by decide +kernel))) (x_and (x_chain o_le op_le o_le op_le m_int (x_blt call_lenM c_len (g_len e) (by decide +kernel) (a_cons (m_var 0) a_nil)) (x_gint (g_MAX_NAME e))) (pe_one (x_blt (cr_all rfl) c_all (g_all e) (by decide +kernel) (a_cons (k_lc (by decide) (pe_lc (own := [("sign", 1)]) rfl nd_is_name (i_str (m_var 0)) (blkOk_by (N := N_is_name) (sc := sc_is_name) (by decide +kernel)) (fun _ _ _ _ _ => (g_nm nd_is_name (by first | exact Or.inl rfl | exact Or.inr rfl))) (fun _ _ _ _ _ => kts_nil) (fun _ _ _ _ _ => (x_inS (m_var 1) (x_gstr (g_LETTERS e)))))) a_nil)))))))
theorem f_Timetable___init__ (e : E P K mg) : ∃ fd, FunD K "__init__" "Timetable.__init__" (defArgs st_Timetable___init__) (defBody st_Timetable___init__) sc_Timetable___init__ ((D_Timetable___init__).dvs K) ((D_Timetable___init__).kws K) (He.ma K (He.ga K "Timetable") "__init__") fd := e.c.def_ 4 (d := D_Timetable___init__) rfl
theorem dx_Timetable___init__ (e : E P K mg) : DxN P w K mg base (Gk K) (He.ma K (He.ga K "Timetable") "__init__") 3 ["self", "jobs"] 2 mx_Timetable___init__ := by
  obtain ⟨fd, F⟩ := f_Timetable___init__ e
  exact dx_ofN (N := N_Timetable___init__) F ⟨rfl, rfl, rfl, by decide +kernel, rfl, by decide +kernel, by decide +kernel⟩ rfl rfl (FunD.bindsN F fun _ _ _ _ _ _ us hl => match us, hl with | [_, _], _ => rfl) fun cdv A outer s H E hr tk po =>
    (js_cons (s_if (t_nox (PW.pt (w_or (t_not (t_val (x_isi rfl (y_dict e) (.ty "dict") (g_isinstance e) (m_var 1) (x_ty (g_dict e) (by decide +kernel))))) (pw_or1 (t_not (t_chain o_le op_le o_le op_le m_int (x_blt call_lenM c_len (g_len e) (by decide +kernel) (a_cons (m_var 1) a_nil)) (x_gint (g_MAX_JOBS e)))))))) (js_one (by
      obtain ⟨fd1, F1, B1⟩ := d_BadTimetable___init__ e (P := P) (w := w) (base := base)
      exact s_raisePN tk rfl (pay_BadTimetable e).T (pay_BadTimetable e).i (pay_BadTimetable e).t F1 (hr.mono (by decide)) B1 pass0 rfl (g_BadTimetable e) (x_nox m_non))) js_nil)
    (js_cons (s_lockX (lk_var 1) (s_for (i_items (m_var 1)) (g_tup rfl (gs_cons (g_nm nd_Timetable___init__ (by first | exact Or.inl rfl | exact Or.inr rfl)) (gs_cons (g_nm nd_Timetable___init__ (by first | exact Or.inl rfl | exact Or.inr rfl)) gs_nil))) (js_one (s_if (t_nox (PW.pt (w_or (t_not (t_val (x_call (d_is_name e) (hr.mono (by decide)) (g_is_name e) (len_cons len_nil) (a_cons (m_var 2) a_nil)))) (pw_or1 (t_not (t_val (x_isi rfl (y_Job e) (.own _) (g_isinstance e) (m_var 3) (x_cls (g_Job e))))))))) (js_one (by
      obtain ⟨fd1, F1, B1⟩ := d_BadTimetable___init__ e (P := P) (w := w) (base := base)
      exact s_raisePN (takes_lockN tk) rfl (pay_BadTimetable e).T (pay_BadTimetable e).i (pay_BadTimetable e).t F1 (hr.mono (by decide)) B1 pass0 rfl (g_BadTimetable e) (x_nox (m_var 2)))) js_nil)) po))
    (js_cons (s_nox (s_set nd_Timetable___init__ (by first | exact Or.inl rfl | exact Or.inr rfl) m_int))
    (js_cons (s_nox (s_lock (lk_var 1) (s_for (i_vals (m_var 1)) (g_nm nd_Timetable___init__ (by first | exact Or.inl rfl | exact Or.inr rfl)) (js_one (s_set nd_Timetable___init__ (by first | exact Or.inl rfl | exact Or.inr rfl) (x_mul (m_var 4) (x_fld (inj := inj) (c := 0) (f := 0) rfl (c_Job e) (n_Job_cycle e) (m_var 3))))) PassesOwn.never)))
    (js_cons (s_if (t_nox (t_gt (m_var 4) (x_gint (g_MAX_PRODUCT e)))) (js_one (by
      obtain ⟨fd1, F1, B1⟩ := d_BadTimetable___init__ e (P := P) (w := w) (base := base)
      exact s_raisePN tk rfl (pay_BadTimetable e).T (pay_BadTimetable e).i (pay_BadTimetable e).t F1 (hr.mono (by decide)) B1 pass0 rfl (g_BadTimetable e) (x_nox m_non))) js_nil)
    (js_one (s_nox (s_fld (inj := inj) (c := 1) (f := 4) rfl (c_Timetable e) (n_Timetable_lines e) (m_var 0) (ke_lock (k_dc (by decide) (pe_dc (own := [("name", 2), ("job", 3)]) rfl nd_Timetable___init__ (i_items (m_var 1)) (blkOk_by (N := N_Timetable___init__) (sc := sc_Timetable___init__) (by decide +kernel)) (fun _ _ _ _ _ => (g_tup rfl (gs_cons (g_nm nd_Timetable___init__ (by first | exact Or.inl rfl | exact Or.inr rfl)) (gs_cons (g_nm nd_Timetable___init__ (by first | exact Or.inl rfl | exact Or.inr rfl)) gs_nil)))) (fun _ _ _ _ _ => kts_nil) (fun _ _ _ _ _ => (m_var 2)) (fun _ _ _ _ _ => (m_var 3)))))))))))))
theorem f_is_whole (e : E P K mg) : ∃ fd, FunD K "is_whole" "is_whole" (defArgs st_is_whole) (defBody st_is_whole) sc_is_whole ((D_is_whole).dvs K) ((D_is_whole).kws K) (He.ga K "is_whole") fd := e.c.def_ 5 (d := D_is_whole) rfl
theorem d_is_whole (e : E P K mg) : Dn P w K mg base (Gk K) (He.ga K "is_whole") 1 ["value"] 1 m_is_whole := by
  obtain ⟨fd, F⟩ := f_is_whole e
  exact dn_of (N := N_is_whole) F ⟨rfl, rfl, rfl, by decide +kernel, rfl, by decide +kernel, by decide +kernel⟩ rfl rfl (FunD.bindsN F fun _ _ _ _ _ _ us hl => match us, hl with | [_], _ => rfl) fun cdv A outer s H E hr =>
    (js_one (s_ret (x_and (x_isi rfl (y_int e) (.ty "int") (g_isinstance e) (m_var 0) (x_ty (g_int e) (by decide +kernel))) (pe_one (x_not (x_isi rfl (y_bool e) (.ty "bool") (g_isinstance e) (m_var 0) (x_ty (g_bool e) (by decide +kernel))))))))
theorem f_is_integer (e : E P K mg) : ∃ fd, FunD K "is_integer" "is_integer" (defArgs st_is_integer) (defBody st_is_integer) sc_is_integer ((D_is_integer).dvs K) ((D_is_integer).kws K) (He.ga K "is_integer") fd := e.c.def_ 6 (d := D_is_integer) rfl
theorem d_is_integer (e : E P K mg) : Dn P w K mg base (Gk K) (He.ga K "is_integer") 2 ["value", "low", "high"] 3 m_is_integer := by
  obtain ⟨fd, F⟩ := f_is_integer e
  exact dn_of (N := N_is_integer) F ⟨rfl, rfl, rfl, by decide +kernel, rfl, by decide +kernel, by decide +kernel⟩ rfl rfl (FunD.bindsN F fun _ _ _ _ _ _ us hl => match us, hl with | [_, _, _], _ => rfl) fun cdv A outer s H E hr =>
    (js_one (s_ret (x_and (x_call (d_is_whole e) (hr.mono (by decide)) (g_is_whole e) (len_cons len_nil) (a_cons (m_var 0) a_nil)) (pe_one (x_chain o_le op_le o_le op_le (m_var 1) (m_var 0) (m_var 2))))))
theorem f_Job___init__ (e : E P K mg) : ∃ fd, FunD K "__init__" "Job.__init__" (defArgs st_Job___init__) (defBody st_Job___init__) sc_Job___init__ ((D_Job___init__).dvs K) ((D_Job___init__).kws K) (He.ma K (He.ga K "Job") "__init__") fd := e.c.def_ 7 (d := D_Job___init__) rfl
theorem ox_Job___init__ (e : E P K mg) : ∃ fd, FnOk P w K mg base (L2.CX P w) 3 (He.ma K (He.ga K "Job") "__init__") fd ["self", "period", "duration", "start", "cost"] (spX (Gk K) 5 mx_Job___init__) ∧ FunD K "__init__" "Job.__init__" (defArgs st_Job___init__) (defBody st_Job___init__) sc_Job___init__ ((D_Job___init__).dvs K) ((D_Job___init__).kws K) (He.ma K (He.ga K "Job") "__init__") fd := by
  obtain ⟨fd, F⟩ := f_Job___init__ e
  exact ⟨fd, fn_okX (N := N_Job___init__) F ⟨rfl, rfl, rfl, by decide +kernel, rfl, by decide +kernel, by decide +kernel⟩ rfl rfl fun cdv A outer s H E hr tk po =>
    (js_cons (s_if (t_nox (t_not (t_val (x_call (d_is_integer e) (hr.mono (by decide)) (g_is_integer e) (len_cons (len_cons (len_cons len_nil))) (a_cons (m_var 1) (a_cons m_int (a_cons (x_gint (g_MAX_PERIOD e)) a_nil))))))) (js_one (s_raiseC tk rfl (plc_BadJob e) (g_BadJob e))) js_nil)
    (js_cons (s_if (t_nox (t_not (t_val (x_call (d_is_integer e) (hr.mono (by decide)) (g_is_integer e) (len_cons (len_cons (len_cons len_nil))) (a_cons (m_var 2) (a_cons m_int (a_cons (m_var 1) a_nil))))))) (js_one (s_raiseC tk rfl (plc_BadJob e) (g_BadJob e))) js_nil)
    (js_cons (s_if (t_nox (t_not (t_val (x_call (d_is_integer e) (hr.mono (by decide)) (g_is_integer e) (len_cons (len_cons (len_cons len_nil))) (a_cons (m_var 3) (a_cons m_int (a_cons (x_sub (m_var 1) m_int) a_nil))))))) (js_one (s_raiseC tk rfl (plc_BadJob e) (g_BadJob e))) js_nil)
    (js_cons (s_if (t_nox (t_not (t_val (x_call (d_is_integer e) (hr.mono (by decide)) (g_is_integer e) (len_cons (len_cons (len_cons len_nil))) (a_cons (m_var 4) (a_cons m_int (a_cons (x_gint (g_MAX_COST e)) a_nil))))))) (js_one (s_raiseC tk rfl (plc_BadJob e) (g_BadJob e))) js_nil)
    (js_cons (s_nox (s_fld (inj := inj) (c := 0) (f := 0) rfl (c_Job e) (n_Job_cycle e) (m_var 0) (m_var 1)))
    (js_cons (s_nox (s_fld (inj := inj) (c := 0) (f := 1) rfl (c_Job e) (n_Job_length e) (m_var 0) (m_var 2)))
    (js_cons (s_nox (s_fld (inj := inj) (c := 0) (f := 2) rfl (c_Job e) (n_Job_begin e) (m_var 0) (m_var 3)))
    (js_one (s_nox (s_fld (inj := inj) (c := 0) (f := 3) rfl (c_Job e) (n_Job_charge e) (m_var 0) (m_var 4))))))))))), F⟩
def kgJob_2_start_cost {α : Type} (us its mv ws : List α) : List α := us ++ ((ws.drop 0).take 1 ++ ((ws.drop 1).take 1))
theorem krJob_2_start_cost {vs ds mz zs : List V} {us its mv ws : List Value} (h1 : Vals vs us) (h2 : Vals ds its) (h3 : Vals mz mv) (h4 : Vals zs ws) : Vals (kgJob_2_start_cost vs ds mz zs) (kgJob_2_start_cost us its mv ws) := h1.append (((h4.drop 0).take 1).append ((h4.drop 1).take 1))
theorem kmJob_2_start_cost {K : PySem.W.Frag} : KwM (Gk K) 2 2 5 kfJob_2_start_cost (fun vs zs => kgJob_2_start_cost vs [V.int 1] (([] : List (PySem.Str × V)).map (·.2)) zs) where
  rel := fun {m H vs xs zs ys} r1 r2 => r1.append (((r2.drop 0).take 1).append ((r2.drop 1).take 1))
  len := fun xs ys h1 h2 => by simp [kgJob_2_start_cost, h1, h2]
theorem kwxJob_2_start_cost (e : E P K mg) : KbX P w K mg base (Gk K) (He.ma K (He.ga K "Job") "__init__") 3 ["self", "period", "duration", "start", "cost"] 5 2 ["start", "cost"] mx_Job___init__ kfJob_2_start_cost := by
  obtain ⟨fd, F, FD⟩ := ox_Job___init__ e
  obtain ⟨its, mv, hb⟩ := FunD.kbinds (ps := ["self", "period", "duration", "start", "cost"]) FD 3 ["start", "cost"] ([] : List (PySem.Str × V)) kgJob_2_start_cost (fun z => nomatch z) (fun z => nomatch z) (fun q h => nomatch h) krJob_2_start_cost (fun T D doc pm an cdv ct us its mv ws h1 h2 h3 h4 => match us, its, mv, ws, h1, h2, h3, h4 with | [_, _, _], [_], [], [_, _], _, _, _, _ => ⟨_, rfl, rfl⟩)
  exact ⟨fd, _, _, F, hb, kmJob_2_start_cost⟩
theorem f_number_in (e : E P K mg) : ∃ fd, FunD K "number_in" "number_in" (defArgs st_number_in) (defBody st_number_in) sc_number_in ((D_number_in).dvs K) ((D_number_in).kws K) (He.ga K "number_in") fd := e.c.def_ 8 (d := D_number_in) rfl
theorem d_number_in (e : E P K mg) : Dn P w K mg base (Gk K) (He.ga K "number_in") 1 ["word"] 1 m_number_in := by
  obtain ⟨fd, F⟩ := f_number_in e
  exact dn_of (N := N_number_in) F ⟨rfl, rfl, rfl, by decide +kernel, rfl, by decide +kernel, by decide +kernel⟩ rfl rfl (FunD.bindsN F fun _ _ _ _ _ _ us hl => match us, hl with | [_], _ => rfl) fun cdv A outer s H E hr =>
    (js_cons (s_if (PW.pt (w_or (t_not (t_chain o_le op_le o_le op_le m_int (x_blt call_lenM c_len (g_len e) (by decide +kernel) (a_cons (m_var 0) a_nil)) m_int)) (pw_or1 (t_not (t_val (x_blt (cr_all rfl) c_all (g_all e) (by decide +kernel) (a_cons (k_lc (by decide) (pe_lc (own := [("sign", 1)]) rfl nd_number_in (i_str (m_var 0)) (blkOk_by (N := N_number_in) (sc := sc_number_in) (by decide +kernel)) (fun _ _ _ _ _ => (g_nm nd_number_in (by first | exact Or.inl rfl | exact Or.inr rfl))) (fun _ _ _ _ _ => kts_nil) (fun _ _ _ _ _ => (x_inS (m_var 1) (x_gstr (g_DIGITS e)))))) a_nil))))))) (js_one (s_ret m_non)) js_nil)
    (js_one (s_ret (x_if (t_eq hr (m_var 0) (x_bty call_str_int c_strI (g_str e) (by decide +kernel) (a_cons (x_bty call_int_str c_intS (g_int e) (by decide +kernel) (a_cons (m_var 0) a_nil)) a_nil))) (x_bty call_int_str c_intS (g_int e) (by decide +kernel) (a_cons (m_var 0) a_nil)) m_non))))
theorem f_job_in (e : E P K mg) : ∃ fd, FunD K "job_in" "job_in" (defArgs st_job_in) (defBody st_job_in) sc_job_in ((D_job_in).dvs K) ((D_job_in).kws K) (He.ga K "job_in") fd := e.c.def_ 9 (d := D_job_in) rfl
theorem d_job_in_t (e : E P K mg) : Dn P w K mg base (Gk K) (He.ga K "job_in") 5 ["words"] 1 m_job_in_t := by
  obtain ⟨fd, F⟩ := f_job_in e
  exact dn_of (N := N_job_in) F ⟨rfl, rfl, rfl, by decide +kernel, rfl, by decide +kernel, by decide +kernel⟩ rfl rfl (FunD.bindsN F fun _ _ _ _ _ _ us hl => match us, hl with | [_], _ => rfl) fun cdv A outer s H E hr =>
    (js_cons (js_setLc (by decide) (ps_setLc (i := 1) (own := [("word", 3)]) rfl nd_job_in rfl rfl (sw_true rfl rfl rfl (by decide +kernel)) (i_seq (x_sl (m_var 0) (o_some m_int) o_none)) (blkOk_by (N := N_job_in) (sc := sc_job_in) (by decide +kernel)) (fun _ _ _ _ _ => (g_nm nd_job_in (by first | exact Or.inl rfl | exact Or.inr rfl))) (fun _ _ _ _ _ => kts_nil) (fun _ _ _ _ _ => (x_call (d_number_in e) (hr.mono (by decide)) (g_number_in e) (len_cons len_nil) (a_cons (m_var 3) a_nil)))))
    (js_cons (s_if (PW.pt (w_or (t_ne hr (x_blt call_lenM c_len (g_len e) (by decide +kernel) (a_cons (m_var 0) a_nil)) m_int) (w_or (t_not (t_val (x_call (d_is_name e) (hr.mono (by decide)) (g_is_name e) (len_cons len_nil) (a_cons (x_ix (m_var 0) m_int) a_nil)))) (pw_or1 (t_inL hr m_non (m_var 1)))))) (js_one (s_ret m_non)) js_nil)
    (js_one (s_tryE rfl ⟨rfl, by decide, .inl (g_BadJob e)⟩ (exm_BadJob e) (fun W pn xe tk po =>
    (js_one (s_set nd_job_in (by first | exact Or.inl rfl | exact Or.inr rfl) (x_mkNX (k_Job e) (kwxJob_2_start_cost e) tk (hr.mono (by decide)) (g_Job e) (len_cons (len_cons len_nil)) (len_cons (len_cons len_nil)) (a_cons (x_nox (x_ix (m_var 1) m_int)) (a_cons (x_nox (x_ix (m_var 1) m_int)) a_nil)) (kk_cons (pk_cons (x_nox (x_ix (m_var 1) m_int)) (kk_cons (pk_cons (x_nox (x_ix (m_var 1) m_int)) kk_nil)))))))) (fun a oe pn => (js_one (s_ret m_non))) (js_one (s_ret (x_tup (a_cons (x_ix (m_var 0) m_int) (a_cons (m_var 2) a_nil)))))))))
theorem f_read_timetable (e : E P K mg) : ∃ fd, FunD K "read_timetable" "read_timetable" (defArgs st_read_timetable) (defBody st_read_timetable) sc_read_timetable ((D_read_timetable).dvs K) ((D_read_timetable).kws K) (He.ga K "read_timetable") fd := e.c.def_ 10 (d := D_read_timetable) rfl
theorem dx_read_timetable (e : E P K mg) : Dx P w K mg base (Gk K) (He.ga K "read_timetable") 6 ["text"] 1 mx_read_timetable := by
  obtain ⟨fd, F⟩ := f_read_timetable e
  exact dx_of (N := N_read_timetable) F ⟨rfl, rfl, rfl, by decide +kernel, rfl, by decide +kernel, by decide +kernel⟩ rfl rfl (FunD.bindsN F fun _ _ _ _ _ _ us hl => match us, hl with | [_], _ => rfl) fun cdv A outer s H E hr tk po =>
    (js_cons (s_if (t_nox (t_not (t_val (x_isi rfl (y_str e) (.ty "str") (g_isinstance e) (m_var 0) (x_ty (g_str e) (by decide +kernel)))))) (js_one (by
      obtain ⟨fd1, F1, B1⟩ := d_BadText___init__ e (P := P) (w := w) (base := base)
      exact s_raiseI tk rfl (pay_BadText e).T (pay_BadText e).i (pay_BadText e).t F1 (hr.mono (by decide)) B1 pass0 (g_BadText e) (x_nox m_int))) js_nil)
    (js_cons (s_nox (s_star nd_read_timetable (x_split (m_var 0) (m_str [10])) (by first | exact Or.inl rfl | exact Or.inr rfl) (by first | exact Or.inl rfl | exact Or.inr rfl)))
    (js_cons (s_nox (s_set nd_read_timetable (by first | exact Or.inl rfl | exact Or.inr rfl) (x_lst a_nil)))
    (js_cons (s_for (i_enum (g_enumerate e) (m_var 1)) (g_tup rfl (gs_cons (g_nm nd_read_timetable (by first | exact Or.inl rfl | exact Or.inr rfl)) (gs_cons (g_nm nd_read_timetable (by first | exact Or.inl rfl | exact Or.inr rfl)) gs_nil))) (js_cons (s_nox (s_set nd_read_timetable (by first | exact Or.inl rfl | exact Or.inr rfl) (x_call (d_job_in_t e) (hr.mono (by decide)) (g_job_in e) (len_cons len_nil) (a_cons (x_split (m_var 5) (m_str [32])) a_nil))))
    (js_cons (s_if (t_nox (t_isN (m_var 6) m_non)) (js_one (by
      obtain ⟨fd1, F1, B1⟩ := d_BadText___init__ e (P := P) (w := w) (base := base)
      exact s_raiseI tk rfl (pay_BadText e).T (pay_BadText e).i (pay_BadText e).t F1 (hr.mono (by decide)) B1 pass0 (g_BadText e) (x_nox (m_var 4)))) js_nil)
    (js_one (s_nox (s_expr (k_bm rfl b_append (pe_bm PySem.F.plainAttrs_list PySem.F.slot_list_append PySem.F.type_list_append mt_append (m_var 3) (a_cons (m_var 6) a_nil)))))))) po)
    (js_cons (s_if (t_nox (PW.pt (w_or (t_ne hr (m_var 2) (m_str [])) (pw_or1 (t_eqE (hr.mono (by decide)) (m_var 3) (x_lst a_nil)))))) (js_one (by
      obtain ⟨fd1, F1, B1⟩ := d_BadText___init__ e (P := P) (w := w) (base := base)
      exact s_raiseI tk rfl (pay_BadText e).T (pay_BadText e).i (pay_BadText e).t F1 (hr.mono (by decide)) B1 pass0 (g_BadText e) (x_nox (x_blt call_lenM c_len (g_len e) (by decide +kernel) (a_cons (m_var 1) a_nil))))) js_nil)
    (js_cons (s_if (t_nox (t_lt (x_blt call_lenM c_len (g_len e) (by decide +kernel) (a_cons (x_bty (call_dictP rfl) c_dictP (g_dict e) (by decide +kernel) (a_cons (m_var 3) a_nil)) a_nil)) (x_blt call_lenM c_len (g_len e) (by decide +kernel) (a_cons (m_var 3) a_nil)))) (js_one (by
      obtain ⟨fd1, F1, B1⟩ := d_BadText___init__ e (P := P) (w := w) (base := base)
      exact s_raiseI tk rfl (pay_BadText e).T (pay_BadText e).i (pay_BadText e).t F1 (hr.mono (by decide)) B1 pass0 (g_BadText e) (x_nox m_int))) js_nil)
    (js_one (s_tryR tk rfl ⟨rfl, by decide, .inl (g_BadTimetable e)⟩ (pay_BadTimetable e).ex (fun hd => L2H.passesAt_of rfl hd) (fun W pn xe tk2 po2 =>
    (js_one (s_set nd_read_timetable (by first | exact Or.inl rfl | exact Or.inr rfl) (x_mkXN (k_Timetable e) (dx_Timetable___init__ e) tk2 (hr.mono (by decide)) (g_Timetable e) (fun s h v h' q => congrArg (· + 1) ((len_cons len_nil) s h v h' q)) (a_cons (x_nox (x_bty (call_dictP rfl) c_dictP (g_dict e) (by decide +kernel) (a_cons (m_var 3) a_nil))) a_nil))))) (fun a oe pn tk3 ht => (js_one (by
      obtain ⟨fd1, F1, B1⟩ := dH_BadText___init__ e (P := P) (w := w) (base := base)
      exact s_raiseIH tk3 rfl (pay_BadText e).T (pay_BadText e).i (pay_BadText e).t F1 (L2H.roomH_mark (hr.mono (by decide)) _) B1 pass0 (g_BadText e) (x_nox m_int) ht))) (js_one (s_nox (s_ret (m_var 7))))))))))))
theorem f__law_row (e : E P K mg) : ∃ fd, FunD K "_law_row" "_law_row" (defArgs st__law_row) (defBody st__law_row) sc__law_row ((D__law_row).dvs K) ((D__law_row).kws K) (He.ga K "_law_row") fd := e.c.def_ 11 (d := D__law_row) rfl
theorem d__law_row (e : E P K mg) : Dn P w K mg base (Gk K) (He.ga K "_law_row") 7 ["_law_text"] 1 m__law_row_0 := by
  obtain ⟨fd, F⟩ := f__law_row e
  exact dn_of (N := N__law_row) F ⟨rfl, rfl, rfl, by decide +kernel, rfl, by decide +kernel, by decide +kernel⟩ rfl rfl (FunD.bindsN F fun _ _ _ _ _ _ us hl => match us, hl with | [_], _ => rfl) fun cdv A outer s H E hr =>
    (js_cons (s_tryF rfl rfl nd__law_row rfl rfl ⟨rfl, by decide, .inl (g_BadText e)⟩ (pay_BadText e).ex (pay_BadText e).X (pay_BadText e).no fun W pn xe tk po =>
    (js_one (s_set nd__law_row (by first | exact Or.inl rfl | exact Or.inr rfl) (x_callX (dx_read_timetable e) tk (hr.mono (by decide)) (g_read_timetable e) (len_cons len_nil) (a_cons (x_nox (m_var 0)) a_nil)))))
    (js_one (s_ret (x_if (t_eq hr (x_call (d_timetable_text e) (hr.mono (by decide)) (g_timetable_text e) (len_cons len_nil) (a_cons (m_var 1) a_nil)) (m_var 0)) (x_neg m_int) (x_neg m_int)))))
theorem f__law_fixed_right (e : E P K mg) : ∃ fd, FunD K "_law_fixed_right" "_law_fixed_right" (defArgs st__law_fixed_right) (defBody st__law_fixed_right) sc__law_fixed_right ((D__law_fixed_right).dvs K) ((D__law_fixed_right).kws K) (He.ga K "_law_fixed_right") fd := e.c.def_ 12 (d := D__law_fixed_right) rfl
theorem d__law_fixed_right (e : E P K mg) : Dn P w K mg base (Gk K) (He.ga K "_law_fixed_right") 8 [] 0 m__law_fixed_right_0 := by
  obtain ⟨fd, F⟩ := f__law_fixed_right e
  exact dn_of (N := N__law_fixed_right) F ⟨rfl, rfl, rfl, by decide +kernel, rfl, by decide +kernel, by decide +kernel⟩ rfl rfl (FunD.bindsN F fun _ _ _ _ _ _ us hl => match us, hl with | [], _ => rfl) fun cdv A outer s H E hr =>
    (js_cons (s_for (i_tup (x_tup (a_cons m_non (a_cons m_int (a_cons (x_lst a_nil) (a_cons m_bl a_nil)))))) (g_nm nd__law_fixed_right (by first | exact Or.inl rfl | exact Or.inr rfl)) (js_one (s_if (t_ne hr (x_call (d__law_row e) (hr.mono (by decide)) (g__law_row e) (len_cons len_nil) (a_cons (m_var 0) a_nil)) m_int) (js_one (s_ret m_bl)) js_nil)) PassesOwn.never)
    (js_cons (s_set nd__law_fixed_right (by first | exact Or.inl rfl | exact Or.inr rfl) (x_lst (a_cons (m_str [97, 32, 49, 50, 32, 49, 50, 32, 49, 49, 32, 57, 10]) a_nil)))
    (js_cons (s_set nd__law_fixed_right (by first | exact Or.inl rfl | exact Or.inr rfl) (x_add (m_var 1) (x_lst (a_cons (m_str [97, 32, 49, 32, 49, 32, 48, 32, 49, 10, 98, 32, 49, 50, 32, 49, 32, 48, 32, 49, 10, 99, 32, 49, 50, 32, 49, 32, 49, 48, 32, 49, 10, 97, 98, 99, 100, 101, 102, 103, 104, 32, 49, 50, 32, 49, 48, 32, 48, 32, 49, 10]) a_nil))))
    (js_cons (s_set nd__law_fixed_right (by first | exact Or.inl rfl | exact Or.inr rfl) (x_add (m_var 1) (x_lst (a_cons (m_str [97, 32, 49, 48, 32, 49, 48, 32, 57, 32, 49, 10, 98, 32, 56, 32, 49, 32, 48, 32, 49, 10, 99, 32, 53, 32, 49, 32, 48, 32, 49, 10, 100, 32, 53, 32, 49, 32, 48, 32, 49, 10]) a_nil))))
    (js_cons (s_for (i_seq (m_var 1)) (g_nm nd__law_fixed_right (by first | exact Or.inl rfl | exact Or.inr rfl)) (js_one (s_if (t_ne hr (x_call (d__law_row e) (hr.mono (by decide)) (g__law_row e) (len_cons len_nil) (a_cons (m_var 2) a_nil)) (x_neg m_int)) (js_one (s_ret m_bl)) js_nil)) PassesOwn.never)
    (js_cons (s_set nd__law_fixed_right (by first | exact Or.inl rfl | exact Or.inr rfl) (x_lst (a_cons (m_str [97, 32, 49, 50, 32, 49, 32, 48, 32, 49, 10, 98, 32, 49, 50, 32, 49, 32, 48, 32, 49, 10, 99, 32, 49, 50, 32, 49, 32, 48, 32, 49, 10, 100, 32, 50, 32, 49, 32, 48, 32, 49, 10]) (a_cons (x_twice (m_str [97, 32, 49, 32, 49, 32, 48, 32, 49, 10])) a_nil))))
    (js_cons (s_expr (k_bm rfl b_append (pe_bm PySem.F.plainAttrs_list PySem.F.slot_list_append PySem.F.type_list_append mt_append (m_var 3) (a_cons (x_join (m_str []) (k_lc (by decide) (pe_lc (own := [("_law_name", 6)]) rfl nd__law_fixed_right (i_str (m_str [97, 98, 99, 100, 101])) (blkOk_by (N := N__law_fixed_right) (sc := sc__law_fixed_right) (by decide +kernel)) (fun _ _ _ _ _ => (g_nm nd__law_fixed_right (by first | exact Or.inl rfl | exact Or.inr rfl))) (fun _ _ _ _ _ => kts_nil) (fun _ _ _ _ _ => (x_add (m_var 6) (m_str [32, 49, 32, 49, 32, 48, 32, 49, 10])))))) a_nil))))
    (js_cons (s_for (i_seq (m_var 3)) (g_nm nd__law_fixed_right (by first | exact Or.inl rfl | exact Or.inr rfl)) (js_one (s_if (t_ne hr (x_call (d__law_row e) (hr.mono (by decide)) (g__law_row e) (len_cons len_nil) (a_cons (m_var 2) a_nil)) m_int) (js_one (s_ret m_bl)) js_nil)) PassesOwn.never)
    (js_cons (s_set nd__law_fixed_right (by first | exact Or.inl rfl | exact Or.inr rfl) (x_lst (a_cons (x_tup (a_cons (m_str []) (a_cons m_int a_nil))) (a_cons (x_tup (a_cons (m_str [97, 32, 52, 32, 50, 32, 48, 32, 49]) (a_cons m_int a_nil))) (a_cons (x_tup (a_cons (m_str [10]) (a_cons m_int a_nil))) (a_cons (x_tup (a_cons (m_str [97, 32, 52, 32, 50, 32, 48, 32, 49, 10, 10]) (a_cons m_int a_nil))) a_nil))))))
    (js_cons (s_set nd__law_fixed_right (by first | exact Or.inl rfl | exact Or.inr rfl) (x_add (m_var 4) (x_lst (a_cons (x_tup (a_cons (m_str [97, 32, 52, 32, 50, 32, 48, 32, 49, 10, 97, 32, 52, 32, 50, 32, 48, 32, 49, 10, 98, 10]) (a_cons m_int a_nil))) (a_cons (x_tup (a_cons (m_str [97, 32, 52, 32, 50, 32, 48, 32, 49, 10, 120]) (a_cons m_int a_nil))) a_nil)))))
    (js_cons (s_for (i_seq (m_var 4)) (g_tup rfl (gs_cons (g_nm nd__law_fixed_right (by first | exact Or.inl rfl | exact Or.inr rfl)) (gs_cons (g_nm nd__law_fixed_right (by first | exact Or.inl rfl | exact Or.inr rfl)) gs_nil))) (js_one (s_if (t_ne hr (x_call (d__law_row e) (hr.mono (by decide)) (g__law_row e) (len_cons len_nil) (a_cons (m_var 2) a_nil)) (m_var 5)) (js_one (s_ret m_bl)) js_nil)) PassesOwn.never)
    (js_one (s_ret m_bl)))))))))))))
theorem f__law_draw (e : E P K mg) : ∃ fd, FunD K "_law_draw" "_law_draw" (defArgs st__law_draw) (defBody st__law_draw) sc__law_draw ((D__law_draw).dvs K) ((D__law_draw).kws K) (He.ga K "_law_draw") fd := e.c.def_ 13 (d := D__law_draw) rfl
theorem d__law_draw (e : E P K mg) : Dn P w K mg base (Gk K) (He.ga K "_law_draw") 1 ["_law_cell", "_law_k", "_law_below"] 3 m__law_draw_0 := by
  obtain ⟨fd, F⟩ := f__law_draw e
  exact dn_of (N := N__law_draw) F ⟨rfl, rfl, rfl, by decide +kernel, rfl, by decide +kernel, by decide +kernel⟩ rfl rfl (FunD.bindsN F fun _ _ _ _ _ _ us hl => match us, hl with | [_, _, _], _ => rfl) fun cdv A outer s H E hr =>
    (js_cons (s_set nd__law_draw (by first | exact Or.inl rfl | exact Or.inr rfl) (x_tup (a_cons m_int (a_cons m_int (a_cons m_int (a_cons m_int (a_cons m_int (a_cons m_int (a_cons m_int (a_cons m_int (a_cons m_int (a_cons m_int (a_cons m_int (a_cons m_int (a_cons m_int (a_cons m_int (a_cons m_int (a_cons m_int a_nil))))))))))))))))))
    (js_one (s_ret (x_mod (x_mod (x_add (x_mul (m_var 0) m_int) (x_mul (m_var 1) m_int)) (x_ix (m_var 3) (x_mod (m_var 1) m_int))) (m_var 2)))))
theorem f__law_number (e : E P K mg) : ∃ fd, FunD K "_law_number" "_law_number" (defArgs st__law_number) (defBody st__law_number) sc__law_number ((D__law_number).dvs K) ((D__law_number).kws K) (He.ga K "_law_number") fd := e.c.def_ 14 (d := D__law_number) rfl
theorem d__law_number (e : E P K mg) : Dn P w K mg base (Gk K) (He.ga K "_law_number") 2 ["_law_cell", "_law_k", "_law_below"] 3 m__law_number_0 := by
  obtain ⟨fd, F⟩ := f__law_number e
  exact dn_of (N := N__law_number) F ⟨rfl, rfl, rfl, by decide +kernel, rfl, by decide +kernel, by decide +kernel⟩ rfl rfl (FunD.bindsN F fun _ _ _ _ _ _ us hl => match us, hl with | [_, _, _], _ => rfl) fun cdv A outer s H E hr =>
    (js_cons (s_set nd__law_number (by first | exact Or.inl rfl | exact Or.inr rfl) m_int)
    (js_cons (s_for (i_rng1 (g_range e) (x_mod (m_var 1) m_int)) (g_nm nd__law_number (by first | exact Or.inl rfl | exact Or.inr rfl)) (js_one (s_set nd__law_number (by first | exact Or.inl rfl | exact Or.inr rfl) (x_mul (m_var 3) m_int))) PassesOwn.never)
    (js_cons (s_set nd__law_number (by first | exact Or.inl rfl | exact Or.inr rfl) (x_div (x_sub (m_var 0) (x_pow m_int m_int)) (m_var 3)))
    (js_cons (s_if (t_gt (m_var 5) m_int) (js_one (s_ret (x_mod (x_mod (m_var 5) m_int) (m_var 2)))) js_nil)
    (js_cons (s_set nd__law_number (by first | exact Or.inl rfl | exact Or.inr rfl) (x_mod (m_var 0) m_int))
    (js_one (s_ret (x_mod (x_call (d__law_draw e) (hr.mono (by decide)) (g__law_draw e) (len_cons (len_cons (len_cons len_nil))) (a_cons (x_mul (x_add (m_var 6) (x_mul m_int (m_var 1))) (x_add (x_add (m_var 6) (x_mul m_int (m_var 1))) m_int)) (a_cons (x_add (x_mod (m_var 1) m_int) m_int) (a_cons m_int a_nil)))) (m_var 2)))))))))
theorem f__law_cell_at (e : E P K mg) : ∃ fd, FunD K "_law_cell_at" "_law_cell_at" (defArgs st__law_cell_at) (defBody st__law_cell_at) sc__law_cell_at ((D__law_cell_at).dvs K) ((D__law_cell_at).kws K) (He.ga K "_law_cell_at") fd := e.c.def_ 15 (d := D__law_cell_at) rfl
theorem d__law_cell_at (e : E P K mg) : Dn P w K mg base (Gk K) (He.ga K "_law_cell_at") 1 ["_law_script", "_law_k"] 2 m__law_cell_at_0 := by
  obtain ⟨fd, F⟩ := f__law_cell_at e
  exact dn_of (N := N__law_cell_at) F ⟨rfl, rfl, rfl, by decide +kernel, rfl, by decide +kernel, by decide +kernel⟩ rfl rfl (FunD.bindsN F fun _ _ _ _ _ _ us hl => match us, hl with | [_, _], _ => rfl) fun cdv A outer s H E hr =>
    (js_cons (s_if (t_lt (m_var 1) (x_blt call_lenM c_len (g_len e) (by decide +kernel) (a_cons (m_var 0) a_nil))) (js_one (s_ret (x_ix (m_var 0) (m_var 1)))) js_nil)
    (js_one (s_ret m_int)))
theorem f__law_next (e : E P K mg) : ∃ fd, FunD K "_law_next" "_law_next" (defArgs st__law_next) (defBody st__law_next) sc__law_next ((D__law_next).dvs K) ((D__law_next).kws K) (He.ga K "_law_next") fd := e.c.def_ 16 (d := D__law_next) rfl
theorem d__law_next (e : E P K mg) : Dn P w K mg base (Gk K) (He.ga K "_law_next") 3 ["_law_state", "_law_below"] 2 m__law_next_0 := by
  obtain ⟨fd, F⟩ := f__law_next e
  exact dn_of (N := N__law_next) F ⟨rfl, rfl, rfl, by decide +kernel, rfl, by decide +kernel, by decide +kernel⟩ rfl rfl (FunD.bindsN F fun _ _ _ _ _ _ us hl => match us, hl with | [_, _], _ => rfl) fun cdv A outer s H E hr =>
    (js_cons (s_setL (m_var 0) m_int (x_add (x_ix (m_var 0) m_int) m_int))
    (js_cons (s_set nd__law_next (by first | exact Or.inl rfl | exact Or.inr rfl) (x_div (x_ix (m_var 0) m_int) m_int))
    (js_cons (s_set nd__law_next (by first | exact Or.inl rfl | exact Or.inr rfl) (x_add (x_call (d__law_cell_at e) (hr.mono (by decide)) (g__law_cell_at e) (len_cons (len_cons len_nil)) (a_cons (x_ix (m_var 0) m_int) (a_cons (x_add (x_ix (m_var 0) m_int) (m_var 2)) a_nil))) (x_mul m_int (m_var 2))))
    (js_one (s_ret (x_call (d__law_number e) (hr.mono (by decide)) (g__law_number e) (len_cons (len_cons (len_cons len_nil))) (a_cons (m_var 3) (a_cons (x_add (x_mod (x_ix (m_var 0) m_int) m_int) m_int) (a_cons (m_var 1) a_nil)))))))))
theorem f__law_pick (e : E P K mg) : ∃ fd, FunD K "_law_pick" "_law_pick" (defArgs st__law_pick) (defBody st__law_pick) sc__law_pick ((D__law_pick).dvs K) ((D__law_pick).kws K) (He.ga K "_law_pick") fd := e.c.def_ 17 (d := D__law_pick) rfl
theorem d__law_pick (e : E P K mg) : Dn P w K mg base (Gk K) (He.ga K "_law_pick") 4 ["_law_state", "_law_things"] 2 m__law_pick_0 := by
  obtain ⟨fd, F⟩ := f__law_pick e
  exact dn_of (N := N__law_pick) F ⟨rfl, rfl, rfl, by decide +kernel, rfl, by decide +kernel, by decide +kernel⟩ rfl rfl (FunD.bindsN F fun _ _ _ _ _ _ us hl => match us, hl with | [_, _], _ => rfl) fun cdv A outer s H E hr =>
    (js_one (s_ret (x_ix (m_var 1) (x_call (d__law_next e) (hr.mono (by decide)) (g__law_next e) (len_cons (len_cons len_nil)) (a_cons (m_var 0) (a_cons (x_blt call_lenM c_len (g_len e) (by decide +kernel) (a_cons (m_var 1) a_nil)) a_nil))))))
theorem d_Timetable___init__ (e : E P K mg) : Dn P w K mg base (Gk K) (He.ma K (He.ga K "Timetable") "__init__") 2 ["self", "jobs"] 2 m_Timetable___init__ := by
  obtain ⟨fd, F⟩ := f_Timetable___init__ e
  exact dn_of (N := N_Timetable___init__) F ⟨rfl, rfl, rfl, by decide +kernel, rfl, by decide +kernel, by decide +kernel⟩ rfl rfl (FunD.bindsN F fun _ _ _ _ _ _ us hl => match us, hl with | [_, _], _ => rfl) fun cdv A outer s H E hr =>
    (js_cons (s_if (PW.pt (w_or (t_not (t_val (x_isi rfl (y_dict e) (.ty "dict") (g_isinstance e) (m_var 1) (x_ty (g_dict e) (by decide +kernel))))) (pw_or1 (t_not (t_chain o_le op_le o_le op_le m_int (x_blt call_lenM c_len (g_len e) (by decide +kernel) (a_cons (m_var 1) a_nil)) (x_gint (g_MAX_JOBS e))))))) (js_one js_bad) js_nil)
    (js_cons (s_lock (lk_var 1) (s_for (i_items (m_var 1)) (g_tup rfl (gs_cons (g_nm nd_Timetable___init__ (by first | exact Or.inl rfl | exact Or.inr rfl)) (gs_cons (g_nm nd_Timetable___init__ (by first | exact Or.inl rfl | exact Or.inr rfl)) gs_nil))) (js_one (s_if (PW.pt (w_or (t_not (t_val (x_call (d_is_name e) (hr.mono (by decide)) (g_is_name e) (len_cons len_nil) (a_cons (m_var 2) a_nil)))) (pw_or1 (t_not (t_val (x_isi rfl (y_Job e) (.own _) (g_isinstance e) (m_var 3) (x_cls (g_Job e)))))))) (js_one js_bad) js_nil)) PassesOwn.never))
    (js_cons (s_set nd_Timetable___init__ (by first | exact Or.inl rfl | exact Or.inr rfl) m_int)
    (js_cons (s_lock (lk_var 1) (s_for (i_vals (m_var 1)) (g_nm nd_Timetable___init__ (by first | exact Or.inl rfl | exact Or.inr rfl)) (js_one (s_set nd_Timetable___init__ (by first | exact Or.inl rfl | exact Or.inr rfl) (x_mul (m_var 4) (x_fld (inj := inj) (c := 0) (f := 0) rfl (c_Job e) (n_Job_cycle e) (m_var 3))))) PassesOwn.never))
    (js_cons (s_if (t_gt (m_var 4) (x_gint (g_MAX_PRODUCT e))) (js_one js_bad) js_nil)
    (js_one (s_fld (inj := inj) (c := 1) (f := 4) rfl (c_Timetable e) (n_Timetable_lines e) (m_var 0) (ke_lock (k_dc (by decide) (pe_dc (own := [("name", 2), ("job", 3)]) rfl nd_Timetable___init__ (i_items (m_var 1)) (blkOk_by (N := N_Timetable___init__) (sc := sc_Timetable___init__) (by decide +kernel)) (fun _ _ _ _ _ => (g_tup rfl (gs_cons (g_nm nd_Timetable___init__ (by first | exact Or.inl rfl | exact Or.inr rfl)) (gs_cons (g_nm nd_Timetable___init__ (by first | exact Or.inl rfl | exact Or.inr rfl)) gs_nil)))) (fun _ _ _ _ _ => kts_nil) (fun _ _ _ _ _ => (m_var 2)) (fun _ _ _ _ _ => (m_var 3))))))))))))
theorem o_Job___init__ (e : E P K mg) : ∃ fd, FnOk P w K mg base CX0 3 (He.ma K (He.ga K "Job") "__init__") fd ["self", "period", "duration", "start", "cost"] (spM (Gk K) 5 m_Job___init__) ∧ FunD K "__init__" "Job.__init__" (defArgs st_Job___init__) (defBody st_Job___init__) sc_Job___init__ ((D_Job___init__).dvs K) ((D_Job___init__).kws K) (He.ma K (He.ga K "Job") "__init__") fd := by
  obtain ⟨fd, F⟩ := f_Job___init__ e
  exact ⟨fd, fn_ok (N := N_Job___init__) F ⟨rfl, rfl, rfl, by decide +kernel, rfl, by decide +kernel, by decide +kernel⟩ rfl rfl fun cdv A outer s H E hr =>
    (js_cons (s_if (t_not (t_val (x_call (d_is_integer e) (hr.mono (by decide)) (g_is_integer e) (len_cons (len_cons (len_cons len_nil))) (a_cons (m_var 1) (a_cons m_int (a_cons (x_gint (g_MAX_PERIOD e)) a_nil)))))) (js_one js_bad) js_nil)
    (js_cons (s_if (t_not (t_val (x_call (d_is_integer e) (hr.mono (by decide)) (g_is_integer e) (len_cons (len_cons (len_cons len_nil))) (a_cons (m_var 2) (a_cons m_int (a_cons (m_var 1) a_nil)))))) (js_one js_bad) js_nil)
    (js_cons (s_if (t_not (t_val (x_call (d_is_integer e) (hr.mono (by decide)) (g_is_integer e) (len_cons (len_cons (len_cons len_nil))) (a_cons (m_var 3) (a_cons m_int (a_cons (x_sub (m_var 1) m_int) a_nil)))))) (js_one js_bad) js_nil)
    (js_cons (s_if (t_not (t_val (x_call (d_is_integer e) (hr.mono (by decide)) (g_is_integer e) (len_cons (len_cons (len_cons len_nil))) (a_cons (m_var 4) (a_cons m_int (a_cons (x_gint (g_MAX_COST e)) a_nil)))))) (js_one js_bad) js_nil)
    (js_cons (s_fld (inj := inj) (c := 0) (f := 0) rfl (c_Job e) (n_Job_cycle e) (m_var 0) (m_var 1))
    (js_cons (s_fld (inj := inj) (c := 0) (f := 1) rfl (c_Job e) (n_Job_length e) (m_var 0) (m_var 2))
    (js_cons (s_fld (inj := inj) (c := 0) (f := 2) rfl (c_Job e) (n_Job_begin e) (m_var 0) (m_var 3))
    (js_one (s_fld (inj := inj) (c := 0) (f := 3) rfl (c_Job e) (n_Job_charge e) (m_var 0) (m_var 4)))))))))), F⟩
theorem kwJob_2_start_cost (e : E P K mg) : Kb P w K mg base (Gk K) (He.ma K (He.ga K "Job") "__init__") 3 ["self", "period", "duration", "start", "cost"] 5 2 ["start", "cost"] m_Job___init__ kfJob_2_start_cost := by
  obtain ⟨fd, F, FD⟩ := o_Job___init__ e
  obtain ⟨its, mv, hb⟩ := FunD.kbinds (ps := ["self", "period", "duration", "start", "cost"]) FD 3 ["start", "cost"] ([] : List (PySem.Str × V)) kgJob_2_start_cost (fun z => nomatch z) (fun z => nomatch z) (fun q h => nomatch h) krJob_2_start_cost (fun T D doc pm an cdv ct us its mv ws h1 h2 h3 h4 => match us, its, mv, ws, h1, h2, h3, h4 with | [_, _, _], [_], [], [_, _], _, _, _, _ => ⟨_, rfl, rfl⟩)
  exact ⟨fd, _, _, F, hb, kmJob_2_start_cost⟩
theorem d_job_in (e : E P K mg) : Dn P w K mg base (Gk K) (He.ga K "job_in") 5 ["words"] 1 m_job_in := by
  obtain ⟨fd, F⟩ := f_job_in e
  exact dn_of (N := N_job_in) F ⟨rfl, rfl, rfl, by decide +kernel, rfl, by decide +kernel, by decide +kernel⟩ rfl rfl (FunD.bindsN F fun _ _ _ _ _ _ us hl => match us, hl with | [_], _ => rfl) fun cdv A outer s H E hr =>
    (js_cons (js_setLc (by decide) (ps_setLc (i := 1) (own := [("word", 3)]) rfl nd_job_in rfl rfl (sw_true rfl rfl rfl (by decide +kernel)) (i_seq (x_sl (m_var 0) (o_some m_int) o_none)) (blkOk_by (N := N_job_in) (sc := sc_job_in) (by decide +kernel)) (fun _ _ _ _ _ => (g_nm nd_job_in (by first | exact Or.inl rfl | exact Or.inr rfl))) (fun _ _ _ _ _ => kts_nil) (fun _ _ _ _ _ => (x_call (d_number_in e) (hr.mono (by decide)) (g_number_in e) (len_cons len_nil) (a_cons (m_var 3) a_nil)))))
    (js_cons (s_if (PW.pt (w_or (t_ne hr (x_blt call_lenM c_len (g_len e) (by decide +kernel) (a_cons (m_var 0) a_nil)) m_int) (w_or (t_not (t_val (x_call (d_is_name e) (hr.mono (by decide)) (g_is_name e) (len_cons len_nil) (a_cons (x_ix (m_var 0) m_int) a_nil)))) (pw_or1 (t_inL hr m_non (m_var 1)))))) (js_one (s_ret m_non)) js_nil)
    (js_one (s_try (js_one (s_set nd_job_in (by first | exact Or.inl rfl | exact Or.inr rfl) (x_makeN (k_Job e) (kwJob_2_start_cost e) (hr.mono (by decide)) (g_Job e) (len_cons (len_cons len_nil)) (len_cons (len_cons len_nil)) (a_cons (x_ix (m_var 1) m_int) (a_cons (x_ix (m_var 1) m_int) a_nil)) (kk_cons (pk_cons (x_ix (m_var 1) m_int) (kk_cons (pk_cons (x_ix (m_var 1) m_int) kk_nil))))))) (js_one (s_ret (x_tup (a_cons (x_ix (m_var 0) m_int) (a_cons (m_var 2) a_nil)))))))))
theorem d_read_timetable (e : E P K mg) : Dn P w K mg base (Gk K) (He.ga K "read_timetable") 6 ["text"] 1 m_read_timetable := by
  obtain ⟨fd, F⟩ := f_read_timetable e
  exact dn_of (N := N_read_timetable) F ⟨rfl, rfl, rfl, by decide +kernel, rfl, by decide +kernel, by decide +kernel⟩ rfl rfl (FunD.bindsN F fun _ _ _ _ _ _ us hl => match us, hl with | [_], _ => rfl) fun cdv A outer s H E hr =>
    (js_cons (s_if (t_not (t_val (x_isi rfl (y_str e) (.ty "str") (g_isinstance e) (m_var 0) (x_ty (g_str e) (by decide +kernel))))) (js_one js_bad) js_nil)
    (js_cons (s_star nd_read_timetable (x_split (m_var 0) (m_str [10])) (by first | exact Or.inl rfl | exact Or.inr rfl) (by first | exact Or.inl rfl | exact Or.inr rfl))
    (js_cons (s_set nd_read_timetable (by first | exact Or.inl rfl | exact Or.inr rfl) (x_lst a_nil))
    (js_cons (s_for (i_enum (g_enumerate e) (m_var 1)) (g_tup rfl (gs_cons (g_nm nd_read_timetable (by first | exact Or.inl rfl | exact Or.inr rfl)) (gs_cons (g_nm nd_read_timetable (by first | exact Or.inl rfl | exact Or.inr rfl)) gs_nil))) (js_cons (s_set nd_read_timetable (by first | exact Or.inl rfl | exact Or.inr rfl) (x_call (d_job_in e) (hr.mono (by decide)) (g_job_in e) (len_cons len_nil) (a_cons (x_split (m_var 5) (m_str [32])) a_nil)))
    (js_cons (s_if (t_isN (m_var 6) m_non) (js_one js_bad) js_nil)
    (js_one (s_expr (k_bm rfl b_append (pe_bm PySem.F.plainAttrs_list PySem.F.slot_list_append PySem.F.type_list_append mt_append (m_var 3) (a_cons (m_var 6) a_nil))))))) PassesOwn.never)
    (js_cons (s_if (PW.pt (w_or (t_ne hr (m_var 2) (m_str [])) (pw_or1 (t_eqLen (hr.mono (by decide)) (m_var 3) (x_lst a_nil))))) (js_one js_bad) js_nil)
    (js_cons (s_if (t_lt (x_blt call_lenM c_len (g_len e) (by decide +kernel) (a_cons (x_bty (call_dictP rfl) c_dictP (g_dict e) (by decide +kernel) (a_cons (m_var 3) a_nil)) a_nil)) (x_blt call_lenM c_len (g_len e) (by decide +kernel) (a_cons (m_var 3) a_nil))) (js_one js_bad) js_nil)
    (js_one (s_try (js_one (s_set nd_read_timetable (by first | exact Or.inl rfl | exact Or.inr rfl) (x_make (k_Timetable e) (d_Timetable___init__ e) (hr.mono (by decide)) (g_Timetable e) (fun s h v h' q => congrArg (· + 1) ((len_cons len_nil) s h v h' q)) (a_cons (x_bty (call_dictP rfl) c_dictP (g_dict e) (by decide +kernel) (a_cons (m_var 3) a_nil)) a_nil)))) (js_one (s_ret (m_var 7)))))))))))
theorem f__law_job (e : E P K mg) : ∃ fd, FunD K "_law_job" "_law_job" (defArgs st__law_job) (defBody st__law_job) sc__law_job ((D__law_job).dvs K) ((D__law_job).kws K) (He.ga K "_law_job") fd := e.c.def_ 18 (d := D__law_job) rfl
theorem d__law_job (e : E P K mg) : Dn P w K mg base (Gk K) (He.ga K "_law_job") 5 ["_law_row_here"] 1 m__law_job_0 := by
  obtain ⟨fd, F⟩ := f__law_job e
  exact dn_of (N := N__law_job) F ⟨rfl, rfl, rfl, by decide +kernel, rfl, by decide +kernel, by decide +kernel⟩ rfl rfl (FunD.bindsN F fun _ _ _ _ _ _ us hl => match us, hl with | [_], _ => rfl) fun cdv A outer s H E hr =>
    (js_one (s_ret (x_makeN (k_Job e) (kwJob_2_start_cost e) (hr.mono (by decide)) (g_Job e) (len_cons (len_cons len_nil)) (len_cons (len_cons len_nil)) (a_cons (x_ix (m_var 0) m_int) (a_cons (x_ix (m_var 0) m_int) a_nil)) (kk_cons (pk_cons (x_ix (m_var 0) m_int) (kk_cons (pk_cons (x_ix (m_var 0) m_int) kk_nil)))))))
theorem f__law_table (e : E P K mg) : ∃ fd, FunD K "_law_table" "_law_table" (defArgs st__law_table) (defBody st__law_table) sc__law_table ((D__law_table).dvs K) ((D__law_table).kws K) (He.ga K "_law_table") fd := e.c.def_ 19 (d := D__law_table) rfl
theorem d__law_table (e : E P K mg) : Dn P w K mg base (Gk K) (He.ga K "_law_table") 6 ["_law_drawn_here"] 1 m__law_table_0 := by
  obtain ⟨fd, F⟩ := f__law_table e
  exact dn_of (N := N__law_table) F ⟨rfl, rfl, rfl, by decide +kernel, rfl, by decide +kernel, by decide +kernel⟩ rfl rfl (FunD.bindsN F fun _ _ _ _ _ _ us hl => match us, hl with | [_], _ => rfl) fun cdv A outer s H E hr =>
    (js_cons (s_set nd__law_table (by first | exact Or.inl rfl | exact Or.inr rfl) (k_dnew pe_dnewK))
    (js_cons (s_lock (lk_var 0) (s_for (i_keys (m_var 0)) (g_nm nd__law_table (by first | exact Or.inl rfl | exact Or.inr rfl)) (js_one (s_dput hr (m_var 1) (m_var 2) (x_call (d__law_job e) (hr.mono (by decide)) (g__law_job e) (len_cons len_nil) (a_cons (x_dget hr (m_var 0) (m_var 2)) a_nil)))) PassesOwn.never))
    (js_one (s_ret (x_make (k_Timetable e) (d_Timetable___init__ e) (hr.mono (by decide)) (g_Timetable e) (fun s h v h' q => congrArg (· + 1) ((len_cons len_nil) s h v h' q)) (a_cons (m_var 1) a_nil))))))
theorem f_Timetable_all_parts (e : E P K mg) : ∃ fd, FunD K "all_parts" "Timetable.all_parts" (defArgs st_Timetable_all_parts) (defBody st_Timetable_all_parts) sc_Timetable_all_parts ((D_Timetable_all_parts).dvs K) ((D_Timetable_all_parts).kws K) (He.ma K (He.ga K "Timetable") "all_parts") fd := e.c.def_ 20 (d := D_Timetable_all_parts) rfl
theorem d_Timetable_all_parts (e : E P K mg) : Dn P w K mg base (Gk K) (He.ma K (He.ga K "Timetable") "all_parts") 1 ["self"] 1 m_Timetable_all_parts := by
  obtain ⟨fd, F⟩ := f_Timetable_all_parts e
  exact dn_of (N := N_Timetable_all_parts) F ⟨rfl, rfl, rfl, by decide +kernel, rfl, by decide +kernel, by decide +kernel⟩ rfl rfl (FunD.bindsN F fun _ _ _ _ _ _ us hl => match us, hl with | [_], _ => rfl) fun cdv A outer s H E hr =>
    (js_one (s_ret (x_listItems (g_list e) (x_fld (inj := inj) (c := 1) (f := 4) rfl (c_Timetable e) (n_Timetable_lines e) (m_var 0)))))
theorem f_Job___eq__ (e : E P K mg) : ∃ fd, FunD K "__eq__" "Job.__eq__" (defArgs st_Job___eq__) (defBody st_Job___eq__) sc_Job___eq__ ((D_Job___eq__).dvs K) ((D_Job___eq__).kws K) (He.ma K (He.ga K "Job") "__eq__") fd := e.c.def_ 21 (d := D_Job___eq__) rfl
theorem d_Job___eq__ (e : E P K mg) : Dn P w K mg base (Gk K) (He.ma K (He.ga K "Job") "__eq__") 2 ["self", "other"] 2 m_Job___eq__ := by
  obtain ⟨fd, F⟩ := f_Job___eq__ e
  exact dn_of (N := N_Job___eq__) F ⟨rfl, rfl, rfl, by decide +kernel, rfl, by decide +kernel, by decide +kernel⟩ rfl rfl (FunD.bindsN F fun _ _ _ _ _ _ us hl => match us, hl with | [_, _], _ => rfl) fun cdv A outer s H E hr =>
    (js_one (s_ret (x_and (x_isi rfl (y_Job e) (.own _) (g_isinstance e) (m_var 1) (x_cls (g_Job e))) (pe_one (x_eq hr (x_meth0 (c := 0) (d_Job_all_parts e) (hr.mono (by decide)) (c_Job e) (me_Job_all_parts e) nf_all_parts rfl (m_var 0)) (x_meth0 (c := 0) (d_Job_all_parts e) (hr.mono (by decide)) (c_Job e) (me_Job_all_parts e) nf_all_parts rfl (m_var 1)))))))
theorem f_Timetable___eq__ (e : E P K mg) : ∃ fd, FunD K "__eq__" "Timetable.__eq__" (defArgs st_Timetable___eq__) (defBody st_Timetable___eq__) sc_Timetable___eq__ ((D_Timetable___eq__).dvs K) ((D_Timetable___eq__).kws K) (He.ma K (He.ga K "Timetable") "__eq__") fd := e.c.def_ 22 (d := D_Timetable___eq__) rfl
theorem d_Timetable___eq__ (e : E P K mg) : Dn P w K mg base (Gk K) (He.ma K (He.ga K "Timetable") "__eq__") 5 ["self", "other"] 2 m_Timetable___eq__ := by
  obtain ⟨fd, F⟩ := f_Timetable___eq__ e
  exact dn_of (N := N_Timetable___eq__) F ⟨rfl, rfl, rfl, by decide +kernel, rfl, by decide +kernel, by decide +kernel⟩ rfl rfl (FunD.bindsN F fun _ _ _ _ _ _ us hl => match us, hl with | [_, _], _ => rfl) fun cdv A outer s H E hr =>
    (js_one (s_ret (x_and (x_isi rfl (y_Timetable e) (.own _) (g_isinstance e) (m_var 1) (x_cls (g_Timetable e))) (pe_one (x_deq (c := 0) (d_Job___eq__ e) (me_Job___eq__ e) (hr.mono (by decide)) (x_meth0 (c := 1) (d_Timetable_all_parts e) (hr.mono (by decide)) (c_Timetable e) (me_Timetable_all_parts e) nf_all_parts rfl (m_var 0)) (x_meth0 (c := 1) (d_Timetable_all_parts e) (hr.mono (by decide)) (c_Timetable e) (me_Timetable_all_parts e) nf_all_parts rfl (m_var 1)))))))
theorem f__law_drawn (e : E P K mg) : ∃ fd, FunD K "_law_drawn" "_law_drawn" (defArgs st__law_drawn) (defBody st__law_drawn) sc__law_drawn ((D__law_drawn).dvs K) ((D__law_drawn).kws K) (He.ga K "_law_drawn") fd := e.c.def_ 23 (d := D__law_drawn) rfl
theorem d__law_drawn (e : E P K mg) : Dn P w K mg base (Gk K) (He.ga K "_law_drawn") 5 ["_law_state", "_law_most"] 2 m__law_drawn_0 := by
  obtain ⟨fd, F⟩ := f__law_drawn e
  exact dn_of (N := N__law_drawn) F ⟨rfl, rfl, rfl, by decide +kernel, rfl, by decide +kernel, by decide +kernel⟩ rfl rfl (FunD.bindsN F fun _ _ _ _ _ _ us hl => match us, hl with | [_, _], _ => rfl) fun cdv A outer s H E hr =>
    (js_cons (s_par nd__law_drawn (by decide) (k_dnew pe_dnewK) m_int)
    (js_cons (s_for (i_seq (x_sl (x_lst (a_cons (m_str [109, 97, 105, 108]) (a_cons (m_str [98]) (a_cons (m_str [108, 111, 103]) (a_cons (m_str [97]) a_nil))))) o_none (o_some (x_add m_int (x_call (d__law_next e) (hr.mono (by decide)) (g__law_next e) (len_cons (len_cons len_nil)) (a_cons (m_var 0) (a_cons m_int a_nil))))))) (g_nm nd__law_drawn (by first | exact Or.inl rfl | exact Or.inr rfl)) (js_cons (s_set nd__law_drawn (by first | exact Or.inl rfl | exact Or.inr rfl) (x_call (d__law_pick e) (hr.mono (by decide)) (g__law_pick e) (len_cons (len_cons len_nil)) (a_cons (m_var 0) (a_cons (x_lst (a_cons m_int (a_cons m_int (a_cons m_int (a_cons m_int (a_cons m_int (a_cons m_int (a_cons m_int (a_cons (x_add m_int (x_call (d__law_next e) (hr.mono (by decide)) (g__law_next e) (len_cons (len_cons len_nil)) (a_cons (m_var 0) (a_cons m_int a_nil)))) (a_cons m_int (a_cons m_int a_nil))))))))))) a_nil))))
    (js_cons (s_while 1000 (t_gt (x_mul (m_var 3) (m_var 5)) (m_var 1)) (js_cons (s_set nd__law_drawn (by first | exact Or.inl rfl | exact Or.inr rfl) (x_if (t_gt (m_var 5) m_int) (x_add m_int (x_div (m_var 5) m_int)) m_int))
    (js_one (s_if (t_gt (x_mul (m_var 3) (m_var 5)) (m_var 1)) (js_one (s_set nd__law_drawn (by first | exact Or.inl rfl | exact Or.inr rfl) m_int)) js_nil))) PassesOwn.never)
    (js_cons (s_set nd__law_drawn (by first | exact Or.inl rfl | exact Or.inr rfl) (x_mul (m_var 3) (m_var 5)))
    (js_cons (s_set nd__law_drawn (by first | exact Or.inl rfl | exact Or.inr rfl) (x_add m_int (x_if (t_eq hr (x_call (d__law_next e) (hr.mono (by decide)) (g__law_next e) (len_cons (len_cons len_nil)) (a_cons (m_var 0) (a_cons m_int a_nil))) m_int) (x_call (d__law_next e) (hr.mono (by decide)) (g__law_next e) (len_cons (len_cons len_nil)) (a_cons (m_var 0) (a_cons (m_var 5) a_nil))) m_int)))
    (js_one (s_dput hr (m_var 2) (m_var 4) (x_tup (a_cons (m_var 5) (a_cons (m_var 6) (a_cons (x_call (d__law_next e) (hr.mono (by decide)) (g__law_next e) (len_cons (len_cons len_nil)) (a_cons (m_var 0) (a_cons (m_var 5) a_nil))) (a_cons (x_add m_int (x_call (d__law_next e) (hr.mono (by decide)) (g__law_next e) (len_cons (len_cons len_nil)) (a_cons (m_var 0) (a_cons m_int a_nil)))) a_nil))))))))))) PassesOwn.never)
    (js_one (s_ret (m_var 2)))))
theorem f__law_one_right (e : E P K mg) : ∃ fd, FunD K "_law_one_right" "_law_one_right" (defArgs st__law_one_right) (defBody st__law_one_right) sc__law_one_right ((D__law_one_right).dvs K) ((D__law_one_right).kws K) (He.ga K "_law_one_right") fd := e.c.def_ 24 (d := D__law_one_right) rfl
theorem d__law_one_right (e : E P K mg) : Dn P w K mg base (Gk K) (He.ga K "_law_one_right") 8 ["_law_state"] 1 m__law_one_right_5 := by
  obtain ⟨fd, F⟩ := f__law_one_right e
  exact dn_of (N := N__law_one_right) F ⟨rfl, rfl, rfl, by decide +kernel, rfl, by decide +kernel, by decide +kernel⟩ rfl rfl (FunD.bindsN F fun _ _ _ _ _ _ us hl => match us, hl with | [_], _ => rfl) fun cdv A outer s H E hr =>
    (js_cons (s_set nd__law_one_right (by first | exact Or.inl rfl | exact Or.inr rfl) (x_call (d__law_drawn e) (hr.mono (by decide)) (g__law_drawn e) (len_cons (len_cons len_nil)) (a_cons (m_var 0) (a_cons m_int a_nil))))
    (js_cons (s_lock (lk_var 1) (js_setLc (by decide) (ps_setLc (i := 2) (own := [("_law_name", 7)]) rfl nd__law_one_right rfl rfl (sw_true rfl rfl rfl (by decide +kernel)) (i_keys (m_var 1)) (blkOk_by (N := N__law_one_right) (sc := sc__law_one_right) (by decide +kernel)) (fun _ _ _ _ _ => (g_nm nd__law_one_right (by first | exact Or.inl rfl | exact Or.inr rfl))) (fun _ _ _ _ _ => kts_nil) (fun _ _ _ _ _ => (x_add (x_join (m_str [32]) (x_add (x_lst (a_cons (m_var 7) a_nil)) (k_lc (by decide) (pe_lc (own := [("_law_number_here", 8)]) rfl nd__law_one_right (i_tup (x_dget hr (m_var 1) (m_var 7))) (show BlkOk N__law_one_right (relS _ sc__law_one_right) _ _ from blkOk_by (by decide +kernel)) (fun _ _ _ _ _ => (g_nm nd__law_one_right (by first | exact Or.inl rfl | exact Or.inr rfl))) (fun _ _ _ _ _ => kts_nil) (fun _ _ _ _ _ => (x_bty call_str_int c_strI (g_str e) (by decide +kernel) (a_cons (m_var 8) a_nil))))))) (m_str [10]))))))
    (js_cons (s_set nd__law_one_right (by first | exact Or.inl rfl | exact Or.inr rfl) (x_join (m_str []) (m_var 2)))
    (js_cons (s_if (PW.pt (w_or (t_ne hr (x_call (d_timetable_text e) (hr.mono (by decide)) (g_timetable_text e) (len_cons len_nil) (a_cons (x_call (d__law_table e) (hr.mono (by decide)) (g__law_table e) (len_cons len_nil) (a_cons (m_var 1) a_nil)) a_nil)) (m_var 3)) (pw_or1 (t_not (t_oeq (c := 1) (d_Timetable___eq__ e) (me_Timetable___eq__ e) (hr.mono (by decide)) (x_call (d_read_timetable e) (hr.mono (by decide)) (g_read_timetable e) (len_cons len_nil) (a_cons (m_var 3) a_nil)) (x_call (d__law_table e) (hr.mono (by decide)) (g__law_table e) (len_cons len_nil) (a_cons (m_var 1) a_nil))))))) (js_one (s_ret m_bl)) js_nil)
    (js_cons (s_set nd__law_one_right (by first | exact Or.inl rfl | exact Or.inr rfl) (x_lst (a_cons (m_str []) (a_cons (m_str [122]) (a_cons (m_str [122, 32, 52]) (a_cons (m_str [122, 32, 52, 32, 50, 32, 48]) (a_cons (m_str [122, 32, 52, 32, 50, 32, 48, 32, 49, 32, 49]) (a_cons (m_str [90, 32, 52, 32, 50, 32, 48, 32, 49]) (a_cons (m_str [122, 32, 48, 32, 49, 32, 48, 32, 49]) a_nil)))))))))
    (js_cons (s_set nd__law_one_right (by first | exact Or.inl rfl | exact Or.inr rfl) (x_add (m_var 4) (x_lst (a_cons (m_str [122, 32, 49, 51, 32, 49, 32, 48, 32, 49]) (a_cons (m_str [122, 32, 52, 32, 48, 32, 48, 32, 49]) (a_cons (m_str [122, 32, 52, 32, 53, 32, 48, 32, 49]) (a_cons (m_str [122, 32, 52, 32, 50, 32, 52, 32, 49]) (a_cons (m_str [122, 32, 52, 32, 50, 32, 45, 49, 32, 49]) a_nil))))))))
    (js_cons (s_set nd__law_one_right (by first | exact Or.inl rfl | exact Or.inr rfl) (x_add (m_var 4) (x_lst (a_cons (m_str [122, 32, 52, 32, 50, 32, 48, 32, 48]) (a_cons (m_str [122, 32, 52, 32, 50, 32, 48, 32, 49, 48]) (a_cons (m_str [122, 32, 48, 52, 32, 50, 32, 48, 32, 49]) (a_cons (m_str [122, 32, 52, 32, 48, 50, 32, 48, 32, 49]) (a_cons (m_str [122, 32, 52, 32, 50, 32, 48, 48, 32, 49]) a_nil))))))))
    (js_cons (s_set nd__law_one_right (by first | exact Or.inl rfl | exact Or.inr rfl) (x_add (m_var 4) (x_lst (a_cons (m_str [122, 32, 52, 32, 50, 32, 48, 32, 48, 49]) a_nil))))
    (js_cons (s_set nd__law_one_right (by first | exact Or.inl rfl | exact Or.inr rfl) (x_add (m_var 4) (x_lst (a_cons (m_str [122, 32, 32, 52, 32, 50, 32, 48, 32, 49]) (a_cons (m_str [32, 122, 32, 52, 32, 50, 32, 48, 32, 49]) (a_cons (m_str [122, 32, 52, 32, 50, 32, 48, 32, 49, 32]) (a_cons (m_str [122, 32, 52, 32, 120, 32, 48, 32, 49]) (a_cons (m_str [52, 32, 50, 32, 48, 32, 49, 32, 122]) a_nil))))))))
    (js_cons (s_set nd__law_one_right (by first | exact Or.inl rfl | exact Or.inr rfl) (x_add (m_var 4) (x_lst (a_cons (m_str [97, 98, 99, 100, 101, 102, 103, 104, 105, 32, 52, 32, 50, 32, 48, 32, 49]) (a_cons (m_str [122, 32, 52, 32, 50, 32, 48, 32, 43, 49]) (a_cons (m_str [122, 32, 52, 46, 48, 32, 50, 32, 48, 32, 49]) (a_cons (m_str [122, 32, 57, 57, 57, 57, 57, 32, 49, 32, 48, 32, 49]) a_nil)))))))
    (js_cons (s_set nd__law_one_right (by first | exact Or.inl rfl | exact Or.inr rfl) (x_add (m_var 4) (x_lst (a_cons (m_str [122, 49, 32, 52, 32, 50, 32, 48, 32, 49]) a_nil))))
    (js_cons (s_par nd__law_one_right (by decide) (x_call (d__law_next e) (hr.mono (by decide)) (g__law_next e) (len_cons (len_cons len_nil)) (a_cons (m_var 0) (a_cons (x_add (x_blt call_lenM c_len (g_len e) (by decide +kernel) (a_cons (m_var 2) a_nil)) m_int) a_nil))) (x_call (d__law_pick e) (hr.mono (by decide)) (g__law_pick e) (len_cons (len_cons len_nil)) (a_cons (m_var 0) (a_cons (m_var 4) a_nil))))
    (js_cons (s_if (t_ne hr (x_call (d__law_row e) (hr.mono (by decide)) (g__law_row e) (len_cons len_nil) (a_cons (x_join (m_str []) (x_add (x_add (x_sl (m_var 2) o_none (o_some (m_var 5))) (x_lst (a_cons (x_add (m_var 6) (m_str [10])) a_nil))) (x_sl (m_var 2) (o_some (m_var 5)) o_none))) a_nil)) (m_var 5)) (js_one (s_ret m_bl)) js_nil)
    (js_cons (s_if (PW.pt (w_or (t_ne hr (x_call (d__law_row e) (hr.mono (by decide)) (g__law_row e) (len_cons len_nil) (a_cons (x_add (m_var 3) (m_str [120])) a_nil)) (x_blt call_lenM c_len (g_len e) (by decide +kernel) (a_cons (m_var 2) a_nil))) (pw_or1 (t_ne hr (x_call (d__law_row e) (hr.mono (by decide)) (g__law_row e) (len_cons len_nil) (a_cons (x_init (m_var 3)) a_nil)) (x_sub (x_blt call_lenM c_len (g_len e) (by decide +kernel) (a_cons (m_var 2) a_nil)) m_int))))) (js_one (s_ret m_bl)) js_nil)
    (js_cons (s_if (t_ne hr (x_call (d__law_row e) (hr.mono (by decide)) (g__law_row e) (len_cons len_nil) (a_cons (x_join (m_str []) (x_rev (m_var 2))) a_nil)) (x_neg m_int)) (js_one (s_ret m_bl)) js_nil)
    (js_cons (s_if (t_ne hr (x_call (d__law_row e) (hr.mono (by decide)) (g__law_row e) (len_cons len_nil) (a_cons (x_add (m_var 3) (x_ix (m_var 2) (x_call (d__law_next e) (hr.mono (by decide)) (g__law_next e) (len_cons (len_cons len_nil)) (a_cons (m_var 0) (a_cons (x_blt call_lenM c_len (g_len e) (by decide +kernel) (a_cons (m_var 2) a_nil)) a_nil))))) a_nil)) m_int) (js_one (s_ret m_bl)) js_nil)
    (js_one (s_ret (x_or (x_lt (x_blt call_lenM c_len (g_len e) (by decide +kernel) (a_cons (m_var 2) a_nil)) m_int) (pe_one (x_eq hr (x_call (d__law_row e) (hr.mono (by decide)) (g__law_row e) (len_cons len_nil) (a_cons (x_join (m_str []) (x_sl (m_var 2) (o_some m_int) o_none)) a_nil)) (x_neg m_int))))))))))))))))))))))
theorem r_law (e : E P K mg) {fd : FuncData} (F : FunD K "law" "law" (defArgs st_law) (defBody st_law) sc_law ((D_law).dvs K) ((D_law).kws K) (He.ga K "law") fd) : FnOk P w K mg base CX0 9 (He.ga K "law") fd ["_law_script"] (spM (Gk K) 1 m_law_14) :=
  fn_ok (N := N_law) F ⟨rfl, rfl, rfl, by decide +kernel, rfl, by decide +kernel, by decide +kernel⟩ rfl rfl fun cdv A outer s H E hr =>
    (js_cons (s_for (i_rng3 (g_range e) m_int (x_blt (call_max2 rfl) c_max2 (g_max e) (by decide +kernel) (a_cons m_int (a_cons (x_blt (call_min2 rfl) c_min2 (g_min e) (by decide +kernel) (a_cons m_int (a_cons (x_blt call_lenM c_len (g_len e) (by decide +kernel) (a_cons (m_var 0) a_nil)) a_nil))) a_nil))) m_int) (g_nm nd_law (by first | exact Or.inl rfl | exact Or.inr rfl)) (js_one (s_if (t_not (t_val (x_call (d__law_one_right e) (hr.mono (by decide)) (g__law_one_right e) (len_cons len_nil) (a_cons (x_lst (a_cons (m_var 0) (a_cons (m_var 1) (a_cons m_int a_nil)))) a_nil)))) (js_one (s_ret m_bl)) js_nil)) PassesOwn.never)
    (js_one (s_ret (x_call0 (d__law_fixed_right e) (hr.mono (by decide)) (g__law_fixed_right e)))))
end
end L13
end KA
set_option autoImplicit true
set_option maxHeartbeats 200000
set_option maxRecDepth 512
set_option linter.all false
/-! KWp: what a mini program ends in: rules for its proofs. -/
namespace KA
/-- it ends well, so that Q -/
def Rt {α : Type} (r : Res α) (Q : α → MH → Prop) : Prop := match r with
  | .ok a h => Q a h
  | _ => False
@[simp] theorem rt_bind {α β : Type} (r : Res α) (k : α → MH → Res β) (Q : β → MH → Prop) : Rt (r.bind k) Q = Rt r fun a h => Rt (k a h) Q := by cases r <;> rfl
@[simp] theorem rt_ok {α : Type} (a : α) (h : MH) (Q : α → MH → Prop) : Rt (.ok a h) Q = Q a h := rfl
@[simp] theorem rt_bad {α : Type} (Q : α → MH → Prop) : Rt (.bad : Res α) Q = False := rfl
theorem Rt.imp {α : Type} {r : Res α} {Q Q' : α → MH → Prop} (p : Rt r Q) (k : ∀ a h, Q a h → Q' a h) : Rt r Q' := by
  cases r with
  | ok a h => exact k a h p
  | _ => exact p
theorem Rt.inv {α : Type} {r : Res α} {Q : α → MH → Prop} (p : Rt r Q) : ∃ a h, r = .ok a h ∧ Q a h := by
  cases r with
  | ok a h => exact ⟨a, h, rfl, p⟩
  | _ => exact False.elim p
theorem Rt.eq {α : Type} {r : Res α} {v : α} {h : MH} (p : Rt r fun a h' => a = v ∧ h' = h) : r = .ok v h := by
  obtain ⟨a, h', e, e1, e2⟩ := p.inv
  rw [e, e1, e2]
/-- how a statement ends -/
structure Po where
  n : Sl → MH → Prop
  r : MV → MH → Prop
  b : Sl → MH → Prop
  c : Sl → MH → Prop
def Oc (o : Out) (P : Po) : Prop := match o with
  | .nx σ h => P.n σ h
  | .rt v h => P.r v h
  | .bk σ h => P.b σ h
  | .ct σ h => P.c σ h
  | _ => False
@[simp] theorem oc_nx (σ : Sl) (h : MH) (P : Po) : Oc (.nx σ h) P = P.n σ h := rfl
@[simp] theorem oc_rt (v : MV) (h : MH) (P : Po) : Oc (.rt v h) P = P.r v h := rfl
@[simp] theorem oc_bk (σ : Sl) (h : MH) (P : Po) : Oc (.bk σ h) P = P.b σ h := rfl
@[simp] theorem oc_ct (σ : Sl) (h : MH) (P : Po) : Oc (.ct σ h) P = P.c σ h := rfl
@[simp] theorem oc_bad (P : Po) : Oc .bad P = False := rfl
theorem Oc.imp {o : Out} {P P' : Po} (p : Oc o P) (n : ∀ σ h, P.n σ h → P'.n σ h) (r : ∀ v h, P.r v h → P'.r v h) (b : ∀ σ h, P.b σ h → P'.b σ h) (c : ∀ σ h, P.c σ h → P'.c σ h) : Oc o P' := by
  cases o with
  | nx => exact n _ _ p
  | rt => exact r _ _ p
  | bk => exact b _ _ p
  | ct => exact c _ _ p
  | _ => exact p
@[simp] theorem oc_out {α : Type} (r : Res α) (σ : Sl) (k : α → MH → Out) (P : Po) : Oc (r.out σ k) P = Rt r fun a h => Oc (k a h) P := by cases r <;> rfl
/-! ### expressions -/
@[simp] theorem rt_eV (i : Nat) (σ : Sl) (h : MH) (Q : MV → MH → Prop) : Rt (eV i σ h) Q = (match σ[i]? with
  | some (some v) => Q v h
  | _ => False) := by
  unfold eV
  cases σ[i]? with
  | none => rfl
  | some u => cases u <;> rfl
@[simp] theorem rt_eC (v : MV) (σ : Sl) (h : MH) (Q : MV → MH → Prop) : Rt (eC v σ h) Q = Q v h := rfl
@[simp] theorem rt_e1 (g : MV → MH → Res MV) (a : EM) (σ : Sl) (h : MH) (Q : MV → MH → Prop) : Rt (e1 g a σ h) Q = Rt (a σ h) fun v h1 => Rt (g v h1) Q := rt_bind ..
@[simp] theorem rt_e2 (g : MV → MV → MH → Res MV) (a b : EM) (σ : Sl) (h : MH) (Q : MV → MH → Prop) : Rt (e2 g a b σ h) Q = Rt (a σ h) fun v h1 => Rt (b σ h1) fun w h2 => Rt (g v w h2) Q := by
  unfold e2; simp
@[simp] theorem rt_aNil (σ : Sl) (h : MH) (Q : List MV → MH → Prop) : Rt (aNil σ h) Q = Q [] h := rfl
@[simp] theorem rt_aCons (a : EM) (r : AM) (σ : Sl) (h : MH) (Q : List MV → MH → Prop) : Rt (aCons a r σ h) Q = Rt (a σ h) fun v h1 => Rt (r σ h1) fun vs h2 => Q (v :: vs) h2 := by
  unfold aCons; simp
@[simp] theorem rt_eA (g : FM) (a : AM) (σ : Sl) (h : MH) (Q : MV → MH → Prop) : Rt (eA g a σ h) Q = Rt (a σ h) fun vs h1 => Rt (g vs h1) Q := rt_bind ..
@[simp] theorem rt_eIf (c : TM) (a b : EM) (σ : Sl) (h : MH) (Q : MV → MH → Prop) : Rt (eIf c a b σ h) Q = Rt (c σ h) fun k h1 => if k = true then Rt (a σ h1) Q else Rt (b σ h1) Q := by
  unfold eIf; rw [rt_bind]; congr; funext k h1; cases k <;> simp
@[simp] theorem rt_qB (v : MV) (h : MH) (Q : Bool → MH → Prop) : Rt (qB v h) Q = (match v with
  | .bl b => Q b h
  | _ => False) := by cases v <;> rfl
@[simp] theorem rt_cB (a : EM) (σ : Sl) (h : MH) (Q : Bool → MH → Prop) : Rt (cB a σ h) Q = Rt (a σ h) fun v h1 => (match v with
  | .bl b => Q b h1
  | _ => False) := by unfold cB; simp
@[simp] theorem rt_cNot (t : TM) (σ : Sl) (h : MH) (Q : Bool → MH → Prop) : Rt (cNot t σ h) Q = Rt (t σ h) fun k h1 => Q (!k) h1 := by unfold cNot; simp
@[simp] theorem rt_cAnd (t u : TM) (σ : Sl) (h : MH) (Q : Bool → MH → Prop) : Rt (cAnd t u σ h) Q = Rt (t σ h) fun k h1 => if k = true then Rt (u σ h1) Q else Q false h1 := by
  unfold cAnd; rw [rt_bind]; congr; funext k h1; cases k <;> simp
@[simp] theorem rt_cOr (t u : TM) (σ : Sl) (h : MH) (Q : Bool → MH → Prop) : Rt (cOr t u σ h) Q = Rt (t σ h) fun k h1 => if k = true then Q true h1 else Rt (u σ h1) Q := by
  unfold cOr; rw [rt_bind]; congr; funext k h1; cases k <;> simp
@[simp] theorem rt_cYes (σ : Sl) (h : MH) (Q : Bool → MH → Prop) : Rt (cYes σ h) Q = Q true h := rfl
@[simp] theorem rt_eAnd (a b : EM) (σ : Sl) (h : MH) (Q : MV → MH → Prop) : Rt (eAnd a b σ h) Q = Rt (a σ h) fun v h1 => (match v with
  | .bl k => if k = true then Rt (b σ h1) Q else Q (.bl false) h1
  | _ => False) := by
  unfold eAnd; rw [rt_bind]; congr; funext v h1
  cases v with
  | bl k => cases k <;> simp
  | _ => rfl
@[simp] theorem rt_eOr (a b : EM) (σ : Sl) (h : MH) (Q : MV → MH → Prop) : Rt (eOr a b σ h) Q = Rt (a σ h) fun v h1 => (match v with
  | .bl k => if k = true then Q (.bl true) h1 else Rt (b σ h1) Q
  | _ => False) := by
  unfold eOr; rw [rt_bind]; congr; funext v h1
  cases v with
  | bl k => cases k <;> simp
  | _ => rfl
@[simp] theorem rt_eNot (a : EM) (σ : Sl) (h : MH) (Q : MV → MH → Prop) : Rt (eNot a σ h) Q = Rt (a σ h) fun v h1 => (match v with
  | .bl k => Q (.bl (!k)) h1
  | _ => False) := by
  unfold eNot; rw [rt_bind]; congr; funext v h1; cases v <;> rfl
@[simp] theorem rt_eChain (g g' : MV → MV → MH → Res MV) (a b c : EM) (σ : Sl) (h : MH) (Q : MV → MH → Prop) : Rt (eChain g g' a b c σ h) Q = Rt (a σ h) fun x h1 => Rt (b σ h1) fun y h2 => Rt (g x y h2) fun z h3 => (match z with
  | .bl k => if k = true then Rt (c σ h3) fun w h4 => Rt (g' y w h4) Q else Q (.bl false) h3
  | _ => False) := by
  unfold eChain; simp only [rt_bind]; congr; funext x h1; congr; funext y h2; congr; funext z h3
  cases z with
  | bl k => cases k <;> simp
  | _ => rfl
/-! ### operators -/
@[simp] theorem rt_lim {α : Type} (n : Nat) (r : Res α) (Q : α → MH → Prop) : Rt (lim n r) Q = (n ≤ 16777216 ∧ Rt r Q) := by
  rcases lim_cases n r with ⟨e, q⟩ | q
  · rw [q]; simp [e]
  · by_cases e : n ≤ 16777216
    · rw [lim_ok e]; simp [e]
    · rw [q]; simp [e]
@[simp] theorem add_int (i j : Int) (h : MH) : qAdd (.int i) (.int j) h = .ok (.int (i + j)) h := rfl
@[simp] theorem sub_int (i j : Int) (h : MH) : qSub (.int i) (.int j) h = .ok (.int (i - j)) h := rfl
@[simp] theorem lt_int (i j : Int) (h : MH) : qLt (.int i) (.int j) h = .ok (.bl (decide (i < j))) h := rfl
@[simp] theorem le_int (i j : Int) (h : MH) : qLe (.int i) (.int j) h = .ok (.bl (decide (i ≤ j))) h := rfl
@[simp] theorem gt_int (i j : Int) (h : MH) : qGt (.int i) (.int j) h = .ok (.bl (decide (j < i))) h := rfl
@[simp] theorem ge_int (i j : Int) (h : MH) : qGe (.int i) (.int j) h = .ok (.bl (decide (j ≤ i))) h := rfl
@[simp] theorem neg_int (i : Int) (h : MH) : qNeg (.int i) h = .ok (.int (-i)) h := rfl
theorem mod_int {i j : Int} (h : MH) (p : 0 < j) : qMod (.int i) (.int j) h = .ok (.int (i % j)) h := by unfold qMod; simp [p]
theorem small9_of {j : Int} (p : 0 ≤ j) (q : j < 2 ^ 8000) : small9 j = true := by
  unfold small9
  have h1 : j.natAbs < 2 ^ 8000 := by omega
  have h2 : Nat.log2 j.natAbs < 9000 := by
    by_cases z : j.natAbs = 0
    · rw [z]; decide
    · have := (Nat.log2_lt z).mpr h1; omega
  exact Nat.ble_eq_true_of_le h2
theorem div_int {i j : Int} (h : MH) (p : 0 < j) (q : j < 2 ^ 8000) : qDiv (.int i) (.int j) h = .ok (.int (i / j)) h := by unfold qDiv; simp [p, small9_of (Int.le_of_lt p) q]
theorem small64_of {i : Int} (h1 : -18446744073709551616 < i) (h2 : i < 18446744073709551616) : small64 i = true := by
  unfold small64
  exact Nat.ble_eq_true_of_le (by omega)
theorem mul_l {i j : Int} (h : MH) (h1 : -18446744073709551616 < i) (h2 : i < 18446744073709551616) : qMul (.int i) (.int j) h = .ok (.int (i * j)) h := by unfold qMul; simp [small64_of h1 h2]
theorem mul_r {i j : Int} (h : MH) (h1 : -18446744073709551616 < j) (h2 : j < 18446744073709551616) : qMul (.int i) (.int j) h = .ok (.int (i * j)) h := by unfold qMul; simp [small64_of h1 h2]
@[simp] theorem isN_eq (v : MV) (h : MH) : qIsN v .non h = .ok (.bl (match v with
  | .non => true
  | _ => false)) h := by cases v <;> rfl
@[simp] theorem notN_eq (v : MV) (h : MH) : qNotN v .non h = .ok (.bl (match v with
  | .non => false
  | _ => true)) h := by cases v <;> rfl
@[simp] theorem eq_int (i j : Int) (h : MH) : qEq (.int i) (.int j) h = .ok (.bl (decide (i = j))) h := rfl
@[simp] theorem ne_int (i j : Int) (h : MH) : qNe (.int i) (.int j) h = .ok (.bl (!decide (i = j))) h := rfl
@[simp] theorem ne_bl (i j : Bool) (h : MH) : qNe (.bl i) (.bl j) h = .ok (.bl (!(i == j))) h := rfl
@[simp] theorem eq_bl (i j : Bool) (h : MH) : qEq (.bl i) (.bl j) h = .ok (.bl (i == j)) h := rfl
/-! ### statements -/
@[simp] theorem rt_fn (N : Nat) (b : SM) (vs : List MV) (h : MH) (Q : MV → MH → Prop) : Rt (fn N b vs h) Q = Oc (b (vs.map some ++ List.replicate (N - vs.length) none) h) ⟨fun _ h => Q .non h, Q, fun _ _ => False, fun _ _ => False⟩ := by
  unfold fn
  cases b (vs.map some ++ List.replicate (N - vs.length) none) h <;> rfl
@[simp] theorem oc_nil (σ : Sl) (h : MH) (P : Po) : Oc (jNil σ h) P = P.n σ h := rfl
@[simp] theorem oc_pass (σ : Sl) (h : MH) (P : Po) : Oc (jPass σ h) P = P.n σ h := rfl
@[simp] theorem oc_break (σ : Sl) (h : MH) (P : Po) : Oc (jBreak σ h) P = P.b σ h := rfl
@[simp] theorem oc_cont (σ : Sl) (h : MH) (P : Po) : Oc (jCont σ h) P = P.c σ h := rfl
@[simp] theorem oc_jbad (σ : Sl) (h : MH) (P : Po) : Oc (jBad σ h) P = False := rfl
@[simp] theorem oc_seq (s t : SM) (σ : Sl) (h : MH) (P : Po) : Oc (jSeq s t σ h) P = Oc (s σ h) ⟨fun σ1 h1 => Oc (t σ1 h1) P, P.r, P.b, P.c⟩ := by
  unfold jSeq
  cases s σ h <;> rfl
@[simp] theorem oc_drop (a : EM) (σ : Sl) (h : MH) (P : Po) : Oc (jDrop a σ h) P = Rt (a σ h) fun _ h1 => P.n σ h1 := by unfold jDrop; simp
@[simp] theorem oc_ret (a : EM) (σ : Sl) (h : MH) (P : Po) : Oc (jRet a σ h) P = Rt (a σ h) P.r := by unfold jRet; simp
@[simp] theorem oc_retN (σ : Sl) (h : MH) (P : Po) : Oc (jRetN σ h) P = P.r .non h := rfl
@[simp] theorem oc_if (c : TM) (s t : SM) (σ : Sl) (h : MH) (P : Po) : Oc (jIf c s t σ h) P = Rt (c σ h) fun k h1 => if k = true then Oc (s σ h1) P else Oc (t σ h1) P := by
  unfold jIf; rw [oc_out]; congr; funext k h1; cases k <;> simp
@[simp] theorem oc_asg (a : EM) (p : Pt) (σ : Sl) (h : MH) (P : Po) : Oc (jAsg a p σ h) P = Rt (a σ h) fun v h1 => (match asg p v σ with
  | some σ1 => P.n σ1 h1
  | none => False) := by
  unfold jAsg; rw [oc_out]; congr; funext v h1
  cases asg p v σ <;> rfl
@[simp] theorem oc_par (i j : Nat) (a b : EM) (σ : Sl) (h : MH) (P : Po) : Oc (jPar i j a b σ h) P = Rt (a σ h) fun v h1 => Rt (b σ h1) fun w h2 => P.n ((σ.set i (some v)).set j (some w)) h2 := by unfold jPar; simp
/-- a for: an invariant by the turn -/
theorem for_inv {w : Wk} {p : Pt} {b : SM} {P : Po} {σ : Sl} {h : MH} (I : Nat → Sl → MH → Prop) (h0 : I 0 σ h)
    (step : ∀ i σ h, i < w.n → I i σ h → ∃ v σ1, w.at_ i h = some v ∧ asg p v σ = some σ1 ∧ Oc (b σ1 h) ⟨I (i + 1), P.r, P.n, I (i + 1)⟩)
    (fin : ∀ σ h, I w.n σ h → w.fin h = true ∧ P.n σ h) : Oc (forL w p b w.n 0 σ h) P := by
  have key : ∀ (r i : Nat) (σ : Sl) (h : MH), i + r = w.n → I i σ h → Oc (forL w p b r i σ h) P := by
    intro r
    induction r with
    | zero =>
      intro i σ h e q
      have : i = w.n := by omega
      subst this
      obtain ⟨f1, f2⟩ := fin σ h q
      unfold forL
      rw [f1]
      exact f2
    | succ r ih =>
      intro i σ h e q
      obtain ⟨v, σ1, e1, e2, o⟩ := step i σ h (by omega) q
      unfold forL
      rw [e1]
      dsimp only
      rw [e2]
      dsimp only
      cases eb : b σ1 h with
      | nx σ2 h2 => rw [eb] at o; exact ih (i + 1) σ2 h2 (by omega) o
      | ct σ2 h2 => rw [eb] at o; exact ih (i + 1) σ2 h2 (by omega) o
      | bk σ2 h2 => rw [eb] at o; exact o
      | rt v2 h2 => rw [eb] at o; exact o
      | exc c v σ2 h2 => rw [eb] at o; exact o
      | bad => rw [eb] at o; exact o
  exact key w.n 0 σ h (Nat.zero_add _) h0
/-- a while: an invariant, with so many turns left -/
theorem while_inv {c : TM} {b : SM} {P : Po} (I : Nat → Sl → MH → Prop) 
    (step : ∀ n σ h, I n σ h → Rt (c σ h) fun k h1 => if k = true then Oc (b σ h1) ⟨fun σ2 h2 => ∃ m, m < n ∧ I m σ2 h2, P.r, P.n, fun σ2 h2 => ∃ m, m < n ∧ I m σ2 h2⟩ else P.n σ h1) : ∀ (n k : Nat) (σ : Sl) (h : MH), n < k → I n σ h → Oc (jWhile k c b σ h) P := by
  unfold jWhile
  intro n k
  induction k generalizing n with
  | zero => intro σ h l; omega
  | succ k ih =>
    intro σ h l q
    have s := step n σ h q
    unfold whileL
    rw [oc_out]
    refine s.imp fun v h1 z => ?_
    cases v with
    | false => simpa using z
    | true =>
      rw [if_pos rfl] at z
      dsimp only
      cases eb : b σ h1 with
      | nx σ2 h2 => rw [eb] at z; obtain ⟨m, e, i⟩ := z; exact ih m σ2 h2 (by omega) i
      | ct σ2 h2 => rw [eb] at z; obtain ⟨m, e, i⟩ := z; exact ih m σ2 h2 (by omega) i
      | bk σ2 h2 => rw [eb] at z; exact z
      | rt v2 h2 => rw [eb] at z; exact z
      | exc c v σ2 h2 => rw [eb] at z; exact z
      | bad => rw [eb] at z; exact z
/-- the loop of a comprehension -/
theorem acc_inv {A : Type} {w : Wk} {p : Pt} {t : TM} {b : Sl → A → MH → Res A} {σ : Sl} {Q : A → MH → Prop} {h : MH} {a : A} (I : Nat → A → MH → Prop) (h0 : I 0 a h)
    (step : ∀ i a h, i < w.n → I i a h → ∃ v σ1, w.at_ i h = some v ∧ asg p v σ = some σ1 ∧ Rt (t σ1 h) fun k h1 => if k = true then Rt (b σ1 a h1) (I (i + 1)) else I (i + 1) a h1)
    (fin : ∀ a h, I w.n a h → w.fin h = true ∧ Q a h) : Rt (accL w p t b σ w.n 0 a h) Q := by
  have key : ∀ (r i : Nat) (a : A) (h : MH), i + r = w.n → I i a h → Rt (accL w p t b σ r i a h) Q := by
    intro r
    induction r with
    | zero =>
      intro i a h e q
      have : i = w.n := by omega
      subst this
      obtain ⟨f1, f2⟩ := fin a h q
      unfold accL
      rw [f1]
      exact f2
    | succ r ih =>
      intro i a h e q
      obtain ⟨v, σ1, e1, e2, o⟩ := step i a h (by omega) q
      unfold accL
      rw [e1]
      dsimp only
      rw [e2]
      dsimp only
      rw [rt_bind]
      refine o.imp fun k h1 z => ?_
      cases k with
      | true =>
        rw [if_pos rfl] at z
        dsimp only
        rw [rt_bind]
        exact z.imp fun a2 h2 z2 => ih (i + 1) a2 h2 (by omega) z2
      | false =>
        rw [if_neg Bool.false_ne_true] at z
        exact ih (i + 1) a h1 (by omega) z
  exact key w.n 0 a h (Nat.zero_add _) h0
@[simp] theorem oc_for (w : WM) (p : Pt) (b : SM) (σ : Sl) (h : MH) (P : Po) : Oc (jFor w p b σ h) P = Rt (w σ h) fun k h1 => Oc (forL k p b k.n 0 σ h1) P := by unfold jFor; simp
@[simp] theorem rt_eLc (w : WM) (p : Pt) (t : TM) (e : EM) (vs : List Nat) (σ : Sl) (h : MH) (Q : MV → MH → Prop) : Rt (eLc w p t e vs σ h) Q = Rt (w σ h) fun k h1 => Rt (accL k p t (bE e) (wipeM σ vs) k.n 0 (0, []) h1) fun acc h2 => Q (.ref h2.n) (h2.push (.lst acc.2.reverse)) := by
  unfold eLc kLst; simp
@[simp] theorem rt_eDc (w : WM) (p : Pt) (t : TM) (a b : EM) (vs : List Nat) (σ : Sl) (h : MH) (Q : MV → MH → Prop) : Rt (eDc w p t a b vs σ h) Q = Rt (w σ h) fun k h1 => Rt (accL k p t (bD a b) (wipeM σ vs) k.n 0 (0, []) h1) fun acc h2 => Q (.ref h2.n) (h2.push (.dct false false acc.2)) := by
  unfold eDc kDct; simp
@[simp] theorem rt_bE (e : EM) (σ : Sl) (acc : Nat × List MV) (h : MH) (Q : Nat × List MV → MH → Prop) : Rt (bE e σ acc h) Q = Rt (e σ h) fun y h1 => acc.1 + 1 ≤ 16777216 ∧ Q (acc.1 + 1, y :: acc.2) h1 := by
  unfold bE; simp
@[simp] theorem rt_bD (a b : EM) (σ : Sl) (acc : Nat × List (MV × MV)) (h : MH) (Q : Nat × List (MV × MV) → MH → Prop) : Rt (bD a b σ acc h) Q = Rt (a σ h) fun y h1 => Rt (b σ h1) fun z h2 => keyA y = true ∧ acc.1 + 1 ≤ 16777216 ∧ Q (acc.1 + 1, dput y z acc.2) h2 := by
  unfold bD; simp only [rt_bind]; congr; funext y h1; congr; funext z h2
  cases keyA y <;> simp
/-! ### places, by what stands there -/
theorem fld_eq {h : MH} {n c f : Nat} {fs : List (Nat × MV)} {v : MV} (e : h.get n = some (.ins c fs)) (e2 : fget f fs = some v) : qFld c f (.ref n) h = .ok v h := by
  unfold qFld
  simp [e, e2]
theorem dget_eq {h : MH} {n : Nat} {lk : Bool} {kvs : List (MV × MV)} {k v : MV} (e : h.get n = some (.dct false lk kvs)) (ek : keyA k = true) (e2 : dget k kvs = some v) : qDget (.ref n) k h = .ok v h := by
  unfold qDget dOf keyOk
  simp [e, ek, e2]
theorem isi_eq {h : MH} {nc k j : Nat} {v : MV} (e : kindOf h v = some j) (hj : j < nc) : qIsi nc k v h = .ok (.bl (isA j k)) h := by
  unfold qIsi
  rw [e]
  dsimp only
  rw [show Nat.blt j nc = true from Nat.ble_eq_true_of_le hj]
/-- h' has what h has -/
def Sub (h h' : MH) : Prop := ∀ a o, h.get a = some o → h'.get a = some o
theorem Sub.refl {h : MH} : Sub h h := fun _ _ e => e
theorem Sub.trans {h h1 h2 : MH} (a : Sub h h1) (b : Sub h1 h2) : Sub h h2 := fun x o e => b x o (a x o e)
theorem Sub.push {h : MH} {o : MO} : Sub h (h.push o) := fun a u e => MH.push_of e
/-- .. but at s -/
def Sx (s : Nat) (h h' : MH) : Prop := ∀ a o, a ≠ s → h.get a = some o → h'.get a = some o
theorem Sx.refl {s : Nat} {h : MH} : Sx s h h := fun _ _ _ e => e
theorem Sx.trans {s : Nat} {h h1 h2 : MH} (a : Sx s h h1) (b : Sx s h1 h2) : Sx s h h2 := fun x o n e => b x o n (a x o n e)
theorem Sub.sx {s : Nat} {h h' : MH} (a : Sub h h') : Sx s h h' := fun x o _ e => a x o e
theorem Sx.set {s : Nat} {h : MH} {o : MO} : Sx s h (h.set s o) := fun a u n e => by rw [MH.set_ne n]; exact e
/-- locking and unlocking -/
theorem rt_eLock {fp e : EM} {σ : Sl} {h : MH} {n : Nat} {tk : Bool} {kvs : List (MV × MV)} {Q : MV → MH → Prop} (ep : fp σ h = .ok (.ref n) h) (en : h.get n = some (.dct tk false kvs))
    (q : Rt (e σ (h.set n (.dct tk true kvs))) fun v h1 => ∃ kvs', h1.get n = some (.dct tk true kvs') ∧ Q v (h1.set n (.dct tk false kvs'))) : Rt (eLock fp e σ h) Q := by
  unfold eLock
  rw [ep]
  dsimp only
  rw [en]
  dsimp only
  obtain ⟨v, h1, e1, kvs', e2, q⟩ := q.inv
  rw [e1]
  unfold unlockR unlockH
  dsimp only
  rw [e2]
  exact q
theorem oc_lock {fp : EM} {s : SM} {σ : Sl} {h : MH} {n : Nat} {tk : Bool} {kvs : List (MV × MV)} {P : Po} (ep : fp σ h = .ok (.ref n) h) (en : h.get n = some (.dct tk false kvs))
    (q : Oc (s σ (h.set n (.dct tk true kvs))) ⟨fun σ1 h1 => ∃ kvs', h1.get n = some (.dct tk true kvs') ∧ P.n σ1 (h1.set n (.dct tk false kvs')), fun v h1 => ∃ kvs', h1.get n = some (.dct tk true kvs') ∧ P.r v (h1.set n (.dct tk false kvs')),
      fun σ1 h1 => ∃ kvs', h1.get n = some (.dct tk true kvs') ∧ P.b σ1 (h1.set n (.dct tk false kvs')), fun σ1 h1 => ∃ kvs', h1.get n = some (.dct tk true kvs') ∧ P.c σ1 (h1.set n (.dct tk false kvs'))⟩) : Oc (jLock fp s σ h) P := by
  unfold jLock
  rw [ep]
  dsimp only
  rw [en]
  dsimp only
  cases es : s σ (h.set n (.dct tk true kvs)) with
  | nx σ1 h1 => rw [es] at q; obtain ⟨kvs', e2, q⟩ := q; unfold unlockO unlockH; dsimp only; rw [e2]; exact q
  | rt v h1 => rw [es] at q; obtain ⟨kvs', e2, q⟩ := q; unfold unlockO unlockH; dsimp only; rw [e2]; exact q
  | bk σ1 h1 => rw [es] at q; obtain ⟨kvs', e2, q⟩ := q; unfold unlockO unlockH; dsimp only; rw [e2]; exact q
  | ct σ1 h1 => rw [es] at q; obtain ⟨kvs', e2, q⟩ := q; unfold unlockO unlockH; dsimp only; rw [e2]; exact q
  | exc c v σ1 h1 => rw [es] at q; exact q
  | bad => rw [es] at q; exact q
/-! ### numbers, tests of naturals -/
@[simp] theorem kblt (a b : Nat) : Nat.blt a b = decide (a < b) := by
  rw [Bool.eq_iff_iff, decide_eq_true_eq]
  exact ⟨fun h => Nat.le_of_ble_eq_true h, fun h => Nat.ble_eq_true_of_le h⟩
@[simp] theorem kble (a b : Nat) : Nat.ble a b = decide (a ≤ b) := by
  rw [Bool.eq_iff_iff, decide_eq_true_eq]
  exact ⟨fun h => Nat.le_of_ble_eq_true h, fun h => Nat.ble_eq_true_of_le h⟩
@[simp] theorem kbeq (a b : Nat) : Nat.beq a b = decide (a = b) := by
  rw [Bool.eq_iff_iff, decide_eq_true_eq]
  exact ⟨Nat.eq_of_beq_eq_true, fun h => by rw [h]; exact Nat.beq_refl b⟩
theorem beqN_eq : ∀ (a b : List Nat), beqN a b = decide (a = b)
  | [], [] => rfl
  | [], _ :: _ => rfl
  | _ :: _, [] => rfl
  | a :: r, b :: s => by
    unfold beqN
    rw [beqN_eq r s]
    by_cases c : a = b
    · subst c; simp
    · simp [c]
/-! ### kinds -/
@[simp] theorem isi_int (k : Nat) (i : Int) (h : MH) : qIsi 12 k (.int i) h = .ok (.bl (isA 2 k)) h := rfl
@[simp] theorem isi_str (k : Nat) (s : List Nat) (h : MH) : qIsi 12 k (.str s) h = .ok (.bl (isA 3 k)) h := rfl
@[simp] theorem isi_tup (k : Nat) (xs : List MV) (h : MH) : qIsi 12 k (.tup xs) h = .ok (.bl (isA 5 k)) h := rfl
@[simp] theorem isi_bl (k : Nat) (b : Bool) (h : MH) : qIsi 12 k (.bl b) h = .ok (.bl (isA 1 k)) h := rfl
@[simp] theorem isi_non (k : Nat) (h : MH) : qIsi 12 k .non h = .ok (.bl (isA 0 k)) h := rfl
theorem isi_ins {h : MH} {n c k : Nat} {fs : List (Nat × MV)} (e : h.get n = some (.ins c fs)) (hc : c < 2) : qIsi 12 k (.ref n) h = .ok (.bl (isA (c + 10) k)) h := isi_eq (by unfold kindOf; simp [e]) (by omega)
theorem isi_dct {h : MH} {n k : Nat} {lk : Bool} {kvs : List (MV × MV)} (e : h.get n = some (.dct false lk kvs)) : qIsi 12 k (.ref n) h = .ok (.bl (isA 6 k)) h := isi_eq (by unfold kindOf; simp [e]) (by omega)
@[simp] theorem isA_eq (j k : Nat) : isA j k = (decide (j = k) || (decide (j = 1) && decide (k = 2))) := by unfold isA; simp
/-! ### places in rows, slices, lengths -/
@[simp] theorem rt_ix_tup (xs : List MV) (i : Int) (h : MH) (Q : MV → MH → Prop) : Rt (qIx (.tup xs) (.int i) h) Q = (match atM xs i with
  | some x => Q x h
  | none => False) := by
  unfold qIx
  dsimp only
  cases atM xs i <;> rfl
theorem rt_ix_seq {v : MV} {xs : List MV} {h : MH} {i : Int} {x : MV} {Q : MV → MH → Prop} (e : seqOf h v = some xs) (e2 : atM xs i = some x) (q : Q x h) : Rt (qIx v (.int i) h) Q := by
  unfold qIx
  dsimp only
  cases v with
  | tup ys => cases e
  | _ => dsimp only; rw [e]; dsimp only; rw [e2]; exact q
theorem atM_int {xs : List MV} {i : Int} (h0 : 0 ≤ i) (hi : i < xs.length) : atM xs i = xs[i.toNat]? := by
  unfold atM ixM
  have : i.toNat < xs.length := by omega
  simp [h0, this]
theorem seq_ref {h : MH} {n : Nat} {xs : List MV} (e : h.get n = some (.lst xs)) : seqOf h (.ref n) = some xs := by unfold seqOf; simp [e]
@[simp] theorem seq_flst (h : MH) (xs : List MV) : seqOf h (.flst xs) = some xs := rfl
@[simp] theorem rt_len_str (s : List Nat) (h : MH) (Q : MV → MH → Prop) : Rt (qLen [.str s] h) Q = (s.length ≤ 16777216 ∧ Q (.int s.length) h) := by show Rt (lim _ _) Q = _; simp
@[simp] theorem len_tup (xs : List MV) (h : MH) : qLen [.tup xs] h = .ok (.int xs.length) h := rfl
@[simp] theorem len_flst (xs : List MV) (h : MH) : qLen [.flst xs] h = .ok (.int xs.length) h := rfl
theorem len_lst {h : MH} {n : Nat} {xs : List MV} (e : h.get n = some (.lst xs)) : qLen [.ref n] h = .ok (.int xs.length) h := by show qLen1 (.ref n) h = _; unfold qLen1; simp [e]
theorem len_dct {h : MH} {n : Nat} {tk : Bool} {kvs : List (MV × MV)} (e : h.get n = some (.dct tk false kvs)) : qLen [.ref n] h = .ok (.int kvs.length) h := by show qLen1 (.ref n) h = _; unfold qLen1; simp [e]
def slP (Q : MV → MH → Prop) (v : MV) (l u : Option Int) (h : MH) : Prop := match v with
  | .tup xs => Q (.tup (cutM xs l u)) h
  | v => (match seqOf h v with
    | some xs => Q (.ref h.n) (h.push (.lst (cutM xs l u)))
    | none => False)
theorem rt_slP (v : MV) (l u : Option Int) (h : MH) (Q : MV → MH → Prop) : Rt (match v with
    | .tup xs => .ok (.tup (cutM xs l u)) h
    | v => (match seqOf h v with
      | some xs => .ok (.ref h.n) (h.push (.lst (cutM xs l u)))
      | none => .bad)) Q = slP Q v l u h := by
  unfold slP
  cases v with
  | tup xs => rfl
  | flst xs => rfl
  | ref n => dsimp only; cases seqOf h (.ref n) <;> rfl
  | _ => rfl
@[simp] theorem rt_sl_hi (a e : EM) (σ : Sl) (h : MH) (Q : MV → MH → Prop) : Rt (eSl a none (some e) σ h) Q = Rt (a σ h) fun v h1 => Rt (e σ h1) fun x h2 => (match x with
  | .int i => slP Q v none (some i) h2
  | _ => False) := by
  unfold eSl; rw [rt_bind]; congr; funext v h1
  simp only [rt_bind, rt_ok]; congr; funext x h2
  cases x with
  | int i => simp only [rt_ok]; exact rt_slP ..
  | _ => rfl
@[simp] theorem rt_sl_lo (a e : EM) (σ : Sl) (h : MH) (Q : MV → MH → Prop) : Rt (eSl a (some e) none σ h) Q = Rt (a σ h) fun v h1 => Rt (e σ h1) fun x h2 => (match x with
  | .int i => slP Q v (some i) none h2
  | _ => False) := by
  unfold eSl; rw [rt_bind]; congr; funext v h1
  simp only [rt_bind]; congr; funext x h2
  cases x with
  | int i => simp only [rt_ok]; exact rt_slP ..
  | _ => rfl
@[simp] theorem rt_sl_both (a e f : EM) (σ : Sl) (h : MH) (Q : MV → MH → Prop) : Rt (eSl a (some e) (some f) σ h) Q = Rt (a σ h) fun v h1 => Rt (e σ h1) fun x h2 => (match x with
  | .int i => Rt (f σ h2) fun y h3 => (match y with
    | .int j => slP Q v (some i) (some j) h3
    | _ => False)
  | _ => False) := by
  unfold eSl; rw [rt_bind]; congr; funext v h1
  simp only [rt_bind]; congr; funext x h2
  cases x with
  | int i =>
    simp only [rt_ok, rt_bind]; congr; funext y h3
    cases y with
    | int j => simp only [rt_ok]; exact rt_slP ..
    | _ => rfl
  | _ => rfl
@[simp] theorem rt_qTup (vs : List MV) (h : MH) (Q : MV → MH → Prop) : Rt (qTup vs h) Q = (vs.length ≤ 16777216 ∧ Q (.tup vs) h) := by unfold qTup; simp
@[simp] theorem rt_qLst (vs : List MV) (h : MH) (Q : MV → MH → Prop) : Rt (qLst vs h) Q = (vs.length ≤ 16777216 ∧ Q (.ref h.n) (h.push (.lst vs))) := by unfold qLst; simp
/-! ### walks -/
@[simp] theorem rt_wTup (a : EM) (σ : Sl) (h : MH) (Q : Wk → MH → Prop) : Rt (wTup a σ h) Q = Rt (a σ h) fun v h1 => (match v with
  | .tup xs => Q (wkT xs) h1
  | _ => False) := by unfold wTup; rw [rt_bind]; congr; funext v h1; cases v <;> rfl
@[simp] theorem rt_wFst (a : EM) (σ : Sl) (h : MH) (Q : Wk → MH → Prop) : Rt (wFst a σ h) Q = Rt (a σ h) fun v h1 => (match v with
  | .flst xs => Q (wkT xs) h1
  | _ => False) := by unfold wFst; rw [rt_bind]; congr; funext v h1; cases v <;> rfl
@[simp] theorem rt_wStr (a : EM) (σ : Sl) (h : MH) (Q : Wk → MH → Prop) : Rt (wStr a σ h) Q = Rt (a σ h) fun v h1 => (match v with
  | .str s => Q (wkS s) h1
  | _ => False) := by unfold wStr; rw [rt_bind]; congr; funext v h1; cases v <;> rfl
@[simp] theorem rt_wSeq (a : EM) (σ : Sl) (h : MH) (Q : Wk → MH → Prop) : Rt (wSeq a σ h) Q = Rt (a σ h) fun v h1 => ∃ n xs, v = .ref n ∧ h1.get n = some (.lst xs) ∧ Q (wkL n xs.length) h1 := by
  unfold wSeq; rw [rt_bind]; congr; funext v h1
  cases v with
  | ref n =>
    dsimp only
    cases e : h1.get n with
    | none => simp [e]
    | some o => cases o <;> simp [e]
  | _ => simp
@[simp] theorem rt_wEnum (a : EM) (σ : Sl) (h : MH) (Q : Wk → MH → Prop) : Rt (wEnum a σ h) Q = Rt (a σ h) fun v h1 => ∃ n xs, v = .ref n ∧ h1.get n = some (.lst xs) ∧ Q (wkE (wkL n xs.length)) h1 := by
  unfold wEnum; rw [rt_bind]; congr; funext v h1
  cases v with
  | ref n =>
    dsimp only
    cases e : h1.get n with
    | none => simp [e]
    | some o => cases o <;> simp [e]
  | _ => simp
@[simp] theorem rt_wDct (k : Nat) (a : EM) (σ : Sl) (h : MH) (Q : Wk → MH → Prop) : Rt (wDct k a σ h) Q = Rt (a σ h) fun v h1 => ∃ n kvs, v = .ref n ∧ h1.get n = some (.dct false true kvs) ∧ Q (wkD k n kvs.length) h1 := by
  unfold wDct; rw [rt_bind]; congr; funext v h1
  cases v with
  | ref n =>
    dsimp only
    cases e : h1.get n with
    | none => simp [e]
    | some o =>
      cases o with
      | dct tk lk kvs => cases tk <;> cases lk <;> simp [e]
      | _ => simp [e]
  | _ => simp
theorem rgOk_of {i : Int} (h1 : -4611686018427387904 < i) (h2 : i < 4611686018427387904) : rgOk i = true := by
  unfold rgOk rg62
  simp
  omega
@[simp] theorem rt_wRng1 (a : EM) (σ : Sl) (h : MH) (Q : Wk → MH → Prop) : Rt (wRng1 a σ h) Q = Rt (a σ h) fun v h1 => ∃ j, v = .int j ∧ rgOk j = true ∧ Q (wkR 0 j.toNat) h1 := by
  unfold wRng1; rw [rt_bind]; congr; funext v h1
  cases v with
  | int j => dsimp only; cases e : rgOk j <;> simp [e]
  | _ => simp
@[simp] theorem rt_wRng2 (a b : EM) (σ : Sl) (h : MH) (Q : Wk → MH → Prop) : Rt (wRng2 a b σ h) Q = Rt (a σ h) fun v h1 => Rt (b σ h1) fun w h2 => ∃ i j, v = .int i ∧ w = .int j ∧ rgOk i = true ∧ rgOk j = true ∧ Q (wkR i (j - i).toNat) h2 := by
  unfold wRng2; simp only [rt_bind]; congr; funext v h1; congr; funext w h2
  cases v with
  | int i =>
    cases w with
    | int j => dsimp only; cases e : rgOk i <;> cases e2 : rgOk j <;> simp [e, e2]
    | _ => simp
  | _ => simp
@[simp] theorem rt_wRng3 (a b c : EM) (σ : Sl) (h : MH) (Q : Wk → MH → Prop) : Rt (wRng3 a b c σ h) Q = Rt (a σ h) fun v h1 => Rt (b σ h1) fun w h2 => Rt (c σ h2) fun u h3 => ∃ i j k, v = .int i ∧ w = .int j ∧ u = .int k ∧ rg62 i = true ∧ rg62 j = true ∧ 0 < k ∧ k < 1073741824 ∧ Q (wkC i k (stepN i j k)) h3 := by
  unfold wRng3; simp only [rt_bind]; congr; funext v h1; congr; funext w h2; congr; funext u h3
  cases v with
  | int i =>
    cases w with
    | int j =>
      cases u with
      | int k =>
        dsimp only
        cases e : rg62 i <;> cases e2 : rg62 j <;> simp [e, e2]
        by_cases p : 0 < k
        · by_cases q : k < 1073741824
          · simp [p, q]
          · simp [p, q]
        · simp [p]
      | _ => simp
    | _ => simp
  | _ => simp
@[simp] theorem rt_wZip (a b : EM) (σ : Sl) (h : MH) (Q : Wk → MH → Prop) : Rt (wZip a b σ h) Q = Rt (a σ h) fun v h1 => Rt (b σ h1) fun w h2 => (match v, w with
  | .tup xs, .tup ys => Q (wkZT xs ys) h2
  | _, _ => (match seqOf h2 v, seqOf h2 w with
    | some xs, some ys => Q (wkZL v w (Nat.min xs.length ys.length)) h2
    | _, _ => False)) := by
  unfold wZip; simp only [rt_bind]; congr; funext v h1; congr; funext w h2
  cases v <;> cases w <;> simp only [rt_ok] <;> (first | rfl | (split <;> first | rfl | simp_all))
/-! ### new instances, fields -/
theorem rt_eNewK (c : Nat) (g : FM) (f : List MV → List MV → List MV) (a k : AM) (σ : Sl) (h : MH) (Q : MV → MH → Prop) : Rt (eNewK c g f a k σ h) Q = Rt (a σ h) fun vs h1 => Rt (k σ h1) fun zs h2 => Rt (g (f (.ref h2.n :: vs) zs) (h2.push (.ins c []))) fun v h3 => v = .non ∧ Q (.ref h2.n) h3 := by
  unfold eNewK; simp only [rt_bind]; congr; funext vs h1; congr; funext zs h2; congr; funext v h3
  cases v <;> simp
theorem rt_eNew (c : Nat) (g : FM) (a : AM) (σ : Sl) (h : MH) (Q : MV → MH → Prop) : Rt (eNew c g a σ h) Q = Rt (a σ h) fun vs h1 => Rt (g (.ref h1.n :: vs) (h1.push (.ins c []))) fun v h2 => v = .non ∧ Q (.ref h1.n) h2 := by
  unfold eNew; simp only [rt_bind]; congr; funext vs h1; congr; funext v h2
  cases v <;> simp
@[simp] theorem oc_fld (c f : Nat) (a v : EM) (σ : Sl) (h : MH) (P : Po) : Oc (jFld c f a v σ h) P = Rt (v σ h) fun y h1 => Rt (a σ h1) fun x h2 => ∃ n fs, x = .ref n ∧ h2.get n = some (.ins c fs) ∧ fs.length < 100 ∧ P.n σ (h2.set n (.ins c (fput f y fs))) := by
  unfold jFld; simp only [oc_out]; congr; funext y h1; congr; funext x h2
  cases x with
  | ref n =>
    dsimp only
    cases e : h2.get n with
    | none => simp [e]
    | some o =>
      cases o with
      | ins d fs =>
        by_cases q : d = c
        · subst q
          by_cases l : fs.length < 100
          · simp [e, l]
          · simp [e, l]
        · simp [e, q]
      | _ => simp [e]
  | _ => simp
@[simp] theorem oc_dput (d k e : EM) (σ : Sl) (h : MH) (P : Po) : Oc (jDput d k e σ h) P = Rt (e σ h) fun v h1 => Rt (d σ h1) fun x h2 => Rt (k σ h2) fun y h3 => ∃ n tk kvs, x = .ref n ∧ h3.get n = some (.dct tk false kvs) ∧ keyOk tk y = true ∧ kvs.length < 16777216 ∧ P.n σ (h3.set n (.dct tk false (dput y v kvs))) := by
  unfold jDput; simp only [oc_out]; congr; funext v h1; congr; funext x h2; congr; funext y h3
  cases x with
  | ref n =>
    dsimp only
    cases eg : h3.get n with
    | none => simp [eg]
    | some o =>
      cases o with
      | dct tk lk kvs =>
        cases lk with
        | true => simp [eg]
        | false =>
          cases tk with
          | false =>
            cases ek : keyOk false y
            · simp [eg, ek]
            · by_cases l : kvs.length < 16777216
              · simp [eg, ek, l]
              · simp [eg, ek, l]
          | true =>
            cases ek : keyOk true y
            · simp [eg, ek]
            · by_cases l : kvs.length < 16777216
              · simp [eg, ek, l]
              · simp [eg, ek, l]
      | _ => simp [eg]
  | _ => simp
@[simp] theorem oc_setL (a i e : EM) (σ : Sl) (h : MH) (P : Po) : Oc (jSetL a i e σ h) P = Rt (e σ h) fun y h1 => Rt (a σ h1) fun x h2 => Rt (i σ h2) fun k h3 => ∃ n j xs m, x = .ref n ∧ k = .int j ∧ h3.get n = some (.lst xs) ∧ ixM xs.length j = some m ∧ P.n σ (h3.set n (.lst (xs.set m y))) := by
  unfold jSetL; simp only [oc_out]; congr; funext y h1; congr; funext x h2; congr; funext k h3
  cases x with
  | ref n =>
    cases k with
    | int j =>
      dsimp only
      cases eg : h3.get n with
      | none => simp [eg]
      | some o =>
        cases o with
        | lst xs => cases e1 : ixM xs.length j <;> simp [eg, e1]
        | _ => simp [eg]
    | _ => simp
  | _ => simp
@[simp] theorem rt_dnew (tk : Bool) (σ : Sl) (h : MH) (Q : MV → MH → Prop) : Rt (eDNew tk σ h) Q = Q (.ref h.n) (h.push (.dct tk false [])) := rfl
@[simp] theorem wipeM_nil (σ : Sl) : wipeM σ [] = σ := rfl
@[simp] theorem wipeM_cons (σ : Sl) (v : Nat) (vs : List Nat) : wipeM σ (v :: vs) = (wipeM σ vs).set v none := rfl
/-! ### comprehensions that change nothing -/
theorem acc_pure {w : Wk} {p : Pt} {t : TM} {e : EM} {σ : Sl} {h : MH} {Q : Nat × List MV → MH → Prop} (vs : List MV) (tb : MV → Bool) (fe : MV → MV) (hn : w.n = vs.length) (hl : vs.length ≤ 16777216) (hat : ∀ i v, vs[i]? = some v → w.at_ i h = some v) (hfin : w.fin h = true)
    (hs : ∀ v, v ∈ vs → ∃ σ1, asg p v σ = some σ1 ∧ (Rt (t σ1 h) fun k h1 => k = tb v ∧ h1 = h) ∧ (tb v = true → Rt (e σ1 h) fun y h1 => y = fe v ∧ h1 = h))
    (hq : ∀ k, Q (k, ((vs.filter tb).map fe).reverse) h) : Rt (accL w p t (bE e) σ w.n 0 (0, []) h) Q := by
  refine acc_inv (fun i a h' => h' = h ∧ a.1 ≤ i ∧ a.2 = (((vs.take i).filter tb).map fe).reverse) ⟨rfl, Nat.le_refl _, rfl⟩ ?_ ?_
  · rintro i ⟨k, l⟩ h' hi ⟨rfl, hk, rfl⟩
    have hi' : i < vs.length := by omega
    have hv : vs[i]? = some vs[i] := List.getElem?_eq_getElem hi'
    obtain ⟨σ1, e1, e2, e3⟩ := hs vs[i] (List.getElem_mem hi')
    have tk : vs.take (i + 1) = vs.take i ++ [vs[i]] := by rw [List.take_add_one, hv]; rfl
    refine ⟨_, σ1, hat i _ hv, e1, e2.imp ?_⟩
    rintro b h1 ⟨rfl, rfl⟩
    cases q : tb vs[i] with
    | false =>
      rw [if_neg Bool.false_ne_true]
      exact ⟨rfl, by simpa using (show k ≤ i + 1 from Nat.le_succ_of_le hk), by simp only [tk, List.filter_append, List.filter_cons, q]; simp⟩
    | true =>
      rw [if_pos rfl, rt_bE]
      refine (e3 q).imp ?_
      rintro y h2 ⟨rfl, rfl⟩
      exact ⟨by simp only at hk ⊢; omega, rfl, by simp only at hk ⊢; omega, by simp only [tk, List.filter_append, List.filter_cons, q]; simp⟩
  · rintro ⟨k, l⟩ h' ⟨rfl, hk, rfl⟩
    rw [hn, List.take_length]
    exact ⟨hfin, hq k⟩
@[simp] theorem wkT_n (xs : List MV) : (wkT xs).n = xs.length := rfl
@[simp] theorem wkS_n (xs : List Nat) : (wkS xs).n = xs.length := rfl
@[simp] theorem wkR_n (lo : Int) (n : Nat) : (wkR lo n).n = n := rfl
@[simp] theorem wkL_n (a n : Nat) : (wkL a n).n = n := rfl
@[simp] theorem wkD_n (k a n : Nat) : (wkD k a n).n = n := rfl
theorem wkL_at {h : MH} {a n i : Nat} {xs : List MV} {v : MV} (e : h.get a = some (.lst xs)) (ev : xs[i]? = some v) : (wkL a n).at_ i h = some v := by unfold wkL; simp [e, ev]
theorem wkL_fin {h : MH} {a : Nat} {xs : List MV} (e : h.get a = some (.lst xs)) : (wkL a xs.length).fin h = true := by unfold wkL; simp [e]
theorem wkD_at {h : MH} {k a n i : Nat} {tk : Bool} {kvs : List (MV × MV)} {p : MV × MV} (e : h.get a = some (.dct tk true kvs)) (ev : kvs[i]? = some p) : (wkD k a n).at_ i h = some (entM k p) := by unfold wkD; simp [e, ev]
theorem wkD_fin {h : MH} {k a : Nat} {tk : Bool} {kvs : List (MV × MV)} (e : h.get a = some (.dct tk true kvs)) : (wkD k a kvs.length).fin h = true := by unfold wkD; simp [e]
theorem fld_fp {c f i n : Nat} {fs : List (Nat × MV)} {v : MV} {σ : Sl} {h : MH} (es : σ[i]? = some (some (.ref n))) (e : h.get n = some (.ins c fs)) (e2 : fget f fs = some v) : e1 (qFld c f) (eV i) σ h = .ok v h := by
  unfold e1 eV
  rw [es]
  exact fld_eq e e2
theorem qBls_eq {g : List Bool → Bool} {h : MH} {v : MV} {xs : List MV} {bs : List Bool} (e : seqOf h v = some xs) (e2 : bls? xs = some bs) : qBls g [v] h = .ok (.bl (g bs)) h := by
  unfold qBls seq1
  simp [e, e2]
theorem bls_map (bs : List Bool) : bls? (bs.map MV.bl) = some bs := by
  induction bs with
  | nil => rfl
  | cons b bs ih => simp [bls?, ih]
end KA
set_option autoImplicit true
set_option maxHeartbeats 200000
set_option maxRecDepth 512
set_option linter.all false
/-! KWp2: what the further combinators end in. -/
namespace KA
@[simp] theorem oc_par3 (i j l : Nat) (a b c : EM) (σ : Sl) (h : MH) (P : Po) : Oc (jPar3 i j l a b c σ h) P = Rt (a σ h) fun v h1 => Rt (b σ h1) fun w h2 => Rt (c σ h2) fun u h3 => P.n (((σ.set i (some v)).set j (some w)).set l (some u)) h3 := by
  unfold jPar3; simp
@[simp] theorem isB_bl (n a b : Bool) (h : MH) : qIsB n (.bl a) (.bl b) h = .ok (.bl (match n with
  | false => decide (a = b)
  | true => !decide (a = b))) h := rfl
@[simp] theorem rt_wEnumT (a : EM) (σ : Sl) (h : MH) (Q : Wk → MH → Prop) : Rt (wEnumT a σ h) Q = Rt (a σ h) fun v h1 => (match v with
  | .tup xs => Q (wkE (wkT xs)) h1
  | _ => False) := by unfold wEnumT; rw [rt_bind]; congr; funext v h1; cases v <;> rfl
end KA
set_option autoImplicit true
set_option maxHeartbeats 200000
set_option maxRecDepth 512
set_option linter.all false
/-! KWp3: what the combinators of zip, own operations, second fors end in. -/
namespace KA
@[simp] theorem rt_aStar (a : EM) (r : AM) (σ : Sl) (h : MH) (Q : List MV → MH → Prop) : Rt (aStar a r σ h) Q = Rt (a σ h) fun v h1 => ∃ xs, v = .tup xs ∧ Rt (r σ h1) fun ys h2 => Q (xs ++ ys) h2 := by
  unfold aStar
  rw [rt_bind]
  congr; funext v h1
  cases v <;> simp
@[simp] theorem rt_eLc2 (w : WM) (p : Pt) (t : TM) (w1 : WM) (p1 : Pt) (t1 : TM) (e : EM) (vs vs1 : List Nat) (σ : Sl) (h : MH) (Q : MV → MH → Prop) : Rt (eLc2 w p t w1 p1 t1 e vs vs1 σ h) Q = Rt (w σ h) fun k h1 => Rt (accL k p t (b2 w1 p1 t1 e vs1) (wipeM σ vs) k.n 0 (0, []) h1) fun acc h2 => Q (.ref h2.n) (h2.push (.lst acc.2.reverse)) := by
  unfold eLc2 kLst; simp
@[simp] theorem rt_b2 (w : WM) (p : Pt) (t : TM) (e : EM) (vs : List Nat) (σ : Sl) (acc : Nat × List MV) (h : MH) (Q : Nat × List MV → MH → Prop) : Rt (b2 w p t e vs σ acc h) Q = Rt (w σ h) fun k h1 => Rt (accL k p t (bE e) (wipeM σ vs) k.n 0 acc h1) Q := by
  unfold b2; simp
@[simp] theorem rt_eMeth (c : Nat) (g : FM) (o : EM) (a : AM) (σ : Sl) (h : MH) (Q : MV → MH → Prop) : Rt (eMeth c g o a σ h) Q = Rt (o σ h) fun x h1 => isIns c h1 x = true ∧ Rt (a σ h1) fun vs h2 => Rt (g (x :: vs) h2) Q := by
  unfold eMeth
  rw [rt_bind]
  congr; funext x h1
  cases isIns c h1 x <;> simp
@[simp] theorem rt_eCallO (c : Nat) (g : FM) (o : EM) (a : AM) (σ : Sl) (h : MH) (Q : MV → MH → Prop) : Rt (eCallO c g o a σ h) Q = Rt (o σ h) fun x h1 => ∃ n, x = .ref n ∧ Rt (a σ h1) fun vs h2 => isIns c h2 (.ref n) = true ∧ Rt (g (.ref n :: vs) h2) Q := by
  unfold eCallO
  rw [rt_bind]
  congr; funext x h1
  cases x with
  | ref n =>
    dsimp only
    rw [rt_bind]
    simp only [MV.ref.injEq, exists_eq_left']
    congr; funext vs h2
    cases isIns c h2 (.ref n) <;> simp
  | _ => simp
theorem isIns_of_get {c n : Nat} {h : MH} {fs : List (Nat × MV)} (e : h.get n = some (.ins c fs)) : isIns c h (.ref n) = true := by
  unfold isIns; simp [e]
theorem rt_qOwB {c : Nat} {g : FM} {n j : Nat} {h : MH} {fs gs : List (Nat × MV)} {Q : MV → MH → Prop} (e1 : h.get n = some (.ins c fs)) (e2 : h.get j = some (.ins c gs)) (q : Rt (g [.ref n, .ref j] h) Q) : Rt (qOwB c g (.ref n) (.ref j) h) Q := by
  unfold qOwB
  rw [isIns_of_get e1, isIns_of_get e2]
  exact q
theorem listItems_eq {n : Nat} {h : MH} {kvs : List (MV × MV)} (e : h.get n = some (.dct false false kvs)) : qListItems (.ref n) h = .ok (.ref h.n) (h.push (.lst (kvs.map fun p => .tup [p.1, p.2]))) := by
  unfold qListItems; simp [e]
/-! ### comprehensions that lay objects -/
/-- .. told by the places -/
theorem acc_ix {w : Wk} {p : Pt} {t : TM} {e : EM} {σ : Sl} {h : MH} {k0 : Nat} {l0 : List MV} {Q : Nat × List MV → MH → Prop} (n : Nat) (tb : Nat → Bool) (fe : Nat → MV) (hn : w.n = n) (hl : k0 + n ≤ 16777216) (hfin : ∀ h', Sub h h' → w.fin h' = true)
    (hs : ∀ i, i < n → ∀ h', Sub h h' → ∃ v σ1, w.at_ i h' = some v ∧ asg p v σ = some σ1 ∧ Rt (t σ1 h') fun k h1 => k = tb i ∧ Sub h' h1 ∧ (tb i = true → Rt (e σ1 h1) fun y h2 => y = fe i ∧ Sub h1 h2))
    (hq : ∀ k h', k ≤ k0 + n → Sub h h' → Q (k, (((List.range n).filter tb).map fe).reverse ++ l0) h') : Rt (accL w p t (bE e) σ w.n 0 (k0, l0) h) Q := by
  refine acc_inv (fun i a h' => Sub h h' ∧ a.1 ≤ k0 + i ∧ a.2 = (((List.range i).filter tb).map fe).reverse ++ l0) ⟨.refl, Nat.le_refl _, rfl⟩ ?_ ?_
  · rintro i ⟨k, l⟩ h' hi ⟨sb, hk, rfl⟩
    obtain ⟨v, σ1, e0, e1, e2⟩ := hs i (by omega) h' sb
    refine ⟨v, σ1, e0, e1, e2.imp ?_⟩
    rintro b h1 ⟨rfl, sb1, e3⟩
    cases q : tb i with
    | false =>
      rw [if_neg Bool.false_ne_true]
      exact ⟨sb.trans sb1, by simp only at hk ⊢; omega, by simp only [List.range_succ, List.filter_append, List.filter_cons, q]; simp⟩
    | true =>
      rw [if_pos rfl, rt_bE]
      refine (e3 q).imp ?_
      rintro y h2 ⟨rfl, sb2⟩
      exact ⟨by simp only at hk ⊢; omega, (sb.trans sb1).trans sb2, by simp only at hk ⊢; omega, by simp only [List.range_succ, List.filter_append, List.filter_cons, q]; simp⟩
  · rintro ⟨k, l⟩ h' ⟨sb, hk, rfl⟩
    rw [hn]
    exact ⟨hfin h' sb, hq k h' (by simp only at hk; omega) sb⟩
theorem range_map {α β : Type} (xs : List α) (f : Nat → β) (g : α → β) (hf : ∀ i x, xs[i]? = some x → f i = g x) : (List.range xs.length).map f = xs.map g := by
  apply List.ext_getElem?
  intro i
  rw [List.getElem?_map, List.getElem?_map]
  by_cases c : i < xs.length
  · rw [List.getElem?_range c, List.getElem?_eq_getElem c]
    simp [hf i _ (List.getElem?_eq_getElem c)]
  · rw [List.getElem?_eq_none (by simpa using c), List.getElem?_eq_none (by omega)]; rfl
/-- .. that change nothing, told by the places, from some items on -/
theorem acc_pix {w : Wk} {p : Pt} {t : TM} {e : EM} {σ : Sl} {h : MH} {k0 : Nat} {l0 : List MV} {Q : Nat × List MV → MH → Prop} (n : Nat) (tb : Nat → Bool) (fe : Nat → MV) (hn : w.n = n) (hl : k0 + n ≤ 16777216) (hfin : w.fin h = true)
    (hs : ∀ i, i < n → ∃ v σ1, w.at_ i h = some v ∧ asg p v σ = some σ1 ∧ Rt (t σ1 h) fun k h1 => k = tb i ∧ h1 = h ∧ (tb i = true → Rt (e σ1 h) fun y h2 => y = fe i ∧ h2 = h))
    (hq : ∀ k, k ≤ k0 + n → Q (k, (((List.range n).filter tb).map fe).reverse ++ l0) h) : Rt (accL w p t (bE e) σ w.n 0 (k0, l0) h) Q := by
  refine acc_inv (fun i a h' => h' = h ∧ a.1 ≤ k0 + i ∧ a.2 = (((List.range i).filter tb).map fe).reverse ++ l0) ⟨rfl, Nat.le_refl _, rfl⟩ ?_ ?_
  · rintro i ⟨k, l⟩ h' hi ⟨rfl, hk, rfl⟩
    obtain ⟨v, σ1, e0, e1, e2⟩ := hs i (by omega)
    refine ⟨v, σ1, e0, e1, e2.imp ?_⟩
    rintro b h1 ⟨rfl, rfl, e3⟩
    cases q : tb i with
    | false =>
      rw [if_neg Bool.false_ne_true]
      exact ⟨rfl, by simp only at hk ⊢; omega, by simp only [List.range_succ, List.filter_append, List.filter_cons, q]; simp⟩
    | true =>
      rw [if_pos rfl, rt_bE]
      refine (e3 q).imp ?_
      rintro y h2 ⟨rfl, rfl⟩
      exact ⟨by simp only at hk ⊢; omega, rfl, by simp only at hk ⊢; omega, by simp only [List.range_succ, List.filter_append, List.filter_cons, q]; simp⟩
  · rintro ⟨k, l⟩ h' ⟨rfl, hk, rfl⟩
    rw [hn]
    exact ⟨hfin, hq k (by simp only at hk; omega)⟩
end KA
set_option autoImplicit true
set_option maxHeartbeats 200000
set_option maxRecDepth 512
set_option linter.all false
/-! PSpec: what the program's mini functions compute. -/
namespace KA
/-- a job: its cycle, length, begin, charge -/
structure Row where
  c : Int
  l : Int
  b : Int
  g : Int
structure Row.Ok (r : Row) : Prop where
  c1 : 1 ≤ r.c
  c2 : r.c ≤ 12
  l1 : 1 ≤ r.l
  l2 : r.l ≤ r.c
  b1 : 0 ≤ r.b
  b2 : r.b < r.c
  g1 : 1 ≤ r.g
  g2 : r.g ≤ 9
def jobO (r : Row) : MO := .ins 0 [(0, .int r.c), (1, .int r.l), (2, .int r.b), (3, .int r.g)]
section
variable {h : MH} {n n' : Nat} {r r' : Row}
theorem j_c (e : h.get n = some (jobO r)) : qFld 0 0 (.ref n) h = .ok (.int r.c) h := fld_eq e rfl
theorem j_l (e : h.get n = some (jobO r)) : qFld 0 1 (.ref n) h = .ok (.int r.l) h := fld_eq e rfl
theorem j_b (e : h.get n = some (jobO r)) : qFld 0 2 (.ref n) h = .ok (.int r.b) h := fld_eq e rfl
theorem j_g (e : h.get n = some (jobO r)) : qFld 0 3 (.ref n) h = .ok (.int r.g) h := fld_eq e rfl
theorem whole_int {i : Int} : m_is_whole [.int i] h = .ok (.bl true) h := by
  apply Rt.eq
  unfold m_is_whole
  simp
theorem integer_eq {i a b : Int} : m_is_integer [.int i, .int a, .int b] h = .ok (.bl (decide (a ≤ i) && decide (i ≤ b))) h := by
  apply Rt.eq
  unfold m_is_integer
  simp [whole_int]
  by_cases q : a ≤ i
  · simp [q]
  · simp [q]
/-! ### the greatest common divisor -/
/-! ### parts_them -/
/-! ### new jobs -/
theorem job_init {c l b g : Int} (e : h.get n = some (.ins 0 [])) (o : Row.Ok ⟨c, l, b, g⟩) : Rt (m_Job___init__ [.ref n, .int c, .int l, .int b, .int g] h) fun v h' => v = .non ∧ h'.get n = some (jobO ⟨c, l, b, g⟩) ∧ Sx n h h' ∧ h'.n = h.n := by
  have h1 := o.c1
  have h2 := o.c2
  have h3 := o.l1
  have h4 := o.l2
  have h5 := o.b1
  have h6 := o.b2
  have h7 := o.g1
  have h8 := o.g2
  dsimp only at h1 h2 h3 h4 h5 h6 h7 h8
  have hlt := MH.get_lt e
  unfold m_Job___init__
  simp [integer_eq, h1, h2, h3, h4, h5, h7, h8, show b ≤ c - 1 by omega, e, MH.get_set, hlt, fput, jobO]
  intro a u ne ea
  simp [MH.get_set, ne, ea]
theorem make_job {c l b g : Int} {a k : AM} {σ : Sl} {Q : MV → MH → Prop} {vs zs : List MV} {h1 : MH} (o : Row.Ok ⟨c, l, b, g⟩) (ea : Rt (a σ h) fun vs' h2 => vs' = vs ∧ h2 = h1) (ek : Rt (k σ h1) fun zs' h2 => zs' = zs ∧ h2 = h1) (ev : ∀ u, kfJob_2_start_cost (u :: vs) zs = [u, .int c, .int l, .int b, .int g])
    (q : ∀ h2, Sub h1 h2 → h2.get h1.n = some (jobO ⟨c, l, b, g⟩) → h2.n = h1.n + 1 → Q (.ref h1.n) h2) : Rt (eNewK 0 m_Job___init__ kfJob_2_start_cost a k σ h) Q := by
  rw [rt_eNewK]
  refine ea.imp ?_
  rintro vs' h2 ⟨rfl, rfl⟩
  refine ek.imp ?_
  rintro zs' h3 ⟨rfl, rfl⟩
  rw [ev]
  refine (job_init (MH.push_same _ _) o).imp ?_
  rintro v h4 ⟨rfl, e1, sx, en⟩
  refine ⟨rfl, q h4 (fun x u ex => ?_) e1 en⟩
  exact sx x u (Nat.ne_of_lt (MH.get_lt ex)) (MH.push_of ex)
/-! ### timetables -/
/-- in the timetable at t the name s is the job at j, r -/
structure At (h : MH) (t : Nat) (s : List Nat) (j : Nat) (r : Row) : Prop where
  tab : ∃ q kvs, h.get t = some (.ins 1 [(4, .ref q)]) ∧ h.get q = some (.dct false false kvs) ∧ dget (.str s) kvs = some (.ref j)
  job : h.get j = some (jobO r)
theorem At.mono {t j : Nat} {s : List Nat} {h' : MH} (a : At h t s j r) (x : Sub h h') : At h' t s j r := by
  obtain ⟨q, kvs, e1, e2, e3⟩ := a.tab
  exact ⟨⟨q, kvs, x _ _ e1, x _ _ e2, e3⟩, x _ _ a.job⟩
theorem At.get {t j : Nat} {s : List Nat} {i k : Nat} {σ : Sl} (a : At h t s j r) (e1_ : σ[i]? = some (some (.ref t))) (e2_ : σ[k]? = some (some (.str s))) : e2 qDget (e1 (qFld 1 4) (eV i)) (eV k) σ h = .ok (.ref j) h := by
  obtain ⟨q, kvs, e1, e2, e3⟩ := a.tab
  apply Rt.eq
  simp [e1_, e2_, fld_eq (f := 4) e1 rfl, dget_eq (k := .str s) e2 rfl e3]
theorem check_tab {t : Nat} {fs : List (Nat × MV)} (e : h.get t = some (.ins 1 fs)) : m_check_timetable [.ref t] h = .ok .non h := by
  apply Rt.eq
  unfold m_check_timetable
  simp [isi_ins e (show 1 < 2 by decide)]
theorem eq_str {a b : List Nat} (ha : sOk a = true) (hb : sOk b = true) : qEq (.str a) (.str b) h = .ok (.bl (decide (a = b))) h := by
  unfold qEq
  rw [show dataB 9 h (.str a) = true from ha, show dataB 9 h (.str b) = true from hb, show eqB 9 h (.str a) (.str b) = beqN a b from rfl, beqN_eq]
  rfl
variable {t j j' : Nat} {s s' : List Nat}
/-! ### meetings -/
/-! ### names, new timetables -/
structure NameOk (s : List Nat) : Prop where
  l1 : 1 ≤ s.length
  l2 : s.length ≤ 8
  cs : ∀ c ∈ s, 97 ≤ c ∧ c ≤ 122
theorem name_rt (o : NameOk s) : Rt (m_is_name [.str s] h) fun v h' => v = .bl true ∧ Sub h h' := by
  unfold m_is_name
  have h1 := o.l1
  have h2 := o.l2
  have h3 : s.length ≤ 16777216 := by omega
  have h4 : (1 : Int) ≤ s.length := by omega
  have h5 : (s.length : Int) ≤ 8 := by omega
  simp [h3, h4, h5]
  refine acc_pure (s.map fun c => .str [c]) (fun _ => true) (fun _ => .bl true) (by simp) (by simp; omega) (fun i v e => ?_) rfl ?_ ?_
  · simp at e
    obtain ⟨c, e, rfl⟩ := e
    show (match s[i]? with | some c => some (MV.str [c]) | none => none) = _
    rw [e]
  · intro v hv
    simp at hv
    obtain ⟨c, hc, rfl⟩ := hv
    have := o.cs c hc
    refine ⟨_, rfl, by simp, fun _ => ?_⟩
    simp [qInS]
    omega
  intro k
  have e1 : ((List.map (fun c => MV.str [c]) s).filter fun _ => true).map (fun _ => MV.bl true) = (s.map fun _ => true).map MV.bl := by rw [List.filter_eq_self.mpr (by simp)]; simp
  rw [e1]
  have e2 : (List.map MV.bl (s.map fun _ => true)).reverse.reverse = List.map MV.bl (s.map fun _ => true) := by rw [List.reverse_reverse]
  rw [e2, qBls_eq (g := allB) (seq_ref (MH.push_same h _)) (bls_map _)]
  exact ⟨by simp [allB], Sub.push⟩
theorem dput_new {k v : MV} {kvs : List (MV × MV)} (e : ∀ p ∈ kvs, keyB p.1 k = false) : dput k v kvs = kvs ++ [(k, v)] := by
  unfold dput
  have : (kvs.any fun p => keyB p.1 k) = false := by
    rw [List.any_eq_false]
    intro p hp
    rw [e p hp]
    exact Bool.false_ne_true
  rw [this]
@[simp] theorem keyB_str (a b : List Nat) : keyB (.str a) (.str b) = decide (a = b) := beqN_eq a b
/-- entries: names and where their jobs stand -/
abbrev Ent := List Nat × Nat
def entK (e : Ent) : MV × MV := (.str e.1, .ref e.2)
def prodC (rw_ : Ent → Row) : List Ent → Int
  | [] => 1
  | e :: es => (rw_ e).c * prodC rw_ es
theorem prodC_app (rw_ : Ent → Row) : ∀ (a b : List Ent), prodC rw_ (a ++ b) = prodC rw_ a * prodC rw_ b
  | [], b => by simp [prodC]
  | e :: a, b => by simp [prodC, prodC_app rw_ a b, Int.mul_assoc]
theorem prodC_bd {rw_ : Ent → Row} : ∀ (es : List Ent), es.length ≤ 4 → (∀ e ∈ es, (rw_ e).Ok) → 1 ≤ prodC rw_ es ∧ prodC rw_ es ≤ 12 ^ es.length
  | [], _, _ => by simp [prodC]
  | e :: es, hl, ho => by
    have h1 := ho e (List.mem_cons_self ..)
    obtain ⟨h2, h3⟩ := prodC_bd es (by simp at hl; omega) fun x hx => ho x (List.mem_cons_of_mem _ hx)
    have c1 := h1.c1
    have c2 := h1.c2
    refine ⟨?_, ?_⟩
    · have : 1 * 1 ≤ (rw_ e).c * prodC rw_ es := Int.mul_le_mul c1 h2 (by omega) (by omega)
      simpa [prodC] using this
    · have : (rw_ e).c * prodC rw_ es ≤ 12 * 12 ^ es.length := Int.mul_le_mul c2 h3 (by omega) (by omega)
      simp only [prodC, List.length_cons]
      rw [Int.pow_succ]
      omega
theorem table_init {d : Nat} {es : List Ent} {rw_ : Ent → Row} (et : h.get t = some (.ins 1 [])) (ed : h.get d = some (.dct false false (es.map entK))) (h1 : 1 ≤ es.length) (h4 : es.length ≤ 4) (hn : ∀ e ∈ es, NameOk e.1) (hj : ∀ e ∈ es, h.get e.2 = some (jobO (rw_ e))) (ho : ∀ e ∈ es, (rw_ e).Ok) (hp : prodC rw_ es ≤ 2000) (nd : (es.map (·.1)).Nodup) :
    Rt (m_Timetable___init__ [.ref t, .ref d] h) fun v h' => v = .non ∧ (∃ q, h'.get t = some (.ins 1 [(4, .ref q)]) ∧ h'.get q = some (.dct false false (es.map entK))) ∧ Sx t h h' := by
  unfold m_Timetable___init__
  have l1 : (1 : Int) ≤ es.length := by omega
  have l4 : (es.length : Int) ≤ 4 := by omega
  have nt : t ≠ d := fun w => by rw [w, ed] at et; cases et
  simp [isi_dct ed, len_dct ed, l1, l4]
  -- the names and jobs
  refine oc_lock (n := d) rfl ed ?_
  have dl : (h.set d (.dct false true (es.map entK))).get d = some (.dct false true (es.map entK)) := MH.set_same ed
  simp
  refine ⟨_, dl, ?_⟩
  rw [List.length_map]
  refine for_inv (w := wkD 2 d es.length) (fun i σ h' => (∃ v2 v3 v4, σ = [some (.ref t), some (.ref d), v2, v3, v4]) ∧ Sub (h.set d (.dct false true (es.map entK))) h') ⟨⟨_, _, _, rfl⟩, .refl⟩ ?_ ?_
  · rintro i σ h' hi ⟨⟨v2, v3, v4, rfl⟩, sb⟩
    have hi' : i < es.length := hi
    have ev : (es.map entK)[i]? = some (entK es[i]) := by rw [List.getElem?_map, List.getElem?_eq_getElem hi']; rfl
    have jm := List.getElem_mem hi'
    refine ⟨_, _, wkD_at (sb _ _ dl) ev, rfl, ?_⟩
    simp
    refine (name_rt (hn _ jm)).imp ?_
    rintro v h2 ⟨rfl, sb2⟩
    have ej : (h.set d (.dct false true (es.map entK))).get es[i].2 = some (jobO (rw_ es[i])) := by
      have w : es[i].2 ≠ d := fun w => by have := hj _ jm; rw [w, ed] at this; cases this
      rw [MH.set_ne w]; exact hj _ jm
    simp [entK, isi_ins (k := 10) (sb2 _ _ (sb _ _ ej)) (by decide)]
    exact sb.trans sb2
  · rintro σ h' ⟨⟨v2, v3, v4, rfl⟩, sb⟩
    refine ⟨by have := wkD_fin (k := 2) (sb _ _ dl); rwa [List.length_map] at this, es.map entK, sb _ _ dl, ?_⟩
    try simp
    -- the product
    generalize hh2 : h'.set d (.dct false false (es.map entK)) = h2
    have c2 : Sub h h2 := fun n o en => by
      rw [← hh2]
      by_cases w : n = d
      · subst w; rw [ed] at en; cases en; exact MH.set_same (sb _ _ dl)
      · rw [MH.set_ne w]; exact sb _ _ (by rw [MH.set_ne w]; exact en)
    have ed2 := c2 _ _ ed
    refine oc_lock (n := d) rfl ed2 ?_
    have dl2 : (h2.set d (.dct false true (es.map entK))).get d = some (.dct false true (es.map entK)) := MH.set_same ed2
    simp
    refine ⟨_, dl2, ?_⟩
    rw [List.length_map]
    refine for_inv (w := wkD 1 d es.length) (fun i σ h' => (∃ v2 v3, σ = [some (.ref t), some (.ref d), v2, v3, some (.int (prodC rw_ (es.take i)))]) ∧ h' = h2.set d (.dct false true (es.map entK))) ⟨⟨_, _, rfl⟩, rfl⟩ ?_ ?_
    · rintro i σ h3 hi ⟨⟨v2, v3, rfl⟩, rfl⟩
      have hi' : i < es.length := hi
      have ev : (es.map entK)[i]? = some (entK es[i]) := by rw [List.getElem?_map, List.getElem?_eq_getElem hi']; rfl
      have jm := List.getElem_mem hi'
      refine ⟨_, _, wkD_at dl2 ev, rfl, ?_⟩
      have ej : (h2.set d (.dct false true (es.map entK))).get es[i].2 = some (jobO (rw_ es[i])) := by
        have w : es[i].2 ≠ d := fun w => by have := hj _ jm; rw [w, ed] at this; cases this
        rw [MH.set_ne w]; exact c2 _ _ (hj _ jm)
      have c1 := (ho _ jm).c1
      have c12 := (ho _ jm).c2
      obtain ⟨b1, b2⟩ := prodC_bd (rw_ := rw_) (es.take i) (by rw [List.length_take]; omega) fun x hx => ho x (List.mem_of_mem_take hx)
      simp [asg, entM, entK, j_c ej, mul_r (j := (rw_ es[i]).c) _ (show _ < (rw_ es[i]).c by omega) (by omega)]
      rw [List.take_add_one, List.getElem?_eq_getElem hi', prodC_app]
      simp [prodC]
    · rintro σ h3 ⟨⟨v2, v3, rfl⟩, rfl⟩
      refine ⟨by have := wkD_fin (k := 1) dl2; rwa [List.length_map] at this, es.map entK, dl2, ?_⟩
      have hp' : ¬ 2000 < prodC rw_ es := by omega
      have et2 : es.take (wkD 1 d es.length).n = es := List.take_length ..
      rw [et2]
      simp [hp']
      -- the copy
      have e3 : ((h2.set d (.dct false true (es.map entK))).set d (.dct false false (es.map entK))).get d = some (.dct false false (es.map entK)) := MH.set_same dl2
      refine rt_eLock (n := d) rfl e3 ?_
      generalize hh4 : ((h2.set d (.dct false true (es.map entK))).set d (.dct false false (es.map entK))).set d (.dct false true (es.map entK)) = h4
      have dl4 : h4.get d = some (.dct false true (es.map entK)) := by rw [← hh4]; exact MH.set_same e3
      have o4 : ∀ n, n ≠ d → h4.get n = h2.get n := fun n w => by rw [← hh4, MH.set_ne w, MH.set_ne w, MH.set_ne w]
      simp
      refine ⟨_, dl4, ?_⟩
      rw [List.length_map]
      refine acc_inv (w := wkD 2 d es.length) (fun i (a : Nat × List (MV × MV)) h' => h' = h4 ∧ a = (i, (es.map entK).take i)) ⟨rfl, rfl⟩ ?_ ?_
      · rintro i a h' hi ⟨rfl, rfl⟩
        have hi' : i < es.length := hi
        have ev : (es.map entK)[i]? = some (entK es[i]) := by rw [List.getElem?_map, List.getElem?_eq_getElem hi']; rfl
        refine ⟨_, _, wkD_at dl4 ev, rfl, ?_⟩
        have kk : dput (entK es[i]).1 (entK es[i]).2 ((es.map entK).take i) = (es.map entK).take (i + 1) := by
          rw [dput_new, List.take_add_one, ev]
          · rfl
          intro p hp
          rw [← List.map_take] at hp
          obtain ⟨x, hm, rfl⟩ := List.mem_map.mp hp
          simp [entK]
          intro w
          have z := nd
          rw [show es = es.take i ++ es[i] :: es.drop (i + 1) by simp, List.map_append, List.nodup_append] at z
          exact z.2.2 x.1 (List.mem_map_of_mem (f := (·.1)) hm) es[i].1 (List.mem_map_of_mem (f := fun (e : Ent) => e.1) (List.mem_cons_self ..)) w
        have ka : keyA (entK es[i]).1 = true := rfl
        simp [ka, show i + 1 ≤ 16777216 by omega, kk]
      · rintro a h' ⟨rfl, rfl⟩
        refine ⟨by have := wkD_fin (k := 2) dl4; rwa [List.length_map] at this, es.map entK, ?_, ?_⟩
        · exact MH.push_of dl4
        · have et3 : (es.map entK).take (wkD 2 d es.length).n = es.map entK := by rw [wkD_n, ← List.length_map (f := entK), List.take_length]
          rw [et3]
          have w2 : h'.n ≠ d := Nat.ne_of_gt (MH.get_lt dl4)
          have tt : h'.get t = some (.ins 1 []) := by rw [o4 t nt]; exact c2 _ _ et
          have w3 : h'.n ≠ t := Nat.ne_of_gt (MH.get_lt tt)
          have e5 : ((h'.push (.dct false false (es.map entK))).set d (.dct false false (es.map entK))).get t = some (.ins 1 []) := by rw [MH.set_ne nt]; exact MH.push_of tt
          simp [e5, fput]
          refine ⟨⟨h'.n, MH.set_same e5, ?_⟩, ?_⟩
          · rw [MH.set_ne w3, MH.set_ne w2]; exact MH.push_same _ _
          · intro n o wn en
            rw [MH.set_ne wn]
            by_cases w4 : n = d
            · subst w4; rw [ed] at en; cases en; exact MH.set_same (MH.push_of dl4)
            · rw [MH.set_ne w4]; exact MH.push_of (by rw [o4 n w4]; exact c2 _ _ en)
end
end KA
set_option autoImplicit true
set_option maxHeartbeats 200000
set_option maxRecDepth 512
set_option linter.all false
/-! PNum: numbers: when two jobs meet. -/
set_option autoImplicit true
set_option maxHeartbeats 200000
set_option maxRecDepth 512
set_option linter.all false
/-! ASpec: what the laws' own functions compute (laws 11 to 13, 31 to 33, 54). -/
namespace KA
section
variable {h : MH} {s : Nat} {ns : List Int}
theorem pow_bd : ∀ i : Nat, i ≤ 23 → (1 : Int) ≤ 1009 ^ i ∧ (1009 : Int) ^ i ≤ 1009 ^ 23 := by decide +kernel
theorem draw_rt {c k m : Int} (hk : 0 ≤ k) (hm : 0 < m) : Rt (m__law_draw_0 [.int c, .int k, .int m] h) fun v h' => h' = h ∧ ∃ x, v = .int x ∧ 0 ≤ x ∧ x < m := by
  unfold m__law_draw_0
  have h16 : (0 : Int) < 16 := by decide
  have hx : ∀ x : Int, 0 ≤ x → x < 16 → ∃ p : Int, 0 < p ∧ atM [.int 1000003, .int 1000033, .int 1000037, .int 1000039, .int 1000081, .int 1000099, .int 1000117, .int 1000121, .int 1000133, .int 1000151, .int 1000159, .int 1000171, .int 1000183, .int 1000187, .int 1000193, .int 1000199] x = some (.int p) := by
    intro x h1 h2
    have : x = 0 ∨ x = 1 ∨ x = 2 ∨ x = 3 ∨ x = 4 ∨ x = 5 ∨ x = 6 ∨ x = 7 ∨ x = 8 ∨ x = 9 ∨ x = 10 ∨ x = 11 ∨ x = 12 ∨ x = 13 ∨ x = 14 ∨ x = 15 := by omega
    rcases this with rfl | rfl | rfl | rfl | rfl | rfl | rfl | rfl | rfl | rfl | rfl | rfl | rfl | rfl | rfl | rfl <;> exact ⟨_, by decide, rfl⟩
  simp [asg, mul_r (j := 48271) h (by decide) (by decide), mul_r (j := 69621) h (by decide) (by decide), mod_int (i := k) h h16]
  obtain ⟨p, hp, ep⟩ := hx (k % 16) (Int.emod_nonneg _ (by decide)) (Int.emod_lt_of_pos _ h16)
  rw [ep]
  simp [mod_int h hp, mod_int h hm]
  exact ⟨Int.emod_nonneg _ (by omega), Int.emod_lt_of_pos _ hm⟩
theorem number_rt {c k m : Int} (hk : 0 ≤ k) (hk2 : k < 1000) (hm : 0 < m) : Rt (m__law_number_0 [.int c, .int k, .int m] h) fun v h' => h' = h ∧ ∃ x, v = .int x ∧ 0 ≤ x ∧ x < m := by
  unfold m__law_number_0
  have h24 : (0 : Int) < 24 := by decide
  have a1 := Int.emod_nonneg k (show (24 : Int) ≠ 0 by decide)
  have a2 := Int.emod_lt_of_pos k h24
  simp [asg, mod_int (i := k) h h24, rgOk_of (i := k % 24) (by omega) (by omega)]
  refine for_inv (w := wkR 0 (k % 24).toNat) (fun i σ h' => h' = h ∧ ∃ v4 v5 v6, σ = [some (.int c), some (.int k), some (.int m), some (.int (1009 ^ i)), v4, v5, v6]) ⟨rfl, _, _, _, rfl⟩ ?_ ?_
  · rintro i σ h' hi ⟨rfl, v4, v5, v6, rfl⟩
    refine ⟨_, _, rfl, rfl, ?_⟩
    simp [asg, mul_r (i := 1009 ^ i) (j := 1009) h' (by decide) (by decide), Int.pow_succ]
  · rintro σ h' ⟨rfl, v4, v5, v6, rfl⟩
    refine ⟨rfl, ?_⟩
    obtain ⟨p1, p2⟩ := pow_bd (k % 24).toNat (by omega)
    have p3 : (1009 : Int) ^ (k % 24).toNat < 2 ^ 8000 := Int.lt_of_le_of_lt p2 (by decide +kernel)
    have ep : qPow (.int 10) (.int 18) h' = .ok (.int 1000000000000000000) h' := rfl
    simp [ep, asg, div_int (i := c - 1000000000000000000) h' (show 0 < (1009 : Int) ^ (k % 24).toNat by omega) p3]
    have h1009 : (0 : Int) < 1009 := by decide
    have hsm : (0 : Int) < 1000003 := by decide
    have h9 : (0 : Int) < 9 := by decide
    by_cases q : 0 < (c - 1000000000000000000) / 1009 ^ (k % 24).toNat
    · simp [q, mod_int h' h1009, mod_int h' hm]
      exact ⟨Int.emod_nonneg _ (by omega), Int.emod_lt_of_pos _ hm⟩
    · have b1 := Int.emod_nonneg c (show (1000003 : Int) ≠ 0 by decide)
      have b2 := Int.emod_lt_of_pos c hsm
      simp [q, mod_int h' hsm, mul_l (i := 977) (j := k) h' (by decide) (by decide), mul_l (i := 31) (j := k) h' (by decide) (by decide), mod_int (i := k) h' h9, mul_l (i := c % 1000003 + 977 * k) h' (by omega) (by omega)]
      refine (draw_rt (m := 999983) (by have := Int.emod_nonneg k (show (9 : Int) ≠ 0 by decide); omega) (by decide)).imp ?_
      rintro v h2 ⟨rfl, x, rfl, x1, x2⟩
      simp [mod_int h2 hm]
      exact ⟨Int.emod_nonneg _ (by omega), Int.emod_lt_of_pos _ hm⟩
/-- the state of the draws -/
def St (ns : List Int) (h : MH) (s : Nat) : Prop := ∃ by_ cnt : Int, 0 ≤ by_ ∧ 0 ≤ cnt ∧ h.get s = some (.lst [.flst (ns.map MV.int), .int by_, .int cnt])
theorem cell_eq {k : Int} (hk : 0 ≤ k) : Rt (m__law_cell_at_0 [.flst (ns.map MV.int), .int k] h) fun v h' => h' = h ∧ ∃ x, v = .int x := by
  unfold m__law_cell_at_0
  by_cases q : k < ns.length
  · simp [q]
    have hi : k.toNat < ns.length := by omega
    refine rt_ix_seq (xs := ns.map MV.int) rfl (x := .int ns[k.toNat]) ?_ ?_
    · rw [atM_int hk (by simpa using q)]
      simp [hi]
    · exact ⟨rfl, _, rfl⟩
  · simp [q]
theorem next_rt {m : Int} (S : St ns h s) (hm : 0 < m) : Rt (m__law_next_0 [.ref s, .int m] h) fun v h' => (∃ x, v = .int x ∧ 0 ≤ x ∧ x < m) ∧ Sx s h h' ∧ St ns h' s ∧ h'.n = h.n := by
  obtain ⟨b, c, hb, hc, e⟩ := S
  unfold m__law_next_0
  have ix : ∀ (h' : MH) (xs : List MV) (i : Int) (x : MV) (Q : MV → MH → Prop), h'.get s = some (.lst xs) → atM xs i = some x → Rt (qIx (.ref s) (.int i) h') Q = Q x h' := fun h' xs i x Q e1 e2 => by
    unfold qIx
    simp [seq_ref e1, e2]
  have i0 : ∀ a b c : MV, atM [a, b, c] 0 = some a := fun _ _ _ => rfl
  have i1 : ∀ a b c : MV, atM [a, b, c] 1 = some b := fun _ _ _ => rfl
  have i2 : ∀ a b c : MV, atM [a, b, c] 2 = some c := fun _ _ _ => rfl
  simp [ix h _ 2 _ _ e (i2 _ _ _)]
  refine ⟨_, e, 2, rfl, ?_⟩
  simp only [List.set_cons_succ, List.set_cons_zero]
  have e' : (h.set s (.lst [.flst (ns.map MV.int), .int b, .int (c + 1)])).get s = some (.lst [.flst (ns.map MV.int), .int b, .int (c + 1)]) := MH.set_same e
  have sx : Sx s h (h.set s (.lst [.flst (ns.map MV.int), .int b, .int (c + 1)])) := Sx.set
  have en : (h.set s (.lst [.flst (ns.map MV.int), .int b, .int (c + 1)])).n = h.n := rfl
  generalize h.set s (.lst [.flst (ns.map MV.int), .int b, .int (c + 1)]) = h1 at e' sx en
  have h12 : (0 : Int) < 12 := by decide
  have d1 := Int.ediv_nonneg (show 0 ≤ c + 1 by omega) (show (0 : Int) ≤ 12 by decide)
  simp [ix h1 _ 2 _ _ e' (i2 _ _ _), ix h1 _ 0 _ _ e' (i0 _ _ _), ix h1 _ 1 _ _ e' (i1 _ _ _), div_int (i := c + 1) h1 h12 (by decide +kernel), asg]
  refine (cell_eq (by omega)).imp ?_
  rintro v h2 ⟨rfl, x, rfl⟩
  simp [mul_l (i := 31) h2 (by decide) (by decide), ix h2 _ 2 _ _ e' (i2 _ _ _), mod_int (i := c + 1) h2 h12]
  have m1 := Int.emod_nonneg (c + 1) (show (12 : Int) ≠ 0 by decide)
  have m2 := Int.emod_lt_of_pos (c + 1) h12
  refine (number_rt (by omega) (by omega) hm).imp ?_
  rintro v h3 ⟨rfl, y, rfl, y1, y2⟩
  exact ⟨⟨y, rfl, y1, y2⟩, sx, ⟨b, c + 1, hb, by omega, e'⟩, en⟩
theorem pick_rt {a : Nat} {xs : List MV} (S : St ns h s) (ha : a ≠ s) (ea : h.get a = some (.lst xs)) (hl : 0 < xs.length) : Rt (m__law_pick_0 [.ref s, .ref a] h) fun v h' => v ∈ xs ∧ Sx s h h' ∧ St ns h' s ∧ h'.n = h.n := by
  unfold m__law_pick_0
  simp [len_lst ea]
  refine (next_rt S (show (0 : Int) < xs.length by omega)).imp ?_
  rintro v h1 ⟨⟨x, rfl, x1, x2⟩, sx, S1, en⟩
  have hi : x.toNat < xs.length := by omega
  refine rt_ix_seq (seq_ref (sx _ _ ha ea)) (x := xs[x.toNat]) ?_ ?_
  · rw [atM_int x1 x2]
    simp [hi]
  · exact ⟨List.getElem_mem hi, sx, S1, en⟩
/-! ### drawn rows -/
def rowV (r : Row) : MV := .tup [.int r.c, .int r.l, .int r.b, .int r.g]
def encR (x : List Nat × Row) : MV × MV := (.str x.1, rowV x.2)
def namesA : List (List Nat) := [[109, 97, 105, 108], [98], [108, 111, 103], [97]]
def prodR : List (List Nat × Row) → Int
  | [] => 1
  | x :: xs => x.2.c * prodR xs
theorem prodR_app : ∀ a b : List (List Nat × Row), prodR (a ++ b) = prodR a * prodR b
  | [], b => by simp [prodR]
  | x :: a, b => by simp [prodR, prodR_app a b, Int.mul_assoc]
theorem dput_enc {rows : List (List Nat × Row)} {k : List Nat} {v : MV} (e : k ∉ rows.map (·.1)) : dput (.str k) v (rows.map encR) = rows.map encR ++ [(.str k, v)] := by
  apply dput_new
  intro p hp
  obtain ⟨x, hx, rfl⟩ := List.mem_map.mp hp
  show keyB (.str x.1) (.str k) = false
  rw [keyB_str, decide_eq_false]
  intro w
  exact e (by rw [← w]; exact List.mem_map_of_mem (f := fun (x : List Nat × Row) => x.1) hx)
/-- what the draws made -/
structure Drawn (most : Int) (rows : List (List Nat × Row)) : Prop where
  l1 : 1 ≤ rows.length
  l4 : rows.length ≤ 4
  nm : rows.map (·.1) = namesA.take rows.length
  ok : ∀ x ∈ rows, x.2.Ok
  pr : prodR rows ≤ most
theorem namesA_nd : namesA.Nodup := by decide
theorem drawn_rt {most : Int} (S : St ns h s) (hm : 1 ≤ most) (hm2 : most ≤ 100000) : Rt (m__law_drawn_0 [.ref s, .int most] h) fun v h' => ∃ d rows, v = .ref d ∧ d ≠ s ∧ h'.get d = some (.dct false false (rows.map encR)) ∧ Drawn most rows ∧ Sx s h h' ∧ St ns h' s := by
  unfold m__law_drawn_0
  simp
  have S0 := S
  obtain ⟨b0, c0, _, _, es0⟩ := S
  have hs : s < h.n := MH.get_lt es0
  -- the new dict, the names
  have hd0 : (h.push (.dct false false [])).get h.n = some (.dct false false []) := MH.push_same _ _
  have sx0 : Sx s h (h.push (.dct false false [])) := Sub.push.sx
  have S1 : St ns (h.push (.dct false false [])) s := by obtain ⟨b, c, h1, h2, e⟩ := S0; exact ⟨b, c, h1, h2, MH.push_of e⟩
  have hn1 : (h.push (.dct false false [])).n = h.n + 1 := rfl
  generalize hdd : h.n = d at hd0 hn1 hs
  have nd : d ≠ s := by omega
  generalize h.push (.dct false false []) = h1 at hd0 sx0 S1 hn1
  have S2 : St ns (h1.push (.lst (namesA.map MV.str))) s := by obtain ⟨b, c, h1, h2, e⟩ := S1; exact ⟨b, c, h1, h2, MH.push_of e⟩
  have sx1 := sx0.trans (Sub.push (h := h1) (o := .lst (namesA.map MV.str))).sx
  have en2 : (h1.push (.lst (namesA.map MV.str))).get h1.n = some (.lst (namesA.map MV.str)) := MH.push_same _ _
  have hd2 := MH.push_of (o := .lst (namesA.map MV.str)) hd0
  have hn2 : (h1.push (.lst (namesA.map MV.str))).n = d + 2 := by show h1.n + 1 = _; omega
  show Rt (m__law_next_0 [.ref s, .int 4] (h1.push (.lst (namesA.map MV.str)))) _
  rw [hn1] at en2
  generalize h1.push (.lst (namesA.map MV.str)) = h2 at S2 sx1 en2 hd2 hn2
  refine (next_rt S2 (by decide)).imp ?_
  rintro v h3 ⟨⟨x, rfl, x1, x2⟩, sx, S3, hn3⟩
  have en3 := sx _ _ (by omega) en2
  have hd3 := sx _ _ nd hd2
  have sx3 := sx1.trans sx
  simp [slP, seq_ref en3]
  obtain ⟨k, hk⟩ : ∃ k : Nat, x = k := ⟨x.toNat, by omega⟩
  subst hk
  have cut : cutM (namesA.map MV.str) none (some (1 + (k : Int))) = (namesA.take (k + 1)).map MV.str := by
    have : k = 0 ∨ k = 1 ∨ k = 2 ∨ k = 3 := by omega
    rcases this with rfl | rfl | rfl | rfl <;> rfl
  rw [cut]
  refine ⟨_, MH.push_same _ _, ?_⟩
  have S4 : St ns (h3.push (.lst ((namesA.take (k + 1)).map MV.str))) s := by obtain ⟨b, c, h1, h2, e⟩ := S3; exact ⟨b, c, h1, h2, MH.push_of e⟩
  have sx4 := sx3.trans (Sub.push (h := h3) (o := .lst ((namesA.take (k + 1)).map MV.str))).sx
  have hd4 := MH.push_of (o := .lst ((namesA.take (k + 1)).map MV.str)) hd3
  have hl4 : (h3.push (.lst ((namesA.take (k + 1)).map MV.str))).get h3.n = some (.lst ((namesA.take (k + 1)).map MV.str)) := MH.push_same _ _
  rw [hn3, hn2] at hl4
  rw [hn3, hn2]
  have hn4 : (h3.push (.lst ((namesA.take (k + 1)).map MV.str))).n = d + 3 := by show h3.n + 1 = _; omega
  generalize h3.push (.lst ((namesA.take (k + 1)).map MV.str)) = h4 at S4 sx4 hd4 hl4 hn4
  have hlen : (namesA.take (k + 1)).length = k + 1 := by rw [List.length_take]; show min (k + 1) 4 = k + 1; omega
  rw [List.length_map, hlen]
  refine for_inv (w := wkL (d + 2) (k + 1)) (fun i σ h' => ∃ (rows : List (List Nat × Row)) (v4 v5 v6 : Option MV), σ = [some (.ref s), some (.int most), some (.ref d), some (.int (prodR rows)), v4, v5, v6] ∧ rows.length = i ∧ rows.map (·.1) = namesA.take i ∧ (∀ x ∈ rows, x.2.Ok) ∧ 1 ≤ prodR rows ∧ prodR rows ≤ most ∧
      h'.get d = some (.dct false false (rows.map encR)) ∧ h'.get (d + 2) = some (.lst ((namesA.take (k + 1)).map MV.str)) ∧ Sx s h h' ∧ St ns h' s) ⟨[], none, none, none, rfl, rfl, rfl, by simp, by simp [prodR], by simp [prodR]; omega, hd4, hl4, sx4, S4⟩ ?_ ?_
  · rintro i σ h5 hi ⟨rows, v4, v5, v6, rfl, hr, hnm, hok, p1, p2, ed, el, sx5, S5⟩
    have hi' : i < k + 1 := hi
    have hi4 : i < namesA.length := by show i < 4; omega
    have ev : ((namesA.take (k + 1)).map MV.str)[i]? = some (.str namesA[i]) := by
      rw [List.getElem?_map, List.getElem?_take_of_lt hi', List.getElem?_eq_getElem hi4]; rfl
    refine ⟨_, _, wkL_at el ev, rfl, ?_⟩
    simp
    refine (next_rt S5 (by decide)).imp ?_
    rintro v h6 ⟨⟨y, rfl, y1, y2⟩, sx, S6, hn6⟩
    have ed6 := sx _ _ nd ed
    have el6 := sx _ _ (by omega) el
    have sx6 := sx5.trans sx
    simp
    generalize hpl : [MV.int 2, .int 3, .int 4, .int 6, .int 8, .int 9, .int 12, .int (1 + y), .int 4, .int 6] = pl
    have plen : 0 < pl.length := by rw [← hpl]; simp
    have pin : ∀ v ∈ pl, ∃ p : Int, v = .int p ∧ 1 ≤ p ∧ p ≤ 12 := by
      rw [← hpl]
      intro v hv
      simp at hv
      rcases hv with rfl | rfl | rfl | rfl | rfl | rfl | rfl | rfl | rfl | rfl <;> exact ⟨_, rfl, by omega, by omega⟩
    have S7 : St ns (h6.push (.lst pl)) s := by obtain ⟨b, c, h1, h2, e⟩ := S6; exact ⟨b, c, h1, h2, MH.push_of e⟩
    have hs6 : h6.n ≠ s := by obtain ⟨b, c, _, _, e⟩ := S6; exact Nat.ne_of_gt (MH.get_lt e)
    refine (pick_rt S7 hs6 (MH.push_same _ _) plen).imp ?_
    rintro v h8 ⟨hv, sx, S8, hn8⟩
    obtain ⟨p, rfl, q1, q2⟩ := pin v hv
    have ed8 := sx _ _ nd (MH.push_of ed6)
    have el8 := sx _ _ (by omega) (MH.push_of el6)
    have sx8 := (sx6.trans Sub.push.sx).trans sx
    simp [asg]
    -- the while
    refine while_inv (fun m σ h' => h' = h8 ∧ ∃ p : Int, σ = [some (.ref s), some (.int most), some (.ref d), some (.int (prodR rows)), some (.str namesA[i]), some (.int p), v6] ∧ 1 ≤ p ∧ p ≤ 12 ∧ m ≤ 1 ∧ (m = 0 → prodR rows * p ≤ most)) ?_ 1 1000 _ _ (by decide) ⟨rfl, p, rfl, q1, q2, Nat.le_refl _, by omega⟩
    rintro m σ h' ⟨rfl, p, rfl, q1, q2, hm1, hm0⟩
    have h2p : (0 : Int) < 2 := by decide
    simp [mul_r (j := p) h' (by omega) (by omega)]
    by_cases w : most < prodR rows * p
    · have hm' : m = 1 := by
        have : m ≠ 0 := fun z => by have := hm0 z; omega
        omega
      subst hm'
      simp [w]
      have fin : ∀ p' : Int, 1 ≤ p' → p' ≤ 12 → Rt (qMul (.int (prodR rows)) (.int p') h') fun v h1 => Rt (qGt v (.int most) h1) fun v h1 => (match v with
          | .bl b => (b = true → h1 = h' ∧ prodR rows ≤ most) ∧ (b = false → h1 = h' ∧ prodR rows * p' ≤ most)
          | _ => False) := fun p' a1 a2 => by
        rw [mul_r (j := p') h' (by omega) (by omega)]
        simp
        omega
      by_cases w2 : 2 < p
      · have d1 := Int.ediv_nonneg (show 0 ≤ p by omega) (show (0 : Int) ≤ 2 by decide)
        have d2 : p / 2 ≤ 6 := by omega
        simp [w2, div_int (i := p) h' h2p (by decide +kernel), asg, mul_r (j := 1 + p / 2) h' (by omega) (by omega)]
        by_cases w3 : most < prodR rows * (1 + p / 2)
        · simp [w3, asg]
          omega
        · simp [w3]
          omega
      · simp [w2, asg, mul_r (j := 1) h' (by decide) (by decide)]
        omega
    · simp [w, asg, mul_r (j := p) h' (by omega) (by omega)]
      refine (next_rt S8 (by decide)).imp ?_
      rintro v h9 ⟨⟨y, rfl, y1, y2⟩, sx, S9, hn9⟩
      have ed9 := sx _ _ nd ed8
      have el9 := sx _ _ (by omega) el8
      have sx9 := sx8.trans sx
      -- the rest, the length once known
      have rest : ∀ (l : Int) (h10 : MH), 1 ≤ l → l ≤ p → h10.get d = some (.dct false false (rows.map encR)) → h10.get (d + 2) = some (.lst ((namesA.take (k + 1)).map MV.str)) → Sx s h h10 → St ns h10 s →
          Rt (m__law_next_0 [.ref s, .int p] h10) fun v h1 => Rt (m__law_next_0 [.ref s, .int 4] h1) fun w h2 => Rt (qAdd (.int 1) w h2) fun u h3 => ∃ kvs, h3.get d = some (.dct false false kvs) ∧ kvs.length < 16777216 ∧ ∃ (rows' : List (List Nat × Row)), prodR rows' = prodR rows * p ∧ rows'.length = i + 1 ∧ rows'.map (·.1) = namesA.take (i + 1) ∧ (∀ x ∈ rows', x.2.Ok) ∧ 1 ≤ prodR rows' ∧ prodR rows' ≤ most ∧
            (h3.set d (.dct false false (dput (.str namesA[i]) (.tup [.int p, .int l, v, u]) kvs))).get d = some (.dct false false (rows'.map encR)) ∧ (h3.set d (.dct false false (dput (.str namesA[i]) (.tup [.int p, .int l, v, u]) kvs))).get (d + 2) = some (.lst ((namesA.take (k + 1)).map MV.str)) ∧
            Sx s h (h3.set d (.dct false false (dput (.str namesA[i]) (.tup [.int p, .int l, v, u]) kvs))) ∧ St ns (h3.set d (.dct false false (dput (.str namesA[i]) (.tup [.int p, .int l, v, u]) kvs))) s := fun l h10 l1 l2 ed10 el10 sx10 S10 => by
        refine (next_rt S10 (by omega)).imp ?_
        rintro v h11 ⟨⟨b, rfl, b1, b2⟩, sx, S11, hn11⟩
        have ed11 := sx _ _ nd ed10
        have el11 := sx _ _ (by omega) el10
        have sx11 := sx10.trans sx
        refine (next_rt S11 (by decide)).imp ?_
        rintro w h12 ⟨⟨g, rfl, g1, g2⟩, sx, S12, hn12⟩
        have ed12 := sx _ _ nd ed11
        have el12 := sx _ _ (by omega) el11
        have sx12 := sx11.trans sx
        simp only [add_int, rt_ok]
        refine ⟨_, ed12, by rw [List.length_map]; omega, rows ++ [(namesA[i], ⟨p, l, b, 1 + g⟩)], ?_, by simp [hr], ?_, ?_, ?_, ?_, ?_, ?_, ?_, ?_⟩
        · rw [prodR_app]; simp [prodR]
        · rw [List.map_append, hnm, List.take_add_one, List.getElem?_eq_getElem hi4]; rfl
        · intro x hx
          rcases List.mem_append.mp hx with q | q
          · exact hok x q
          · have : x = (namesA[i], ⟨p, l, b, 1 + g⟩) := by simpa using q
            subst this
            exact ⟨q1, q2, l1, l2, b1, b2, by show 1 ≤ 1 + g; omega, by show 1 + g ≤ 9; omega⟩
        · rw [prodR_app]
          have : 1 * 1 ≤ prodR rows * p := Int.mul_le_mul p1 q1 (by omega) (by omega)
          simp [prodR]; omega
        · rw [prodR_app]; simp [prodR]; omega
        · rw [MH.set_same ed12, dput_enc]
          · simp [encR, rowV]
          · rw [hnm]
            intro z
            have nn := namesA_nd
            rw [show namesA = namesA.take i ++ namesA[i] :: namesA.drop (i + 1) by simp, List.nodup_append] at nn
            exact nn.2.2 _ z _ (List.mem_cons_self ..) rfl
        · rw [MH.set_ne (by omega)]; exact el12
        · intro n o wn en
          have wd : n ≠ d := fun z => by rw [z] at en; have := MH.get_lt en; omega
          rw [MH.set_ne wd]; exact sx12 _ _ wn en
        · obtain ⟨b', c', hb', hc', e'⟩ := S12
          exact ⟨b', c', hb', hc', by rw [MH.set_ne (Ne.symm nd)]; exact e'⟩
      have fin : ∀ (l : Int) (h10 : MH), 1 ≤ l → l ≤ p → h10.get d = some (.dct false false (rows.map encR)) → h10.get (d + 2) = some (.lst ((namesA.take (k + 1)).map MV.str)) → Sx s h h10 → St ns h10 s → True := fun _ _ _ _ _ _ _ _ => trivial
      by_cases yz : y = 0
      · simp [yz]
        refine (next_rt S9 (by omega)).imp ?_
        rintro v h10 ⟨⟨l, rfl, l1, l2⟩, sx, S10, hn10⟩
        simp [asg]
        refine (rest (1 + l) h10 (by omega) (by omega) (sx _ _ nd ed9) (sx _ _ (by omega) el9) (sx9.trans sx) S10).imp ?_
        intro v h11 z
        refine z.imp ?_
        intro w' h12 z2
        refine z2.imp ?_
        rintro u h13 ⟨kvs, f1, f2, rows', g1, g2, g3, g4, g5, g6, g7, g8, g9, g10⟩
        left
        exact ⟨kvs, f1, rfl, f2, rows', g1.symm, g2, g3, fun a b hab => g4 (a, b) hab, g5, g6, g7, by rw [← List.map_take]; exact g8, g9, g10⟩
      · simp [yz, asg]
        refine (rest 1 h9 (by omega) (by omega) ed9 el9 sx9 S9).imp ?_
        intro v h11 z
        refine z.imp ?_
        intro w' h12 z2
        refine z2.imp ?_
        rintro u h13 ⟨kvs, f1, f2, rows', g1, g2, g3, g4, g5, g6, g7, g8, g9, g10⟩
        left
        exact ⟨kvs, f1, rfl, f2, rows', g1.symm, g2, g3, fun a b hab => g4 (a, b) hab, g5, g6, g7, by rw [← List.map_take]; exact g8, g9, g10⟩
  · rintro σ h5 ⟨rows, v4, v5, v6, rfl, hr, hnm, hok, p1, p2, ed, el, sx5, S5⟩
    refine ⟨by have := wkL_fin el; rwa [List.length_map, hlen] at this, ?_⟩
    have hr' : rows.length = k + 1 := hr
    simp
    exact ⟨nd, rows, ed, ⟨by omega, by omega, by rw [hr']; exact hnm, hok, p2⟩, sx5, S5⟩
/-! ### rows: when they run, meet -/
theorem ix_row0 (r : Row) (Q : MV → MH → Prop) : Rt (qIx (rowV r) (.int 0) h) Q = Q (.int r.c) h := by unfold rowV; simp [atM, ixM]
theorem ix_row1 (r : Row) (Q : MV → MH → Prop) : Rt (qIx (rowV r) (.int 1) h) Q = Q (.int r.l) h := by unfold rowV; simp [atM, ixM]
theorem ix_row2 (r : Row) (Q : MV → MH → Prop) : Rt (qIx (rowV r) (.int 2) h) Q = Q (.int r.b) h := by unfold rowV; simp [atM, ixM]
theorem ix_row3 (r : Row) (Q : MV → MH → Prop) : Rt (qIx (rowV r) (.int 3) h) Q = Q (.int r.g) h := by unfold rowV; simp [atM, ixM]
/-! ### the timetable of the rows -/
theorem ljob_rt {r : Row} (o : r.Ok) : Rt (m__law_job_0 [rowV r] h) fun v h' => v = .ref h.n ∧ h'.get h.n = some (jobO r) ∧ Sub h h' ∧ h'.n = h.n + 1 := by
  unfold m__law_job_0
  simp
  refine make_job (h1 := h) (vs := [.int r.c, .int r.l]) (zs := [.int r.b, .int r.g]) (c := r.c) (l := r.l) (b := r.b) (g := r.g) o ?_ ?_ (fun u => rfl) ?_
  · simp [ix_row0, ix_row1]
  · simp [ix_row2, ix_row3]
  · intro h2 s e2 en
    exact ⟨rfl, e2, s, en⟩
theorem dget_enc : ∀ {rows : List (List Nat × Row)} {x : List Nat × Row}, (rows.map (·.1)).Nodup → x ∈ rows → dget (.str x.1) (rows.map encR) = some (rowV x.2)
  | [], x, _, hx => by cases hx
  | y :: rows, x, nd, hx => by
    show (match keyB (.str y.1) (.str x.1) with | true => some (rowV y.2) | false => dget (.str x.1) (rows.map encR)) = _
    rw [keyB_str]
    rw [List.map_cons, List.nodup_cons] at nd
    by_cases c : y.1 = x.1
    · rw [decide_eq_true c]
      rcases List.mem_cons.mp hx with rfl | q
      · rfl
      · exact absurd (c ▸ List.mem_map_of_mem (f := fun (x : List Nat × Row) => x.1) q) nd.1
    · rw [decide_eq_false c]
      rcases List.mem_cons.mp hx with rfl | q
      · exact absurd rfl c
      · exact dget_enc nd.2 q
theorem dget_ent : ∀ {es : List Ent} {x : Ent}, (es.map (·.1)).Nodup → x ∈ es → dget (.str x.1) (es.map entK) = some (.ref x.2)
  | [], x, _, hx => by cases hx
  | y :: rows, x, nd, hx => by
    show (match keyB (.str y.1) (.str x.1) with | true => some (MV.ref y.2) | false => dget (.str x.1) (rows.map entK)) = _
    rw [keyB_str]
    rw [List.map_cons, List.nodup_cons] at nd
    by_cases c : y.1 = x.1
    · rw [decide_eq_true c]
      rcases List.mem_cons.mp hx with rfl | q
      · rfl
      · exact absurd (c ▸ List.mem_map_of_mem (f := fun (x : Ent) => x.1) q) nd.1
    · rw [decide_eq_false c]
      rcases List.mem_cons.mp hx with rfl | q
      · exact absurd rfl c
      · exact dget_ent nd.2 q
def rowOf : List (List Nat × Row) → List Nat → Row
  | [], _ => ⟨1, 1, 0, 1⟩
  | x :: xs, s => if x.1 = s then x.2 else rowOf xs s
theorem rowOf_mem : ∀ {rows : List (List Nat × Row)} {x : List Nat × Row}, (rows.map (·.1)).Nodup → x ∈ rows → rowOf rows x.1 = x.2
  | [], x, _, hx => by cases hx
  | y :: rows, x, nd, hx => by
    rw [List.map_cons, List.nodup_cons] at nd
    unfold rowOf
    by_cases c : y.1 = x.1
    · rw [if_pos c]
      rcases List.mem_cons.mp hx with rfl | q
      · rfl
      · exact absurd (c ▸ List.mem_map_of_mem (f := fun (x : List Nat × Row) => x.1) q) nd.1
    · rw [if_neg c]
      rcases List.mem_cons.mp hx with rfl | q
      · exact absurd rfl c
      · exact rowOf_mem nd.2 q
theorem namesA_ok : ∀ s ∈ namesA, NameOk s := by
  intro s hs
  simp [namesA] at hs
  rcases hs with rfl | rfl | rfl | rfl <;> exact ⟨by decide, by decide, by decide⟩
theorem Drawn.nd {most : Int} {rows : List (List Nat × Row)} (D : Drawn most rows) : (rows.map (·.1)).Nodup := by
  rw [D.nm]
  exact (List.take_sublist _ _).nodup namesA_nd
theorem Drawn.name {most : Int} {rows : List (List Nat × Row)} (D : Drawn most rows) {x : List Nat × Row} (hx : x ∈ rows) : NameOk x.1 := by
  have : x.1 ∈ rows.map (·.1) := List.mem_map_of_mem (f := fun (x : List Nat × Row) => x.1) hx
  rw [D.nm] at this
  exact namesA_ok _ (List.mem_of_mem_take this)
end
end KA
set_option autoImplicit true
set_option maxHeartbeats 200000
set_option maxRecDepth 512
set_option linter.all false
/-! ASpec2: pairs. -/
namespace KA
section
variable {h : MH} {s : Nat} {ns : List Int}
theorem cutM_lo (xs : List MV) (k : Nat) : cutM xs (some (k : Int)) none = xs.drop k := by
  unfold cutM sIxM
  simp only [show ¬ ((k : Int) < 0) by omega, decide_false, Int.toNat_natCast]
  rcases Nat.le_total k xs.length with c | c
  · rw [show Nat.min k xs.length = k from Nat.min_eq_left c, List.take_of_length_le]
    rw [List.length_drop]
    exact Nat.le_refl _
  · rw [show Nat.min k xs.length = xs.length from Nat.min_eq_right c, List.drop_eq_nil_of_le c]
    simp
theorem add_lst {a b : Nat} {xs ys : List MV} (ea : h.get a = some (.lst xs)) (eb : h.get b = some (.lst ys)) (Q : MV → MH → Prop) : Rt (qAdd (.ref a) (.ref b) h) Q = (xs.length + ys.length ≤ 16777216 ∧ Q (.ref h.n) (h.push (.lst (xs ++ ys)))) := by
  unfold qAdd
  simp [ea, eb]
/-! ### two names in their order -/
end
end KA
set_option autoImplicit true
set_option maxHeartbeats 200000
set_option maxRecDepth 512
set_option linter.all false
/-! PTab: timetables as they stand. -/
namespace KA
abbrev NR := List Nat × Row
section
variable {h h' : MH} {t : Nat} {rows : List NR}
/-- the timetable at t has these jobs under these names -/
def Tab (h : MH) (t : Nat) (rows : List NR) : Prop := ∃ (q : Nat) (es : List Ent), h.get t = some (.ins 1 [(4, .ref q)]) ∧ h.get q = some (.dct false false (es.map entK)) ∧ es.length = rows.length ∧ ∀ (i : Nat) (e : Ent) (x : NR), es[i]? = some e → rows[i]? = some x → e.1 = x.1 ∧ h.get e.2 = some (jobO x.2)
structure TOk (rows : List NR) : Prop where
  l1 : 1 ≤ rows.length
  l4 : rows.length ≤ 4
  nm : ∀ x ∈ rows, NameOk x.1
  nd : (rows.map (·.1)).Nodup
  ok : ∀ x ∈ rows, x.2.Ok
  pr : prodR rows ≤ 2000
theorem Tab.sub (T : Tab h t rows) (s : Sub h h') : Tab h' t rows := by
  obtain ⟨q, es, e1, e2, e3, e4⟩ := T
  exact ⟨q, es, s _ _ e1, s _ _ e2, e3, fun i e x a b => ⟨(e4 i e x a b).1, s _ _ (e4 i e x a b).2⟩⟩
theorem Tab.sx {a : Nat} (T : Tab h t rows) (s : Sx a h h') (ha : ∃ xs, h.get a = some (.lst xs)) : Tab h' t rows := by
  obtain ⟨q, es, e1, e2, e3, e4⟩ := T
  obtain ⟨xs, ea⟩ := ha
  have ne : ∀ n o, h.get n = some o → (∀ xs, o ≠ .lst xs) → n ≠ a := fun n o e w z => by rw [z, ea] at e; cases e; exact w _ rfl
  exact ⟨q, es, s _ _ (ne _ _ e1 fun _ z => by cases z) e1, s _ _ (ne _ _ e2 fun _ z => by cases z) e2, e3, fun i e x b c => ⟨(e4 i e x b c).1, s _ _ (ne _ _ (e4 i e x b c).2 fun _ z => by cases z) (e4 i e x b c).2⟩⟩
theorem names_eq {es : List Ent} (hl : es.length = rows.length) (he : ∀ (i : Nat) (e : Ent) (x : NR), es[i]? = some e → rows[i]? = some x → e.1 = x.1 ∧ h.get e.2 = some (jobO x.2)) : es.map (·.1) = rows.map (·.1) := by
  apply List.ext_getElem? 
  intro i
  rw [List.getElem?_map, List.getElem?_map]
  by_cases c : i < rows.length
  · have c' : i < es.length := by omega
    rw [List.getElem?_eq_getElem c, List.getElem?_eq_getElem c']
    exact congrArg some (he i _ _ (List.getElem?_eq_getElem c') (List.getElem?_eq_getElem c)).1
  · rw [List.getElem?_eq_none (by omega), List.getElem?_eq_none (by omega)]; rfl
/-- one of its jobs -/
theorem Tab.at_ (T : Tab h t rows) (O : TOk rows) {x : NR} (hx : x ∈ rows) : ∃ j, At h t x.1 j x.2 := by
  obtain ⟨q, es, e1, e2, e3, e4⟩ := T
  obtain ⟨i, hi, rfl⟩ := List.mem_iff_getElem.mp hx
  have hi' : i < es.length := by omega
  obtain ⟨a, b⟩ := e4 i _ _ (List.getElem?_eq_getElem hi') (List.getElem?_eq_getElem hi)
  refine ⟨es[i].2, ⟨q, _, e1, e2, ?_⟩, b⟩
  rw [← a]
  exact dget_ent (names_eq e3 e4 ▸ O.nd) (List.getElem_mem hi')
theorem prodC_rows : ∀ (es : List Ent) (rows : List NR) (f : Ent → Row), es.length = rows.length → (∀ (i : Nat) (e : Ent) (x : NR), es[i]? = some e → rows[i]? = some x → f e = x.2) → prodC f es = prodR rows
  | [], [], f, _, _ => rfl
  | [], _ :: _, f, hl, _ => by simp at hl
  | _ :: _, [], f, hl, _ => by simp at hl
  | e :: es, x :: xs, f, hl, hf => by
    have h0 := hf 0 e x rfl rfl
    have := prodC_rows es xs f (by simpa using hl) fun i a b ha hb => hf (i + 1) a b (by simpa using ha) (by simpa using hb)
    simp [prodC, prodR, h0, this]
/-- Timetable(d) -/
theorem make_tab {d : Nat} {es : List Ent} {am : AM} {σ : Sl} {h0 : MH} {Q : MV → MH → Prop} (ea : Rt (am σ h0) fun vs h1 => vs = [.ref d] ∧ h1 = h) (ed : h.get d = some (.dct false false (es.map entK))) (hl : es.length = rows.length) (he : ∀ (i : Nat) (e : Ent) (x : NR), es[i]? = some e → rows[i]? = some x → e.1 = x.1 ∧ h.get e.2 = some (jobO x.2)) (O : TOk rows)
    (q : ∀ h2, Tab h2 h.n rows → Sub h h2 → h.n < h2.n → Q (.ref h.n) h2) : Rt (eNew 1 m_Timetable___init__ am σ h0) Q := by
  rw [rt_eNew]
  refine ea.imp ?_
  rintro vs h1 ⟨rfl, rfl⟩
  have nm := names_eq hl he
  have nd : (es.map (·.1)).Nodup := nm ▸ O.nd
  have ix : ∀ e ∈ es, ∃ x ∈ rows, e.1 = x.1 ∧ rowOf rows e.1 = x.2 ∧ h1.get e.2 = some (jobO x.2) := fun e hm => by
    obtain ⟨i, hi, rfl⟩ := List.mem_iff_getElem.mp hm
    have hi' : i < rows.length := by omega
    obtain ⟨a, b⟩ := he i _ _ (List.getElem?_eq_getElem hi) (List.getElem?_eq_getElem hi')
    exact ⟨_, List.getElem_mem hi', a, by rw [a]; exact rowOf_mem O.nd (List.getElem_mem hi'), b⟩
  refine (table_init (es := es) (rw_ := fun e => rowOf rows e.1) (MH.push_same h1 (.ins 1 [])) (MH.push_of ed) (by have := O.l1; omega) (by have := O.l4; omega) (fun e hm => ?_) (fun e hm => ?_) (fun e hm => ?_) ?_ nd).imp ?_
  · obtain ⟨x, hx, e1, _⟩ := ix e hm
    rw [e1]; exact O.nm x hx
  · obtain ⟨x, hx, e1, e2, e3⟩ := ix e hm
    rw [e2]; exact MH.push_of e3
  · obtain ⟨x, hx, e1, e2, e3⟩ := ix e hm
    show (rowOf rows e.1).Ok
    rw [e2]; exact O.ok x hx
  · rw [prodC_rows es rows _ hl fun i e x a b => ?_]
    · exact O.pr
    · have hx : x ∈ rows := List.mem_of_getElem? b
      show rowOf rows e.1 = x.2
      rw [(he i e x a b).1]; exact rowOf_mem O.nd hx
  · rintro v h4 ⟨rfl, ⟨p, t1, t2⟩, sx4⟩
    have keep : Sub h1 h4 := fun a o ea => sx4 a o (Nat.ne_of_lt (MH.get_lt ea)) (MH.push_of ea)
    refine ⟨rfl, q h4 ⟨p, es, t1, t2, hl, fun i e x a b => ⟨(he i e x a b).1, keep _ _ (he i e x a b).2⟩⟩ keep ?_⟩
    exact MH.get_lt t1
end
end KA
set_option autoImplicit true
set_option maxHeartbeats 200000
set_option maxRecDepth 512
set_option linter.all false
/-! BSpec: what the laws' own functions compute (laws 1 to 4, 51): the pool of draws, rows. -/
namespace KA
section
variable {h : MH} {a p : Nat} {ns : List Int}
/-- ints of at least 0 -/
def Ds (xs : List MV) : Prop := ∀ x ∈ xs, ∃ i : Int, x = .int i ∧ 0 ≤ i
theorem Ds.nil : Ds [] := fun x hx => by cases hx
theorem Ds.app {xs ys : List MV} (a : Ds xs) (b : Ds ys) : Ds (xs ++ ys) := fun x hx => (List.mem_append.mp hx).elim (a x) (b x)
theorem Ds.tail {x : MV} {xs : List MV} (a : Ds (x :: xs)) : Ds xs := fun y hy => a y (List.mem_cons_of_mem _ hy)
theorem Ds.data {xs : List MV} (d : Ds xs) (f : Nat) (h : MH) : xs.all (dataB (f + 1) h) = true := by
  rw [List.all_eq_true]
  intro x hx
  obtain ⟨i, rfl, _⟩ := d x hx
  rfl
/-- the pool stands at a -/
def Dr (h : MH) (a : Nat) : Prop := ∃ xs, h.get a = some (.lst xs) ∧ Ds xs
theorem Dr.sub {h' : MH} (d : Dr h a) (s : Sub h h') : Dr h' a := by obtain ⟨xs, e, q⟩ := d; exact ⟨xs, s _ _ e, q⟩
theorem Dr.push {o : MO} (d : Dr h a) : Dr (h.push o) a := d.sub Sub.push
theorem Dr.lt (d : Dr h a) : a < h.n := by obtain ⟨xs, e, _⟩ := d; exact MH.get_lt e
/-! ### the pool -/
theorem append_rt {f : Nat} {xs : List MV} {v : MV} {am : AM} {o : EM} {σ : Sl} {Q : MV → MH → Prop} (eo : o σ h = .ok (.ref f) h) (e : h.get f = some (.lst xs)) (hl : xs.length + 1 ≤ 16777216) (ea : Rt (am σ h) fun vs h' => vs = [v] ∧ h' = h) (q : Q .non (h.set f (.lst (xs ++ [v])))) : Rt (eBmL qAppend o am σ h) Q := by
  unfold eBmL
  rw [eo]
  dsimp only [Res.bind]
  rw [seq_ref e]
  show Rt ((am σ h).bind fun vs h2 => qAppend (.ref f) vs h2) Q
  rw [rt_bind]
  refine ea.imp ?_
  rintro vs h' ⟨rfl, rfl⟩
  unfold qAppend f1
  simp -implicitDefEqProofs [e, hl]
  exact q
/-! ### rows: a name, a job -/
def rowB (x : NR) : MV := .tup [.str x.1, .int x.2.c, .int x.2.l, .int x.2.b, .int x.2.g]
def namesB : List (List Nat) := [[115, 121, 110, 99], [109, 97, 105, 108], [108, 111, 103], [97]]
theorem namesB_nd : namesB.Nodup := by decide
structure Plan (most : Int) (rows : List NR) : Prop where
  l4 : rows.length ≤ 4
  nm : rows.map (·.1) = namesB.take rows.length
  ok : ∀ x ∈ rows, x.2.Ok
  p1 : 1 ≤ prodR rows
  pr : prodR rows ≤ most
end
end KA
set_option autoImplicit true
set_option maxHeartbeats 200000
set_option maxRecDepth 512
set_option linter.all false
/-! CSpec: shifts of timetables, what is free, costs, which jobs run, equality. -/
namespace KA
section
variable {h : MH} {t : Nat} {rows : List NR}
/-- a timetable whose lines are locked -/
structure TL (h : MH) (t q : Nat) (es : List Ent) (rows : List NR) : Prop where
  et : h.get t = some (.ins 1 [(4, .ref q)])
  eq : h.get q = some (.dct false true (es.map entK))
  len : es.length = rows.length
  at_ : ∀ (i : Nat) (e : Ent) (x : NR), es[i]? = some e → rows[i]? = some x → e.1 = x.1 ∧ h.get e.2 = some (jobO x.2)
theorem TL.sub {h' : MH} {q : Nat} {es : List Ent} (L : TL h t q es rows) (s : Sub h h') : TL h' t q es rows :=
  ⟨s _ _ L.et, s _ _ L.eq, L.len, fun i e x a b => ⟨(L.at_ i e x a b).1, s _ _ (L.at_ i e x a b).2⟩⟩
theorem Tab.lock (T : Tab h t rows) : ∃ q es, h.get t = some (.ins 1 [(4, .ref q)]) ∧ h.get q = some (.dct false false (es.map entK)) ∧ TL (h.set q (.dct false true (es.map entK))) t q es rows ∧
    ∀ h', Sub (h.set q (.dct false true (es.map entK))) h' → Sub h (h'.set q (.dct false false (es.map entK))) := by
  obtain ⟨q, es, e1, e2, e3, e4⟩ := T
  have nt : t ≠ q := fun w => by rw [w, e2] at e1; cases e1
  refine ⟨q, es, e1, e2, ⟨by rw [MH.set_ne nt]; exact e1, MH.set_same e2, e3, fun i e x a b => ⟨(e4 i e x a b).1, ?_⟩⟩, fun h' s n o en => ?_⟩
  · have w : e.2 ≠ q := fun w => by have := (e4 i e x a b).2; rw [w, e2] at this; cases this
    rw [MH.set_ne w]; exact (e4 i e x a b).2
  · by_cases w : n = q
    · subst w
      rw [e2] at en
      cases en
      exact MH.set_same (s _ _ (MH.set_same e2))
    · rw [MH.set_ne w]
      exact s _ _ (by rw [MH.set_ne w]; exact en)
/-- what the i-th entry is -/
theorem TL.ent {q : Nat} {es : List Ent} (L : TL h t q es rows) {i : Nat} {x : NR} (hx : rows[i]? = some x) : ∃ j, es[i]? = some (x.1, j) ∧ h.get j = some (jobO x.2) := by
  have hi := (List.getElem?_eq_some_iff.mp hx).1
  have hi' : i < es.length := by rw [L.len]; exact hi
  obtain ⟨a, b⟩ := L.at_ i _ _ (List.getElem?_eq_getElem hi') hx
  exact ⟨es[i].2, by rw [List.getElem?_eq_getElem hi', ← a], b⟩
theorem TL.walk {q k : Nat} {es : List Ent} (L : TL h t q es rows) {i : Nat} {x : NR} (hx : rows[i]? = some x) : ∃ j, (wkD k q (es.map entK).length).at_ i h = some (entM k (.str x.1, .ref j)) ∧ h.get j = some (jobO x.2) := by
  obtain ⟨j, e1, e2⟩ := L.ent hx
  refine ⟨j, wkD_at L.eq ?_, e2⟩
  rw [List.getElem?_map, e1]; rfl
/-- shifts as a tuple -/
def shV (l : List Int) : MV := .tup (l.map MV.int)
/-- shifts that fit -/
structure ShOk (rows : List NR) (l : List Int) : Prop where
  len : l.length = rows.length
  ok : ∀ (i : Nat) (x : NR) (s : Int), rows[i]? = some x → l[i]? = some s → 0 ≤ s ∧ s < x.2.c
/-! ### are_shifts, cost_of, __call__ -/
theorem ShOk.get {l : List Int} (S : ShOk rows l) {i : Nat} (hi : i < rows.length) : ∃ x s, rows[i]? = some x ∧ l[i]? = some s ∧ 0 ≤ s ∧ s < x.2.c := by
  have hl := S.len
  have e1 : rows[i]? = some rows[i] := List.getElem?_eq_getElem hi
  have e2 : l[i]? = some (l[i]'(by omega)) := List.getElem?_eq_getElem (by omega)
  exact ⟨_, _, e1, e2, S.ok i _ _ e1 e2⟩
/-! ### shifted timetables -/
theorem make_tabE {am : AM} {σ : Sl} {h0 : MH} {Q : MV → MH → Prop} (ea : Rt (am σ h0) fun vs h1 => ∃ (d : Nat) (es : List Ent), vs = [.ref d] ∧ h1.get d = some (.dct false false (es.map entK)) ∧ es.length = rows.length ∧ (∀ (i : Nat) (e : Ent) (x : NR), es[i]? = some e → rows[i]? = some x → e.1 = x.1 ∧ h1.get e.2 = some (jobO x.2)) ∧ Sub h h1) (O : TOk rows)
    (q : ∀ h2 u, Tab h2 u rows → Sub h h2 → Q (.ref u) h2) : Rt (eNew 1 m_Timetable___init__ am σ h0) Q := by
  obtain ⟨vs, h1, ev, d, es, rfl, ed, hl, he, sb⟩ := ea.inv
  exact make_tab (h := h1) (by rw [ev]; exact ⟨rfl, rfl⟩) ed hl he O fun h2 T s _ => q h2 _ T (sb.trans s)
end
end KA
set_option autoImplicit true
set_option maxHeartbeats 200000
set_option maxRecDepth 512
set_option linter.all false
/-! BSpec2: .. jobs, timetables, pairs. -/
namespace KA
section
variable {h : MH} {a p : Nat} {rows : List NR}
theorem ixB (x : NR) (i : Nat) (Q : MV → MH → Prop) : Rt (qIx (rowB x) (.int (i : Int)) h) Q = (match [MV.str x.1, .int x.2.c, .int x.2.l, .int x.2.b, .int x.2.g][i]? with
  | some v => Q v h
  | none => False) := by
  unfold rowB qIx
  dsimp only
  by_cases c : i < 5
  · rw [atM_int (by omega) (by show ((i : Nat) : Int) < 5; omega), Int.toNat_natCast]
    cases [MV.str x.1, .int x.2.c, .int x.2.l, .int x.2.b, .int x.2.g][i]? <;> rfl
  · have : atM [MV.str x.1, .int x.2.c, .int x.2.l, .int x.2.b, .int x.2.g] (i : Int) = none := by
      unfold atM ixM
      simp [c]
    rw [this, List.getElem?_eq_none (by simp; omega)]
    rfl
@[simp] theorem ixB0 (x : NR) (Q : MV → MH → Prop) : Rt (qIx (rowB x) (.int 0) h) Q = Q (.str x.1) h := ixB x 0 Q
@[simp] theorem ixB1 (x : NR) (Q : MV → MH → Prop) : Rt (qIx (rowB x) (.int 1) h) Q = Q (.int x.2.c) h := ixB x 1 Q
@[simp] theorem ixB2 (x : NR) (Q : MV → MH → Prop) : Rt (qIx (rowB x) (.int 2) h) Q = Q (.int x.2.l) h := ixB x 2 Q
@[simp] theorem ixB3 (x : NR) (Q : MV → MH → Prop) : Rt (qIx (rowB x) (.int 3) h) Q = Q (.int x.2.b) h := ixB x 3 Q
@[simp] theorem ixB4 (x : NR) (Q : MV → MH → Prop) : Rt (qIx (rowB x) (.int 4) h) Q = Q (.int x.2.g) h := ixB x 4 Q
theorem namesB_ok : ∀ s ∈ namesB, NameOk s := by
  intro s hs
  simp [namesB] at hs
  rcases hs with rfl | rfl | rfl | rfl <;> exact ⟨by decide, by decide, by decide⟩
theorem Plan.tok {most : Int} (P : Plan most rows) (hl : 1 ≤ rows.length) (hm : most ≤ 2000) : TOk rows := by
  refine ⟨hl, P.l4, fun x hx => ?_, ?_, P.ok, by have := P.pr; omega⟩
  · have : x.1 ∈ rows.map (·.1) := List.mem_map_of_mem (f := fun (x : NR) => x.1) hx
    rw [P.nm] at this
    exact namesB_ok _ (List.mem_of_mem_take this)
  · rw [P.nm]
    exact (List.take_sublist _ _).nodup namesB_nd
end
end KA
set_option autoImplicit true
set_option maxHeartbeats 200000
set_option maxRecDepth 512
set_option linter.all false
/-! CSpec3: pairs, what is free, all shifts, free shifts. -/
set_option autoImplicit true
set_option maxHeartbeats 200000
set_option maxRecDepth 512
set_option linter.all false
/-! CSpec4: all shifts, free shifts. -/
set_option autoImplicit true
set_option maxHeartbeats 200000
set_option maxRecDepth 512
set_option linter.all false
/-! CSpec5: the laws' own functions: shifted rows, what is free, prices, all shifts; == of lists of data. -/
namespace KA
section
variable {h : MH} {p : Nat} {rows : List NR}
/-- plain data: a str, a tuple of ints -/
def PD (v : MV) : Prop := (∃ s, v = .str s ∧ sOk s = true) ∨ ∃ l : List Int, v = shV l
theorem PD.data {v : MV} (d : PD v) (f : Nat) (h : MH) : dataB (f + 2) h v = true := by
  rcases d with ⟨s, rfl, hs⟩ | ⟨l, rfl⟩
  · exact hs
  · show (l.map MV.int).all (dataB (f + 1) h) = true
    rw [List.all_eq_true]
    intro x hx
    obtain ⟨i, _, rfl⟩ := List.mem_map.mp hx
    rfl
/-! ### rows with other starts -/
/-! ### pairs of rows, what is free -/
end
end KA
set_option autoImplicit true
set_option maxHeartbeats 200000
set_option maxRecDepth 512
set_option linter.all false
/-! DSpec: desks. -/
namespace KA
theorem oc_lockL {fp : EM} {s : SM} {σ : Sl} {h : MH} {n : Nat} {tk : Bool} {kvs : List (MV × MV)} {P : Po} (ep : fp σ h = .ok (.ref n) h) (en : h.get n = some (.dct tk true kvs)) (q : Oc (s σ h) P) : Oc (jLock fp s σ h) P := by
  unfold jLock
  rw [ep]
  dsimp only
  rw [en]
  exact q
section
variable {h : MH} {t : Nat} {rows : List NR}
/-- locked or not: what holds of the locked heap holds -/
structure TX (h : MH) (t : Nat) (rows : List NR) : Prop where
  ex : ∃ (q : Nat) (es : List Ent) (lk : Bool), h.get t = some (.ins 1 [(4, .ref q)]) ∧ h.get q = some (.dct false lk (es.map entK)) ∧ es.length = rows.length ∧ ∀ (i : Nat) (e : Ent) (x : NR), es[i]? = some e → rows[i]? = some x → e.1 = x.1 ∧ h.get e.2 = some (jobO x.2)
theorem TX.sub {h' : MH} (T : TX h t rows) (s : Sub h h') : TX h' t rows := by
  obtain ⟨q, es, lk, a, b, c, d⟩ := T.ex
  exact ⟨q, es, lk, s _ _ a, s _ _ b, c, fun i e x u v => ⟨(d i e x u v).1, s _ _ (d i e x u v).2⟩⟩
theorem TL.sx {h' : MH} {q n : Nat} {es : List Ent} (L : TL h t q es rows) (s : Sx n h h') (hn : ∃ xs, h.get n = some (.lst xs)) : TL h' t q es rows := by
  obtain ⟨xs, en⟩ := hn
  have ne : ∀ a o, h.get a = some o → (∀ ys, o ≠ .lst ys) → a ≠ n := fun a o e w z => by rw [z, en] at e; cases e; exact w _ rfl
  exact ⟨s _ _ (ne _ _ L.et fun _ z => by cases z) L.et, s _ _ (ne _ _ L.eq fun _ z => by cases z) L.eq, L.len, fun i e x a b => ⟨(L.at_ i e x a b).1, s _ _ (ne _ _ (L.at_ i e x a b).2 fun _ z => by cases z) (L.at_ i e x a b).2⟩⟩
end
end KA
set_option autoImplicit true
set_option maxHeartbeats 200000
set_option maxRecDepth 512
set_option linter.all false
/-! DSpec2: what a desk says. -/
namespace KA
section
variable {h : MH} {d t p r : Nat} {rows : List NR} {ps : List (List Int)} {l : List Int} {nm : List (List Nat)}
/-- a desk as it stands: the shifts so far (the last ones l), the names of the steps -/
structure Dk (h : MH) (d t p r : Nat) (ps : List (List Int)) (l : List Int) (nm : List (List Nat)) (rows : List NR) : Prop where
  ed : h.get d = some (.ins 4 [(8, .ref t), (9, .ref p), (10, .ref r)])
  ep : h.get p = some (.lst (ps.map shV ++ [shV l]))
  er : h.get r = some (.lst (nm.map MV.str))
  T : Tab h t rows
  npr : p ≠ r
theorem Dk.sub {h' : MH} (D : Dk h d t p r ps l nm rows) (s : Sub h h') : Dk h' d t p r ps l nm rows := ⟨s _ _ D.ed, s _ _ D.ep, s _ _ D.er, D.T.sub s, D.npr⟩
/-! ### steps -/
theorem append_rtE {f : Nat} {xs : List MV} {am : AM} {o : EM} {σ : Sl} {Q : MV → MH → Prop} (eo : o σ h = .ok (.ref f) h) (e : h.get f = some (.lst xs)) (hl : xs.length + 1 ≤ 16777216) (ea : Rt (am σ h) fun vs h' => ∃ v, vs = [v] ∧ h'.get f = some (.lst xs) ∧ Q .non (h'.set f (.lst (xs ++ [v])))) : Rt (eBmL qAppend o am σ h) Q := by
  unfold eBmL
  rw [eo]
  dsimp only [Res.bind]
  rw [seq_ref e]
  show Rt ((am σ h).bind fun vs h2 => qAppend (.ref f) vs h2) Q
  rw [rt_bind]
  refine ea.imp ?_
  rintro vs h' ⟨v, rfl, e', q⟩
  unfold qAppend f1
  simp -implicitDefEqProofs [e', hl]
  exact q
/-- all but two lists stands -/
def Sx2 (p r : Nat) (h h' : MH) : Prop := ∀ a o, a ≠ p → a ≠ r → h.get a = some o → h'.get a = some o
theorem Sx2.refl : Sx2 p r h h := fun _ _ _ _ e => e
theorem Sx2.trans {h1 h2 : MH} (a : Sx2 p r h h1) (b : Sx2 p r h1 h2) : Sx2 p r h h2 := fun x o n m e => b x o n m (a x o n m e)
end
end KA
set_option autoImplicit true
set_option maxHeartbeats 200000
set_option maxRecDepth 512
set_option linter.all false
/-! DSpec3: what cures a desk. -/
set_option autoImplicit false
set_option maxHeartbeats 200000
set_option maxRecDepth 512
set_option linter.all false
set_option autoImplicit false
/-! FSpec: cycles, loads, stretches (the program). -/
set_option autoImplicit false
set_option maxHeartbeats 200000
set_option maxRecDepth 512
set_option linter.all false
set_option autoImplicit false
/-! FSpec2: longest stretches, peaks, rooms (the program). -/
namespace KA
/-! ### plain -/
def pv (p : Int × Int) : MV := .tup [.int p.1, .int p.2]
end KA
set_option autoImplicit false
set_option maxHeartbeats 200000
set_option maxRecDepth 512
set_option linter.all false
set_option autoImplicit false
/-! GSpec: texts of timetables. -/
namespace KA
/-! ### plain -/
theorem splitC_ne' (c : Nat) : ∀ l : List Nat, splitC c l ≠ []
  | [] => by simp [splitC]
  | x :: r => by
    unfold splitC
    split
    · simp
    · split <;> simp
theorem splitC_cons (c x : Nat) (r : List Nat) : splitC c (x :: r) = match splitC c r with
    | [] => [[]]
    | p :: ps => (match Nat.beq x c with
      | true => [] :: p :: ps
      | false => (x :: p) :: ps) := rfl
theorem splitC_none {c : Nat} : ∀ {p : List Nat}, c ∉ p → splitC c p = [p]
  | [], _ => rfl
  | x :: r, h => by
    have h1 : x ≠ c := fun e => h (e ▸ List.mem_cons_self ..)
    have h2 : c ∉ r := fun e => h (List.mem_cons_of_mem _ e)
    rw [splitC_cons, splitC_none h2]
    dsimp only
    rw [kbeq, decide_eq_false h1]
theorem splitC_app {c : Nat} : ∀ {p : List Nat} (r : List Nat), c ∉ p → splitC c (p ++ c :: r) = p :: splitC c r
  | [], r, _ => by
    show splitC c (c :: r) = _
    rw [splitC_cons]
    cases q : splitC c r with
    | nil => exact absurd q (splitC_ne' c r)
    | cons p ps => dsimp only; rw [kbeq, decide_eq_true rfl]
  | x :: p, r, h => by
    have h1 : x ≠ c := fun e => h (e ▸ List.mem_cons_self ..)
    have h2 : c ∉ p := fun e => h (List.mem_cons_of_mem _ e)
    show splitC c (x :: (p ++ c :: r)) = _
    rw [splitC_cons, splitC_app r h2]
    dsimp only
    rw [kbeq, decide_eq_false h1]
theorem joinC_nil : ∀ ps : List (List Nat), joinC [] ps = ps.flatten
  | [] => rfl
  | [p] => by simp [joinC]
  | p :: q :: r => by
    show p ++ ([] ++ joinC [] (q :: r)) = _
    rw [joinC_nil (q :: r)]; rfl
theorem digS_ok : ((List.range 13).all fun n => (digS n).all digB && decide ((digS n).length = 1 ∨ (digS n).length = 2)) = true := by decide
theorem digS_of {i : Int} (h0 : 0 ≤ i) (h1 : i ≤ 12) : (∀ c ∈ digS i, 48 ≤ c ∧ c ≤ 57) ∧ 1 ≤ (digS i).length ∧ (digS i).length ≤ 2 := by
  have := List.all_eq_true.mp digS_ok i.toNat (List.mem_range.mpr (by omega))
  rw [show ((i.toNat : Nat) : Int) = i by omega, Bool.and_eq_true] at this
  refine ⟨fun c hc => ?_, ?_⟩
  · have := List.all_eq_true.mp this.1 c hc
    unfold digB at this
    simpa using this
  · have := of_decide_eq_true this.2
    omega
section
variable {h : MH}
theorem qIntS_dig {i : Int} (h0 : 0 ≤ i) (h1 : i ≤ 12) : qIntS [.str (digS i)] h = .ok (.int i) h := by
  have : i = 0 ∨ i = 1 ∨ i = 2 ∨ i = 3 ∨ i = 4 ∨ i = 5 ∨ i = 6 ∨ i = 7 ∨ i = 8 ∨ i = 9 ∨ i = 10 ∨ i = 11 ∨ i = 12 := by omega
  rcases this with e | e | e | e | e | e | e | e | e | e | e | e | e <;> (subst e; rfl)
theorem qStrI_dig {i : Int} (h0 : 0 ≤ i) (h1 : i ≤ 12) : qStrI [.int i] h = .ok (.str (digS i)) h := by
  show qStrI1 (.int i) h = _
  unfold qStrI1
  dsimp only
  rw [show (decide (0 ≤ i) && decide (i < 100)) = true by simp; omega]
theorem dig_sok {i : Int} (h0 : 0 ≤ i) (h1 : i ≤ 12) : sOk (digS i) = true := by
  unfold sOk
  rw [List.all_eq_true]
  intro c hc
  have := (digS_of h0 h1).1 c hc
  simp; omega
/-- number_in(str(n)) -/
theorem number_in_rt {i : Int} (h0 : 0 ≤ i) (h1 : i ≤ 12) : Rt (m_number_in [.str (digS i)] h) fun v h' => v = .int i ∧ Sub h h' := by
  unfold m_number_in
  obtain ⟨d1, d2, d3⟩ := digS_of h0 h1
  have so := dig_sok h0 h1
  have ei := qIntS_dig (h := h) h0 h1
  have es := qStrI_dig (h := h) h0 h1
  generalize hd : digS i = s at d1 d2 d3 so ei es
  have a1 : (1 : Int) ≤ s.length := by omega
  have a2 : (s.length : Int) ≤ 2 := by omega
  have a3 : s.length ≤ 16777216 := by omega
  simp -implicitDefEqProofs [a1, a2, a3]
  refine acc_pure (s.map fun c => .str [c]) (fun _ => true) (fun _ => .bl true) (by simp) (by simp; omega) (fun i v e => ?_) rfl ?_ ?_
  · simp at e
    obtain ⟨c, e, rfl⟩ := e
    show (match s[i]? with | some c => some (MV.str [c]) | none => none) = _
    rw [e]
  · intro v hv
    simp at hv
    obtain ⟨c, hc, rfl⟩ := hv
    have := d1 c hc
    refine ⟨_, rfl, by simp, fun _ => ?_⟩
    simp [qInS]
    omega
  intro k
  have e1 : ((List.map (fun c => MV.str [c]) s).filter fun _ => true).map (fun _ => MV.bl true) = (s.map fun _ => true).map MV.bl := by rw [List.filter_eq_self.mpr (by simp)]; simp
  rw [e1]
  have e2 : (List.map MV.bl (s.map fun _ => true)).reverse.reverse = List.map MV.bl (s.map fun _ => true) := by rw [List.reverse_reverse]
  rw [e2, qBls_eq (g := allB) (seq_ref (MH.push_same h _)) (bls_map _)]
  have ei' : ∀ h', qIntS [.str s] h' = .ok (.int i) h' := fun h' => by rw [← hd]; exact qIntS_dig h0 h1
  have es' : ∀ h', qStrI [.int i] h' = .ok (.str s) h' := fun h' => by rw [← hd]; exact qStrI_dig h0 h1
  have eq' : ∀ h', qEq (.str s) (.str s) h' = .ok (.bl true) h' := fun h' => by rw [eq_str so so]; simp
  simp -implicitDefEqProofs [allB, ei', es', eq']
  exact Sub.push
/-! ### lines -/
def wordsR (x : NR) : List (List Nat) := [x.1, digS x.2.c, digS x.2.l, digS x.2.b, digS x.2.g]
def lineR (x : NR) : List Nat := joinC [32] (wordsR x)
def textR (rows : List NR) : List Nat := joinC [] (rows.map fun x => lineR x ++ [10])
theorem line_eq (x : NR) : lineR x = x.1 ++ 32 :: (digS x.2.c ++ 32 :: (digS x.2.l ++ 32 :: (digS x.2.b ++ 32 :: digS x.2.g))) := by
  unfold lineR wordsR
  simp [joinC]
theorem name_not {s : List Nat} (o : NameOk s) {c : Nat} (hc : c < 97) : c ∉ s := fun h => by have := o.cs c h; omega
theorem dig_not {i : Int} (h0 : 0 ≤ i) (h1 : i ≤ 12) {c : Nat} (hc : c < 48) : c ∉ digS i := fun h => by have := (digS_of h0 h1).1 c h; omega
theorem split_line {x : NR} (n : NameOk x.1) (o : x.2.Ok) : splitC 32 (lineR x) = wordsR x := by
  have h1 := o.c1
  have h2 := o.c2
  have h3 := o.l1
  have h4 := o.l2
  have h5 := o.b1
  have h6 := o.b2
  have h7 := o.g1
  have h8 := o.g2
  rw [line_eq, splitC_app _ (name_not n (by decide)), splitC_app _ (dig_not (by omega) (by omega) (by decide)), splitC_app _ (dig_not (by omega) (by omega) (by decide)), splitC_app _ (dig_not (by omega) (by omega) (by decide)), splitC_none (dig_not (by omega) (by omega) (by decide))]
  rfl
theorem line_not {x : NR} (n : NameOk x.1) (o : x.2.Ok) : 10 ∉ lineR x := by
  have h1 := o.c1
  have h2 := o.c2
  have h3 := o.l1
  have h4 := o.l2
  have h5 := o.b1
  have h6 := o.b2
  have h7 := o.g1
  have h8 := o.g2
  rw [line_eq]
  simp only [List.mem_append, List.mem_cons, not_or]
  exact ⟨name_not n (by decide), by decide, dig_not (by omega) (by omega) (by decide), by decide, dig_not (by omega) (by omega) (by decide), by decide, dig_not (by omega) (by omega) (by decide), by decide, dig_not (by omega) (by omega) (by decide)⟩
theorem split_text : ∀ rows : List NR, (∀ x ∈ rows, NameOk x.1) → (∀ x ∈ rows, x.2.Ok) → splitC 10 (textR rows) = rows.map lineR ++ [[]]
  | [], _, _ => rfl
  | x :: rows, hn, ho => by
    have ih := split_text rows (fun y hy => hn y (List.mem_cons_of_mem _ hy)) fun y hy => ho y (List.mem_cons_of_mem _ hy)
    unfold textR at ih ⊢
    rw [joinC_nil] at ih ⊢
    rw [List.map_cons, List.flatten_cons, List.append_assoc, List.singleton_append, splitC_app _ (line_not (hn x (List.mem_cons_self ..)) (ho x (List.mem_cons_self ..))), ih]
    rfl
theorem line_len {x : NR} (n : NameOk x.1) (o : x.2.Ok) : (lineR x).length ≤ 20 := by
  have h1 := o.c1
  have h2 := o.c2
  have h3 := o.l1
  have h4 := o.l2
  have h5 := o.b1
  have h6 := o.b2
  have h7 := o.g1
  have h8 := o.g2
  have := n.l2
  have d1 := (digS_of (i := x.2.c) (by omega) (by omega)).2.2
  have d2 := (digS_of (i := x.2.l) (by omega) (by omega)).2.2
  have d3 := (digS_of (i := x.2.b) (by omega) (by omega)).2.2
  have d4 := (digS_of (i := x.2.g) (by omega) (by omega)).2.2
  rw [line_eq]
  simp only [List.length_append, List.length_cons]
  omega
theorem text_len : ∀ rows : List NR, (∀ x ∈ rows, NameOk x.1) → (∀ x ∈ rows, x.2.Ok) → (textR rows).length ≤ 21 * rows.length
  | [], _, _ => by simp [textR, joinC]
  | x :: rows, hn, ho => by
    have ih := text_len rows (fun y hy => hn y (List.mem_cons_of_mem _ hy)) fun y hy => ho y (List.mem_cons_of_mem _ hy)
    have l := line_len (hn x (List.mem_cons_self ..)) (ho x (List.mem_cons_self ..))
    unfold textR at ih ⊢
    rw [joinC_nil] at ih ⊢
    rw [List.map_cons, List.flatten_cons]
    simp only [List.length_append, List.length_cons, List.length_nil]
    omega
theorem strs_ofMap (ps : List (List Nat)) : strs? (ps.map MV.str) = some ps := by
  induction ps with
  | nil => rfl
  | cons p r ih => rw [List.map_cons]; unfold strs?; rw [ih]
theorem rt_eSm {g : MV → FM} {o a : EM} {σ : Sl} {s : List Nat} {Q : MV → MH → Prop} (eo : Rt (o σ h) fun v h1 => v = .str s ∧ Rt (a σ h1) fun w h2 => Rt (g (.str s) [w] h2) Q) : Rt (eSm g o a σ h) Q := by
  unfold eSm
  rw [rt_bind]
  refine eo.imp ?_
  rintro v h1 ⟨rfl, q⟩
  dsimp only
  rw [rt_bind]
  exact q
theorem split_rt {s : List Nat} {c : Nat} {Q : MV → MH → Prop} (hc : c < 256) (hl : s.length + 2 ≤ 16777216) (q : Q (.ref h.n) (h.push (.lst ((splitC c s).map .str)))) : Rt (qSplit (.str s) [.str [c]] h) Q := by
  unfold qSplit f1
  dsimp only
  rw [kblt, decide_eq_true hc]
  simp -implicitDefEqProofs [hl]
  exact q
theorem join_rt {s : List Nat} {n : Nat} {ps : List (List Nat)} {Q : MV → MH → Prop} (e : h.get n = some (.lst (ps.map .str))) (hl : (ps.map List.length).sum + ps.length * s.length ≤ 16777216) (q : Q (.str (joinC s ps)) h) : Rt (qJoin (.str s) [.ref n] h) Q := by
  unfold qJoin f1
  dsimp only
  rw [e]
  dsimp only
  rw [strs_ofMap]
  simp -implicitDefEqProofs [hl]
  exact q
def numsR (x : NR) : List Int := [x.2.c, x.2.l, x.2.b, x.2.g]
theorem nums_rg {x : NR} (o : x.2.Ok) {i : Nat} {k : Int} (e : (numsR x)[i]? = some k) : 0 ≤ k ∧ k ≤ 12 := by
  have h1 := o.c1
  have h2 := o.c2
  have h3 := o.l1
  have h4 := o.l2
  have h5 := o.b1
  have h6 := o.b2
  have h7 := o.g1
  have h8 := o.g2
  have := List.mem_of_getElem? e
  simp [numsR] at this
  omega
theorem in_ints {n : Nat} {is : List Int} (e : h.get n = some (.lst (is.map MV.int))) : qInL .non (.ref n) h = .ok (.bl false) h := by
  unfold qInL
  simp only [seq_ref e]
  rw [show (dataB 9 h .non && (is.map MV.int).all (dataB 9 h)) = true by
    rw [Bool.and_eq_true, List.all_eq_true]
    refine ⟨rfl, fun x hx => ?_⟩
    obtain ⟨i, _, rfl⟩ := List.mem_map.mp hx
    rfl]
  rw [show ((is.map MV.int).any fun y => eqB 9 h y .non) = false by
    rw [List.any_eq_false]
    intro x hx
    obtain ⟨i, _, rfl⟩ := List.mem_map.mp hx
    have : eqB 9 h (.int i) .non = false := rfl
    rw [this]; decide]
theorem job_in_rt {x : NR} {w : Nat} (n : NameOk x.1) (o : x.2.Ok) (ew : h.get w = some (.lst ((wordsR x).map .str))) : Rt (m_job_in [.ref w] h) fun v h' => ∃ j, v = .tup [.str x.1, .ref j] ∧ h'.get j = some (jobO x.2) ∧ Sub h h' := by
  unfold m_job_in
  simp -implicitDefEqProofs [-Prod.forall, -Prod.exists, asg]
  have sl : ∀ Q : MV → MH → Prop, Q (.ref h.n) (h.push (.lst ((numsR x).map fun k => .str (digS k)))) → slP Q (.ref w) (some 1) none h := fun Q q => by
    unfold slP
    simp only [seq_ref ew]
    exact q
  refine sl _ ?_
  have en : (h.push (.lst ((numsR x).map fun k => .str (digS k)))).get h.n = some (.lst ((numsR x).map fun k => .str (digS k))) := MH.push_same _ _
  have s1 : Sub h (h.push (.lst ((numsR x).map fun k => .str (digS k)))) := Sub.push
  refine ⟨_, rfl, _, en, ?_⟩
  generalize h.n = a at en
  generalize h.push (.lst ((numsR x).map fun k => .str (digS k))) = h1 at en s1
  rw [List.length_map]
  refine acc_ix (numsR x).length (fun _ => true) (fun i => match (numsR x)[i]? with
    | some k => .int k
    | none => .non) (by simp) (by simp [numsR]) (fun h' sb => by have := wkL_fin (sb _ _ en); rwa [List.length_map] at this) (fun i hi h' sb => ?_) ?_
  · have ex : (numsR x)[i]? = some (numsR x)[i] := List.getElem?_eq_getElem hi
    obtain ⟨k0, k1⟩ := nums_rg o ex
    refine ⟨_, _, wkL_at (sb _ _ en) (v := .str (digS (numsR x)[i])) (by rw [List.getElem?_map, ex]; rfl), rfl, ?_⟩
    rw [ex]
    simp -implicitDefEqProofs
    exact ⟨fun _ _ e => e, number_in_rt k0 k1⟩
  intro k h2 hk sb
  rw [List.append_nil, List.reverse_reverse, List.filter_eq_self.mpr (by simp)]
  have em : (List.range (numsR x).length).map (fun i => match (numsR x)[i]? with
    | some k => MV.int k
    | none => .non) = (numsR x).map MV.int := range_map (numsR x) _ MV.int fun i y e => by simp only [e]
  rw [em]
  have eb : (h2.push (.lst ((numsR x).map MV.int))).get h2.n = some (.lst ((numsR x).map MV.int)) := MH.push_same _ _
  have s2 : Sub h (h2.push (.lst ((numsR x).map MV.int))) := (s1.trans sb).trans Sub.push
  generalize h2.n = b at eb
  generalize h2.push (.lst ((numsR x).map MV.int)) = h3 at eb s2
  have ew3 := s2 _ _ ew
  rw [len_lst ew3]
  have i0 : ∀ h' (Q : MV → MH → Prop), Sub h3 h' → Q (.str x.1) h' → Rt (qIx (.ref w) (.int 0) h') Q := fun h' Q s q => rt_ix_seq (seq_ref (s _ _ ew3)) (by rfl) q
  simp -implicitDefEqProofs only [rt_ok, List.length_map, ne_int]
  refine ⟨rfl, i0 _ _ .refl ?_⟩
  refine (name_rt n).imp ?_
  rintro v h4 ⟨rfl, s4⟩
  refine ⟨rfl, ?_⟩
  have eb4 := s4 _ _ eb
  rw [in_ints eb4, rt_ok]
  refine ⟨rfl, ?_⟩
  have at_ : ∀ i k, (numsR x)[i]? = some k → ∀ h' (Q : MV → MH → Prop), h'.get b = some (.lst ((numsR x).map MV.int)) → Q (.int k) h' → Rt (qIx (.ref b) (.int (i : Nat)) h') Q := fun i k e h' Q eb' q => by
    refine rt_ix_seq (seq_ref eb') (x := .int k) ?_ q
    have hi := (List.getElem?_eq_some_iff.mp e).1
    rw [atM_int (by omega) (by rw [List.length_map]; omega), Int.toNat_natCast, List.getElem?_map, e]; rfl
  refine make_job (vs := [.int x.2.c, .int x.2.l]) (zs := [.int x.2.b, .int x.2.g]) (h1 := h4) o ?_ ?_ (fun u => rfl) fun h5 s5 ej _ => ?_
  · simp -implicitDefEqProofs
    exact at_ 0 _ rfl _ _ eb4 (at_ 1 _ rfl _ _ eb4 ⟨⟨rfl, rfl⟩, rfl⟩)
  · simp -implicitDefEqProofs
    exact at_ 2 _ rfl _ _ eb4 (at_ 3 _ rfl _ _ eb4 ⟨⟨rfl, rfl⟩, rfl⟩)
  · exact i0 _ _ (s4.trans s5) ⟨_, ⟨rfl, rfl⟩, ej, s2.trans (s4.trans s5)⟩
/-! ### read_timetable -/
def pairV (e : Ent) : MV := .tup [.str e.1, .ref e.2]
theorem pairs_ents : ∀ es : List Ent, pairsKV (es.map pairV) = some (es.map entK)
  | [] => rfl
  | e :: es => by
    rw [List.map_cons]
    show (match keyA (.str e.1) with
      | true => (match pairsKV (es.map pairV) with
        | some ps => some ((MV.str e.1, MV.ref e.2) :: ps)
        | none => none)
      | false => none) = _
    rw [pairs_ents es]; rfl
theorem merge_ents : ∀ (es acc : List Ent), ((acc ++ es).map (·.1)).Nodup → mergeM (acc.map entK) (es.map entK) = (acc ++ es).map entK
  | [], acc, _ => by simp [mergeM]
  | e :: es, acc, nd => by
    rw [List.map_cons]
    unfold mergeM
    have nd' : e.1 ∉ acc.map (·.1) := fun hm => by
      rw [List.map_append, List.map_cons, List.nodup_append] at nd
      exact nd.2.2 _ hm _ (List.mem_cons_self ..) rfl
    have e1 : dput (entK e).1 (entK e).2 (acc.map entK) = (acc ++ [e]).map entK := by
      rw [dput_new fun p hp => ?_]
      · simp
      · obtain ⟨a, ha, rfl⟩ := List.mem_map.mp hp
        show beqN a.1 e.1 = false
        rw [beqN_eq]
        exact decide_eq_false fun q => nd' (q ▸ List.mem_map.mpr ⟨a, ha, rfl⟩)
    rw [e1, merge_ents es (acc ++ [e]) (by simpa using nd)]
    simp
theorem dictP_rt {n : Nat} {es : List Ent} {Q : MV → MH → Prop} (e : h.get n = some (.lst (es.map pairV))) (nd : (es.map (·.1)).Nodup) (q : Q (.ref h.n) (h.push (.dct false false (es.map entK)))) : Rt (qDictP [.ref n] h) Q := by
  show Rt (qDictP1 (.ref n) h) Q
  unfold qDictP1
  dsimp only
  rw [e]
  dsimp only
  rw [pairs_ents]
  have := merge_ents es [] (by simpa using nd)
  rw [List.map_nil, List.nil_append] at this
  dsimp only
  rw [this]
  exact q
theorem star_rt {i j : Nat} {a : EM} {σ : Sl} {P : Po} (p : Rt (a σ h) fun v h1 => ∃ n xs y, v = .ref n ∧ h1.get n = some (.lst (xs ++ [y])) ∧ P.n ((σ.set i (some (.ref h1.n))).set j (some y)) (h1.push (.lst xs))) : Oc (jStar i j a σ h) P := by
  unfold jStar
  rw [oc_out]
  refine p.imp ?_
  rintro v h1 ⟨n, xs, y, rfl, e, q⟩
  dsimp only
  rw [e]
  dsimp only
  rw [show (xs ++ [y]).getLast? = some y by simp]
  dsimp only
  rw [List.dropLast_concat]
  exact q
theorem eqLen_rt {n j : Nat} {xs : List MV} (e : h.get n = some (.lst xs)) (e2 : h.get j = some (.lst [])) (ne : xs ≠ []) : qEqLen (.ref n) (.ref j) h = .ok (.bl false) h := by
  unfold qEqLen
  dsimp only
  rw [e, e2]
  dsimp only
  rw [kbeq, decide_eq_false (by simpa using ne)]
theorem read_rt {rows : List NR} (O : TOk rows) : Rt (m_read_timetable [.str (textR rows)] h) fun v h' => ∃ t, v = .ref t ∧ Tab h' t rows ∧ Sub h h' := by
  unfold m_read_timetable
  have l4 := O.l4
  have l1 := O.l1
  have tl := text_len rows O.nm O.ok
  have sp := split_text rows O.nm O.ok
  generalize ht : textR rows = txt at tl sp
  simp -implicitDefEqProofs [-Prod.forall, -Prod.exists, asg]
  refine star_rt (rt_eSm (s := txt) ?_)
  simp -implicitDefEqProofs only [rt_eV, rt_eC, List.getElem?_cons_zero]
  refine ⟨trivial, split_rt (by decide) (by omega) ?_⟩
  rw [sp, List.map_append]
  refine ⟨_, (rows.map lineR).map .str, .str [], rfl, MH.push_same _ _, ?_⟩
  have s1 : Sub h (h.push (.lst ((rows.map lineR).map .str ++ [[]].map .str))) := Sub.push
  have eL : ((h.push (.lst ((rows.map lineR).map .str ++ [[]].map .str))).push (.lst ((rows.map lineR).map .str))).get (h.push (.lst ((rows.map lineR).map .str ++ [[]].map .str))).n = some (.lst ((rows.map lineR).map .str)) := MH.push_same _ _
  have s2 := s1.trans (Sub.push (o := .lst ((rows.map lineR).map .str)))
  generalize (h.push (.lst ((rows.map lineR).map .str ++ [[]].map .str))).n = p at eL
  generalize (h.push (.lst ((rows.map lineR).map .str ++ [[]].map .str))).push (.lst ((rows.map lineR).map .str)) = h1 at eL s2
  simp -implicitDefEqProofs only [List.set_cons_succ, List.set_cons_zero, List.getElem?_cons_succ, List.getElem?_cons_zero]
  refine ⟨p, rfl, _, MH.push_of eL, ?_⟩
  have en0 : (h1.push (.lst [])).get h1.n = some (.lst []) := MH.push_same _ _
  have eL2 := MH.push_of (o := .lst []) eL
  have s3 := s2.trans (Sub.push (o := .lst []))
  have lt : ∀ b o, h.get b = some o → b ≠ h1.n := fun b o e => Nat.ne_of_lt (MH.get_lt (s2 _ _ e))
  have np : p ≠ h1.n := Nat.ne_of_lt (MH.get_lt eL)
  generalize h1.n = n0 at en0 lt np
  generalize h1.push (.lst []) = h2 at en0 eL2 s3
  rw [List.length_map, List.length_map]
  refine for_inv (w := wkE (wkL p rows.length)) (fun i σ h' => (∃ v4 v5 v6, σ = [some (.str txt), some (.ref p), some (.str []), some (.ref n0), v4, v5, v6, none]) ∧ (∃ es : List Ent, h'.get n0 = some (.lst (es.map pairV)) ∧ es.length = i ∧ ∀ (k : Nat) (e : Ent) (x : NR), es[k]? = some e → rows[k]? = some x → e.1 = x.1 ∧ h'.get e.2 = some (jobO x.2)) ∧ h'.get p = some (.lst ((rows.map lineR).map .str)) ∧ Sub h h') ⟨⟨_, _, _, rfl⟩, ⟨[], en0, rfl, fun k e x z => by simp at z⟩, eL2, s3⟩ ?_ ?_
  · rintro i σ h' hi ⟨⟨v4, v5, v6, rfl⟩, ⟨es, en, le, he⟩, ep, sb⟩
    have hi' : i < rows.length := hi
    have ex : rows[i]? = some rows[i] := List.getElem?_eq_getElem hi'
    have n := O.nm _ (List.mem_of_getElem? ex)
    have o := O.ok _ (List.mem_of_getElem? ex)
    have ev : ((rows.map lineR).map MV.str)[i]? = some (.str (lineR rows[i])) := by rw [List.getElem?_map, List.getElem?_map, ex]; rfl
    refine ⟨.tup [.int (i : Nat), .str (lineR rows[i])], _, ?_, rfl, ?_⟩
    · unfold wkE
      dsimp only
      rw [wkL_at ep ev]
    simp -implicitDefEqProofs only [oc_seq, oc_asg, rt_eA, rt_aCons, rt_aNil]
    refine rt_eSm (s := lineR rows[i]) ?_
    simp -implicitDefEqProofs only [rt_eV, rt_eC, List.set_cons_succ, List.set_cons_zero, List.getElem?_cons_succ, List.getElem?_cons_zero]
    have ll := line_len n o
    refine ⟨trivial, split_rt (by decide) (by omega) ?_⟩
    rw [split_line n o]
    have sb1 := sb.trans (Sub.push (o := .lst ((wordsR rows[i]).map .str)))
    refine (job_in_rt n o (MH.push_same _ _)).imp ?_
    rintro v h5 ⟨j, rfl, ej, s5⟩
    have en5 := s5 _ _ (MH.push_of (o := .lst ((wordsR rows[i]).map .str)) en)
    have ep5 := s5 _ _ (MH.push_of (o := .lst ((wordsR rows[i]).map .str)) ep)
    have he5 : ∀ (k : Nat) (e : Ent) (x : NR), es[k]? = some e → rows[k]? = some x → e.1 = x.1 ∧ h5.get e.2 = some (jobO x.2) := fun k e x a b => ⟨(he k e x a b).1, s5 _ _ (MH.push_of (he k e x a b).2)⟩
    have sb5 := sb1.trans s5
    simp -implicitDefEqProofs [asg, -Prod.forall, -Prod.exists, -List.map_map]
    refine append_rt (xs := es.map pairV) (v := pairV (rows[i].1, j)) rfl en5 (by rw [List.length_map]; omega) (by simp [pairV]) ?_
    have jn : j ≠ n0 := fun w => by rw [w, en5] at ej; cases ej
    refine ⟨⟨es ++ [(rows[i].1, j)], by rw [MH.set_same en5]; simp, by simp [le], fun k e x a b => ?_⟩, by rw [MH.set_ne np]; exact ep5, fun b u e => by rw [MH.set_ne (lt b u e)]; exact sb5 b u e⟩
    by_cases c : k < es.length
    · rw [List.getElem?_append_left c] at a
      obtain ⟨q1, q2⟩ := he5 k e x a b
      have : e.2 ≠ n0 := fun w => by rw [w, en5] at q2; cases q2
      exact ⟨q1, by rw [MH.set_ne this]; exact q2⟩
    · have hk := (List.getElem?_eq_some_iff.mp a).1
      rw [List.length_append, List.length_singleton] at hk
      have hk : k = i := by omega
      subst hk
      rw [List.getElem?_append_right (by omega), le, Nat.sub_self] at a
      cases a
      rw [ex] at b
      cases b
      exact ⟨rfl, by rw [MH.set_ne jn]; exact ej⟩
  · rintro σ h' ⟨⟨v4, v5, v6, rfl⟩, ⟨es, en, le, he⟩, ep, sb⟩
    have le : es.length = rows.length := le
    have nm := names_eq le he
    have nd : (es.map (·.1)).Nodup := nm ▸ O.nd
    refine ⟨by unfold wkE; dsimp only; have := wkL_fin ep; rwa [List.length_map, List.length_map] at this, ?_⟩
    have ee : ∀ h', qNe (.str []) (.str []) h' = .ok (.bl false) h' := fun h' => rfl
    simp -implicitDefEqProofs [ee]
    have en1 := MH.push_of (o := .lst []) en
    rw [eqLen_rt en1 (MH.push_same _ _) (by intro z; have := congrArg List.length z; simp at this; subst this; simp at le; omega), rt_ok]
    refine ⟨rfl, ?_⟩
    refine dictP_rt en1 nd ?_
    have en2 := MH.push_of (o := .dct false false (es.map entK)) en1
    rw [len_dct (MH.push_same _ _), rt_ok, len_lst en2, rt_ok]
    simp -implicitDefEqProofs
    have s5 : Sub h' ((h'.push (.lst [])).push (.dct false false (es.map entK))) := (Sub.push (o := .lst [])).trans (Sub.push (o := .dct false false (es.map entK)))
    have s4 := sb.trans s5
    generalize (h'.push (.lst [])).push (.dct false false (es.map entK)) = h6 at en2 s4 s5
    refine make_tabE (h := h6) ?_ O ?_
    · simp -implicitDefEqProofs [-Prod.forall, -Prod.exists]
      refine dictP_rt en2 nd ?_
      exact ⟨_, rfl, es, MH.push_same _ _, le, fun k e x a b => ⟨(he k e x a b).1, MH.push_of (s5 _ _ (he k e x a b).2)⟩, Sub.push⟩
    · exact fun h7 u T s7 => ⟨u, rfl, T, s4.trans s7⟩
/-! ### timetable_text -/
theorem parts_rt {j : Nat} {r : Row} (e : h.get j = some (jobO r)) : m_Job_all_parts [.ref j] h = .ok (.ref h.n) (h.push (.lst [.int r.c, .int r.l, .int r.b, .int r.g])) := by
  apply Rt.eq
  unfold m_Job_all_parts
  simp -implicitDefEqProofs [j_c e, j_l e, j_b e, j_g e]
theorem words_sum {x : NR} (n : NameOk x.1) (o : x.2.Ok) : ((wordsR x).map List.length).sum ≤ 16 := by
  have h1 := o.c1
  have h2 := o.c2
  have h3 := o.l1
  have h4 := o.l2
  have h5 := o.b1
  have h6 := o.b2
  have h7 := o.g1
  have h8 := o.g2
  have := n.l2
  have d1 := (digS_of (i := x.2.c) (by omega) (by omega)).2.2
  have d2 := (digS_of (i := x.2.l) (by omega) (by omega)).2.2
  have d3 := (digS_of (i := x.2.b) (by omega) (by omega)).2.2
  have d4 := (digS_of (i := x.2.g) (by omega) (by omega)).2.2
  simp [wordsR]
  omega
/-- ' '.join(words) + '\n' -/
theorem line_rt {x : NR} {w : Nat} {Q : MV → MH → Prop} (n : NameOk x.1) (o : x.2.Ok) (ew : h.get w = some (.lst ((wordsR x).map .str))) (q : Q (.str (lineR x ++ [10])) h) : Rt (qJoin (.str [32]) [.ref w] h) fun v h1 => Rt (qAdd v (.str [10]) h1) Q := by
  refine join_rt ew ?_ ?_
  · have := words_sum n o
    have : (wordsR x).length = 5 := rfl
    simp
    omega
  · have := line_len n o
    show Rt (lim _ _) _
    simp -implicitDefEqProofs
    exact ⟨by show (lineR x).length ≤ 16777215; omega, q⟩
theorem text_rt {t : Nat} {rows : List NR} (T : Tab h t rows) (O : TOk rows) : Rt (m_timetable_text [.ref t] h) fun v h' => v = .str (textR rows) ∧ Sub h h' := by
  unfold m_timetable_text
  have l4 := O.l4
  obtain ⟨q, es, e1, e2, L, un⟩ := T.lock
  have le := L.len
  simp -implicitDefEqProofs [check_tab e1, -Prod.forall, -Prod.exists]
  refine oc_lock (fld_fp (i := 0) rfl e1 rfl) e2 ?_
  generalize h.set q (.dct false true (es.map entK)) = hl0 at L un
  simp -implicitDefEqProofs [fld_eq (f := 4) L.et rfl, -Prod.forall, -Prod.exists]
  refine ⟨_, L.eq, ?_⟩
  rw [List.length_map]
  refine acc_inv (fun i a h' => Sub hl0 h' ∧ ∃ ws : List Nat, a.1 ≤ i ∧ a.2 = (ws.map MV.ref).reverse ∧ ws.length = i ∧ ∀ (k : Nat) (w : Nat) (x : NR), ws[k]? = some w → rows[k]? = some x → h'.get w = some (.lst ((wordsR x).map .str))) ⟨.refl, [], Nat.le_refl _, rfl, rfl, fun k w x e => by simp at e⟩ ?_ ?_
  · rintro i ⟨k0, a⟩ h' hi ⟨sb, ws, hk, ea, lw, hw⟩
    have hi' : i < rows.length := by rw [← le]; exact hi
    have ex : rows[i]? = some rows[i] := List.getElem?_eq_getElem hi'
    have n := O.nm _ (List.mem_of_getElem? ex)
    have o := O.ok _ (List.mem_of_getElem? ex)
    obtain ⟨j, w1, w2⟩ := (L.sub sb).walk (k := 2) ex
    rw [List.length_map] at w1
    refine ⟨_, _, w1, rfl, ?_⟩
    rw [rt_cYes, if_pos rfl]
    simp -implicitDefEqProofs only [rt_bE, rt_eA, rt_aCons, rt_eV, List.set_cons_succ, List.set_cons_zero, List.getElem?_cons_succ, List.getElem?_cons_zero]
    unfold aStarL
    rw [rt_bind]
    rw [rt_eLc, rt_wSeq, rt_eMeth]
    simp -implicitDefEqProofs only [rt_eV, List.set_cons_succ, List.set_cons_zero, List.getElem?_cons_succ, List.getElem?_cons_zero, rt_aNil, parts_rt w2, rt_ok]
    refine ⟨isIns_of_get w2, _, _, rfl, MH.push_same _ _, ?_⟩
    have s1 : Sub h' (h'.push (.lst [.int rows[i].2.c, .int rows[i].2.l, .int rows[i].2.b, .int rows[i].2.g])) := Sub.push
    have en : (h'.push (.lst [.int rows[i].2.c, .int rows[i].2.l, .int rows[i].2.b, .int rows[i].2.g])).get h'.n = some (.lst ((numsR rows[i]).map MV.int)) := MH.push_same _ _
    generalize h'.n = b at en
    generalize h'.push (.lst [.int rows[i].2.c, .int rows[i].2.l, .int rows[i].2.b, .int rows[i].2.g]) = h1 at en s1
    refine acc_pix 4 (fun _ => true) (fun k => match (numsR rows[i])[k]? with
      | some z => .str (digS z)
      | none => .non) (by simp) (by decide) (by have := wkL_fin en; exact this) (fun k hk4 => ?_) ?_
    · have ez : (numsR rows[i])[k]? = some (numsR rows[i])[k] := List.getElem?_eq_getElem hk4
      obtain ⟨k0, k1⟩ := nums_rg o ez
      refine ⟨_, _, wkL_at en (v := .int (numsR rows[i])[k]) (by rw [List.getElem?_map, ez]; rfl), rfl, ?_⟩
      rw [ez]
      simp -implicitDefEqProofs [qStrI_dig k0 k1]
    · intro k4 hk4
      rw [List.append_nil, List.reverse_reverse, List.filter_eq_self.mpr (by simp)]
      have em : (List.range 4).map (fun i_1 => match (numsR rows[i])[i_1]? with
        | some z => MV.str (digS z)
        | none => .non) = [.str (digS rows[i].2.c), .str (digS rows[i].2.l), .str (digS rows[i].2.b), .str (digS rows[i].2.g)] := rfl
      rw [em]
      rw [MH.push_same]
      dsimp only
      rw [rt_bind, rt_aNil, rt_ok]
      simp -implicitDefEqProofs only [rt_qLst]
      refine ⟨by simp, by show k0 + 1 ≤ 16777216; simp only at hk; omega, (sb.trans s1).trans (Sub.push.trans Sub.push), ws ++ [_], by simp only at hk ⊢; omega, by rw [show a = (ws.map MV.ref).reverse from ea]; simp; rfl, by simp [lw], fun k w x e1' e2' => ?_⟩
      by_cases c : k < ws.length
      · rw [List.getElem?_append_left c] at e1'
        exact MH.push_of (MH.push_of (s1 _ _ (hw k w x e1' e2')))
      · have hk := (List.getElem?_eq_some_iff.mp e1').1
        rw [List.length_append, List.length_singleton] at hk
        have hk : k = i := by omega
        subst hk
        rw [List.getElem?_append_right (by omega), lw, Nat.sub_self] at e1'
        cases e1'
        rw [ex] at e2'
        cases e2'
        exact MH.push_same _ _
  · rintro ⟨k0, a⟩ h' ⟨sb, ws, hk, rfl, lw, hw⟩
    have lw : ws.length = es.length := lw
    refine ⟨by have := wkD_fin (k := 2) (sb _ _ L.eq); rwa [List.length_map] at this, ?_⟩
    dsimp only
    rw [List.reverse_reverse]
    have nq : h'.n ≠ q := Nat.ne_of_gt (MH.get_lt (sb _ _ L.eq))
    show ∃ kvs', _
    refine ⟨_, MH.push_of (sb _ _ L.eq), ?_⟩
    have s2 := un _ (sb.trans (Sub.push (o := .lst (ws.map MV.ref))))
    have em : ((h'.push (.lst (ws.map MV.ref))).set q (.dct false false (es.map entK))).get h'.n = some (.lst (ws.map MV.ref)) := by rw [MH.set_ne nq]; exact MH.push_same _ _
    have hw2 : ∀ (k : Nat) (w : Nat) (x : NR), ws[k]? = some w → rows[k]? = some x → ((h'.push (.lst (ws.map MV.ref))).set q (.dct false false (es.map entK))).get w = some (.lst ((wordsR x).map .str)) := fun k w x a b => by
      have := hw k w x a b
      have ne : w ≠ q := fun z => by rw [z, sb _ _ L.eq] at this; cases this
      rw [MH.set_ne ne]; exact MH.push_of this
    generalize (h'.push (.lst (ws.map MV.ref))).set q (.dct false false (es.map entK)) = h3 at s2 em hw2
    generalize h'.n = m at em
    refine rt_eSm (s := []) ?_
    simp -implicitDefEqProofs only [rt_eC]
    refine ⟨trivial, ?_⟩
    rw [rt_eLc]
    simp -implicitDefEqProofs only [rt_wSeq, rt_eV, List.set_cons_succ, List.set_cons_zero, List.getElem?_cons_succ, List.getElem?_cons_zero]
    refine ⟨m, _, rfl, em, ?_⟩
    rw [List.length_map, lw, le]
    refine acc_pix rows.length (fun _ => true) (fun k => match rows[k]? with
      | some x => .str (lineR x ++ [10])
      | none => .non) rfl (by omega) (by have := wkL_fin em; rwa [List.length_map, lw, le] at this) (fun k hk4 => ?_) ?_
    · have ex : rows[k]? = some rows[k] := List.getElem?_eq_getElem hk4
      have n := O.nm _ (List.mem_of_getElem? ex)
      have o := O.ok _ (List.mem_of_getElem? ex)
      have ew : ws[k]? = some (ws[k]'(by omega)) := List.getElem?_eq_getElem (by omega)
      refine ⟨_, _, wkL_at em (v := .ref (ws[k]'(by omega))) (by rw [List.getElem?_map, ew]; rfl), rfl, ?_⟩
      rw [ex, rt_cYes]
      refine ⟨rfl, rfl, fun _ => ?_⟩
      rw [rt_e2]
      refine rt_eSm (s := [32]) ?_
      simp -implicitDefEqProofs [wipeM]
      exact line_rt n o (hw2 k _ _ ew ex) ⟨rfl, rfl⟩
    · intro k4 hk4
      rw [List.append_nil, List.reverse_reverse, List.filter_eq_self.mpr (by simp)]
      have er : (List.range rows.length).map (fun k => match rows[k]? with
        | some x => MV.str (lineR x ++ [10])
        | none => .non) = (rows.map fun x => lineR x ++ [10]).map MV.str := by
        rw [List.map_map]
        exact range_map rows _ _ fun i x e => by simp only [e]; rfl
      rw [er]
      refine join_rt (MH.push_same _ _) ?_ ⟨rfl, s2.trans Sub.push⟩
      have := text_len rows O.nm O.ok
      unfold textR at this
      rw [joinC_nil, List.length_flatten] at this
      simp only [List.length_nil, Nat.mul_zero, Nat.add_zero]
      omega
end
end KA
set_option autoImplicit false
set_option maxHeartbeats 200000
set_option maxRecDepth 512
set_option linter.all false
set_option autoImplicit false
/-! KWpX: what is shown of mini statements that raise. -/
namespace KA
/-- it raises (or goes on) -/
def OX (o : Out) (N : Sl → MH → Prop) (E : Nat → Option MV → Sl → MH → Prop) : Prop := match o with
  | .nx σ h => N σ h
  | .exc c p σ h => E c p σ h
  | _ => False
section
variable {N N' : Sl → MH → Prop} {E E' : Nat → Option MV → Sl → MH → Prop} {σ : Sl} {h : MH} {s t : SM} {c : TM} {e : EM}
theorem OX.imp {o : Out} (x : OX o N E) (k : ∀ σ h, N σ h → N' σ h) (j : ∀ c p σ h, E c p σ h → E' c p σ h) : OX o N' E' := by
  cases o with
  | nx σ h => exact k _ _ x
  | exc c p σ h => exact j _ _ _ _ x
  | _ => exact x
@[simp] theorem oc_nox (s : SM) (σ : Sl) (h : MH) (P : Po) : Oc (jNox s σ h) P = Oc (s σ h) P := by
  unfold jNox
  cases s σ h <;> rfl
@[simp] theorem rt_noR {α : Type} (r : Res α) (Q : α → MH → Prop) : Rt (noR r) Q = Rt r Q := by cases r <;> rfl
@[simp] theorem rt_eNox (f : EM) (σ : Sl) (h : MH) (Q : MV → MH → Prop) : Rt (eNox f σ h) Q = Rt (f σ h) Q := rt_noR _ _
@[simp] theorem rt_tNox (f : TM) (σ : Sl) (h : MH) (Q : Bool → MH → Prop) : Rt (tNox f σ h) Q = Rt (f σ h) Q := rt_noR _ _
end
end KA
set_option autoImplicit false
set_option maxHeartbeats 200000
set_option maxRecDepth 512
set_option linter.all false
set_option autoImplicit false
/-! QSpec: what mini statements end in, those that may raise too; the plain reader of a timetable's text. -/
namespace KA
/-! ### ends, raising ones too -/
def OE (o : Out) (P : Po) (E : Nat → Option MV → Sl → MH → Prop) : Prop := match o with
  | .nx σ h => P.n σ h
  | .rt v h => P.r v h
  | .bk σ h => P.b σ h
  | .ct σ h => P.c σ h
  | .exc c p σ h => E c p σ h
  | .bad => False
def RE {α : Type} (r : Res α) (Q : α → MH → Prop) (E : Nat → Option MV → MH → Prop) : Prop := match r with
  | .ok a h => Q a h
  | .exc c p h => E c p h
  | .bad => False
section
variable {σ : Sl} {h : MH} {P : Po} {E : Nat → Option MV → Sl → MH → Prop} {s t u : SM} {c : TM} {e : EM}
theorem OE.of {o : Out} (x : Oc o P) : OE o P E := by
  cases o with
  | exc _ _ _ _ => exact x.elim
  | bad => exact x.elim
  | _ => exact x
theorem OE.imp {o : Out} {P' : Po} {E' : Nat → Option MV → Sl → MH → Prop} (p : OE o P E) (n : ∀ σ h, P.n σ h → P'.n σ h) (r : ∀ v h, P.r v h → P'.r v h) (b : ∀ σ h, P.b σ h → P'.b σ h) (c : ∀ σ h, P.c σ h → P'.c σ h) (x : ∀ c p σ h, E c p σ h → E' c p σ h) : OE o P' E' := by
  cases o with
  | nx => exact n _ _ p
  | rt => exact r _ _ p
  | bk => exact b _ _ p
  | ct => exact c _ _ p
  | exc => exact x _ _ _ _ p
  | bad => exact p
theorem RE.imp {α : Type} {r : Res α} {Q Q' : α → MH → Prop} {E E' : Nat → Option MV → MH → Prop} (x : RE r Q E) (k : ∀ a h, Q a h → Q' a h) (j : ∀ c p h, E c p h → E' c p h) : RE r Q' E' := by
  cases r with
  | ok _ _ => exact k _ _ x
  | exc _ _ _ => exact j _ _ _ x
  | bad => exact x
theorem RE.of {α : Type} {r : Res α} {Q : α → MH → Prop} {E : Nat → Option MV → MH → Prop} (x : Rt r Q) : RE r Q E := by
  cases r with
  | ok _ _ => exact x
  | _ => exact x.elim
theorem oe_seq (x : OE (s σ h) ⟨fun σ1 h1 => OE (t σ1 h1) P E, P.r, P.b, P.c⟩ E) : OE (jSeq s t σ h) P E := by
  unfold jSeq
  cases q : s σ h <;> (rw [q] at x; exact x)
theorem oe_nil (x : P.n σ h) : OE (jNil σ h) P E := x
theorem oe_if (x : Rt (c σ h) fun k h1 => if k = true then OE (s σ h1) P E else OE (t σ h1) P E) : OE (jIf c s t σ h) P E := by
  unfold jIf
  obtain ⟨k, h1, e, q⟩ := x.inv
  rw [e]
  cases k with
  | true => rw [if_pos rfl] at q; exact q
  | false => rw [if_neg (by decide)] at q; exact q
theorem oe_nox (x : Oc (s σ h) P) : OE (jNox s σ h) P E := OE.of (by rw [oc_nox]; exact x)
theorem oe_raise {k : Nat} (x : E k none σ h) : OE (jRaise k σ h) P E := x
theorem oe_raiseP {k : Nat} (x : Rt (e σ h) fun v h1 => E k (some v) σ h1) : OE (jRaiseP k e σ h) P E := by
  unfold jRaiseP
  obtain ⟨v, h1, e1, q⟩ := x.inv
  rw [e1]
  exact q
theorem oe_raiseI {k : Nat} (x : Rt (e σ h) fun v h1 => lineM v = true ∧ E k (some v) σ h1) : OE (jRaiseI k e σ h) P E := by
  unfold jRaiseI
  obtain ⟨v, h1, e1, q1, q2⟩ := x.inv
  rw [e1]
  show OE (match lineM v with | true => _ | false => _) _ _
  rw [q1]
  exact q2
theorem oe_asg {p : Pt} (x : RE (e σ h) (fun v h1 => ∃ σ1, asg p v σ = some σ1 ∧ P.n σ1 h1) fun c p h1 => E c p σ h1) : OE (jAsg e p σ h) P E := by
  unfold jAsg
  cases q : e σ h with
  | ok v h1 =>
    rw [q] at x
    obtain ⟨σ1, e1, z⟩ := x
    show OE (match asg p v σ with | some σ1 => _ | none => _) _ _
    rw [e1]
    exact z
  | exc _ _ _ => rw [q] at x; exact x
  | bad => rw [q] at x; exact x
theorem oe_for {w : WM} {p : Pt} {b : SM} (x : Rt (w σ h) fun k h1 => OE (forL k p b k.n 0 σ h1) P E) : OE (jFor w p b σ h) P E := by
  unfold jFor
  obtain ⟨k, h1, e, q⟩ := x.inv
  rw [e]
  exact q
/-- a for that may raise: an invariant by the turn -/
theorem oe_for_inv {w : Wk} {p : Pt} {b : SM} (I : Nat → Sl → MH → Prop) (h0 : I 0 σ h)
    (step : ∀ i σ h, i < w.n → I i σ h → ∃ v σ1, w.at_ i h = some v ∧ asg p v σ = some σ1 ∧ OE (b σ1 h) ⟨I (i + 1), P.r, P.n, I (i + 1)⟩ E)
    (fin : ∀ σ h, I w.n σ h → w.fin h = true ∧ P.n σ h) : OE (forL w p b w.n 0 σ h) P E := by
  have key : ∀ (r i : Nat) (σ : Sl) (h : MH), i + r = w.n → I i σ h → OE (forL w p b r i σ h) P E := by
    intro r
    induction r with
    | zero =>
      intro i σ h e q
      have : i = w.n := by omega
      subst this
      obtain ⟨f1, f2⟩ := fin σ h q
      unfold forL
      rw [f1]
      exact f2
    | succ r ih =>
      intro i σ h e q
      obtain ⟨v, σ1, e1, e2, o⟩ := step i σ h (by omega) q
      unfold forL
      rw [e1]
      dsimp only
      rw [e2]
      dsimp only
      cases eb : b σ1 h with
      | nx σ2 h2 => rw [eb] at o; exact ih (i + 1) σ2 h2 (by omega) o
      | ct σ2 h2 => rw [eb] at o; exact ih (i + 1) σ2 h2 (by omega) o
      | bk σ2 h2 => rw [eb] at o; exact o
      | rt v2 h2 => rw [eb] at o; exact o
      | exc c v σ2 h2 => rw [eb] at o; exact o
      | bad => rw [eb] at o; exact o
  exact key w.n 0 σ h (Nat.zero_add _) h0
theorem oe_tryC {k : Nat} (x : OE (s σ h) ⟨fun σ1 h1 => OE (u σ1 h1) P E, P.r, P.b, P.c⟩ fun d _ σ1 h1 => d = k ∧ OE (t σ1 h1) P E) : OE (jTryC k s t u σ h) P E := by
  unfold jTryC
  cases q : s σ h with
  | exc d p σ1 h1 =>
    rw [q] at x
    obtain ⟨rfl, z⟩ := x
    dsimp only
    rw [Nat.beq_refl]
    exact z
  | _ => rw [q] at x; exact x
theorem oc_tryC {k : Nat} (x : OE (s σ h) ⟨fun σ1 h1 => Oc (u σ1 h1) P, P.r, P.b, P.c⟩ fun d _ σ1 h1 => d = k ∧ Oc (t σ1 h1) P) : Oc (jTryC k s t u σ h) P := by
  unfold jTryC
  cases q : s σ h with
  | exc d p σ1 h1 =>
    rw [q] at x
    obtain ⟨rfl, z⟩ := x
    dsimp only
    rw [Nat.beq_refl]
    exact z
  | _ => rw [q] at x; exact x
theorem oc_tryFE {k i : Nat} (x : OE (s σ h) P fun d p σ1 h1 => ∃ v, p = some v ∧ d = k ∧ i < σ1.length ∧ P.r v h1) : Oc (jTryF k i s σ h) P := by
  unfold jTryF
  cases q : s σ h with
  | exc d p σ1 h1 =>
    rw [q] at x
    obtain ⟨v, rfl, rfl, hi, z⟩ := x
    dsimp only
    rw [Nat.beq_refl, show Nat.blt i σ1.length = true from Nat.ble_eq_true_of_le hi]
    exact z
  | _ => rw [q] at x; exact x
theorem re_fn {n : Nat} {b : SM} {vs : List MV} {Q : MV → MH → Prop} {F : Nat → Option MV → MH → Prop} (x : OE (b (vs.map some ++ List.replicate (n - vs.length) none) h) ⟨fun _ h1 => Q .non h1, Q, fun _ _ => False, fun _ _ => False⟩ fun c p _ h1 => F c p h1) : RE (fn n b vs h) Q F := by
  unfold fn
  cases q : b (vs.map some ++ List.replicate (n - vs.length) none) h <;> (rw [q] at x; exact x)
theorem re_eA {g : FM} {a : AM} {Q : MV → MH → Prop} {F : Nat → Option MV → MH → Prop} (x : Rt (a σ h) fun vs h1 => RE (g vs h1) Q F) : RE (eA g a σ h) Q F := by
  unfold eA
  obtain ⟨vs, h1, e, q⟩ := x.inv
  rw [e]
  exact q
theorem re_eNew {k : Nat} {g : FM} {a : AM} {Q : MV → MH → Prop} {F : Nat → Option MV → MH → Prop} (x : Rt (a σ h) fun vs h1 => RE (g (.ref h1.n :: vs) (h1.push (.ins k []))) (fun v h2 => v = .non ∧ Q (.ref h1.n) h2) F) : RE (eNew k g a σ h) Q F := by
  unfold eNew
  obtain ⟨vs, h1, e, q⟩ := x.inv
  rw [e]
  show RE ((g (.ref h1.n :: vs) (h1.push (.ins k []))).bind _) _ _
  cases eg : g (.ref h1.n :: vs) (h1.push (.ins k [])) with
  | ok v h2 => rw [eg] at q; obtain ⟨rfl, z⟩ := q; exact z
  | exc _ _ _ => rw [eg] at q; exact q
  | bad => rw [eg] at q; exact q
theorem re_eNewK {k : Nat} {g : FM} {f : List MV → List MV → List MV} {a b : AM} {Q : MV → MH → Prop} {F : Nat → Option MV → MH → Prop} (x : Rt (a σ h) fun vs h1 => Rt (b σ h1) fun zs h2 => RE (g (f (.ref h2.n :: vs) zs) (h2.push (.ins k []))) (fun v h3 => v = .non ∧ Q (.ref h2.n) h3) F) : RE (eNewK k g f a b σ h) Q F := by
  unfold eNewK
  obtain ⟨vs, h1, e, q⟩ := x.inv
  rw [e]
  show RE ((b σ h1).bind _) _ _
  obtain ⟨zs, h2, e2, q⟩ := q.inv
  rw [e2]
  show RE ((g (f (.ref h2.n :: vs) zs) (h2.push (.ins k []))).bind _) _ _
  cases eg : g (f (.ref h2.n :: vs) zs) (h2.push (.ins k [])) with
  | ok v h2 => rw [eg] at q; obtain ⟨rfl, z⟩ := q; exact z
  | exc _ _ _ => rw [eg] at q; exact q
  | bad => rw [eg] at q; exact q
/-- a dict locked meanwhile -/
theorem oe_lock {fp : EM} {n : Nat} {tk : Bool} {kvs : List (MV × MV)} (ep : fp σ h = .ok (.ref n) h) (en : h.get n = some (.dct tk false kvs))
    (x : OE (s σ (h.set n (.dct tk true kvs))) ⟨fun σ1 h1 => ∃ kvs', h1.get n = some (.dct tk true kvs') ∧ P.n σ1 (h1.set n (.dct tk false kvs')), fun _ _ => False, fun _ _ => False, fun _ _ => False⟩ fun c p σ1 h1 => ∃ kvs', h1.get n = some (.dct tk true kvs') ∧ E c p σ1 (h1.set n (.dct tk false kvs'))) : OE (jLockX fp s σ h) P E := by
  unfold jLockX
  rw [ep]
  dsimp only
  rw [en]
  dsimp only
  cases q : s σ (h.set n (.dct tk true kvs)) with
  | nx σ1 h1 =>
    rw [q] at x
    obtain ⟨kvs', e, z⟩ := x
    unfold unlockOX unlockH
    dsimp only
    rw [e]
    exact z
  | exc c p σ1 h1 =>
    rw [q] at x
    obtain ⟨kvs', e, z⟩ := x
    unfold unlockOX unlockH
    dsimp only
    rw [e]
    exact z
  | _ => rw [q] at x; exact x.elim
end
/-! ### the plain reader -/
def nameB (s : List Nat) : Bool := decide (1 ≤ s.length) && (decide (s.length ≤ 8) && s.all fun c => decide (97 ≤ c) && decide (c ≤ 122))
theorem nameB_ok {s : List Nat} (e : nameB s = true) : NameOk s := by
  unfold nameB at e
  simp only [Bool.and_eq_true, decide_eq_true_eq, List.all_eq_true] at e
  exact ⟨e.1, e.2.1, fun c hc => e.2.2 c hc⟩
theorem nameB_of {s : List Nat} (o : NameOk s) : nameB s = true := by
  unfold nameB
  simp only [Bool.and_eq_true, decide_eq_true_eq, List.all_eq_true]
  exact ⟨o.l1, o.l2, fun c hc => o.cs c hc⟩
def numP : List Nat → Option Int
  | [a] => bif digB a then some ((a - 48 : Nat) : Int) else none
  | [a, b] => bif (digB a && digB b) && !Nat.beq a 48 then some (((a - 48) * 10 + (b - 48) : Nat) : Int) else none
  | _ => none
def okB (r : Row) : Bool := (decide (1 ≤ r.c) && decide (r.c ≤ 12)) && ((decide (1 ≤ r.l) && decide (r.l ≤ r.c)) && ((decide (0 ≤ r.b) && decide (r.b ≤ r.c - 1)) && (decide (1 ≤ r.g) && decide (r.g ≤ 9))))
theorem okB_ok {r : Row} (e : okB r = true) : r.Ok := by
  unfold okB at e
  simp only [Bool.and_eq_true, decide_eq_true_eq] at e
  obtain ⟨⟨h1, h2⟩, ⟨h3, h4⟩, ⟨h5, h6⟩, h7, h8⟩ := e
  constructor <;> first | assumption | omega
theorem okB_of {r : Row} (o : r.Ok) : okB r = true := by
  have h1 := o.c1
  have h2 := o.c2
  have h3 := o.l1
  have h4 := o.l2
  have h5 := o.b1
  have h6 := o.b2
  have h7 := o.g1
  have h8 := o.g2
  unfold okB
  simp only [Bool.and_eq_true, decide_eq_true_eq]
  refine ⟨⟨h1, h2⟩, ⟨h3, h4⟩, ⟨h5, by omega⟩, h7, h8⟩
def rowP (n : List Nat) : List (Option Int) → Option NR
  | [some c, some l, some b, some g] => bif nameB n && okB ⟨c, l, b, g⟩ then some (n, ⟨c, l, b, g⟩) else none
  | _ => none
def jobP : List (List Nat) → Option NR
  | n :: ws => rowP n (ws.map numP)
  | [] => none
theorem jobP_ok {ws : List (List Nat)} {x : NR} (e : jobP ws = some x) : NameOk x.1 ∧ x.2.Ok := by
  cases ws with
  | nil => cases e
  | cons n ws =>
    change rowP n (ws.map numP) = some x at e
    unfold rowP at e
    split at e
    · rw [Bool.cond_eq_ite] at e
      split at e
      · rename_i hq
        cases e
        obtain ⟨q1, q2⟩ := Bool.and_eq_true_iff.mp hq
        exact ⟨nameB_ok q1, okB_ok q2⟩
      · cases e
    · cases e
theorem numP_dig {i : Int} (h0 : 0 ≤ i) (h1 : i ≤ 12) : numP (digS i) = some i := by
  have : i = 0 ∨ i = 1 ∨ i = 2 ∨ i = 3 ∨ i = 4 ∨ i = 5 ∨ i = 6 ∨ i = 7 ∨ i = 8 ∨ i = 9 ∨ i = 10 ∨ i = 11 ∨ i = 12 := by omega
  rcases this with e | e | e | e | e | e | e | e | e | e | e | e | e <;> (subst e; rfl)
theorem jobP_words {x : NR} (n : NameOk x.1) (o : x.2.Ok) : jobP (wordsR x) = some x := by
  have h1 := o.c1
  have h2 := o.c2
  have h3 := o.l1
  have h4 := o.l2
  have h5 := o.b1
  have h6 := o.b2
  have h7 := o.g1
  have h8 := o.g2
  unfold jobP wordsR
  dsimp only [List.map]
  rw [numP_dig (by omega) (by omega), numP_dig (by omega) (by omega), numP_dig (by omega) (by omega), numP_dig (by omega) (by omega)]
  unfold rowP
  dsimp only
  rw [nameB_of n, show okB ⟨x.2.c, x.2.l, x.2.b, x.2.g⟩ = true from okB_of o]
  rfl
def lineP (l : List Nat) : Option NR := jobP (splitC 32 l)
theorem lineP_good {x : NR} (n : NameOk x.1) (o : x.2.Ok) : lineP (lineR x) = some x := by
  unfold lineP
  rw [split_line n o, jobP_words n o]
/-- what the text's lines and its rest tell: a row, or the timetable's rows -/
def noDup : List (List Nat) → Bool
  | [] => true
  | s :: r => (!r.any fun t => beqN t s) && noDup r
def readL (ls : List (List Nat)) (rest : List Nat) : Int × List NR := match ls.findIdx? fun l => (lineP l).isNone with
  | some i => ((i : Int), [])
  | none => bif !rest.isEmpty || ls.isEmpty then ((ls.length : Int), []) else
    bif noDup ((ls.filterMap lineP).map (·.1)) && (Nat.ble (ls.filterMap lineP).length 4 && decide (prodR (ls.filterMap lineP) ≤ 2000)) then (-1, ls.filterMap lineP) else (0, [])
theorem noDup_iff : ∀ l : List (List Nat), noDup l = true ↔ l.Nodup
  | [] => by simp [noDup]
  | s :: r => by
    unfold noDup
    rw [List.nodup_cons, Bool.and_eq_true, noDup_iff r]
    refine and_congr ?_ Iff.rfl
    rw [Bool.not_eq_true', List.any_eq_false]
    constructor
    · intro h m
      have := h s m
      rw [beqN_eq] at this
      simp at this
    · intro h t ht e
      rw [beqN_eq] at e
      exact h (of_decide_eq_true e ▸ ht)
end KA
set_option autoImplicit false
set_option maxHeartbeats 200000
set_option maxRecDepth 512
set_option linter.all false
set_option autoImplicit false
/-! QSpec2: names, numbers, jobs read of words: what the mini functions compute on any words. -/
namespace KA
section
variable {h : MH}
theorem nameX_rt {s : List Nat} (hl : s.length ≤ 16777216) : Rt (m_is_name [.str s] h) fun v h' => v = .bl (nameB s) ∧ Sub h h' := by
  unfold m_is_name
  by_cases h1 : 1 ≤ s.length
  · by_cases h2 : s.length ≤ 8
    · have h3 : s.length ≤ 16777216 := by omega
      have h4 : (1 : Int) ≤ s.length := by omega
      have h5 : (s.length : Int) ≤ 8 := by omega
      simp [h3, h4, h5]
      refine acc_pure (s.map fun c => .str [c]) (fun _ => true) (fun v => match v with
        | .str [c] => .bl (decide (97 ≤ c) && decide (c ≤ 122))
        | _ => .non) (by simp) (by simp; omega) (fun i v e => ?_) rfl ?_ ?_
      · simp at e
        obtain ⟨c, e, rfl⟩ := e
        show (match s[i]? with | some c => some (MV.str [c]) | none => none) = _
        rw [e]
      · intro v hv
        simp at hv
        obtain ⟨c, hc, rfl⟩ := hv
        refine ⟨_, rfl, by simp, fun _ => ?_⟩
        simp [qInS]
        rw [Bool.eq_iff_iff]
        simp
        omega
      intro k
      have e1 : ((List.map (fun c => MV.str [c]) s).filter fun _ => true).map (fun v => match v with
        | .str [c] => MV.bl (decide (97 ≤ c) && decide (c ≤ 122))
        | _ => .non) = (s.map fun c => decide (97 ≤ c) && decide (c ≤ 122)).map MV.bl := by rw [List.filter_eq_self.mpr (by simp), List.map_map, List.map_map]; rfl
      rw [e1, List.reverse_reverse, qBls_eq (g := allB) (seq_ref (MH.push_same h _)) (bls_map _)]
      refine ⟨?_, Sub.push⟩
      unfold nameB allB
      rw [decide_eq_true h1, decide_eq_true h2]
      simp [List.all_map]
    · have h4 : (1 : Int) ≤ s.length := by omega
      have h5 : ¬ (s.length : Int) ≤ 8 := by omega
      simp [h4, h5, nameB, h2, hl]
      exact Sub.refl
  · have h4 : ¬ (1 : Int) ≤ s.length := by omega
    simp [h4, nameB, h1, hl]
    exact Sub.refl
def numV : Option Int → MV
  | some i => .int i
  | none => .non
theorem numP1 (a : Nat) : numP [a] = bif digB a then some ((a - 48 : Nat) : Int) else none := rfl
theorem numP2 (a b : Nat) : numP [a, b] = bif (digB a && digB b) && !Nat.beq a 48 then some (((a - 48) * 10 + (b - 48) : Nat) : Int) else none := rfl
theorem digB_iff (c : Nat) : digB c = true ↔ 48 ≤ c ∧ c ≤ 57 := by
  unfold digB
  simp
theorem num_all2 : ((List.range 10).all fun a => (List.range 10).all fun b => decide (digS (((a * 10 + b : Nat)) : Int) = [a + 48, b + 48]) == !Nat.beq a 0) = true := by decide
theorem num_two {a b : Nat} (ha : digB a = true) (hb : digB b = true) : decide (([a, b] : List Nat) = digS (((a - 48) * 10 + (b - 48) : Nat) : Int)) = !Nat.beq a 48 := by
  obtain ⟨a1, a2⟩ := (digB_iff a).mp ha
  obtain ⟨b1, b2⟩ := (digB_iff b).mp hb
  have z := List.all_eq_true.mp (List.all_eq_true.mp num_all2 (a - 48) (List.mem_range.mpr (by omega))) (b - 48) (List.mem_range.mpr (by omega))
  rw [show a - 48 + 48 = a by omega, show b - 48 + 48 = b by omega] at z
  have z := eq_of_beq z
  rw [show decide (([a, b] : List Nat) = digS (((a - 48) * 10 + (b - 48) : Nat) : Int)) = decide (digS (((a - 48) * 10 + (b - 48) : Nat) : Int) = [a, b]) by simp only [eq_comm]]
  rw [z]
  congr 1
  rw [Bool.eq_iff_iff]
  simp
  omega
theorem num_one {a : Nat} (ha : digB a = true) : digS ((a - 48 : Nat) : Int) = [a] := by
  obtain ⟨a1, a2⟩ := (digB_iff a).mp ha
  unfold digS
  rw [decide_eq_true (by omega)]
  show [48 + ((a - 48 : Nat) : Int).toNat] = [a]
  rw [Int.toNat_natCast]
  congr 1
  omega
theorem sok_dig {s : List Nat} (d : s.all digB = true) : sOk s = true := by
  unfold sOk
  rw [List.all_eq_true]
  intro c hc
  have := (digB_iff c).mp (List.all_eq_true.mp d c hc)
  simp; omega
theorem sok_digS {i : Int} (h0 : 0 ≤ i) (h1 : i < 100) : sOk (digS i) = true := by
  unfold digS sOk
  split <;> simp <;> omega
theorem qStrI_lt {i : Int} (h0 : 0 ≤ i) (h1 : i < 100) : qStrI [.int i] h = .ok (.str (digS i)) h := by
  show qStrI1 (.int i) h = _
  unfold qStrI1
  dsimp only
  rw [show (decide (0 ≤ i) && decide (i < 100)) = true by simp; omega]
theorem numX_rt {s : List Nat} (hl : s.length ≤ 16777216) : Rt (m_number_in [.str s] h) fun v h' => v = numV (numP s) ∧ Sub h h' := by
  unfold m_number_in
  by_cases h1 : 1 ≤ s.length
  · by_cases h2 : s.length ≤ 2
    · have a1 : (1 : Int) ≤ s.length := by omega
      have a2 : (s.length : Int) ≤ 2 := by omega
      have a3 : s.length ≤ 16777216 := by omega
      simp -implicitDefEqProofs [a1, a2, a3]
      refine acc_pure (s.map fun c => .str [c]) (fun _ => true) (fun v => match v with
        | .str [c] => .bl (digB c)
        | _ => .non) (by simp) (by simp; omega) (fun i v e => ?_) rfl ?_ ?_
      · simp at e
        obtain ⟨c, e, rfl⟩ := e
        show (match s[i]? with | some c => some (MV.str [c]) | none => none) = _
        rw [e]
      · intro v hv
        simp at hv
        obtain ⟨c, hc, rfl⟩ := hv
        refine ⟨_, rfl, by simp, fun _ => ?_⟩
        simp [qInS]
        rw [Bool.eq_iff_iff, digB_iff]
        simp
        omega
      intro k
      have e1 : ((List.map (fun c => MV.str [c]) s).filter fun _ => true).map (fun v => match v with
        | .str [c] => MV.bl (digB c)
        | _ => .non) = (s.map digB).map MV.bl := by rw [List.filter_eq_self.mpr (by simp), List.map_map, List.map_map]; rfl
      rw [e1, List.reverse_reverse, qBls_eq (g := allB) (seq_ref (MH.push_same h _)) (bls_map _)]
      have ea : allB (s.map digB) = s.all digB := by unfold allB; simp [List.all_map, Function.comp_def]
      rw [ea]
      cases d : s.all digB with
      | false =>
        simp -implicitDefEqProofs
        refine ⟨?_, Sub.push⟩
        match s, h1, h2, d with
        | [a], _, _, d =>
          have : digB a = false := by simpa using d
          rw [numP1, this]; rfl
        | [a, b], _, _, d =>
          have : (digB a && digB b) = false := by simpa using d
          rw [numP2, this]; rfl
      | true =>
        have so := sok_dig d
        match s, h1, h2, d, so with
        | [a], _, _, d, so =>
          have da : digB a = true := by simpa using d
          obtain ⟨l1, l2⟩ := (digB_iff a).mp da
          have ei : ∀ h', qIntS [.str [a]] h' = .ok (.int ((a - 48 : Nat) : Int)) h' := fun h' => by
            show qIntS1 (.str [a]) h' = _
            unfold qIntS1
            dsimp only
            rw [da]
          have es : ∀ h', qStrI [.int ((a - 48 : Nat) : Int)] h' = .ok (.str [a]) h' := fun h' => by rw [qStrI_lt (by omega) (by omega), num_one da]
          have eq' : ∀ h', qEq (.str [a]) (.str [a]) h' = .ok (.bl true) h' := fun h' => by rw [eq_str so so]; simp
          rw [numP1, da]
          generalize ((a - 48 : Nat) : Int) = z at ei es
          simp -implicitDefEqProofs [ei, es, eq']
          exact ⟨rfl, Sub.push⟩
        | [a, b], _, _, d, so =>
          have dd : digB a = true ∧ digB b = true := by simpa using d
          obtain ⟨da, db⟩ := dd
          obtain ⟨l1, l2⟩ := (digB_iff a).mp da
          obtain ⟨l3, l4⟩ := (digB_iff b).mp db
          have ei : ∀ h', qIntS [.str [a, b]] h' = .ok (.int (((a - 48) * 10 + (b - 48) : Nat) : Int)) h' := fun h' => by
            show qIntS1 (.str [a, b]) h' = _
            unfold qIntS1
            dsimp only
            rw [da, db]; rfl
          have es : ∀ h', qStrI [.int (((a - 48) * 10 + (b - 48) : Nat) : Int)] h' = .ok (.str (digS (((a - 48) * 10 + (b - 48) : Nat) : Int))) h' := fun h' => qStrI_lt (by omega) (by omega)
          have eq' : ∀ h', qEq (.str [a, b]) (.str (digS (((a - 48) * 10 + (b - 48) : Nat) : Int))) h' = .ok (.bl (!Nat.beq a 48)) h' := fun h' => by rw [eq_str so (sok_digS (by omega) (by omega)), num_two da db]
          rw [numP2, da, db]
          generalize (((a - 48) * 10 + (b - 48) : Nat) : Int) = z at ei es eq'
          simp -implicitDefEqProofs [ei, es, eq']
          by_cases q : a = 48
          · simp [q]
            exact ⟨rfl, Sub.push⟩
          · simp -implicitDefEqProofs [q, ei]
            exact ⟨rfl, Sub.push⟩
        | [], h1, _, _, _ => exact absurd h1 (by decide)
        | _ :: _ :: _ :: _, _, h2, _, _ => exact absurd h2 (by simp)
    · have a1 : (1 : Int) ≤ s.length := by omega
      have a2 : ¬ (s.length : Int) ≤ 2 := by omega
      simp -implicitDefEqProofs [a1, a2, hl]
      refine ⟨?_, Sub.refl⟩
      match s, h2 with
      | _ :: _ :: _ :: _, _ => rfl
      | [], h2 => exact absurd (Nat.zero_le _) h2
      | [_], h2 => exact absurd (by simp) h2
      | [_, _], h2 => exact absurd (by simp) h2
  · have a1 : ¬ (1 : Int) ≤ s.length := by omega
    simp -implicitDefEqProofs [a1, hl]
    refine ⟨?_, Sub.refl⟩
    match s, h1 with
    | [], _ => rfl
    | _ :: _, h1 => exact absurd (by simp) h1
end
end KA
set_option autoImplicit false
set_option maxHeartbeats 200000
set_option maxRecDepth 512
set_option linter.all false
set_option autoImplicit false
/-! QSpec3: makers that may raise; a job read of words. -/
namespace KA
section
variable {h : MH}
theorem jobX_re {n : Nat} {c l b g : Int} (e : h.get n = some (.ins 0 [])) : RE (mx_Job___init__ [.ref n, .int c, .int l, .int b, .int g] h) (fun v h' => okB ⟨c, l, b, g⟩ = true ∧ v = .non ∧ h'.get n = some (jobO ⟨c, l, b, g⟩) ∧ Sx n h h') (fun k p h' => okB ⟨c, l, b, g⟩ = false ∧ k = 0 ∧ h' = h) := by
  unfold mx_Job___init__
  have hlt := MH.get_lt e
  have eo : okB ⟨c, l, b, g⟩ = ((decide (1 ≤ c) && decide (c ≤ 12)) && ((decide (1 ≤ l) && decide (l ≤ c)) && ((decide (0 ≤ b) && decide (b ≤ c - 1)) && (decide (1 ≤ g) && decide (g ≤ 9))))) := rfl
  rw [eo]
  refine re_fn (oe_seq (oe_if ?_))
  simp -implicitDefEqProofs only [integer_eq, rt_tNox, rt_cNot, rt_cB, rt_eA, rt_aCons, rt_aNil, rt_eV, rt_eC, rt_ok, List.map_cons, List.map_nil, List.cons_append, List.nil_append, List.getElem?_cons_succ, List.getElem?_cons_zero, List.length_cons, List.length_nil, List.replicate_succ, List.replicate_zero, Nat.reduceAdd, Nat.reduceSub]
  generalize q1 : (decide (1 ≤ c) && decide (c ≤ 12)) = b1
  cases b1 with
  | false =>
    simp -implicitDefEqProofs only [Bool.not_false, if_true]
    exact oe_raise ⟨rfl, rfl, rfl⟩
  | true =>
  simp -implicitDefEqProofs only [Bool.not_true, Bool.false_eq_true, if_false]
  refine oe_nil (oe_seq (oe_if ?_))
  simp -implicitDefEqProofs only [integer_eq, rt_tNox, rt_cNot, rt_cB, rt_eA, rt_aCons, rt_aNil, rt_eV, rt_eC, rt_ok, List.getElem?_cons_succ, List.getElem?_cons_zero]
  generalize q2 : (decide (1 ≤ l) && decide (l ≤ c)) = b2
  cases b2 with
  | false =>
    simp -implicitDefEqProofs only [Bool.not_false, if_true]
    exact oe_raise ⟨rfl, rfl, rfl⟩
  | true =>
  simp -implicitDefEqProofs only [Bool.not_true, Bool.false_eq_true, if_false]
  refine oe_nil (oe_seq (oe_if ?_))
  simp -implicitDefEqProofs only [integer_eq, rt_tNox, rt_cNot, rt_cB, rt_eA, rt_aCons, rt_aNil, rt_eV, rt_eC, rt_e2, sub_int, rt_ok, List.getElem?_cons_succ, List.getElem?_cons_zero]
  generalize q3 : (decide (0 ≤ b) && decide (b ≤ c - 1)) = b3
  cases b3 with
  | false =>
    simp -implicitDefEqProofs only [Bool.not_false, if_true]
    exact oe_raise ⟨rfl, rfl, rfl⟩
  | true =>
  simp -implicitDefEqProofs only [Bool.not_true, Bool.false_eq_true, if_false]
  refine oe_nil (oe_seq (oe_if ?_))
  simp -implicitDefEqProofs only [integer_eq, rt_tNox, rt_cNot, rt_cB, rt_eA, rt_aCons, rt_aNil, rt_eV, rt_eC, rt_ok, List.getElem?_cons_succ, List.getElem?_cons_zero]
  generalize q4 : (decide (1 ≤ g) && decide (g ≤ 9)) = b4
  cases b4 with
  | false =>
    simp -implicitDefEqProofs only [Bool.not_false, if_true]
    exact oe_raise ⟨rfl, rfl, rfl⟩
  | true =>
  simp -implicitDefEqProofs only [Bool.not_true, Bool.false_eq_true, if_false]
  refine oe_nil (OE.of ?_)
  simp [e, MH.get_set, hlt, fput, jobO]
  intro a u ne ea
  simp [MH.get_set, ne, ea]
theorem in_opts {n : Nat} {os : List (Option Int)} (e : h.get n = some (.lst (os.map numV))) : qInL .non (.ref n) h = .ok (.bl (os.any (·.isNone))) h := by
  unfold qInL
  simp only [seq_ref e]
  rw [show (dataB 9 h .non && (os.map numV).all (dataB 9 h)) = true by
    rw [Bool.and_eq_true, List.all_eq_true]
    refine ⟨rfl, fun x hx => ?_⟩
    obtain ⟨i, _, rfl⟩ := List.mem_map.mp hx
    cases i <;> rfl]
  rw [List.any_map]
  have : ((fun y => eqB 9 h y .non) ∘ numV) = fun o : Option Int => o.isNone := by
    funext o
    cases o <;> rfl
  rw [this]
theorem rowP_name {a : List Nat} {os : List (Option Int)} (e : nameB a = false) : rowP a os = none := by
  unfold rowP
  split
  · rw [e]; rfl
  · rfl
theorem rowP_none {a : List Nat} {os : List (Option Int)} (e : os.any (·.isNone) = true) : rowP a os = none := by
  unfold rowP
  split
  · simp at e
  · rfl
theorem rowP_len {a : List Nat} {os : List (Option Int)} (e : os.length ≠ 4) : rowP a os = none := by
  unfold rowP
  split
  · exact absurd rfl e
  · rfl
theorem jobP_len {ws : List (List Nat)} (e : ws.length ≠ 5) : jobP ws = none := by
  cases ws with
  | nil => rfl
  | cons a r => exact rowP_len (by rw [List.length_map]; intro z; exact e (by rw [List.length_cons, z]))
theorem cut1 (xs : List MV) : cutM xs (some 1) none = xs.drop 1 := cutM_lo _ 1
theorem jobT_rt {ws : List (List Nat)} {w : Nat} (ew : h.get w = some (.lst (ws.map .str))) (hl : ∀ s ∈ ws, s.length ≤ 16777216) (hw : ws.length ≤ 100000) : Rt (m_job_in_t [.ref w] h) fun v h' => Sub h h' ∧ match jobP ws with
    | none => v = .non
    | some x => ∃ j, v = .tup [.str x.1, .ref j] ∧ h'.get j = some (jobO x.2) := by
  unfold m_job_in_t
  simp -implicitDefEqProofs [-Prod.forall, -Prod.exists, asg]
  have sl : ∀ Q : MV → MH → Prop, Q (.ref h.n) (h.push (.lst ((ws.drop 1).map .str))) → slP Q (.ref w) (some 1) none h := fun Q q => by
    unfold slP
    simp only [seq_ref ew]
    rw [cut1, ← List.map_drop]
    exact q
  refine sl _ ?_
  have en : (h.push (.lst ((ws.drop 1).map .str))).get h.n = some (.lst ((ws.drop 1).map .str)) := MH.push_same _ _
  have s1 : Sub h (h.push (.lst ((ws.drop 1).map .str))) := Sub.push
  refine ⟨_, rfl, _, en, ?_⟩
  generalize h.n = a at en
  generalize h.push (.lst ((ws.drop 1).map .str)) = h1 at en s1
  have hd : ∀ s ∈ ws.drop 1, s.length ≤ 16777216 := fun s hs => hl s (List.mem_of_mem_drop hs)
  have hdl : (ws.drop 1).length ≤ 100000 := by rw [List.length_drop]; omega
  generalize hws : ws.drop 1 = us at en s1 hd hdl
  rw [List.length_map]
  refine acc_ix us.length (fun _ => true) (fun i => match us[i]? with
    | some s => numV (numP s)
    | none => .non) (by simp) (by omega) (fun h' sb => by have := wkL_fin (sb _ _ en); rwa [List.length_map] at this) (fun i hi h' sb => ?_) ?_
  · have ex : us[i]? = some us[i] := List.getElem?_eq_getElem hi
    refine ⟨_, _, wkL_at (sb _ _ en) (v := .str us[i]) (by rw [List.getElem?_map, ex]; rfl), rfl, ?_⟩
    rw [ex]
    simp -implicitDefEqProofs
    exact ⟨fun _ _ e => e, numX_rt (hd _ (List.getElem_mem hi))⟩
  intro k h2 hk sb
  rw [List.append_nil, List.reverse_reverse, List.filter_eq_self.mpr (by simp)]
  have em : (List.range us.length).map (fun i => match us[i]? with
    | some s => numV (numP s)
    | none => .non) = (us.map numP).map numV := by
    rw [List.map_map]
    exact range_map us _ _ fun i y e => by simp only [e]; rfl
  rw [em]
  have eb : (h2.push (.lst ((us.map numP).map numV))).get h2.n = some (.lst ((us.map numP).map numV)) := MH.push_same _ _
  have s2 : Sub h (h2.push (.lst ((us.map numP).map numV))) := (s1.trans sb).trans Sub.push
  generalize h2.n = b at eb
  generalize h2.push (.lst ((us.map numP).map numV)) = h3 at eb s2
  have ew3 := s2 _ _ ew
  rw [len_lst ew3]
  simp -implicitDefEqProofs only [rt_ok, List.length_map, ne_int]
  by_cases h5 : ws.length = 5
  · obtain ⟨n, a1, a2, a3, a4, rfl⟩ : ∃ n a1 a2 a3 a4, ws = [n, a1, a2, a3, a4] := by
      match ws, h5 with
      | [n, a1, a2, a3, a4], _ => exact ⟨_, _, _, _, _, rfl⟩
    have hws : us = [a1, a2, a3, a4] := hws.symm
    subst hws
    rw [if_neg (by simp)]
    have i0 : ∀ h' (Q : MV → MH → Prop), Sub h3 h' → Q (.str n) h' → Rt (qIx (.ref w) (.int 0) h') Q := fun h' Q s q => rt_ix_seq (seq_ref (s _ _ ew3)) (by rfl) q
    refine i0 _ _ .refl ?_
    refine (nameX_rt (hl n (by simp))).imp ?_
    rintro v h4 ⟨rfl, s4⟩
    show if nameB n = true then _ else Sub h h4 ∧ _
    have ej : jobP [n, a1, a2, a3, a4] = rowP n [numP a1, numP a2, numP a3, numP a4] := rfl
    cases en' : nameB n with
    | false =>
      rw [if_neg (by decide), ej, rowP_name en']
      exact ⟨s2.trans s4, trivial⟩
    | true =>
    rw [if_pos rfl]
    have eb4 : h4.get b = some (.lst ([numP a1, numP a2, numP a3, numP a4].map numV)) := s4 _ _ eb
    rw [in_opts eb4, rt_ok]
    dsimp only
    cases ea : [numP a1, numP a2, numP a3, numP a4].any (·.isNone) with
    | true =>
      rw [if_pos rfl, ej, rowP_none ea]
      exact ⟨s2.trans s4, trivial⟩
    | false =>
    rw [if_neg (by decide)]
    obtain ⟨i1, e1⟩ : ∃ i, numP a1 = some i := by cases c : numP a1 with | none => rw [c] at ea; simp at ea | some i => exact ⟨_, rfl⟩
    obtain ⟨i2, e2⟩ : ∃ i, numP a2 = some i := by cases c : numP a2 with | none => rw [c] at ea; simp at ea | some i => exact ⟨_, rfl⟩
    obtain ⟨i3, e3⟩ : ∃ i, numP a3 = some i := by cases c : numP a3 with | none => rw [c] at ea; simp at ea | some i => exact ⟨_, rfl⟩
    obtain ⟨i4, e4⟩ : ∃ i, numP a4 = some i := by cases c : numP a4 with | none => rw [c] at ea; simp at ea | some i => exact ⟨_, rfl⟩
    rw [e1, e2, e3, e4] at eb4 ej
    have at_ : ∀ (i : Nat) (k : Int), ([some i1, some i2, some i3, some i4] : List (Option Int))[i]? = some (some k) → ∀ h' (Q : MV → MH → Prop), h'.get b = some (.lst ([some i1, some i2, some i3, some i4].map numV)) → Q (.int k) h' → Rt (qIx (.ref b) (.int (i : Nat)) h') Q := fun i k e h' Q eb' q => by
      refine rt_ix_seq (seq_ref eb') (x := .int k) ?_ q
      have hi := (List.getElem?_eq_some_iff.mp e).1
      rw [atM_int (by omega) (by rw [List.length_map]; omega), Int.toNat_natCast, List.getElem?_map, e]; rfl
    refine oc_tryC (oe_asg (re_eNewK ?_))
    simp -implicitDefEqProofs only [rt_aCons, rt_aNil, rt_eNox, rt_e2, rt_eV, rt_eC, List.getElem?_cons_succ, List.getElem?_cons_zero]
    refine at_ 0 i1 rfl _ _ eb4 (at_ 1 i2 rfl _ _ eb4 (at_ 2 i3 rfl _ _ eb4 (at_ 3 i4 rfl _ _ eb4 ?_)))
    have s5 : Sub h4 (h4.push (.ins 0 [])) := Sub.push
    refine (jobX_re (n := h4.n) (c := i1) (l := i2) (b := i3) (g := i4) (MH.push_same h4 _)).imp ?_ ?_
    · rintro v h5 ⟨eo, rfl, e5, sx5⟩
      have q5 : Sub h4 h5 := fun x u ex => sx5 x u (Nat.ne_of_lt (MH.get_lt ex)) (MH.push_of ex)
      refine ⟨rfl, _, rfl, ?_⟩
      simp -implicitDefEqProofs only [oc_ret, rt_eA, rt_aCons, rt_aNil, rt_e2, rt_eV, rt_eC, List.set_cons_succ, List.set_cons_zero, List.getElem?_cons_succ, List.getElem?_cons_zero]
      refine i0 _ _ (s4.trans q5) ?_
      simp -implicitDefEqProofs only [rt_qTup]
      have : rowP n [some i1, some i2, some i3, some i4] = some (n, ⟨i1, i2, i3, i4⟩) := by
        show (bif nameB n && okB ⟨i1, i2, i3, i4⟩ then _ else _) = _
        rw [en', eo]; rfl
      rw [ej, this]
      exact ⟨by simp, (s2.trans s4).trans q5, _, rfl, e5⟩
    · rintro k p h5 ⟨eo, rfl, rfl⟩
      have : rowP n [some i1, some i2, some i3, some i4] = none := by
        show (bif nameB n && okB ⟨i1, i2, i3, i4⟩ then _ else _) = _
        rw [en', eo]; rfl
      refine ⟨rfl, ?_⟩
      rw [ej, this]
      exact ⟨(s2.trans s4).trans s5, rfl⟩
  · rw [if_pos (by simp; omega), jobP_len h5]
    exact ⟨s2, trivial⟩
end
end KA
set_option autoImplicit false
set_option maxHeartbeats 200000
set_option maxRecDepth 512
set_option linter.all false
set_option autoImplicit false
/-! QSpec4: a timetable's maker that may raise; a text read. -/
namespace KA
section
variable {h : MH}
theorem tableX_re {t d : Nat} {es : List Ent} {rw_ : Ent → Row} (et : h.get t = some (.ins 1 [])) (ed : h.get d = some (.dct false false (es.map entK))) (h1 : 1 ≤ es.length) (h4 : es.length ≤ 4) (hn : ∀ e ∈ es, NameOk e.1) (hj : ∀ e ∈ es, h.get e.2 = some (jobO (rw_ e))) (ho : ∀ e ∈ es, (rw_ e).Ok) (nd : (es.map (·.1)).Nodup) :
    RE (mx_Timetable___init__ [.ref t, .ref d] h) (fun v h' => prodC rw_ es ≤ 2000 ∧ v = .non ∧ (∃ q, h'.get t = some (.ins 1 [(4, .ref q)]) ∧ h'.get q = some (.dct false false (es.map entK))) ∧ Sx t h h') (fun k p h' => 2000 < prodC rw_ es ∧ k = 1 ∧ Sub h h') := by
  unfold mx_Timetable___init__
  refine re_fn (oe_seq (oe_if ?_))
  have l1 : (1 : Int) ≤ es.length := by omega
  have l4 : (es.length : Int) ≤ 4 := by omega
  have nt : t ≠ d := fun w => by rw [w, ed] at et; cases et
  simp [isi_dct ed, len_dct ed, l1, l4]
  -- the names and jobs
  refine oe_nil (oe_seq (oe_lock (n := d) rfl ed (OE.of ?_)))
  have dl : (h.set d (.dct false true (es.map entK))).get d = some (.dct false true (es.map entK)) := MH.set_same ed
  simp
  refine ⟨_, dl, ?_⟩
  rw [List.length_map]
  refine for_inv (w := wkD 2 d es.length) (fun i σ h' => (∃ v2 v3 v4, σ = [some (.ref t), some (.ref d), v2, v3, v4]) ∧ Sub (h.set d (.dct false true (es.map entK))) h') ⟨⟨_, _, _, rfl⟩, .refl⟩ ?_ ?_
  · rintro i σ h' hi ⟨⟨v2, v3, v4, rfl⟩, sb⟩
    have hi' : i < es.length := hi
    have ev : (es.map entK)[i]? = some (entK es[i]) := by rw [List.getElem?_map, List.getElem?_eq_getElem hi']; rfl
    have jm := List.getElem_mem hi'
    refine ⟨_, _, wkD_at (sb _ _ dl) ev, rfl, ?_⟩
    simp
    refine (name_rt (hn _ jm)).imp ?_
    rintro v h2 ⟨rfl, sb2⟩
    have ej : (h.set d (.dct false true (es.map entK))).get es[i].2 = some (jobO (rw_ es[i])) := by
      have w : es[i].2 ≠ d := fun w => by have := hj _ jm; rw [w, ed] at this; cases this
      rw [MH.set_ne w]; exact hj _ jm
    simp [entK, isi_ins (k := 10) (sb2 _ _ (sb _ _ ej)) (by decide)]
    exact sb.trans sb2
  · rintro σ h' ⟨⟨v2, v3, v4, rfl⟩, sb⟩
    refine ⟨by have := wkD_fin (k := 2) (sb _ _ dl); rwa [List.length_map] at this, es.map entK, sb _ _ dl, ?_⟩
    refine oe_seq (oe_nox ?_)
    simp [asg]
    -- the product
    generalize hh2 : h'.set d (.dct false false (es.map entK)) = h2
    have c2 : Sub h h2 := fun n o en => by
      rw [← hh2]
      by_cases w : n = d
      · subst w; rw [ed] at en; cases en; exact MH.set_same (sb _ _ dl)
      · rw [MH.set_ne w]; exact sb _ _ (by rw [MH.set_ne w]; exact en)
    have ed2 := c2 _ _ ed
    refine oe_seq (oe_nox (oc_lock (n := d) rfl ed2 ?_))
    have dl2 : (h2.set d (.dct false true (es.map entK))).get d = some (.dct false true (es.map entK)) := MH.set_same ed2
    simp
    refine ⟨_, dl2, ?_⟩
    rw [List.length_map]
    refine for_inv (w := wkD 1 d es.length) (fun i σ h' => (∃ v2 v3, σ = [some (.ref t), some (.ref d), v2, v3, some (.int (prodC rw_ (es.take i)))]) ∧ h' = h2.set d (.dct false true (es.map entK))) ⟨⟨_, _, rfl⟩, rfl⟩ ?_ ?_
    · rintro i σ h3 hi ⟨⟨v2, v3, rfl⟩, rfl⟩
      have hi' : i < es.length := hi
      have ev : (es.map entK)[i]? = some (entK es[i]) := by rw [List.getElem?_map, List.getElem?_eq_getElem hi']; rfl
      have jm := List.getElem_mem hi'
      refine ⟨_, _, wkD_at dl2 ev, rfl, ?_⟩
      have ej : (h2.set d (.dct false true (es.map entK))).get es[i].2 = some (jobO (rw_ es[i])) := by
        have w : es[i].2 ≠ d := fun w => by have := hj _ jm; rw [w, ed] at this; cases this
        rw [MH.set_ne w]; exact c2 _ _ (hj _ jm)
      have c1 := (ho _ jm).c1
      have c12 := (ho _ jm).c2
      obtain ⟨b1, b2⟩ := prodC_bd (rw_ := rw_) (es.take i) (by rw [List.length_take]; omega) fun x hx => ho x (List.mem_of_mem_take hx)
      simp [asg, entM, entK, j_c ej, mul_r (j := (rw_ es[i]).c) _ (show _ < (rw_ es[i]).c by omega) (by omega)]
      rw [List.take_add_one, List.getElem?_eq_getElem hi', prodC_app]
      simp [prodC]
    · rintro σ h3 ⟨⟨v2, v3, rfl⟩, rfl⟩
      refine ⟨by have := wkD_fin (k := 1) dl2; rwa [List.length_map] at this, es.map entK, dl2, ?_⟩
      have et2 : es.take (wkD 1 d es.length).n = es := List.take_length ..
      rw [et2]
      refine oe_seq (oe_if ?_)
      by_cases hp' : 2000 < prodC rw_ es
      · simp [hp']
        refine oe_raiseP ?_
        simp
        exact (fun n o en => by
          by_cases w : n = d
          · subst w; rw [ed] at en; cases en; exact MH.set_same dl2
          · rw [MH.set_ne w, MH.set_ne w]; exact c2 _ _ en)
      simp [hp']
      refine oe_nil (oe_nox ?_)
      simp
      -- the copy
      have e3 : ((h2.set d (.dct false true (es.map entK))).set d (.dct false false (es.map entK))).get d = some (.dct false false (es.map entK)) := MH.set_same dl2
      refine rt_eLock (n := d) rfl e3 ?_
      generalize hh4 : ((h2.set d (.dct false true (es.map entK))).set d (.dct false false (es.map entK))).set d (.dct false true (es.map entK)) = h4
      have dl4 : h4.get d = some (.dct false true (es.map entK)) := by rw [← hh4]; exact MH.set_same e3
      have o4 : ∀ n, n ≠ d → h4.get n = h2.get n := fun n w => by rw [← hh4, MH.set_ne w, MH.set_ne w, MH.set_ne w]
      simp
      refine ⟨_, dl4, ?_⟩
      rw [List.length_map]
      refine acc_inv (w := wkD 2 d es.length) (fun i (a : Nat × List (MV × MV)) h' => h' = h4 ∧ a = (i, (es.map entK).take i)) ⟨rfl, rfl⟩ ?_ ?_
      · rintro i a h' hi ⟨rfl, rfl⟩
        have hi' : i < es.length := hi
        have ev : (es.map entK)[i]? = some (entK es[i]) := by rw [List.getElem?_map, List.getElem?_eq_getElem hi']; rfl
        refine ⟨_, _, wkD_at dl4 ev, rfl, ?_⟩
        have kk : dput (entK es[i]).1 (entK es[i]).2 ((es.map entK).take i) = (es.map entK).take (i + 1) := by
          rw [dput_new, List.take_add_one, ev]
          · rfl
          intro p hp
          rw [← List.map_take] at hp
          obtain ⟨x, hm, rfl⟩ := List.mem_map.mp hp
          simp [entK]
          intro w
          have z := nd
          rw [show es = es.take i ++ es[i] :: es.drop (i + 1) by simp, List.map_append, List.nodup_append] at z
          exact z.2.2 x.1 (List.mem_map_of_mem (f := (·.1)) hm) es[i].1 (List.mem_map_of_mem (f := fun (e : Ent) => e.1) (List.mem_cons_self ..)) w
        have ka : keyA (entK es[i]).1 = true := rfl
        simp [ka, show i + 1 ≤ 16777216 by omega, kk]
      · rintro a h' ⟨rfl, rfl⟩
        refine ⟨by have := wkD_fin (k := 2) dl4; rwa [List.length_map] at this, es.map entK, ?_, ?_⟩
        · exact MH.push_of dl4
        · have et3 : (es.map entK).take (wkD 2 d es.length).n = es.map entK := by rw [wkD_n, ← List.length_map (f := entK), List.take_length]
          rw [et3]
          have w2 : h'.n ≠ d := Nat.ne_of_gt (MH.get_lt dl4)
          have tt : h'.get t = some (.ins 1 []) := by rw [o4 t nt]; exact c2 _ _ et
          have w3 : h'.n ≠ t := Nat.ne_of_gt (MH.get_lt tt)
          have e5 : ((h'.push (.dct false false (es.map entK))).set d (.dct false false (es.map entK))).get t = some (.ins 1 []) := by rw [MH.set_ne nt]; exact MH.push_of tt
          simp [e5, fput]
          refine ⟨by omega, ⟨h'.n, MH.set_same e5, ?_⟩, ?_⟩
          · rw [MH.set_ne w3, MH.set_ne w2]; exact MH.push_same _ _
          · intro n o wn en
            rw [MH.set_ne wn]
            by_cases w4 : n = d
            · subst w4; rw [ed] at en; cases en; exact MH.set_same (MH.push_of dl4)
            · rw [MH.set_ne w4]; exact MH.push_of (by rw [o4 n w4]; exact c2 _ _ en)
end
end KA
set_option autoImplicit false
set_option maxHeartbeats 200000
set_option maxRecDepth 512
set_option linter.all false
set_option autoImplicit false
/-! QSpec5: a text read: what is found, what is raised. -/
namespace KA
theorem dput_len13 (k v : MV) (kvs : List (MV × MV)) : (dput k v kvs).length ≤ kvs.length + 1 := by
  unfold dput
  split <;> simp
theorem merge_le : ∀ (ps acc : List (MV × MV)), (mergeM acc ps).length ≤ acc.length + ps.length
  | [], acc => by simp [mergeM]
  | p :: ps, acc => by
    unfold mergeM
    have h1 := merge_le ps (dput p.1 p.2 acc)
    have h2 := dput_len13 p.1 p.2 acc
    rw [List.length_cons]
    omega
theorem merge_lt : ∀ (es acc : List Ent), (acc.map (·.1)).Nodup → ¬ ((acc ++ es).map (·.1)).Nodup → (mergeM (acc.map entK) (es.map entK)).length < acc.length + es.length
  | [], acc, na, nd => absurd (by simpa using na) nd
  | e :: es, acc, na, nd => by
    rw [List.map_cons]
    unfold mergeM
    by_cases hm : e.1 ∈ acc.map (·.1)
    · have h2 : (dput (entK e).1 (entK e).2 (acc.map entK)).length = acc.length := by
        unfold dput
        rw [show ((acc.map entK).any fun p => keyB p.1 (entK e).1) = true by
          obtain ⟨x, hx, ex⟩ := List.mem_map.mp hm
          rw [List.any_map, List.any_eq_true]
          exact ⟨x, hx, by show keyB (.str x.1) (.str e.1) = true; rw [keyB_str, ex]; simp⟩]
        simp
      have h1 := merge_le (es.map entK) (dput (entK e).1 (entK e).2 (acc.map entK))
      rw [h2, List.length_map] at h1
      rw [List.length_cons]
      omega
    · have h2 : dput (entK e).1 (entK e).2 (acc.map entK) = (acc ++ [e]).map entK := by
        rw [dput_new, List.map_append]
        · rfl
        · intro p hp
          obtain ⟨x, hx, rfl⟩ := List.mem_map.mp hp
          show keyB (.str x.1) (.str e.1) = false
          rw [keyB_str, decide_eq_false]
          exact fun w => hm (List.mem_map.mpr ⟨x, hx, w⟩)
      rw [h2]
      have ih := merge_lt es (acc ++ [e]) (by
        rw [List.map_append, List.nodup_append]
        refine ⟨na, by simp, fun a ha b hb => ?_⟩
        simp at hb
        rw [hb]
        exact fun w => hm (w ▸ ha)) (by rwa [List.append_assoc, List.singleton_append])
      simp at ih ⊢
      omega
theorem fm_all : ∀ ls : List (List Nat), (∀ l ∈ ls, (lineP l).isNone = false) → ls.map lineP = (ls.filterMap lineP).map some
  | [], _ => rfl
  | l :: ls, h => by
    obtain ⟨x, hx⟩ : ∃ x, lineP l = some x := by
      cases q : lineP l with
      | none => have := h l (List.mem_cons_self ..); rw [q] at this; cases this
      | some x => exact ⟨x, rfl⟩
    rw [List.map_cons, List.filterMap_cons_some hx, List.map_cons, hx, fm_all ls fun m hm => h m (List.mem_cons_of_mem _ hm)]
section
variable {h : MH}
theorem tableX_big {t d : Nat} {es : List Ent} (ed : h.get d = some (.dct false false (es.map entK))) (h4 : ¬ es.length ≤ 4) :
    RE (mx_Timetable___init__ [.ref t, .ref d] h) (fun v h' => False) (fun k p h' => k = 1 ∧ h' = h) := by
  unfold mx_Timetable___init__
  refine re_fn (oe_seq (oe_if ?_))
  have l1 : (1 : Int) ≤ es.length := by omega
  have l4 : ¬ (es.length : Int) ≤ 4 := by omega
  simp [isi_dct ed, len_dct ed, l1, l4]
  refine oe_raiseP ?_
  simp
theorem eqLenX {n j : Nat} {xs : List MV} (e : h.get n = some (.lst xs)) (e2 : h.get j = some (.lst [])) : qEqE (.ref n) (.ref j) h = .ok (.bl xs.isEmpty) h := by
  cases xs with
  | nil =>
    unfold qEqE
    dsimp only
    rw [e, e2]
    show qEq (.ref n) (.ref j) h = _
    have d : ∀ n, h.get n = some (.lst []) → dataB 9 h (.ref n) = true := fun n en => by unfold dataB; simp [en]
    unfold qEq
    rw [d _ e, d _ e2]
    have : eqB 9 h (.ref n) (.ref j) = true := by
      unfold eqB
      simp only [seq_ref e, seq_ref e2]
      rfl
    rw [this]
    rfl
  | cons x xs =>
    unfold qEqE
    dsimp only
    rw [e, e2]
    rfl
theorem dictX {n : Nat} {es : List Ent} {Q : MV → MH → Prop} (e : h.get n = some (.lst (es.map pairV))) (q : Q (.ref h.n) (h.push (.dct false false (mergeM [] (es.map entK))))) : Rt (qDictP [.ref n] h) Q := by
  show Rt (qDictP1 (.ref n) h) Q
  unfold qDictP1
  dsimp only
  rw [e]
  dsimp only
  rw [pairs_ents]
  exact q
theorem sub_len : ∀ {c : Nat} {s l : List Nat}, l ∈ splitC c s → l.length ≤ s.length
  | c, [], l, h => by
    have : l = [] := by simpa [splitC] using h
    rw [this]; exact Nat.le_refl _
  | c, x :: r, l, h => by
    rw [splitC_cons] at h
    cases q : splitC c r with
    | nil => exact absurd q (splitC_ne' c r)
    | cons p ps =>
      have ih : ∀ m ∈ splitC c r, m.length ≤ r.length := fun m hm => sub_len hm
      rw [q] at h ih
      dsimp only at h
      rw [List.length_cons]
      cases b : Nat.beq x c with
      | true =>
        rw [b] at h
        rcases List.mem_cons.mp h with e | h
        · rw [e]; exact Nat.zero_le _
        · have := ih l h; omega
      | false =>
        rw [b] at h
        rcases List.mem_cons.mp h with e | h
        · rw [e, List.length_cons]; have := ih p (List.mem_cons_self ..); omega
        · have := ih l (List.mem_cons_of_mem _ h); omega
theorem split_len : ∀ (c : Nat) (s : List Nat), (splitC c s).length ≤ s.length + 1
  | c, [] => by simp [splitC]
  | c, x :: r => by
    rw [splitC_cons]
    have ih := split_len c r
    cases q : splitC c r with
    | nil => exact absurd q (splitC_ne' c r)
    | cons p ps =>
      rw [q] at ih
      dsimp only
      cases b : Nat.beq x c <;> simp at ih ⊢ <;> omega
theorem ne_str0 {a : List Nat} (ha : sOk a = true) : qNe (.str a) (.str []) h = .ok (.bl (!decide (a = []))) h := by
  unfold qNe
  have e : ∀ s : List Nat, dataB 9 h (.str s) = sOk s := fun _ => rfl
  rw [e, e, ha, show sOk [] = true from rfl]
  show (Res.ok (MV.bl (!beqN a [])) h : Res MV) = _
  rw [beqN_eq]
theorem readL_bad {ls : List (List Nat)} {rest : List Nat} {i : Nat} (hi : i < ls.length) (bad : lineP ls[i] = none) (good : ∀ (j : Nat) (hj : j < i), (lineP (ls[j]'(by omega))).isNone = false) : readL ls rest = ((i : Int), []) := by
  unfold readL
  have : ls.findIdx? (fun l => (lineP l).isNone) = some i := by
    rw [List.findIdx?_eq_some_iff_getElem]
    exact ⟨hi, by rw [bad]; rfl, fun j hj => by rw [good j hj]; decide⟩
  rw [this]
theorem readL_end {ls : List (List Nat)} {rest : List Nat} (good : ∀ l ∈ ls, (lineP l).isNone = false) : readL ls rest = bif !rest.isEmpty || ls.isEmpty then ((ls.length : Int), []) else
    bif noDup ((ls.filterMap lineP).map (·.1)) && (Nat.ble (ls.filterMap lineP).length 4 && decide (prodR (ls.filterMap lineP) ≤ 2000)) then (-1, ls.filterMap lineP) else (0, []) := by
  unfold readL
  have : ls.findIdx? (fun l => (lineP l).isNone) = none := by
    rw [List.findIdx?_eq_none_iff]
    exact good
  rw [this]
theorem readX_re {txt rest : List Nat} {ls : List (List Nat)} (hs : splitC 10 txt = ls ++ [rest]) (hl : txt.length ≤ 10000) (hn : ls.length < 100) (so : sOk rest = true) :
    RE (mx_read_timetable [.str txt] h) (fun v h' => Sub h h' ∧ (readL ls rest).1 = -1 ∧ TOk (readL ls rest).2 ∧ ∃ t, v = .ref t ∧ Tab h' t (readL ls rest).2) (fun k p h' => Sub h h' ∧ k = 7 ∧ 0 ≤ (readL ls rest).1 ∧ p = some (.int (readL ls rest).1)) := by
  unfold mx_read_timetable
  have hlen : ∀ l ∈ ls, l.length ≤ 10000 := fun l hm => by
    have : l ∈ splitC 10 txt := by rw [hs]; exact List.mem_append_left _ hm
    have := sub_len this
    omega
  refine re_fn (oe_seq (oe_if ?_))
  simp -implicitDefEqProofs only [rt_tNox, rt_cNot, rt_cB, rt_e1, rt_eV, rt_ok, List.map_cons, List.map_nil, List.cons_append, List.nil_append, List.getElem?_cons_succ, List.getElem?_cons_zero, List.length_cons, List.length_nil, List.replicate_succ, List.replicate_zero, Nat.reduceAdd, Nat.reduceSub]
  rw [isi_eq (h := h) (nc := 12) (k := 3) (v := .str txt) (j := 3) rfl (by decide), rt_ok]
  simp -implicitDefEqProofs
  refine oe_nil (oe_seq (oe_nox ?_))
  refine star_rt (rt_eSm (s := txt) ?_)
  simp -implicitDefEqProofs only [rt_eV, rt_eC, List.getElem?_cons_zero]
  refine ⟨trivial, split_rt (by decide) (by omega) ?_⟩
  rw [hs, List.map_append]
  refine ⟨_, ls.map .str, .str rest, rfl, MH.push_same _ _, ?_⟩
  have s1 : Sub h (h.push (.lst (ls.map .str ++ [rest].map .str))) := Sub.push
  have eL : ((h.push (.lst (ls.map .str ++ [rest].map .str))).push (.lst (ls.map .str))).get (h.push (.lst (ls.map .str ++ [rest].map .str))).n = some (.lst (ls.map .str)) := MH.push_same _ _
  have s2 := s1.trans (Sub.push (o := .lst (ls.map .str)))
  generalize (h.push (.lst (ls.map .str ++ [rest].map .str))).n = p at eL
  generalize (h.push (.lst (ls.map .str ++ [rest].map .str))).push (.lst (ls.map .str)) = h1 at eL s2
  simp -implicitDefEqProofs only [List.set_cons_succ, List.set_cons_zero, List.getElem?_cons_succ, List.getElem?_cons_zero]
  refine oe_seq (oe_nox ?_)
  simp -implicitDefEqProofs [-Prod.forall, -Prod.exists, asg]
  refine oe_seq (oe_for ?_)
  simp -implicitDefEqProofs [-Prod.forall, -Prod.exists, asg]
  refine ⟨_, MH.push_of eL, ?_⟩
  have en0 : (h1.push (.lst [])).get h1.n = some (.lst []) := MH.push_same _ _
  have eL2 := MH.push_of (o := .lst []) eL
  have s3 := s2.trans (Sub.push (o := .lst []))
  have lt : ∀ b o, h.get b = some o → b ≠ h1.n := fun b o e => Nat.ne_of_lt (MH.get_lt (s2 _ _ e))
  have np : p ≠ h1.n := Nat.ne_of_lt (MH.get_lt eL)
  generalize h1.n = n0 at en0 lt np
  generalize h1.push (.lst []) = h2 at en0 eL2 s3
  rw [List.length_map]
  refine oe_for_inv (w := wkE (wkL p ls.length)) (fun i σ h' => (∃ v4 v5 v6, σ = [some (.str txt), some (.ref p), some (.str rest), some (.ref n0), v4, v5, v6, none]) ∧ (∃ es : List Ent, h'.get n0 = some (.lst (es.map pairV)) ∧ es.length = i ∧ ∀ (k : Nat) (e : Ent), es[k]? = some e → ∃ l x, ls[k]? = some l ∧ lineP l = some x ∧ e.1 = x.1 ∧ h'.get e.2 = some (jobO x.2)) ∧ h'.get p = some (.lst (ls.map .str)) ∧ Sub h h') ⟨⟨_, _, _, rfl⟩, ⟨[], en0, rfl, fun k e z => by simp at z⟩, eL2, s3⟩ ?_ ?_
  · rintro i σ h' hi ⟨⟨v4, v5, v6, rfl⟩, ⟨es, en, le, he⟩, ep, sb⟩
    have hi' : i < ls.length := hi
    have ex : ls[i]? = some ls[i] := List.getElem?_eq_getElem hi'
    have ev : (ls.map MV.str)[i]? = some (.str ls[i]) := by rw [List.getElem?_map, ex]; rfl
    refine ⟨.tup [.int (i : Nat), .str ls[i]], _, ?_, rfl, ?_⟩
    · unfold wkE
      dsimp only
      rw [wkL_at ep ev]
    have ll := hlen _ (List.getElem_mem hi')
    refine oe_seq (oe_nox ?_)
    simp -implicitDefEqProofs only [oc_asg, rt_eA, rt_aCons, rt_aNil]
    refine rt_eSm (s := ls[i]) ?_
    simp -implicitDefEqProofs only [rt_eV, rt_eC, List.set_cons_succ, List.set_cons_zero, List.getElem?_cons_succ, List.getElem?_cons_zero]
    refine ⟨trivial, split_rt (by decide) (by omega) ?_⟩
    have sb1 := sb.trans (Sub.push (o := .lst ((splitC 32 ls[i]).map .str)))
    refine (jobT_rt (MH.push_same _ _) (fun s hm => by have := sub_len hm; omega) (by have := split_len 32 ls[i]; omega)).imp ?_
    rintro v h5 ⟨s5, hv⟩
    have en5 := s5 _ _ (MH.push_of (o := .lst ((splitC 32 ls[i]).map .str)) en)
    have ep5 := s5 _ _ (MH.push_of (o := .lst ((splitC 32 ls[i]).map .str)) ep)
    have sb5 := sb1.trans s5
    simp -implicitDefEqProofs only [asg, List.set_cons_succ, List.set_cons_zero]
    cases hx : jobP (splitC 32 ls[i]) with
    | none =>
      rw [hx] at hv
      have hv : v = .non := hv
      subst hv
      refine oe_seq (oe_if ?_)
      simp -implicitDefEqProofs only [rt_tNox, rt_cB, rt_e2, rt_eV, rt_eC, List.getElem?_cons_succ, List.getElem?_cons_zero, show ∀ g, qIsN .non .non g = .ok (.bl true) g from fun _ => rfl, rt_ok, if_true]
      refine oe_raiseI ?_
      simp -implicitDefEqProofs only [rt_eNox, rt_eV, List.getElem?_cons_succ, List.getElem?_cons_zero]
      have er : readL ls rest = ((i : Int), []) := readL_bad hi' hx fun j hj => by
        obtain ⟨l, x, e1, e2, _⟩ := he j es[j] (List.getElem?_eq_getElem (by omega))
        rw [List.getElem?_eq_getElem (by omega)] at e1
        rw [Option.some.inj e1, e2]; rfl
      rw [er]
      exact ⟨by unfold lineM; simp; omega, sb5, trivial, Int.natCast_nonneg _, rfl⟩
    | some x =>
      rw [hx] at hv
      obtain ⟨j, rfl, ej⟩ := hv
      refine oe_seq (oe_if ?_)
      simp -implicitDefEqProofs only [rt_tNox, rt_cB, rt_e2, rt_eV, rt_eC, List.getElem?_cons_succ, List.getElem?_cons_zero, show ∀ g (xs : List MV), qIsN (.tup xs) .non g = .ok (.bl false) g from fun _ _ => rfl, rt_ok, Bool.false_eq_true, if_false]
      refine oe_nil (oe_nox ?_)
      simp -implicitDefEqProofs only [oc_drop]
      refine append_rt (xs := es.map pairV) (v := pairV (x.1, j)) rfl en5 (by rw [List.length_map]; omega) (by simp [pairV]) ?_
      have jn : j ≠ n0 := fun w => by rw [w, en5] at ej; cases ej
      refine ⟨⟨_, _, _, rfl⟩, ⟨es ++ [(x.1, j)], by rw [MH.set_same en5]; simp, by simp [le], fun k e a => ?_⟩, by rw [MH.set_ne np]; exact ep5, fun b u e => by rw [MH.set_ne (lt b u e)]; exact sb5 b u e⟩
      by_cases c : k < es.length
      · rw [List.getElem?_append_left c] at a
        obtain ⟨l, y, q0, q1, q2, q3⟩ := he k e a
        have q3 := s5 _ _ (MH.push_of (o := .lst ((splitC 32 ls[i]).map .str)) q3)
        have : e.2 ≠ n0 := fun w => by rw [w, en5] at q3; cases q3
        exact ⟨l, y, q0, q1, q2, by rw [MH.set_ne this]; exact q3⟩
      · have hk := (List.getElem?_eq_some_iff.mp a).1
        rw [List.length_append, List.length_singleton] at hk
        have hk : k = i := by omega
        subst hk
        rw [List.getElem?_append_right (by omega), le, Nat.sub_self] at a
        cases a
        exact ⟨_, x, ex, hx, rfl, by rw [MH.set_ne jn]; exact ej⟩
  · rintro σ h' ⟨⟨v4, v5, v6, rfl⟩, ⟨es, en, le, he⟩, ep, sb⟩
    have le : es.length = ls.length := le
    refine ⟨by unfold wkE; dsimp only; have := wkL_fin ep; rwa [List.length_map] at this, ?_⟩
    have good : ∀ l ∈ ls, (lineP l).isNone = false := fun l hm => by
      obtain ⟨k, hk, rfl⟩ := List.mem_iff_getElem.mp hm
      obtain ⟨l, x, e1, e2, _⟩ := he k es[k] (List.getElem?_eq_getElem (by omega))
      rw [List.getElem?_eq_getElem hk] at e1
      rw [Option.some.inj e1, e2]; rfl
    have fm := fm_all ls good
    rw [readL_end good]
    generalize hr : ls.filterMap lineP = rows at fm
    have lr : rows.length = ls.length := by have := congrArg List.length fm; simpa using this.symm
    have he2 : ∀ (k : Nat) (e : Ent) (x : NR), es[k]? = some e → rows[k]? = some x → e.1 = x.1 ∧ h'.get e.2 = some (jobO x.2) := fun k e x a b => by
      obtain ⟨l, y, e1, e2, e3, e4⟩ := he k e a
      have z : (ls.map lineP)[k]? = some (some y) := by rw [List.getElem?_map, e1]; show some (lineP l) = _; rw [e2]
      rw [fm, List.getElem?_map, b] at z
      have : x = y := Option.some.inj (Option.some.inj z)
      subst this
      exact ⟨e3, e4⟩
    have ok : ∀ x ∈ rows, NameOk x.1 ∧ x.2.Ok := fun x hm => by
      rw [← hr] at hm
      obtain ⟨l, _, e⟩ := List.mem_filterMap.mp hm
      exact jobP_ok e
    have nm := names_eq (le.trans lr.symm) he2
    refine oe_seq (oe_if ?_)
    simp -implicitDefEqProofs only [rt_tNox, rt_cOr, rt_cB, rt_e2, rt_eV, rt_eC, rt_eA, rt_aNil, rt_qLst, List.getElem?_cons_succ, List.getElem?_cons_zero]
    rw [ne_str0 so, rt_ok]
    dsimp only
    by_cases c1 : rest = []
    · subst c1
      simp -implicitDefEqProofs only [decide_true, Bool.not_true, Bool.false_eq_true, if_false]
      have en1 := MH.push_of (o := .lst []) en
      refine ⟨by decide, ?_⟩
      have ep1 := MH.push_of (o := .lst []) ep
      have sb1 := sb.trans (Sub.push (o := .lst []))
      rw [eqLenX en1 (MH.push_same _ _), rt_ok]
      have he3 : ∀ (k : Nat) (e : Ent) (x : NR), es[k]? = some e → rows[k]? = some x → e.1 = x.1 ∧ (h'.push (.lst [])).get e.2 = some (jobO x.2) := fun k e x a b => ⟨(he2 k e x a b).1, MH.push_of (he2 k e x a b).2⟩
      generalize h'.push (.lst []) = h3 at en1 ep1 sb1 he3
      dsimp only
      by_cases c2 : ls = []
      · have : es = [] := List.eq_nil_of_length_eq_zero (by rw [le, c2]; rfl)
        subst this
        rw [if_pos (show (List.map pairV []).isEmpty = true from rfl)]
        refine oe_raiseI ?_
        subst c2
        simp -implicitDefEqProofs only [rt_eNox, rt_eA, rt_aCons, rt_aNil, rt_eV, List.getElem?_cons_succ, List.getElem?_cons_zero, len_lst ep1, rt_ok]
        exact ⟨rfl, sb1, trivial, Int.le_refl _, rfl⟩
      · have : (es.map pairV).isEmpty = false := by
          cases es with
          | nil => exact absurd (List.eq_nil_of_length_eq_zero le.symm) c2
          | cons _ _ => rfl
        rw [this]
        have le0 : ls.isEmpty = false := by cases ls with | nil => exact absurd rfl c2 | cons _ _ => rfl
        have l1 : 1 ≤ rows.length := by rw [lr]; exact List.length_pos_iff.mpr c2
        rw [le0]
        simp -implicitDefEqProofs only [List.isEmpty_nil, Bool.not_true, Bool.or_false, cond_false, Bool.false_eq_true, if_false]
        refine oe_nil (oe_seq (oe_if ?_))
        generalize hz : (bif noDup (rows.map (·.1)) && (Nat.ble rows.length 4 && decide (prodR rows ≤ 2000)) then ((-1 : Int), rows) else (0, [])) = Z
        simp -implicitDefEqProofs only [rt_tNox, rt_cB, rt_e2, rt_eA, rt_aCons, rt_aNil, rt_eV, List.getElem?_cons_succ, List.getElem?_cons_zero]
        by_cases nd : (es.map (·.1)).Nodup
        · refine dictP_rt en1 nd ?_
          have en2 := MH.push_of (o := .dct false false (es.map entK)) en1
          rw [len_dct (MH.push_same _ _), rt_ok, len_lst en2, rt_ok]
          simp -implicitDefEqProofs only [List.length_map, lt_int, rt_ok, Int.lt_irrefl, decide_false, Bool.false_eq_true, if_false]
          have sb2 := sb1.trans (Sub.push (o := .dct false false (es.map entK)))
          have he4 : ∀ (k : Nat) (e : Ent) (x : NR), es[k]? = some e → rows[k]? = some x → e.1 = x.1 ∧ (h3.push (.dct false false (es.map entK))).get e.2 = some (jobO x.2) := fun k e x a b => ⟨(he3 k e x a b).1, MH.push_of (he3 k e x a b).2⟩
          generalize h3.push (.dct false false (es.map entK)) = h4 at en2 sb2 he4
          refine oe_nil (oe_tryC (oe_asg (re_eNew ?_)))
          simp -implicitDefEqProofs only [rt_aCons, rt_aNil, rt_eNox, rt_eA, rt_eV, List.getElem?_cons_succ, List.getElem?_cons_zero]
          refine dictP_rt en2 nd ?_
          have ed := MH.push_same h4 (.dct false false (es.map entK))
          have sb3 := sb2.trans (Sub.push (o := .dct false false (es.map entK)))
          have he5 : ∀ (k : Nat) (e : Ent) (x : NR), es[k]? = some e → rows[k]? = some x → e.1 = x.1 ∧ (h4.push (.dct false false (es.map entK))).get e.2 = some (jobO x.2) := fun k e x a b => ⟨(he4 k e x a b).1, MH.push_of (he4 k e x a b).2⟩
          generalize h4.n = d at ed
          generalize h4.push (.dct false false (es.map entK)) = h5 at ed sb3 he5
          have ndr : (rows.map (·.1)).Nodup := nm ▸ nd
          have len := le.trans lr.symm
          have ix : ∀ e ∈ es, ∃ x ∈ rows, e.1 = x.1 ∧ rowOf rows e.1 = x.2 ∧ h5.get e.2 = some (jobO x.2) := fun e hm => by
            obtain ⟨i, hi, rfl⟩ := List.mem_iff_getElem.mp hm
            have hi' : i < rows.length := by omega
            obtain ⟨a, b⟩ := he5 i _ _ (List.getElem?_eq_getElem hi) (List.getElem?_eq_getElem hi')
            exact ⟨_, List.getElem_mem hi', a, by rw [a]; exact rowOf_mem ndr (List.getElem_mem hi'), b⟩
          have ep : prodC (fun e => rowOf rows e.1) es = prodR rows := prodC_rows es rows _ len fun i e x a b => by
            show rowOf rows e.1 = x.2
            rw [(he5 i e x a b).1]; exact rowOf_mem ndr (List.mem_of_getElem? b)
          have s6 : Sub h5 (h5.push (.ins 1 [])) := Sub.push
          have fail : ∀ h', Sub h5 h' → (Nat.ble rows.length 4 && decide (prodR rows ≤ 2000)) = false → (Sub h h' ∧ True ∧ 0 ≤ Z.fst ∧ some (MV.int 0) = some (MV.int Z.fst)) := fun h' s e => by
            rw [e, Bool.and_false] at hz
            subst hz
            exact ⟨sb3.trans s, trivial, Int.le_refl _, rfl⟩
          by_cases l4 : es.length ≤ 4
          · refine (tableX_re (es := es) (rw_ := fun e => rowOf rows e.1) (MH.push_same h5 (.ins 1 [])) (MH.push_of ed) (by omega) l4 (fun e hm => ?_) (fun e hm => ?_) (fun e hm => ?_) nd).imp ?_ ?_
            · obtain ⟨x, hx, e1, _⟩ := ix e hm
              rw [e1]; exact (ok x hx).1
            · obtain ⟨x, hx, e1, e2, e3⟩ := ix e hm
              rw [e2]; exact MH.push_of e3
            · obtain ⟨x, hx, e1, e2, e3⟩ := ix e hm
              show (rowOf rows e.1).Ok
              rw [e2]; exact (ok x hx).2
            · rintro v h6 ⟨hp, rfl, ⟨q, t1, t2⟩, sx⟩
              rw [ep] at hp
              have keep : Sub h5 h6 := fun a o ea => sx a o (Nat.ne_of_lt (MH.get_lt ea)) (MH.push_of ea)
              have ez : Z = (-1, rows) := by
                rw [← hz, (noDup_iff _).mpr ndr, decide_eq_true hp, show Nat.ble rows.length 4 = true from Nat.ble_eq_true_of_le (by omega)]
                rfl
              refine ⟨rfl, _, rfl, oe_nox ?_⟩
              simp -implicitDefEqProofs only [oc_ret, rt_eV, List.set_cons_succ, List.set_cons_zero, List.getElem?_cons_succ, List.getElem?_cons_zero]
              rw [ez]
              exact ⟨sb3.trans keep, rfl, ⟨l1, by show rows.length ≤ 4; omega, fun x hx => (ok x hx).1, ndr, fun x hx => (ok x hx).2, hp⟩, _, rfl, q, es, t1, t2, len, fun k e x a b => ⟨(he5 k e x a b).1, keep _ _ (he5 k e x a b).2⟩⟩
            · rintro k p h6 ⟨hp, rfl, s7⟩
              rw [ep] at hp
              refine ⟨rfl, oe_raiseI ?_⟩
              simp -implicitDefEqProofs only [rt_eNox, rt_eC]
              exact ⟨rfl, fail _ (s6.trans s7) (by rw [decide_eq_false (by omega), Bool.and_false])⟩
          · refine (tableX_big (MH.push_of ed) l4).imp (fun _ _ z => z.elim) ?_
            rintro k p h6 ⟨rfl, rfl⟩
            refine ⟨rfl, oe_raiseI ?_⟩
            simp -implicitDefEqProofs only [rt_eNox, rt_eC]
            exact ⟨rfl, fail _ s6 (by
              have : Nat.ble rows.length 4 = false := by
                cases c : Nat.ble rows.length 4 with
                | false => rfl
                | true => have := Nat.le_of_ble_eq_true c; omega
              rw [this, Bool.false_and])⟩
        · refine dictX en1 ?_
          have en2 := MH.push_of (o := .dct false false (mergeM [] (es.map entK))) en1
          rw [len_dct (MH.push_same _ _), rt_ok, len_lst en2, rt_ok]
          have lt2 := merge_lt es [] (by simp) (by simpa using nd)
          have : ((mergeM [] (es.map entK)).length : Int) < (es.map pairV).length := by
            rw [List.length_map]
            have : (mergeM [] (es.map entK)).length < es.length := by simpa using lt2
            omega
          simp -implicitDefEqProofs only [lt_int, rt_ok, decide_eq_true this, if_true]
          refine oe_raiseI ?_
          simp -implicitDefEqProofs only [rt_eNox, rt_eC]
          have ndr : noDup (rows.map (·.1)) = false := by
            cases c : noDup (rows.map (·.1)) with
            | false => rfl
            | true => exact absurd (nm ▸ (noDup_iff _).mp c) nd
          rw [ndr] at hz
          subst hz
          exact ⟨rfl, sb1.trans Sub.push, trivial, Int.le_refl _, rfl⟩
    · simp -implicitDefEqProofs only [decide_eq_false c1, Bool.not_false, if_true]
      refine oe_raiseI ?_
      simp -implicitDefEqProofs only [rt_eNox, rt_eA, rt_aCons, rt_aNil, rt_eV, List.getElem?_cons_succ, List.getElem?_cons_zero, len_lst ep, rt_ok]
      have : rest.isEmpty = false := by cases rest with | nil => exact absurd rfl c1 | cons _ _ => rfl
      rw [this]
      simp -implicitDefEqProofs only [List.length_map, Bool.not_false, Bool.true_or, cond_true]
      exact ⟨by unfold lineM; simp; omega, sb, trivial, Int.natCast_nonneg _, trivial⟩
end
end KA
set_option autoImplicit false
set_option maxHeartbeats 200000
set_option maxRecDepth 512
set_option linter.all false
set_option autoImplicit false
/-! QSpec6: a row told: what a text's reading answers. -/
namespace KA
/-- lines and a rest make a text -/
def catL (ls : List (List Nat)) (rest : List Nat) : List Nat := (ls.map fun l => l ++ [10]).flatten ++ rest
theorem split_cat : ∀ (ls : List (List Nat)) (rest : List Nat), (∀ l ∈ ls, 10 ∉ l) → 10 ∉ rest → splitC 10 (catL ls rest) = ls ++ [rest]
  | [], rest, _, hr => splitC_none hr
  | l :: ls, rest, hl, hr => by
    have ih := split_cat ls rest (fun m hm => hl m (List.mem_cons_of_mem _ hm)) hr
    unfold catL at ih ⊢
    rw [List.map_cons, List.flatten_cons, List.append_assoc, List.append_assoc, List.singleton_append, splitC_app _ (hl l (List.mem_cons_self ..)), ih]
    rfl
def rowN (ls : List (List Nat)) (rest : List Nat) : Int := bif decide ((readL ls rest).1 = -1) then (bif decide (textR (readL ls rest).2 = catL ls rest) then -1 else -2) else (readL ls rest).1
theorem sok_mem {s : List Nat} : sOk s = true ↔ ∀ c ∈ s, c < 1114112 := by
  unfold sOk
  rw [List.all_eq_true]
  simp
theorem sok_line {x : NR} (n : NameOk x.1) (o : x.2.Ok) : sOk (lineR x) = true := by
  have h1 := o.c1
  have h2 := o.c2
  have h3 := o.l1
  have h4 := o.l2
  have h5 := o.b1
  have h6 := o.b2
  have h7 := o.g1
  have h8 := o.g2
  rw [sok_mem, line_eq]
  have d : ∀ {i : Int}, 0 ≤ i → i ≤ 12 → ∀ c ∈ digS i, c < 1114112 := fun h0 h1 c hc => by have := (digS_of h0 h1).1 c hc; omega
  intro c hc
  simp only [List.mem_append, List.mem_cons] at hc
  rcases hc with hc | hc | hc | hc | hc | hc | hc | hc | hc
  · have := n.cs c hc; omega
  · omega
  · exact d (by omega) (by omega) c hc
  · omega
  · exact d (by omega) (by omega) c hc
  · omega
  · exact d (by omega) (by omega) c hc
  · omega
  · exact d (by omega) (by omega) c hc
theorem text_cat : ∀ rows : List NR, textR rows = catL (rows.map lineR) [] := fun rows => by
  unfold textR catL
  rw [joinC_nil, List.append_nil, List.map_map]
  rfl
theorem sok_cat {ls : List (List Nat)} {rest : List Nat} (hl : ∀ l ∈ ls, sOk l = true) (hr : sOk rest = true) : sOk (catL ls rest) = true := by
  rw [sok_mem] at hr ⊢
  intro c hc
  unfold catL at hc
  rw [List.mem_append] at hc
  rcases hc with hc | hc
  · obtain ⟨m, hm, hc⟩ := List.mem_flatten.mp hc
    obtain ⟨l, hl', rfl⟩ := List.mem_map.mp hm
    rw [List.mem_append] at hc
    rcases hc with hc | hc
    · exact sok_mem.mp (hl l hl') c hc
    · simp at hc; omega
  · exact hr c hc
theorem sok_text {rows : List NR} (O : TOk rows) : sOk (textR rows) = true := by
  rw [text_cat]
  refine sok_cat (fun l hl => ?_) rfl
  obtain ⟨x, hx, rfl⟩ := List.mem_map.mp hl
  exact sok_line (O.nm x hx) (O.ok x hx)
section
variable {h : MH}
theorem row_rt {ls : List (List Nat)} {rest : List Nat} (h10 : ∀ l ∈ ls, 10 ∉ l) (hr : 10 ∉ rest) (hl : (catL ls rest).length ≤ 10000) (hn : ls.length < 100) (sl : ∀ l ∈ ls, sOk l = true) (so : sOk rest = true) :
    Rt (m__law_row_0 [.str (catL ls rest)] h) fun v h' => v = .int (rowN ls rest) ∧ Sub h h' := by
  have hs := split_cat ls rest h10 hr
  have sot := sok_cat sl so
  unfold rowN
  generalize catL ls rest = txt at hs hl sot
  unfold m__law_row_0
  rw [rt_fn, oc_seq]
  refine oc_tryFE (oe_asg (re_eA ?_))
  simp -implicitDefEqProofs only [rt_aCons, rt_aNil, rt_eNox, rt_eV, List.map_cons, List.map_nil, List.cons_append, List.nil_append, List.getElem?_cons_succ, List.getElem?_cons_zero, List.length_cons, List.length_nil, List.replicate_succ, List.replicate_zero, Nat.reduceAdd, Nat.reduceSub]
  refine (readX_re hs hl hn so).imp ?_ ?_
  · rintro v h1 ⟨s1, e1, O, t, rfl, T⟩
    refine ⟨_, rfl, ?_⟩
    rw [e1]
    simp -implicitDefEqProofs only [oc_ret, rt_eIf, rt_cB, rt_e2, rt_e1, rt_eA, rt_aCons, rt_aNil, rt_eV, rt_eC, List.set_cons_succ, List.set_cons_zero, List.getElem?_cons_succ, List.getElem?_cons_zero]
    refine (text_rt T O).imp ?_
    rintro v h2 ⟨rfl, s2⟩
    rw [eq_str (sok_text O) sot, rt_ok]
    generalize textR (readL ls rest).2 = tx
    rw [show decide True = true from rfl, cond_true]
    by_cases q : tx = txt
    · rw [decide_eq_true q]
      exact ⟨rfl, s1.trans s2⟩
    · rw [decide_eq_false q]
      exact ⟨rfl, s1.trans s2⟩
  · rintro k p h1 ⟨s1, rfl, e0, rfl⟩
    have : ¬ (readL ls rest).1 = -1 := by omega
    rw [decide_eq_false this]
    exact ⟨_, rfl, rfl, by decide, rfl, s1⟩
/-- a thing that is no text -/
theorem row_non {v : MV} {j : Nat} (e : kindOf h v = some j) (hj : j < 12) (h3 : isA j 3 = false) : Rt (m__law_row_0 [v] h) fun w h' => w = .int 0 ∧ h' = h := by
  unfold m__law_row_0
  rw [rt_fn, oc_seq]
  refine oc_tryFE (oe_asg (re_eA ?_))
  simp -implicitDefEqProofs only [rt_aCons, rt_aNil, rt_eNox, rt_eV, List.map_cons, List.map_nil, List.cons_append, List.nil_append, List.getElem?_cons_succ, List.getElem?_cons_zero, List.length_cons, List.length_nil, List.replicate_succ, List.replicate_zero, Nat.reduceAdd, Nat.reduceSub]
  unfold mx_read_timetable
  refine re_fn (oe_seq (oe_if ?_))
  simp -implicitDefEqProofs only [rt_tNox, rt_cNot, rt_cB, rt_e1, rt_eV, rt_ok, List.map_cons, List.map_nil, List.cons_append, List.nil_append, List.getElem?_cons_succ, List.getElem?_cons_zero, List.length_cons, List.length_nil, List.replicate_succ, List.replicate_zero, Nat.reduceAdd, Nat.reduceSub]
  rw [isi_eq e hj, rt_ok, h3]
  simp -implicitDefEqProofs only [Bool.not_false, if_true]
  refine oe_raiseI ?_
  simp -implicitDefEqProofs only [rt_eNox, rt_eC]
  exact ⟨rfl, _, rfl, by trivial, by decide, by trivial, by trivial⟩
end
/-! ### what rows are told -/
theorem good_rows {rows : List NR} (nm : ∀ x ∈ rows, NameOk x.1) (ok : ∀ x ∈ rows, x.2.Ok) : ∀ l ∈ rows.map lineR, (lineP l).isNone = false := fun l hl => by
  obtain ⟨x, hx, rfl⟩ := List.mem_map.mp hl
  rw [lineP_good (nm x hx) (ok x hx)]
  rfl
theorem fm_rows : ∀ {rows : List NR}, (∀ x ∈ rows, NameOk x.1) → (∀ x ∈ rows, x.2.Ok) → (rows.map lineR).filterMap lineP = rows
  | [], _, _ => rfl
  | x :: rows, nm, ok => by
    rw [List.map_cons, List.filterMap_cons_some (lineP_good (nm x (List.mem_cons_self ..)) (ok x (List.mem_cons_self ..))), fm_rows (fun y hy => nm y (List.mem_cons_of_mem _ hy)) fun y hy => ok y (List.mem_cons_of_mem _ hy)]
/-- a wrong line -/
theorem rowN_bad {a b : List NR} {w rest : List Nat} (na : ∀ x ∈ a, NameOk x.1) (oa : ∀ x ∈ a, x.2.Ok) (hw : lineP w = none) : rowN (a.map lineR ++ w :: b.map lineR) rest = a.length := by
  have hi : (a.map lineR).length < (a.map lineR ++ w :: b.map lineR).length := by simp
  have er : readL (a.map lineR ++ w :: b.map lineR) rest = (((a.map lineR).length : Int), []) := readL_bad hi (by rw [List.getElem_append_right (Nat.le_refl _)]; simpa using hw) fun j hj => by
    rw [List.getElem_append_left hj]
    exact good_rows na oa _ (List.getElem_mem hj)
  unfold rowN
  rw [er, decide_eq_false (by show ¬ (((a.map lineR).length : Int)) = -1; omega)]
  simp
/-- something behind the last line's end -/
theorem rowN_rest {rows : List NR} {rest : List Nat} (nm : ∀ x ∈ rows, NameOk x.1) (ok : ∀ x ∈ rows, x.2.Ok) (hr : rest ≠ []) : rowN (rows.map lineR) rest = rows.length := by
  have : rest.isEmpty = false := by cases rest with | nil => exact absurd rfl hr | cons _ _ => rfl
  unfold rowN
  rw [readL_end (good_rows nm ok), this]
  simp only [Bool.not_false, Bool.true_or, cond_true]
  rw [decide_eq_false (by omega)]
  simp
theorem rowN_good {rows : List NR} (O : TOk rows) : rowN (rows.map lineR) [] = -1 := by
  have l1 := O.l1
  have : (rows.map lineR).isEmpty = false := by cases rows with | nil => simp at l1 | cons _ _ => rfl
  unfold rowN
  rw [readL_end (good_rows O.nm O.ok), this, fm_rows O.nm O.ok, (noDup_iff _).mpr O.nd, decide_eq_true O.pr, show Nat.ble rows.length 4 = true from Nat.ble_eq_true_of_le O.l4]
  simp only [List.isEmpty_nil, Bool.not_true, Bool.or_false, cond_false, Bool.and_true, cond_true, decide_true]
  rw [decide_eq_true (text_cat rows)]
  rfl
theorem rowN_dup {rows : List NR} (nm : ∀ x ∈ rows, NameOk x.1) (ok : ∀ x ∈ rows, x.2.Ok) (ne : rows ≠ []) (nd : ¬ (rows.map (·.1)).Nodup) : rowN (rows.map lineR) [] = 0 := by
  have : (rows.map lineR).isEmpty = false := by cases rows with | nil => exact absurd rfl ne | cons _ _ => rfl
  have n2 : noDup (rows.map (·.1)) = false := by
    cases q : noDup (rows.map (·.1)) with
    | false => rfl
    | true => exact absurd ((noDup_iff _).mp q) nd
  unfold rowN
  rw [readL_end (good_rows nm ok), this, fm_rows nm ok, n2]
  rfl
theorem TOk.tail {x : NR} {rows : List NR} (O : TOk (x :: rows)) (l1 : 1 ≤ rows.length) : TOk rows := by
  have l4 := O.l4
  have c1 := (O.ok x (List.mem_cons_self ..)).c1
  have pr := O.pr
  refine ⟨l1, by simp at l4; omega, fun y hy => O.nm y (List.mem_cons_of_mem _ hy), (List.nodup_cons.mp O.nd).2, fun y hy => O.ok y (List.mem_cons_of_mem _ hy), ?_⟩
  have p1 : 1 ≤ prodR rows := by
    have : ∀ rs : List NR, (∀ y ∈ rs, y.2.Ok) → 1 ≤ prodR rs := fun rs => by
      induction rs with
      | nil => intro _; simp [prodR]
      | cons y rs ih =>
        intro h
        have h1 := (h y (List.mem_cons_self ..)).c1
        have h2 := ih fun z hz => h z (List.mem_cons_of_mem _ hz)
        have : 1 * 1 ≤ y.2.c * prodR rs := Int.mul_le_mul h1 h2 (by omega) (by omega)
        simpa [prodR] using this
    exact this rows fun y hy => O.ok y (List.mem_cons_of_mem _ hy)
  have : 1 * prodR rows ≤ x.2.c * prodR rows := Int.mul_le_mul_of_nonneg_right c1 (by omega)
  have e : prodR (x :: rows) = x.2.c * prodR rows := rfl
  omega
/-- the odd lines -/
def oddL : List (List Nat) := [[], [122], [122, 32, 52], [122, 32, 52, 32, 50, 32, 48], [122, 32, 52, 32, 50, 32, 48, 32, 49, 32, 49], [90, 32, 52, 32, 50, 32, 48, 32, 49], [122, 32, 48, 32, 49, 32, 48, 32, 49], [122, 32, 49, 51, 32, 49, 32, 48, 32, 49], [122, 32, 52, 32, 48, 32, 48, 32, 49], [122, 32, 52, 32, 53, 32, 48, 32, 49], [122, 32, 52, 32, 50, 32, 52, 32, 49], [122, 32, 52, 32, 50, 32, 45, 49, 32, 49], [122, 32, 52, 32, 50, 32, 48, 32, 48], [122, 32, 52, 32, 50, 32, 48, 32, 49, 48], [122, 32, 48, 52, 32, 50, 32, 48, 32, 49], [122, 32, 52, 32, 48, 50, 32, 48, 32, 49], [122, 32, 52, 32, 50, 32, 48, 48, 32, 49], [122, 32, 52, 32, 50, 32, 48, 32, 48, 49], [122, 32, 32, 52, 32, 50, 32, 48, 32, 49], [32, 122, 32, 52, 32, 50, 32, 48, 32, 49], [122, 32, 52, 32, 50, 32, 48, 32, 49, 32], [122, 32, 52, 32, 120, 32, 48, 32, 49], [52, 32, 50, 32, 48, 32, 49, 32, 122], [97, 98, 99, 100, 101, 102, 103, 104, 105, 32, 52, 32, 50, 32, 48, 32, 49], [122, 32, 52, 32, 50, 32, 48, 32, 43, 49], [122, 32, 52, 46, 48, 32, 50, 32, 48, 32, 49], [122, 32, 57, 57, 57, 57, 57, 32, 49, 32, 48, 32, 49], [122, 49, 32, 52, 32, 50, 32, 48, 32, 49]]
theorem odd_all : (oddL.all fun w => (lineP w).isNone && (decide (w.length ≤ 17) && w.all fun c => decide (c ≠ 10) && decide (c < 1114112))) = true := by decide +kernel
theorem odd_of {w : List Nat} (h : w ∈ oddL) : lineP w = none ∧ 10 ∉ w ∧ w.length ≤ 17 ∧ sOk w = true := by
  have := List.all_eq_true.mp odd_all w h
  rw [Bool.and_eq_true, Bool.and_eq_true, decide_eq_true_eq, List.all_eq_true] at this
  obtain ⟨a, b, c⟩ := this
  refine ⟨Option.isNone_iff_eq_none.mp a, fun hm => ?_, b, sok_mem.mpr fun d hd => ?_⟩
  · have := c 10 hm; simp at this
  · have := c d hd; simp at this; exact this.2
end KA
set_option autoImplicit true
set_option maxHeartbeats 200000
set_option maxRecDepth 512
set_option linter.all false
/-! CSpec2: equality of jobs and timetables. -/
namespace KA
section
variable {h : MH} {n n' t t' : Nat} {r r' : Row} {rows rows' : List NR}
/-- two jobs are the same -/
def sameJ (r r' : Row) : Bool := decide (r.c = r'.c) && (decide (r.l = r'.l) && (decide (r.b = r'.b) && decide (r.g = r'.g)))
theorem sameJ_self (r : Row) : sameJ r r = true := by simp [sameJ]
theorem four_eq {a b : Nat} {x1 x2 x3 x4 y1 y2 y3 y4 : Int} (ea : h.get a = some (.lst [.int x1, .int x2, .int x3, .int x4])) (eb : h.get b = some (.lst [.int y1, .int y2, .int y3, .int y4])) :
    qEq (.ref a) (.ref b) h = .ok (.bl (decide (x1 = y1) && (decide (x2 = y2) && (decide (x3 = y3) && decide (x4 = y4))))) h := by
  unfold qEq
  have d : ∀ n (z1 z2 z3 z4 : Int), h.get n = some (.lst [.int z1, .int z2, .int z3, .int z4]) → dataB 9 h (.ref n) = true := fun n z1 z2 z3 z4 en => by
    unfold dataB
    simp [en, dataB]
  rw [d a _ _ _ _ ea, d b _ _ _ _ eb]
  have e : eqB 9 h (.ref a) (.ref b) = (decide (x1 = y1) && (decide (x2 = y2) && (decide (x3 = y3) && decide (x4 = y4)))) := by
    unfold eqB
    simp [seq_ref ea, seq_ref eb, all2, eqB]
    cases decide (x1 = y1) <;> cases decide (x2 = y2) <;> cases decide (x3 = y3) <;> cases decide (x4 = y4) <;> rfl
  rw [e]
  rfl
theorem job_parts (e : h.get n = some (jobO r)) : m_Job_all_parts [.ref n] h = .ok (.ref h.n) (h.push (.lst [.int r.c, .int r.l, .int r.b, .int r.g])) := by
  apply Rt.eq
  unfold m_Job_all_parts
  simp [j_c e, j_l e, j_b e, j_g e]
theorem job_eq_rt (e : h.get n = some (jobO r)) (e' : h.get n' = some (jobO r')) : Rt (m_Job___eq__ [.ref n, .ref n'] h) fun v h' => v = .bl (sameJ r r') ∧ Sub h h' := by
  unfold m_Job___eq__
  simp -implicitDefEqProofs [isi_ins (k := 10) e' (by decide), job_parts e, isIns_of_get e]
  have s1 : Sub h (h.push (.lst [.int r.c, .int r.l, .int r.b, .int r.g])) := Sub.push
  have e2 := s1 _ _ e'
  simp -implicitDefEqProofs [job_parts e2, isIns_of_get e2]
  rw [four_eq (a := h.n) (b := h.n + 1) (MH.push_of (MH.push_same _ _)) (MH.push_same (h.push (.lst [.int r.c, .int r.l, .int r.b, .int r.g])) _)]
  exact ⟨rfl, s1.trans Sub.push⟩
/-! ### timetables -/
theorem elE_str (a b : List Nat) (g : FM) : elE 0 g (.str a) (.str b) h = .ok (decide (a = b)) h := by
  unfold elE
  simp [flatM, eqB, beqN_eq]
theorem elE_job (e : h.get n = some (jobO r)) (e' : h.get n' = some (jobO r')) : Rt (elE 0 m_Job___eq__ (.ref n) (.ref n') h) fun b h' => b = sameJ r r' ∧ Sub h h' := by
  unfold elE
  rw [show (flatM (.ref n) && flatM (.ref n')) = false from rfl]
  dsimp only
  rw [isIns_of_get e, isIns_of_get e']
  rw [show (true && true) = true from rfl]
  dsimp only
  cases q : Nat.beq n n' with
  | true =>
    have := Nat.eq_of_beq_eq_true q
    subst this
    rw [e] at e'
    have hr : r = r' := by
      have := Option.some.inj e'
      unfold jobO at this
      injection this with _ z
      simp at z
      cases r; cases r'
      simp_all
    subst hr
    exact ⟨(sameJ_self r).symm, .refl⟩
  | false =>
    dsimp only
    rw [rt_bind]
    refine (job_eq_rt e e').imp ?_
    rintro v h' ⟨rfl, sb⟩
    exact ⟨rfl, sb⟩
/-- an item of a timetable against another -/
theorem itE_rt {a b : List Nat} (e : h.get n = some (jobO r)) (e' : h.get n' = some (jobO r')) : Rt (itE 0 m_Job___eq__ (.tup [.str a, .ref n]) (.tup [.str b, .ref n']) h) fun z h' => z = (decide (a = b) && sameJ r r') ∧ Sub h h' := by
  unfold itE
  show Rt (seqE 0 m_Job___eq__ [.str a, .ref n] [.str b, .ref n'] h) _
  unfold seqE
  rw [elE_str]
  cases q : decide (a = b) with
  | false =>
    simp only [Res.bind, Bool.false_and]
    exact ⟨rfl, .refl⟩
  | true =>
    simp only [Res.bind, Bool.true_and]
    unfold seqE
    show Rt ((elE 0 m_Job___eq__ (.ref n) (.ref n') h).bind _) _
    rw [rt_bind]
    refine (elE_job e e').imp ?_
    rintro z h' ⟨rfl, sb⟩
    cases q2 : sameJ r r' with
    | false => exact ⟨rfl, sb⟩
    | true =>
      unfold seqE
      exact ⟨rfl, sb⟩
def sameT : List NR → List NR → Bool
  | x :: xs, y :: ys => (decide (x.1 = y.1) && sameJ x.2 y.2) && sameT xs ys
  | [], [] => true
  | _, _ => false
theorem sameT_self : ∀ rows : List NR, sameT rows rows = true
  | [] => rfl
  | x :: xs => by simp [sameT, sameJ_self, sameT_self xs]
theorem sameT_drop {i : Nat} {x y : NR} (ex : rows[i]? = some x) (ey : rows'[i]? = some y) : sameT (rows.drop i) (rows'.drop i) = ((decide (x.1 = y.1) && sameJ x.2 y.2) && sameT (rows.drop (i + 1)) (rows'.drop (i + 1))) := by
  obtain ⟨h1, e1⟩ := List.getElem?_eq_some_iff.mp ex
  obtain ⟨h2, e2⟩ := List.getElem?_eq_some_iff.mp ey
  rw [List.drop_eq_getElem_cons h1, List.drop_eq_getElem_cons h2, e1, e2]
  rfl
def entT (e : Ent) : MV := .tup [.str e.1, .ref e.2]
theorem lstE_rt {p q N : Nat} {es fs : List Ent} (hl : rows.length = N) (hl' : rows'.length = N) (le : es.length = N) (le' : fs.length = N) : ∀ (d i : Nat) (h : MH), i + d = N → h.get p = some (.lst (es.map entT)) → h.get q = some (.lst (fs.map entT)) →
    (∀ (k : Nat) (e : Ent) (x : NR), es[k]? = some e → rows[k]? = some x → e.1 = x.1 ∧ h.get e.2 = some (jobO x.2)) → (∀ (k : Nat) (e : Ent) (x : NR), fs[k]? = some e → rows'[k]? = some x → e.1 = x.1 ∧ h.get e.2 = some (jobO x.2)) →
    Rt (lstE 0 m_Job___eq__ p q N d i h) fun b h' => b = sameT (rows.drop i) (rows'.drop i) ∧ Sub h h' := by
  have two : ∀ h : MH, h.get p = some (.lst (es.map entT)) → h.get q = some (.lst (fs.map entT)) → twoL p q N h = some (es.map entT, fs.map entT) := fun h e1 e2 => by
    unfold twoL
    rw [e1, e2]
    dsimp only
    rw [List.length_map, List.length_map, le, le', Nat.beq_refl]
    rfl
  intro d
  induction d with
  | zero =>
    intro i h hi e1 e2 j1 j2
    unfold lstE
    rw [two h e1 e2]
    have : i = N := by omega
    subst this
    rw [List.drop_of_length_le (by omega), List.drop_of_length_le (by omega)]
    exact ⟨rfl, .refl⟩
  | succ d ih =>
    intro i h hi e1 e2 j1 j2
    unfold lstE
    rw [two h e1 e2]
    dsimp only
    have l1 : i < rows.length := by omega
    have l2 : i < rows'.length := by omega
    have l3 : i < es.length := by omega
    have l4 : i < fs.length := by omega
    obtain ⟨a1, a2⟩ := j1 i _ _ (List.getElem?_eq_getElem l3) (List.getElem?_eq_getElem l1)
    obtain ⟨b1, b2⟩ := j2 i _ _ (List.getElem?_eq_getElem l4) (List.getElem?_eq_getElem l2)
    rw [List.getElem?_map, List.getElem?_map, List.getElem?_eq_getElem l3, List.getElem?_eq_getElem l4]
    dsimp only [Option.map, entT]
    rw [rt_bind]
    refine (itE_rt a2 b2).imp ?_
    rintro z h1 ⟨rfl, sb⟩
    rw [sameT_drop (List.getElem?_eq_getElem l1) (List.getElem?_eq_getElem l2), a1, b1]
    cases w : (decide (rows[i].1 = rows'[i].1) && sameJ rows[i].2 rows'[i].2) with
    | true =>
      rw [Bool.true_and]
      refine (ih (i + 1) h1 (by omega) (sb _ _ e1) (sb _ _ e2) (fun k e x u v => ⟨(j1 k e x u v).1, sb _ _ (j1 k e x u v).2⟩) (fun k e x u v => ⟨(j2 k e x u v).1, sb _ _ (j2 k e x u v).2⟩)).imp ?_
      rintro b h2 ⟨rfl, sb2⟩
      exact ⟨rfl, sb.trans sb2⟩
    | false =>
      rw [Bool.false_and]
      show Rt (match twoL p q N h1 with
        | some _ => .ok false h1
        | none => .bad) _
      rw [two h1 (sb _ _ e1) (sb _ _ e2)]
      exact ⟨rfl, sb⟩
theorem tab_parts {q : Nat} {es : List Ent} (e1 : h.get t = some (.ins 1 [(4, .ref q)])) (e2 : h.get q = some (.dct false false (es.map entK))) : m_Timetable_all_parts [.ref t] h = .ok (.ref h.n) (h.push (.lst (es.map entT))) := by
  apply Rt.eq
  unfold m_Timetable_all_parts
  simp -implicitDefEqProofs [fld_eq (f := 4) e1 rfl, listItems_eq e2]
  refine congrArg (fun z => h.push (.lst z)) ?_
  simp [entK, entT]
/-- t == t' -/
theorem tab_eq_rt (T : Tab h t rows) (T' : Tab h t' rows') (hl : rows.length = rows'.length) : Rt (m_Timetable___eq__ [.ref t, .ref t'] h) fun v h' => v = .bl (sameT rows rows') ∧ Sub h h' := by
  obtain ⟨q, es, a1, a2, a3, a4⟩ := T
  obtain ⟨q', fs, b1, b2, b3, b4⟩ := T'
  unfold m_Timetable___eq__
  simp -implicitDefEqProofs [isi_ins (k := 11) b1 (by decide), tab_parts a1 a2, isIns_of_get a1]
  have s1 : Sub h (h.push (.lst (es.map entT))) := Sub.push
  simp -implicitDefEqProofs [tab_parts (s1 _ _ b1) (s1 _ _ b2), isIns_of_get (s1 _ _ b1)]
  have s2 : Sub h ((h.push (.lst (es.map entT))).push (.lst (fs.map entT))) := s1.trans Sub.push
  have p1 : ((h.push (.lst (es.map entT))).push (.lst (fs.map entT))).get h.n = some (.lst (es.map entT)) := MH.push_of (MH.push_same _ _)
  have p2 : ((h.push (.lst (es.map entT))).push (.lst (fs.map entT))).get (h.n + 1) = some (.lst (fs.map entT)) := MH.push_same _ _
  unfold qEqD
  dsimp only
  rw [p1]
  dsimp only
  rw [rt_bind, List.length_map]
  refine (lstE_rt (rows := rows) (rows' := rows') a3.symm (by omega) rfl (by omega) es.length 0 _ (by omega) p1 p2 (fun k e x u v => ⟨(a4 k e x u v).1, s2 _ _ (a4 k e x u v).2⟩) (fun k e x u v => ⟨(b4 k e x u v).1, s2 _ _ (b4 k e x u v).2⟩)).imp ?_
  rintro b h' ⟨rfl, sb⟩
  exact ⟨rfl, s2.trans sb⟩
end
end KA
set_option autoImplicit true
set_option maxHeartbeats 200000
set_option maxRecDepth 512
set_option linter.all false
/-! DSpec4: a new desk; the laws' own functions over drawn rows (laws 12, 54). -/
namespace KA
section
variable {h : MH} {t n : Nat} {rows : List NR} {l : List Int}
/-! ### dicts of rows, locked or not -/
theorem oc_lockX {fp : EM} {s : SM} {σ : Sl} {n : Nat} {lk : Bool} {kvs : List (MV × MV)} {P : Po} (ep : fp σ h = .ok (.ref n) h) (en : h.get n = some (.dct false lk kvs))
    (k : ∀ h0, h0.get n = some (.dct false true kvs) → (∀ a o, a ≠ n → h.get a = some o → h0.get a = some o) → Oc (s σ h0) ⟨fun σ1 h1 => h1.get n = some (.dct false true kvs) ∧ ∀ h3, (∀ a o, a ≠ n → h1.get a = some o → h3.get a = some o) → h3.get n = some (.dct false lk kvs) → P.n σ1 h3, fun _ _ => False, fun _ _ => False, fun _ _ => False⟩) : Oc (jLock fp s σ h) P := by
  cases lk with
  | true =>
    refine oc_lockL ep en ((k h en fun _ _ _ e => e).imp ?_ (fun _ _ z => z.elim) (fun _ _ z => z.elim) (fun _ _ z => z.elim))
    rintro σ1 h1 ⟨e, z⟩
    exact z h1 (fun _ _ _ e => e) e
  | false =>
    refine oc_lock ep en ((k _ (MH.set_same en) fun a o ne e => by rw [MH.set_ne ne]; exact e).imp ?_ (fun _ _ z => z.elim) (fun _ _ z => z.elim) (fun _ _ z => z.elim))
    rintro σ1 h1 ⟨e, z⟩
    exact ⟨kvs, e, z _ (fun a o ne e => by rw [MH.set_ne ne]; exact e) (MH.set_same e)⟩
end
end KA
set_option autoImplicit true
set_option maxHeartbeats 200000
set_option maxRecDepth 512
set_option linter.all false
/-! DSpec5: pairs of names, what is free, the timetable of drawn rows (laws 12, 54). -/
namespace KA
section
variable {h : MH} {t n : Nat} {rows : List NR} {l : List Int}
theorem Drawn.tok {most : Int} (D : Drawn most rows) (hm : most ≤ 2000) : TOk rows :=
  ⟨D.l1, D.l4, fun x hx => D.name hx, D.nd, D.ok, by have := D.pr; omega⟩
/-- the timetable of drawn rows -/
theorem ltab_rt {lk : Bool} (en : h.get n = some (.dct false lk (rows.map encR))) (O : TOk rows) :
    Rt (m__law_table_0 [.ref n] h) fun v h' => ∃ t : Nat, v = .ref t ∧ Tab h' t rows ∧ h.n ≤ t ∧ Sub h h' := by
  unfold m__law_table_0
  simp -implicitDefEqProofs [asg, -Prod.forall, -Prod.exists]
  have en0 : (h.push (.dct false false [])).get h.n = some (.dct false false []) := MH.push_same _ _
  have s0 : Sub h (h.push (.dct false false [])) := Sub.push
  have lt : ∀ b o, h.get b = some o → b ≠ h.n := fun b o e => Nat.ne_of_lt (MH.get_lt e)
  have nn := lt _ _ en
  generalize hn0 : h.n = d at en0 lt nn
  generalize h.push (.dct false false []) = h1 at en0 s0
  refine oc_lockX (n := n) rfl (s0 _ _ en) fun h2 en2 keep => ?_
  have l2 := keep _ _ (Ne.symm nn) en0
  simp -implicitDefEqProofs [-Prod.forall, -Prod.exists]
  refine ⟨_, en2, ?_⟩
  rw [List.length_map]
  refine for_inv (w := wkD 0 n rows.length) (fun i σ h' => ∃ (es : List Ent) (v2 : Option MV), σ = [some (.ref n), some (.ref d), v2] ∧ es.length = i ∧ (∀ (k : Nat) (e : Ent) (x : NR), es[k]? = some e → rows[k]? = some x → e.1 = x.1 ∧ h'.get e.2 = some (jobO x.2)) ∧ h'.get d = some (.dct false false (es.map entK)) ∧ Sx d h2 h')
    ⟨[], none, rfl, rfl, by simp, l2, .refl⟩ ?_ ?_
  · rintro i σ h3 hi ⟨es, v2, rfl, hl, hj, ed, sx⟩
    have hi' : i < rows.length := hi
    have ev : (rows.map encR)[i]? = some (encR rows[i]) := by rw [List.getElem?_map, List.getElem?_eq_getElem hi']; rfl
    have jm := List.getElem_mem hi'
    have en3 := sx _ _ nn en2
    refine ⟨_, _, wkD_at en3 ev, rfl, ?_⟩
    have dg : dget (.str rows[i].1) (rows.map encR) = some (rowV rows[i].2) := dget_enc O.nd jm
    simp -implicitDefEqProofs [entM, encR, dget_eq (k := .str rows[i].1) en3 rfl dg, -Prod.forall, -Prod.exists]
    refine (ljob_rt (O.ok _ jm)).imp ?_
    rintro v h4 ⟨rfl, ej, sb4, en4⟩
    have ed4 := sb4 _ _ ed
    have nj : ∀ b (r : Row), h4.get b = some (jobO r) → b ≠ d := fun b r z w => by rw [w, ed4] at z; cases z
    refine .inl ⟨_, ed4, rfl, by have := O.l4; simp; omega, es ++ [(rows[i].1, h3.n)], by simp [hl], ?_, ?_, (sx.trans sb4.sx).trans Sx.set⟩
    · intro k ea xa hk hx
      by_cases c : k < es.length
      · rw [List.getElem?_append_left c] at hk
        obtain ⟨q1, q2⟩ := hj k _ _ hk hx
        have q3 := sb4 _ _ q2
        exact ⟨q1, by rw [MH.set_ne (nj _ _ q3)]; exact q3⟩
      · have hkl : k < es.length + 1 := by have := (List.getElem?_eq_some_iff.mp hk).1; simpa using this
        have : k = i := by omega
        subst this
        rw [List.getElem?_append_right (by omega), hl] at hk
        simp at hk
        rw [List.getElem?_eq_getElem hi'] at hx
        have hx' := Option.some.inj hx
        subst hk
        rw [hx'] at ej
        exact ⟨by rw [hx'], by rw [MH.set_ne (nj _ _ ej)]; exact ej⟩
    · rw [MH.set_same ed4, dput_new]
      · simp [entK]
      · intro q hq
        obtain ⟨x, hx, rfl⟩ := List.mem_map.mp hq
        show keyB (.str x.1) (.str rows[i].1) = false
        rw [keyB_str, decide_eq_false]
        intro w
        obtain ⟨k, hk, rfl⟩ := List.mem_iff_getElem.mp hx
        have hk' : k < rows.length := by omega
        have z := (hj k _ _ (List.getElem?_eq_getElem hk) (List.getElem?_eq_getElem hk')).1
        rw [w] at z
        have nd := O.nd
        have : (rows.map (·.1))[k]'(by simpa using hk') = (rows.map (·.1))[i]'(by simpa using hi') := by simp [z]
        have := (List.getElem_inj nd).mp this
        omega
  · rintro σ h3 ⟨es, v2, rfl, hl, hj, ed, sx⟩
    have en3 := sx _ _ nn en2
    refine ⟨by have := wkD_fin (k := 0) en3; rwa [List.length_map] at this, en3, fun h4 k1 k2 => ?_⟩
    have sb : Sub h h4 := fun b ob eb => by
      by_cases c : b = n
      · subst c
        rw [en] at eb
        cases eb
        exact k2
      · exact k1 _ _ c (sx _ _ (lt _ _ eb) (keep _ _ c (s0 _ _ eb)))
    have ed4 := k1 _ _ (Ne.symm nn) ed
    refine make_tab (h := h4) (by simp) ed4 (by rw [hl]; rfl) (fun i e x a b => ?_) O ?_
    · obtain ⟨q1, q2⟩ := hj i e x a b
      refine ⟨q1, k1 _ _ (fun w => ?_) q2⟩
      rw [w, en3] at q2
      cases q2
    · intro h5 T sb5 _
      have := MH.get_lt ed4
      exact ⟨_, rfl, T, by omega, sb.trans sb5⟩
end
end KA
set_option autoImplicit true
set_option maxHeartbeats 200000
set_option maxRecDepth 512
set_option linter.all false
/-! DSpec6: own-class steps as rules; a desk over a locked dict; a desk stands (laws 12, 54). -/
namespace KA
section
variable {h : MH} {t n d p r : Nat} {rows : List NR} {l : List Int} {ps : List (List Int)} {nm : List (List Nat)}
theorem Dk.sx {m : Nat} {h' : MH} (D : Dk h d t p r ps l nm rows) (s : Sx m h h') (hm : ∃ xs, h.get m = some (.lst xs)) (mp : p ≠ m) (mr : r ≠ m) : Dk h' d t p r ps l nm rows := by
  refine ⟨s _ _ (fun w => ?_) D.ed, s _ _ mp D.ep, s _ _ mr D.er, D.T.sx s hm, D.npr⟩
  obtain ⟨xs, e⟩ := hm
  have := D.ed
  rw [w, e] at this
  cases this
end
end KA
set_option autoImplicit true
set_option maxHeartbeats 200000
set_option maxRecDepth 512
set_option linter.all false
/-! ESpec: jobs' and timetables' own operations (laws 1, 31, 51 to 53). -/
set_option autoImplicit true
set_option maxHeartbeats 200000
set_option maxRecDepth 512
set_option linter.all false
/-! ESpec2: shifted and joined timetables (laws 1, 31, 51 to 53). -/
namespace KA
section
variable {h h' : MH} {t t2 n d p q : Nat} {rows rows2 rs : List NR} {r : Row} {ns : List Ent}
/-- entries told so far -/
def Bld (h : MH) (rs : List NR) (ns : List Ent) : Prop := ns.length = rs.length ∧ ∀ (k : Nat) (e : Ent) (x : NR), ns[k]? = some e → rs[k]? = some x → e.1 = x.1 ∧ h.get e.2 = some (jobO x.2)
theorem Bld.nil : Bld h [] [] := ⟨rfl, fun k e x a => by simp at a⟩
theorem Bld.sub (b : Bld h rs ns) (s : Sub h h') : Bld h' rs ns := ⟨b.1, fun k e x a c => ⟨(b.2 k e x a c).1, s _ _ (b.2 k e x a c).2⟩⟩
theorem Bld.names (b : Bld h rs ns) : ns.map (·.1) = rs.map (·.1) := names_eq b.1 b.2
theorem Bld.put {s : List Nat} {j : Nat} (b : Bld h rs ns) (hs : s ∉ rs.map (·.1)) : dput (.str s) (.ref j) (ns.map entK) = (ns ++ [(s, j)]).map entK := by
  rw [dput_new]
  · simp [entK]
  · intro p hp
    obtain ⟨y, hy, rfl⟩ := List.mem_map.mp hp
    show keyB (.str y.1) (.str s) = false
    rw [keyB_str, decide_eq_false]
    intro w
    exact hs (b.names ▸ w ▸ List.mem_map_of_mem hy)
/-- a dict that stands unlocked and is none of the entries' jobs -/
theorem Bld.set {kvs : List (MV × MV)} {lk : Bool} {o : MO} (b : Bld h rs ns) (e : h.get q = some (.dct false lk kvs)) : Bld (h.set q o) rs ns := by
  refine ⟨b.1, fun k e' x a c => ⟨(b.2 k e' x a c).1, ?_⟩⟩
  have z := (b.2 k e' x a c).2
  have w : e'.2 ≠ q := fun w => by rw [w, e] at z; cases z
  rw [MH.set_ne w]
  exact z
end
end KA
set_option autoImplicit true
set_option maxHeartbeats 200000
set_option maxRecDepth 512
set_option linter.all false
/-! ESpec3: the own operations as rules; jobs of a plan (law 1). -/
set_option autoImplicit false
set_option maxHeartbeats 200000
set_option maxRecDepth 512
set_option linter.all false
set_option autoImplicit false
/-! ESpec4: timetables of plans: names, parts, reversed ones (law 1). -/
namespace KA
section
variable {h : MH} {t t2 n j d p q a : Nat} {rows rows2 : List NR} {r r2 : Row}
/-- timetable == timetable -/
theorem teq_rt {Q : MV → MH → Prop} (T : Tab h t rows) (T2 : Tab h t2 rows2) (hl : rows.length = rows2.length) (q : ∀ h', Sub h h' → Q (.bl (sameT rows rows2)) h') : Rt (qOwB 1 m_Timetable___eq__ (.ref t) (.ref t2) h) Q := by
  obtain ⟨_, _, e1, _⟩ := id T
  obtain ⟨_, _, e2, _⟩ := id T2
  refine rt_qOwB e1 e2 ?_
  refine (tab_eq_rt T T2 hl).imp ?_
  rintro v h' ⟨rfl, sb⟩
  exact q h' sb
theorem prodR_rev : ∀ rows : List NR, prodR rows.reverse = prodR rows
  | [] => rfl
  | x :: xs => by
    rw [List.reverse_cons, prodR_app, prodR_rev xs]
    simp [prodR, Int.mul_comm]
theorem TOk.rev (O : TOk rows) : TOk rows.reverse := by
  refine ⟨by simpa using O.l1, by simpa using O.l4, fun x hx => O.nm x (List.mem_reverse.mp hx), ?_, fun x hx => O.ok x (List.mem_reverse.mp hx), by rw [prodR_rev]; exact O.pr⟩
  rw [List.map_reverse]
  exact (List.reverse_perm _).nodup_iff.mpr O.nd
theorem cutM_hi (xs : List MV) (k : Nat) : cutM xs none (some (k : Int)) = xs.take k := by
  unfold cutM sIxM
  simp only [show ¬ ((k : Int) < 0) by omega, decide_false, Int.toNat_natCast]
  rcases Nat.le_total k xs.length with c | c
  · simp [Nat.min_eq_left c]
  · simp [Nat.min_eq_right c, List.take_of_length_le c]
end
end KA
set_option autoImplicit false
set_option maxHeartbeats 200000
set_option maxRecDepth 512
set_option linter.all false
set_option autoImplicit false
/-! QSpec7: the law's lines. -/
namespace KA
def linesM (rows : List NR) : List MV := rows.map fun x => MV.str (lineR x ++ [10])
section
variable {h : MH} {s n : Nat} {rows : List NR}
theorem line_e {x : NR} {lk : Bool} {a0 a2 a3 a4 a5 a6 a8 : Option MV} {Q : MV → MH → Prop} (en : h.get n = some (.dct false lk (rows.map encR))) (O : TOk rows) (hx : x ∈ rows) (q : ∀ h', Sub h h' → Q (.str (lineR x ++ [10])) h') :
    Rt (e2 qAdd (eSm qJoin (eC (.str [32])) (e2 qAdd (eA qLst (aCons (eV 7) aNil)) (eLc (wTup (e2 qDget (eV 1) (eV 7))) (.nm 8) cYes (eA qStrI (aCons (eV 8) aNil)) [8]))) (eC (.str [10])) [a0, some (.ref n), a2, a3, a4, a5, a6, some (.str x.1), a8] h) Q := by
  have nm := O.nm x hx
  have o := O.ok x hx
  rw [rt_e2]
  refine rt_eSm (s := [32]) ?_
  simp -implicitDefEqProofs only [rt_eC]
  refine ⟨trivial, ?_⟩
  simp -implicitDefEqProofs only [rt_e2, rt_eA, rt_aCons, rt_aNil, rt_eV, rt_qLst, List.getElem?_cons_succ, List.getElem?_cons_zero]
  refine ⟨by simp, ?_⟩
  have s1 : Sub h (h.push (.lst [.str x.1])) := Sub.push
  have e1 := MH.push_same h (.lst [.str x.1])
  have en1 := MH.push_of (o := .lst [.str x.1]) en
  generalize h.n = p at e1
  generalize h.push (.lst [.str x.1]) = h1 at s1 e1 en1
  have dg : dget (.str x.1) (rows.map encR) = some (rowV x.2) := dget_enc O.nd hx
  rw [rt_eLc]
  simp -implicitDefEqProofs only [rt_wTup, rt_e2, rt_eV, List.getElem?_cons_succ, List.getElem?_cons_zero]
  rw [dget_eq en1 rfl dg, rt_ok]
  refine acc_pix (w := wkT [.int x.2.c, .int x.2.l, .int x.2.b, .int x.2.g]) 4 (fun _ => true) (fun k => match (numsR x)[k]? with
      | some z => .str (digS z)
      | none => .non) rfl (by decide) rfl (fun k hk4 => ?_) ?_
  · have ez : (numsR x)[k]? = some ((numsR x)[k]'hk4) := List.getElem?_eq_getElem hk4
    obtain ⟨k0, k1⟩ := nums_rg o ez
    refine ⟨.int ((numsR x)[k]'hk4), _, ?_, rfl, ?_⟩
    · show ((numsR x).map MV.int)[k]? = _
      rw [List.getElem?_map, ez]; rfl
    rw [ez]
    simp -implicitDefEqProofs [qStrI_dig k0 k1]
  intro k4 hk4
  rw [List.append_nil, List.reverse_reverse, List.filter_eq_self.mpr (by simp)]
  have em : (List.range 4).map (fun i_1 => match (numsR x)[i_1]? with
    | some z => MV.str (digS z)
    | none => .non) = [.str (digS x.2.c), .str (digS x.2.l), .str (digS x.2.b), .str (digS x.2.g)] := rfl
  rw [em]
  rw [add_lst (MH.push_of e1) (MH.push_same _ _)]
  refine ⟨by simp, ?_⟩
  exact line_rt nm o (MH.push_same _ _) (q _ ((s1.trans Sub.push).trans Sub.push))
theorem lines_oc {P : Po} {a3 a4 a5 a6 : Option MV} (en : h.get n = some (.dct false false (rows.map encR))) (O : TOk rows) (q : ∀ h' l, Sub h h' → h'.get l = some (.lst (linesM rows)) → P.n [some (.ref s), some (.ref n), some (.ref l), a3, a4, a5, a6, none, none] h') :
    Oc (jLock (eV 1) (jAsg (eLc (wDct 0 (eV 1)) (.nm 7) cYes (e2 qAdd (eSm qJoin (eC (.str [32])) (e2 qAdd (eA qLst (aCons (eV 7) aNil)) (eLc (wTup (e2 qDget (eV 1) (eV 7))) (.nm 8) cYes (eA qStrI (aCons (eV 8) aNil)) [8]))) (eC (.str [10]))) [7]) (.nm 2)) [some (.ref s), some (.ref n), none, a3, a4, a5, a6, none, none] h) P := by
  have l4 := O.l4
  refine oc_lockX (n := n) rfl en fun h0 en0 keep => ?_
  rw [oc_asg, rt_eLc]
  simp -implicitDefEqProofs only [rt_wDct, rt_eV, List.getElem?_cons_succ, List.getElem?_cons_zero]
  refine ⟨n, _, rfl, en0, ?_⟩
  rw [List.length_map]
  refine acc_ix (w := wkD 0 n rows.length) rows.length (fun _ => true) (fun i => match rows[i]? with
    | some x => .str (lineR x ++ [10])
    | none => .non) rfl (by omega) (fun h' sb => by have := wkD_fin (k := 0) (sb _ _ en0); rwa [List.length_map] at this) (fun i hi h' sb => ?_) ?_
  · have ex : rows[i]? = some rows[i] := List.getElem?_eq_getElem hi
    refine ⟨.str rows[i].1, _, wkD_at (sb _ _ en0) (by rw [List.getElem?_map, ex]; rfl), rfl, ?_⟩
    rw [ex, rt_cYes]
    refine ⟨rfl, .refl, fun _ => ?_⟩
    exact line_e (sb _ _ en0) O (List.getElem_mem hi) fun h2 s2 => ⟨rfl, s2⟩
  · intro k h1 hk sb
    rw [List.append_nil, List.reverse_reverse, List.filter_eq_self.mpr (by simp)]
    have em : (List.range rows.length).map (fun i => match rows[i]? with
      | some x => MV.str (lineR x ++ [10])
      | none => .non) = linesM rows := range_map rows _ _ fun i x e => by simp only [e]
    rw [em]
    refine ⟨MH.push_of (sb _ _ en0), fun h3 k3 e3 => ?_⟩
    have nl : h1.n ≠ n := Nat.ne_of_gt (MH.get_lt (sb _ _ en0))
    refine q h3 h1.n (fun a o ea => ?_) (k3 _ _ nl (MH.push_same _ _))
    by_cases w : a = n
    · rw [w, en] at ea; cases ea; rw [w]; exact e3
    · exact k3 _ _ w (MH.push_of (sb _ _ (keep _ _ w ea)))
end
end KA
set_option autoImplicit false
set_option maxHeartbeats 200000
set_option maxRecDepth 512
set_option linter.all false
set_option autoImplicit false
/-! QSpec8: texts made of lines, and what they are told. -/
namespace KA
def LM (ls : List (List Nat)) : List MV := ls.map fun l => MV.str (l ++ [10])
structure LineS (l : List Nat) : Prop where
  no : 10 ∉ l
  so : sOk l = true
  len : l.length ≤ 20
theorem lineS_row {x : NR} (n : NameOk x.1) (o : x.2.Ok) : LineS (lineR x) := ⟨line_not n o, sok_line n o, line_len n o⟩
theorem lineS_odd {w : List Nat} (h : w ∈ oddL) : LineS w := by
  obtain ⟨_, a, b, c⟩ := odd_of h
  exact ⟨a, c, by omega⟩
theorem LM_rows (rows : List NR) : linesM rows = LM (rows.map lineR) := by
  unfold linesM LM
  rw [List.map_map]
  rfl
theorem cat_len : ∀ (ls : List (List Nat)) (rest : List Nat), (∀ l ∈ ls, LineS l) → LineS rest → (catL ls rest).length ≤ 21 * ls.length + 20
  | [], rest, _, hr => by simpa [catL] using hr.len
  | l :: ls, rest, hl, hr => by
    have ih := cat_len ls rest (fun m hm => hl m (List.mem_cons_of_mem _ hm)) hr
    have := (hl l (List.mem_cons_self ..)).len
    unfold catL at ih ⊢
    rw [List.map_cons, List.flatten_cons, List.append_assoc, List.length_append, List.length_cons]
    rw [List.length_append, List.length_singleton]
    omega
theorem LM_app (a b : List (List Nat)) : LM (a ++ b) = LM a ++ LM b := List.map_append
theorem LM_take (a : List (List Nat)) (k : Nat) : (LM a).take k = LM (a.take k) := (List.map_take ..).symm
theorem LM_drop (a : List (List Nat)) (k : Nat) : (LM a).drop k = LM (a.drop k) := (List.map_drop ..).symm
theorem LM_len (a : List (List Nat)) : (LM a).length = a.length := List.length_map ..
theorem cat_app (a b : List (List Nat)) (r : List Nat) : catL (a ++ b) r = catL a [] ++ catL b r := by
  unfold catL
  rw [List.map_append, List.flatten_append, List.append_nil, List.append_assoc]
theorem cat_one (l r : List Nat) : catL [l] r = l ++ [10] ++ r := by simp [catL]
section
variable {h : MH}
theorem rowS_rt {ls : List (List Nat)} {rest : List Nat} (hl : ∀ l ∈ ls, LineS l) (hr : LineS rest) (hn : ls.length ≤ 50) :
    Rt (m__law_row_0 [.str (catL ls rest)] h) fun v h' => v = .int (rowN ls rest) ∧ Sub h h' :=
  row_rt (fun l m => (hl l m).no) hr.no (by have := cat_len ls rest hl hr; omega) (by omega) (fun l m => (hl l m).so) hr.so
theorem lineS_nil : LineS [] := ⟨by simp, rfl, by decide⟩
theorem joinL_rt {n : Nat} {ls : List (List Nat)} {Q : MV → MH → Prop} (e : h.get n = some (.lst (LM ls))) (hl : ∀ l ∈ ls, LineS l) (hn : ls.length ≤ 50) (q : Q (.str (catL ls [])) h) : Rt (qJoin (.str []) [.ref n] h) Q := by
  have e' : h.get n = some (.lst ((ls.map fun l => l ++ [10]).map .str)) := by rw [e]; unfold LM; rw [List.map_map]; rfl
  refine join_rt e' ?_ ?_
  · have := cat_len ls [] hl lineS_nil
    unfold catL at this
    rw [List.append_nil, List.length_flatten] at this
    simp only [List.length_nil, Nat.mul_zero, Nat.add_zero]
    omega
  · rw [joinC_nil]
    have : (ls.map fun l => l ++ [10]).flatten = catL ls [] := by unfold catL; rw [List.append_nil]
    rw [this]
    exact q
theorem addS {a b : List Nat} {Q : MV → MH → Prop} (hl : a.length + b.length ≤ 16777216) (q : Q (.str (a ++ b)) h) : Rt (qAdd (.str a) (.str b) h) Q := by
  show Rt (lim _ _) _
  simp -implicitDefEqProofs [hl]
  exact q
theorem initS {a : List Nat} {Q : MV → MH → Prop} (hl : a.length ≤ 16777216) (q : Q (.str a.dropLast) h) : Rt (qInitS (.str a) h) Q := by
  show Rt (lim _ _) _
  simp -implicitDefEqProofs [hl]
  exact q
theorem revL {n : Nat} {ls : List (List Nat)} (e : h.get n = some (.lst (LM ls))) : qRev (.ref n) h = .ok (.ref h.n) (h.push (.lst (LM ls.reverse))) := by
  unfold qRev
  rw [seq_ref e]
  unfold LM
  rw [List.map_reverse]
theorem slLo {n k : Nat} {ls : List (List Nat)} {Q : MV → MH → Prop} (e : h.get n = some (.lst (LM ls))) (q : Q (.ref h.n) (h.push (.lst (LM (ls.drop k))))) : slP Q (.ref n) (some (k : Int)) none h := by
  unfold slP
  simp only [seq_ref e]
  rw [cutM_lo, LM_drop]
  exact q
theorem slHi {n k : Nat} {ls : List (List Nat)} {Q : MV → MH → Prop} (e : h.get n = some (.lst (LM ls))) (hk : k ≤ ls.length) (q : Q (.ref h.n) (h.push (.lst (LM (ls.take k))))) : slP Q (.ref n) none (some (k : Int)) h := by
  unfold slP
  simp only [seq_ref e]
  rw [cutM_hi, LM_take]
  exact q
theorem ne_st {ns : List Int} {s l : Nat} {a : List Nat} {xs : List MV} (S : St ns h s) (e : h.get l = some (.lst (.str a :: xs))) : l ≠ s := by
  rintro rfl
  obtain ⟨_, _, _, _, e2⟩ := S
  rw [e] at e2
  cases e2
end
end KA
set_option autoImplicit false
set_option maxHeartbeats 200000
set_option maxRecDepth 512
set_option linter.all false
set_option autoImplicit false
/-! XSpec: what is joined in vain; drawn timetables that stand (law 31). -/
set_option autoImplicit false
set_option maxHeartbeats 200000
set_option maxRecDepth 512
set_option linter.all false
set_option autoImplicit false
/-! XSpec2: drawn timetables that stand (law 31). -/
namespace KA
section
variable {h : MH} {s n t t2 : Nat} {ns : List Int} {rows rows2 : List NR}
theorem St.lst (S : St ns h s) : ∃ xs, h.get s = some (.lst xs) := by
  obtain ⟨b, c, _, _, e⟩ := S
  exact ⟨_, e⟩
theorem St.sub {h' : MH} (S : St ns h s) (x : Sub h h') : St ns h' s := by
  obtain ⟨b, c, h1, h2, e⟩ := S
  exact ⟨b, c, h1, h2, x _ _ e⟩
end
end KA
set_option autoImplicit false
set_option maxHeartbeats 200000
set_option maxRecDepth 512
set_option linter.all false
set_option autoImplicit false
/-! QSpec9: one drawn timetable's text (law 13). -/
namespace KA
section
variable {h : MH} {ns : List Int} {s : Nat}
theorem ne_sameS {a : List Nat} (ha : sOk a = true) : qNe (.str a) (.str a) h = .ok (.bl false) h := by
  unfold qNe
  have e : ∀ s : List Nat, dataB 9 h (.str s) = sOk s := fun _ => rfl
  rw [e, ha]
  show (Res.ok (MV.bl (!beqN a a)) h : Res MV) = _
  rw [beqN_eq]
  simp
theorem addOdd {n : Nat} {xs ys : List MV} {Q : MV → MH → Prop} (e : h.get n = some (.lst xs)) (hl : xs.length + ys.length ≤ 1000) (q : ∀ h' m, Sub h h' → h'.get m = some (.lst (xs ++ ys)) → Q (.ref m) h') : Rt (qAdd (.ref n) (.ref h.n) (h.push (.lst ys))) Q := by
  rw [add_lst (MH.push_of e) (MH.push_same _ _)]
  exact ⟨by omega, q _ _ (Sub.push.trans Sub.push) (MH.push_same _ _)⟩
theorem cat_rest (ls : List (List Nat)) (r : List Nat) : catL ls [] ++ r = catL ls r := by
  unfold catL
  rw [List.append_nil]
theorem drop_text (a : List NR) (x : NR) : (textR (a ++ [x])).dropLast = catL (a.map lineR) (lineR x) := by
  rw [text_cat, List.map_append, cat_app, List.map_cons, List.map_nil, cat_one, List.append_nil, ← List.append_assoc, List.dropLast_concat, cat_rest]
theorem text_snoc (a : List NR) (x : NR) : textR a ++ (lineR x ++ [10]) = catL ((a ++ [x]).map lineR) [] := by
  rw [text_cat, List.map_append, cat_app, List.map_cons, List.map_nil, cat_one, List.append_nil]
theorem one_rt (S : St ns h s) : Rt (m__law_one_right_5 [.ref s] h) fun v h' => v = .bl true ∧ Sx s h h' ∧ St ns h' s := by
  unfold m__law_one_right_5
  rw [rt_fn, oc_seq, oc_asg, rt_eA]
  simp -implicitDefEqProofs only [rt_eV, rt_eC, rt_aCons, rt_aNil, List.map_cons, List.map_nil, List.cons_append, List.nil_append, List.getElem?_cons_succ, List.getElem?_cons_zero, List.length_cons, List.length_nil, List.replicate_succ, List.replicate_zero, Nat.reduceAdd, Nat.reduceSub]
  refine (drawn_rt S (by decide) (by decide)).imp ?_
  rintro v h1 ⟨n, rows, rfl, nes, en, D, sx1, S1⟩
  have O := D.tok (by decide)
  have l1 := O.l1
  have l4 := O.l4
  simp -implicitDefEqProofs only [asg, List.set_cons_succ, List.set_cons_zero]
  rw [oc_seq]
  refine lines_oc en O fun h2 l s2 el => ?_
  rw [LM_rows] at el
  have hl : ∀ x ∈ rows.map lineR, LineS x := fun m hm => by
    obtain ⟨x, hx, rfl⟩ := List.mem_map.mp hm
    exact lineS_row (O.nm x hx) (O.ok x hx)
  have S2 := S1.sub s2
  have sx2 : Sx s h h2 := sx1.trans s2.sx
  have en2 := s2 _ _ en
  have lne : l ≠ s := by
    cases rows with
    | nil => simp at l1
    | cons x r => exact ne_st S2 el
  dsimp only
  rw [oc_seq, oc_asg]
  refine rt_eSm (s := []) ?_
  simp -implicitDefEqProofs only [rt_eC, rt_eV, List.getElem?_cons_succ, List.getElem?_cons_zero]
  refine ⟨trivial, joinL_rt el hl (by rw [List.length_map]; omega) ?_⟩
  rw [← text_cat]
  simp -implicitDefEqProofs only [asg, List.set_cons_succ, List.set_cons_zero]
  have sot := sok_text O
  rw [oc_seq, oc_if]
  -- the timetable and its text
  simp -implicitDefEqProofs only [rt_cOr, rt_cB, rt_e2, rt_eA, rt_aCons, rt_aNil, rt_eV, List.getElem?_cons_succ, List.getElem?_cons_zero]
  refine (ltab_rt en2 O).imp ?_
  rintro v h3 ⟨t, rfl, T3, _, s3⟩
  refine (text_rt T3 O).imp ?_
  rintro v h4 ⟨rfl, s4⟩
  rw [ne_sameS sot, rt_ok]
  simp -implicitDefEqProofs only [Bool.false_eq_true, if_false, rt_cNot, rt_cB, rt_e2, rt_eA, rt_aCons, rt_aNil, rt_eV, List.getElem?_cons_succ, List.getElem?_cons_zero]
  refine (read_rt O).imp ?_
  rintro v h5 ⟨t2, rfl, T5, s5⟩
  refine (ltab_rt (((s3.trans s4).trans s5) _ _ en2) O).imp ?_
  rintro v h6 ⟨t3, rfl, T6, _, s6⟩
  refine teq_rt (T5.sub s6) T6 rfl fun h7 s7 => ?_
  rw [sameT_self]
  have s27 : Sub h2 h7 := (((s3.trans s4).trans s5).trans s6).trans s7
  simp -implicitDefEqProofs only [Bool.not_true, Bool.false_eq_true, if_false, oc_nil]
  have el7 := s27 _ _ el
  have S7 := S2.sub s27
  have sx7 : Sx s h h7 := sx2.trans s27.sx
  clear s3 s4 s5 s6 s7 T3 T5 T6 en2 s27
  -- the odd lines
  simp -implicitDefEqProofs only [oc_seq, oc_asg, rt_eA, rt_e2, rt_eC, rt_eV, rt_aCons, rt_aNil, rt_qLst, asg, List.set_cons_succ, List.set_cons_zero, List.getElem?_cons_succ, List.getElem?_cons_zero]
  refine ⟨by decide, by decide, ?_⟩
  refine addOdd (MH.push_same h7 _) (by decide) fun h8 o1 q8 e8 => ?_
  refine ⟨by decide, ?_⟩
  refine addOdd e8 (by decide) fun h9 o2 q9 e9 => ?_
  refine ⟨by decide, ?_⟩
  refine addOdd e9 (by decide) fun h10 o3 q10 e10 => ?_
  refine ⟨by decide, ?_⟩
  refine addOdd e10 (by decide) fun h11 o4 q11 e11 => ?_
  refine ⟨by decide, ?_⟩
  refine addOdd e11 (by decide) fun h12 o5 q12 e12 => ?_
  refine ⟨by decide, ?_⟩
  refine addOdd e12 (by decide) fun h13 od q13 e13 => ?_
  have eo : h13.get od = some (.lst (oddL.map MV.str)) := e13
  have q713 : Sub h7 h13 := ((((Sub.push.trans q8).trans q9).trans q10).trans q11).trans (q12.trans q13)
  have S13 := S7.sub q713
  have sx13 : Sx s h h13 := sx7.trans q713.sx
  have el13 := q713 _ _ el7
  have one : od ≠ s := ne_st S13 eo
  clear e8 e9 e10 e11 e12 e13 q8 q9 q10 q11 q12 q13 q713
  -- the place, the wrong line
  rw [oc_par]
  simp -implicitDefEqProofs only [rt_eA, rt_aCons, rt_aNil, rt_e2, rt_eV, rt_eC, List.getElem?_cons_succ, List.getElem?_cons_zero]
  rw [len_lst el13, rt_ok]
  simp -implicitDefEqProofs only [add_int, rt_ok, LM_len, List.length_map]
  refine (next_rt S13 (by omega)).imp ?_
  rintro v h14 ⟨⟨k, rfl, k0, k1⟩, sx14, S14, _⟩
  have el14 := sx14 _ _ lne el13
  have eo14 := sx14 _ _ one eo
  refine (pick_rt S14 one eo14 (by decide)).imp ?_
  rintro v h15 ⟨hv, sx15, S15, _⟩
  have el15 := sx15 _ _ lne el14
  have sx015 : Sx s h h15 := (sx13.trans sx14).trans sx15
  obtain ⟨w, hw, rfl⟩ := List.mem_map.mp hv
  obtain ⟨w1, _, _, _⟩ := odd_of hw
  have wS := lineS_odd hw
  clear sx14 sx15 eo14 eo one S13 S14 el13 el14 sx13 S7 sx7 el7
  simp -implicitDefEqProofs only [List.set_cons_succ, List.set_cons_zero]
  obtain ⟨i, rfl⟩ := Int.eq_ofNat_of_zero_le k0
  have hi : i ≤ rows.length := by omega
  rw [oc_if]
  simp -implicitDefEqProofs only [rt_cB, rt_e2, rt_eA, rt_aCons, rt_aNil]
  refine rt_eSm (s := []) ?_
  simp -implicitDefEqProofs only [rt_eC, rt_e2, rt_eA, rt_aCons, rt_aNil, rt_sl_hi, rt_sl_lo, rt_eV, List.getElem?_cons_succ, List.getElem?_cons_zero]
  refine ⟨trivial, slHi el15 (by rw [List.length_map]; exact hi) ?_⟩
  refine addS (by have := wS.len; simp; omega) ?_
  simp -implicitDefEqProofs only [rt_qLst]
  refine ⟨by simp, ?_⟩
  rw [add_lst (MH.push_of (MH.push_same _ _)) (MH.push_same _ _)]
  refine ⟨by rw [LM_len, List.length_take]; simp; omega, ?_⟩
  have el16 := MH.push_of (o := .lst (LM ((rows.map lineR).take i) ++ [MV.str (w ++ [10])])) (MH.push_of (o := .lst [MV.str (w ++ [10])]) (MH.push_of (o := .lst (LM ((rows.map lineR).take i))) el15))
  refine slLo el16 ?_
  rw [add_lst (MH.push_of (MH.push_same _ _)) (MH.push_same _ _)]
  refine ⟨by simp [LM_len]; omega, ?_⟩
  have eLL : LM ((rows.map lineR).take i) ++ [MV.str (w ++ [10])] ++ LM ((rows.map lineR).drop i) = LM ((rows.take i).map lineR ++ w :: (rows.drop i).map lineR) := by
    rw [LM_app, List.map_take, List.map_drop]
    simp [LM]
  rw [eLL]
  have hl2 : ∀ x ∈ (rows.take i).map lineR ++ w :: (rows.drop i).map lineR, LineS x := fun m hm => by
    rw [List.mem_append, List.mem_cons] at hm
    rcases hm with hm | rfl | hm
    · exact hl m (by rw [List.map_take] at hm; exact List.mem_of_mem_take hm)
    · exact wS
    · exact hl m (by rw [List.map_drop] at hm; exact List.mem_of_mem_drop hm)
  have hn2 : ((rows.take i).map lineR ++ w :: (rows.drop i).map lineR).length ≤ 50 := by simp; omega
  refine joinL_rt (MH.push_same _ _) hl2 hn2 ?_
  refine (rowS_rt hl2 lineS_nil hn2).imp ?_
  rintro v h16 ⟨rfl, q16⟩
  rw [rowN_bad (fun x hx => O.nm x (List.mem_of_mem_take hx)) (fun x hx => O.ok x (List.mem_of_mem_take hx)) w1]
  have s16 : Sub h15 h16 := ((((Sub.push.trans Sub.push).trans Sub.push).trans Sub.push).trans Sub.push).trans q16
  have el17 := s16 _ _ el15
  have S16 := S15.sub s16
  have sx16 : Sx s h h16 := sx015.trans s16.sx
  have et : (rows.take i).length = i := by rw [List.length_take]; omega
  rw [et]
  clear el16 s16 q16 sx015 S15 el15 hl2 hn2 eLL et
  simp -implicitDefEqProofs only [ne_int, rt_ok, decide_true, Bool.not_true, Bool.false_eq_true, if_false, oc_nil]
  have tl := text_len rows O.nm O.ok
  have hn : (rows.map lineR).length ≤ 50 := by rw [List.length_map]; omega
  rw [oc_if]
  -- more behind the text, less of it
  simp -implicitDefEqProofs only [rt_cOr, rt_cB, rt_e2, rt_e1, rt_eA, rt_aCons, rt_aNil, rt_eV, rt_eC, List.getElem?_cons_succ, List.getElem?_cons_zero]
  refine addS (by simp; omega) ?_
  rw [text_cat, cat_rest]
  refine (rowS_rt hl ⟨by simp, rfl, by simp⟩ hn).imp ?_
  rintro v h17 ⟨rfl, q17⟩
  rw [rowN_rest O.nm O.ok (by decide), len_lst (q17 _ _ el17), rt_ok, LM_len, List.length_map, ← text_cat]
  simp -implicitDefEqProofs only [ne_int, rt_ok, decide_true, Bool.not_true, Bool.false_eq_true, if_false]
  refine initS (by omega) ?_
  obtain ⟨a, x, ear⟩ : ∃ a x, rows = a ++ [x] := ⟨rows.dropLast, rows.getLast (by intro z; rw [z] at l1; simp at l1), (List.dropLast_concat_getLast _).symm⟩
  have na : ∀ y ∈ a, NameOk y.1 := fun y hy => O.nm y (by rw [ear]; exact List.mem_append_left _ hy)
  have oa : ∀ y ∈ a, y.2.Ok := fun y hy => O.ok y (by rw [ear]; exact List.mem_append_left _ hy)
  have hxm : x ∈ rows := by rw [ear]; simp
  have lx := lineS_row (O.nm x hxm) (O.ok x hxm)
  have hla : rows.length = a.length + 1 := by rw [ear]; simp
  rw [show (textR rows).dropLast = catL (a.map lineR) (lineR x) by rw [ear, drop_text]]
  refine (rowS_rt (fun m hm => hl m (by rw [ear, List.map_append]; exact List.mem_append_left _ hm)) lx (by rw [List.length_map]; omega)).imp ?_
  rintro v h18 ⟨rfl, q18⟩
  rw [rowN_rest na oa (by intro z; have := line_eq x; rw [z] at this; simp at this), len_lst (q18 _ _ (q17 _ _ el17)), rt_ok, LM_len, List.length_map]
  have e18 : ((a.length : Int) = (rows.length : Int) - 1) := by omega
  simp -implicitDefEqProofs only [sub_int, ne_int, rt_ok, decide_eq_true e18, Bool.not_true, Bool.false_eq_true, if_false, oc_nil]
  have el19 := q18 _ _ (q17 _ _ el17)
  have S18 := (S16.sub q17).sub q18
  have sx18 : Sx s h h18 := (sx16.trans q17.sx).trans q18.sx
  clear S16 el17 sx16 q17 q18 e18
  -- the lines backwards
  rw [oc_if]
  simp -implicitDefEqProofs only [rt_cB, rt_e2, rt_eA, rt_aCons, rt_aNil]
  refine rt_eSm (s := []) ?_
  simp -implicitDefEqProofs only [rt_eC, rt_e1, rt_eV, List.getElem?_cons_succ, List.getElem?_cons_zero]
  rw [revL el19, rt_ok, ← List.map_reverse]
  have hlr : ∀ m ∈ rows.reverse.map lineR, LineS m := fun m hm => hl m (by rw [List.map_reverse, List.mem_reverse] at hm; exact hm)
  refine ⟨trivial, joinL_rt (MH.push_same _ _) hlr (by simp; omega) ?_⟩
  refine (rowS_rt hlr lineS_nil (by simp; omega)).imp ?_
  rintro v h19 ⟨rfl, q19⟩
  rw [rowN_good O.rev]
  have el20 := q19 _ _ (MH.push_of (o := .lst (LM (rows.reverse.map lineR))) el19)
  have s19 : Sub h18 h19 := Sub.push.trans q19
  have S19 := S18.sub s19
  have sx19 : Sx s h h19 := sx18.trans s19.sx
  clear S18 sx18 el19 q19 s19 hlr
  simp -implicitDefEqProofs only [show ∀ g, qNeg (.int 1) g = .ok (.int (-1)) g from fun _ => rfl, ne_int, rt_ok, decide_true, Bool.not_true, Bool.false_eq_true, if_false, oc_nil]
  -- a line twice
  rw [oc_if]
  simp -implicitDefEqProofs only [rt_cB, rt_e2, rt_eA, rt_aCons, rt_aNil, rt_eV, rt_eC, List.getElem?_cons_succ, List.getElem?_cons_zero]
  rw [len_lst el20, rt_ok, LM_len, List.length_map]
  refine (next_rt S19 (by omega)).imp ?_
  rintro v h20 ⟨⟨k, rfl, k0, k1⟩, sx20, S20, _⟩
  have el21 := sx20 _ _ lne el20
  obtain ⟨j, rfl⟩ := Int.eq_ofNat_of_zero_le k0
  have hj : j < rows.length := by omega
  refine rt_ix_seq (seq_ref el21) (x := .str (lineR rows[j] ++ [10])) (by rw [atM_int (by omega) (by rw [LM_len, List.length_map]; omega)]; unfold LM; rw [Int.toNat_natCast, List.getElem?_map, List.getElem?_map, List.getElem?_eq_getElem hj]; rfl) ?_
  have hjm : rows[j] ∈ rows := List.getElem_mem hj
  have ljn := line_len (O.nm _ hjm) (O.ok _ hjm)
  generalize rows[j] = y at hjm ljn
  refine addS (by simp; omega) ?_
  rw [text_snoc]
  have nm2 : ∀ z ∈ rows ++ [y], NameOk z.1 := fun z hz => by
    rcases List.mem_append.mp hz with hz | hz
    · exact O.nm z hz
    · rw [List.mem_singleton.mp hz]; exact O.nm y hjm
  have ok2 : ∀ z ∈ rows ++ [y], z.2.Ok := fun z hz => by
    rcases List.mem_append.mp hz with hz | hz
    · exact O.ok z hz
    · rw [List.mem_singleton.mp hz]; exact O.ok y hjm
  refine (rowS_rt (fun m hm => by
    obtain ⟨z, hz, rfl⟩ := List.mem_map.mp hm
    exact lineS_row (nm2 z hz) (ok2 z hz)) lineS_nil (by simp; omega)).imp ?_
  rintro v h21 ⟨rfl, q21⟩
  rw [rowN_dup nm2 ok2 (by simp) (fun nd => by
    rw [List.map_append, List.nodup_append] at nd
    exact nd.2.2 y.1 (List.mem_map.mpr ⟨y, hjm, rfl⟩) y.1 (by simp) rfl)]
  have el22 := q21 _ _ el21
  have S21 := S20.sub q21
  have sx21 : Sx s h h21 := (sx19.trans sx20).trans q21.sx
  simp -implicitDefEqProofs only [ne_int, rt_ok, decide_true, Bool.not_true, Bool.false_eq_true, if_false, oc_nil]
  -- without the first line
  simp -implicitDefEqProofs only [oc_ret, rt_eOr, rt_e2, rt_eA, rt_aCons, rt_aNil, rt_eV, rt_eC, List.getElem?_cons_succ, List.getElem?_cons_zero]
  rw [len_lst el22, rt_ok, LM_len, List.length_map]
  simp -implicitDefEqProofs only [lt_int, rt_ok]
  by_cases c : (rows.length : Int) < 2
  · simp -implicitDefEqProofs only [decide_eq_true c, if_true]
    exact ⟨trivial, sx21, S21⟩
  · simp -implicitDefEqProofs only [decide_eq_false c, Bool.false_eq_true, if_false]
    refine rt_eSm (s := []) ?_
    simp -implicitDefEqProofs only [rt_eC, rt_sl_lo, rt_eV, List.getElem?_cons_succ, List.getElem?_cons_zero]
    refine ⟨trivial, slLo (k := 1) el22 ?_⟩
    rw [← List.map_drop]
    have OT : TOk (rows.drop 1) := by
      cases rows with
      | nil => simp at l1
      | cons y r => exact O.tail (by simp at c; omega)
    have hlt : ∀ m ∈ (rows.drop 1).map lineR, LineS m := fun m hm => hl m (by rw [List.map_drop] at hm; exact List.mem_of_mem_drop hm)
    have hnt : ((rows.drop 1).map lineR).length ≤ 50 := by have := OT.l4; rw [List.length_map]; omega
    refine joinL_rt (MH.push_same _ _) hlt hnt ?_
    refine (rowS_rt hlt lineS_nil hnt).imp ?_
    rintro v h22 ⟨rfl, q22⟩
    rw [rowN_good OT]
    simp -implicitDefEqProofs only [rt_e1, rt_eC, neg_int, rt_ok, eq_int, decide_true]
    have s22 : Sub h21 h22 := Sub.push.trans q22
    exact ⟨trivial, sx21.trans s22.sx, S21.sub s22⟩
end
end KA
set_option autoImplicit false
set_option maxHeartbeats 200000
set_option maxRecDepth 512
set_option linter.all false
set_option autoImplicit false
/-! L13: the law of whole texts. -/
namespace KA
namespace L13
def lineSB (l : List Nat) : Bool := (l.all fun c => decide (c ≠ 10) && decide (c < 1114112)) && decide (l.length ≤ 20)
theorem lineSB_ok {l : List Nat} (e : lineSB l = true) : LineS l := by
  unfold lineSB at e
  rw [Bool.and_eq_true, List.all_eq_true, decide_eq_true_eq] at e
  refine ⟨fun hm => ?_, sok_mem.mpr fun c hc => ?_, e.2⟩
  · have := e.1 10 hm; simp at this
  · have := e.1 c hc; simp at this; exact this.2
def chkB (txt : List Nat) (z : Int) : Bool := decide (catL (splitC 10 txt).dropLast ((splitC 10 txt).getLastD []) = txt) && ((splitC 10 txt).dropLast.all lineSB && (lineSB ((splitC 10 txt).getLastD []) && (decide ((splitC 10 txt).dropLast.length ≤ 50) && decide (rowN (splitC 10 txt).dropLast ((splitC 10 txt).getLastD []) = z))))
section
variable {h : MH}
theorem chk_rt {txt : List Nat} {z : Int} (e : chkB txt z = true) : Rt (m__law_row_0 [.str txt] h) fun v h' => v = .int z ∧ Sub h h' := by
  unfold chkB at e
  generalize (splitC 10 txt).dropLast = ls at e
  generalize (splitC 10 txt).getLastD [] = rest at e
  simp only [Bool.and_eq_true, decide_eq_true_eq, List.all_eq_true] at e
  obtain ⟨e1, e2, e3, e4, e5⟩ := e
  rw [← e1, ← e5]
  exact rowS_rt (fun l hl => lineSB_ok (e2 l hl)) (lineSB_ok e3) e4
def casesL : List (List Nat) := [[97, 32, 49, 50, 32, 49, 50, 32, 49, 49, 32, 57, 10], [97, 32, 49, 32, 49, 32, 48, 32, 49, 10, 98, 32, 49, 50, 32, 49, 32, 48, 32, 49, 10, 99, 32, 49, 50, 32, 49, 32, 49, 48, 32, 49, 10, 97, 98, 99, 100, 101, 102, 103, 104, 32, 49, 50, 32, 49, 48, 32, 48, 32, 49, 10], [97, 32, 49, 48, 32, 49, 48, 32, 57, 32, 49, 10, 98, 32, 56, 32, 49, 32, 48, 32, 49, 10, 99, 32, 53, 32, 49, 32, 48, 32, 49, 10, 100, 32, 53, 32, 49, 32, 48, 32, 49, 10]]
theorem cases_ok : (casesL.all fun t => chkB t (-1)) = true := by decide +kernel
def someL : List (List Nat) := [[97, 32, 49, 50, 32, 49, 32, 48, 32, 49, 10, 98, 32, 49, 50, 32, 49, 32, 48, 32, 49, 10, 99, 32, 49, 50, 32, 49, 32, 48, 32, 49, 10, 100, 32, 50, 32, 49, 32, 48, 32, 49, 10], [97, 32, 49, 32, 49, 32, 48, 32, 49, 10] ++ [97, 32, 49, 32, 49, 32, 48, 32, 49, 10], joinC [] ([97, 98, 99, 100, 101].map fun c => [c] ++ [32, 49, 32, 49, 32, 48, 32, 49, 10])]
theorem some_ok : (someL.all fun t => chkB t 0) = true := by decide +kernel
def rowsL : List (List Nat × Int) := [([], 0), ([97, 32, 52, 32, 50, 32, 48, 32, 49], 0), ([10], 0), ([97, 32, 52, 32, 50, 32, 48, 32, 49, 10, 10], 1), ([97, 32, 52, 32, 50, 32, 48, 32, 49, 10, 97, 32, 52, 32, 50, 32, 48, 32, 49, 10, 98, 10], 2), ([97, 32, 52, 32, 50, 32, 48, 32, 49, 10, 120], 1)]
theorem rows_ok : (rowsL.all fun t => chkB t.1 t.2) = true := by decide +kernel
theorem five_rt {L : List Nat} (hL : L.length ≤ 100) {v a1 v2 a3 : Option MV} {Q : MV → MH → Prop} (q : ∀ h' m, Sub h h' → h'.get m = some (.lst ((L.map fun c => [c] ++ [32, 49, 32, 49, 32, 48, 32, 49, 10]).map .str)) → Q (.ref m) h') :
    Rt (eLc (wStr (eC (.str L))) (.nm 6) cYes (e2 qAdd (eV 6) (eC (.str [32, 49, 32, 49, 32, 48, 32, 49, 10]))) [6] [v, a1, v2, a3, none, none, none] h) Q := by
  rw [rt_eLc]
  simp -implicitDefEqProofs only [rt_wStr, rt_eC]
  try refine ⟨by omega, ?_⟩
  refine acc_pure (w := wkS L) (L.map fun c => MV.str [c]) (fun _ => true) (fun v => match v with
    | .str [c] => .str ([c] ++ [32, 49, 32, 49, 32, 48, 32, 49, 10])
    | _ => .non) (by simp) (by simp; omega) (fun i v e => ?_) rfl ?_ ?_
  · simp at e
    obtain ⟨c, e, rfl⟩ := e
    show (match L[i]? with | some c => some (MV.str [c]) | none => none) = _
    rw [e]
  · intro v hv
    simp at hv
    obtain ⟨c, hc, rfl⟩ := hv
    refine ⟨_, rfl, by simp, fun _ => ?_⟩
    rw [rt_e2]
    simp -implicitDefEqProofs only [rt_eV, rt_eC, wipeM, List.set_cons_succ, List.set_cons_zero, List.getElem?_cons_succ, List.getElem?_cons_zero]
    exact addS (by simp) ⟨rfl, rfl⟩
  intro k
  have e1 : ((List.map (fun c => MV.str [c]) L).filter fun _ => true).map (fun v => match v with
    | .str [c] => MV.str ([c] ++ [32, 49, 32, 49, 32, 48, 32, 49, 10])
    | _ => .non) = (L.map fun c => [c] ++ [32, 49, 32, 49, 32, 48, 32, 49, 10]).map MV.str := by rw [List.filter_eq_self.mpr (by simp), List.map_map, List.map_map]; rfl
  rw [e1, List.reverse_reverse]
  exact q _ _ Sub.push (MH.push_same _ _)
theorem fixed_rt : Rt (m__law_fixed_right_0 [] h) fun v h' => v = .bl true := by
  unfold m__law_fixed_right_0
  rw [rt_fn, oc_seq, oc_for]
  simp -implicitDefEqProofs only [rt_wTup, rt_eA, rt_aCons, rt_aNil, rt_eC, rt_qTup, rt_qLst, List.map_nil, List.nil_append, List.length_nil, List.replicate_succ, List.replicate_zero, Nat.reduceSub]
  refine ⟨Nat.zero_le _, by simp, ?_⟩
  have e0 := MH.push_same h (.lst [])
  generalize h.push (.lst []) = h1 at e0
  generalize h.n = n at e0
  refine for_inv (w := wkT [.non, .int 5, .ref n, .bl false]) (fun i σ h' => h'.get n = some (.lst []) ∧ ∃ v, σ = [v, none, none, none, none, none, none]) ⟨e0, _, rfl⟩ ?_ ?_
  · rintro i σ h' hi ⟨e, v, rfl⟩
    have hi' : i < 4 := hi
    have hv : ∃ (v : MV) (j : Nat), ([.non, .int 5, .ref n, .bl false] : List MV)[i]? = some v ∧ kindOf h' v = some j ∧ j < 12 ∧ isA j 3 = false := by
      have : i = 0 ∨ i = 1 ∨ i = 2 ∨ i = 3 := by omega
      rcases this with rfl | rfl | rfl | rfl
      · exact ⟨_, 0, rfl, rfl, by decide, rfl⟩
      · exact ⟨_, 2, rfl, rfl, by decide, rfl⟩
      · exact ⟨_, 4, rfl, by unfold kindOf; simp [e], by decide, rfl⟩
      · exact ⟨_, 1, rfl, rfl, by decide, rfl⟩
    obtain ⟨v, j, e1, e2, e3, e4⟩ := hv
    refine ⟨v, _, e1, rfl, ?_⟩
    rw [oc_if]
    simp -implicitDefEqProofs only [rt_cB, rt_e2, rt_eA, rt_aCons, rt_aNil, rt_eV, rt_eC, List.set_cons_zero, List.getElem?_cons_zero]
    refine (row_non e2 e3 e4).imp ?_
    rintro w h2 ⟨rfl, rfl⟩
    simp -implicitDefEqProofs only [ne_int, rt_ok, decide_true, Bool.not_true, Bool.false_eq_true, if_false, oc_nil]
    exact ⟨e, _, rfl⟩
  rintro σ h2 ⟨e, v, rfl⟩
  refine ⟨rfl, ?_⟩
  clear e e0
  -- good texts
  simp -implicitDefEqProofs only [oc_seq, oc_asg, rt_eA, rt_e2, rt_eC, rt_eV, rt_aCons, rt_aNil, rt_qLst, asg, List.set_cons_succ, List.set_cons_zero, List.getElem?_cons_succ, List.getElem?_cons_zero]
  refine ⟨by decide, by decide, ?_⟩
  refine addOdd (MH.push_same h2 _) (by decide) fun h3 o1 _ e3 => ?_
  refine ⟨by decide, ?_⟩
  refine addOdd e3 (by decide) fun h4 m _ e4 => ?_
  have e4 : h4.get m = some (.lst (casesL.map MV.str)) := e4
  rw [oc_for]
  simp -implicitDefEqProofs only [rt_wSeq, rt_eV, List.getElem?_cons_succ, List.getElem?_cons_zero]
  refine ⟨m, _, rfl, e4, ?_⟩
  rw [List.length_map]
  refine for_inv (w := wkL m casesL.length) (fun i σ h' => Sub h4 h' ∧ ∃ v2, σ = [v, some (.ref m), v2, none, none, none, none]) ⟨.refl, _, rfl⟩ ?_ ?_
  · rintro i σ h' hi ⟨sb, v2, rfl⟩
    have ex : casesL[i]? = some (casesL[i]'hi) := List.getElem?_eq_getElem hi
    refine ⟨_, _, wkL_at (sb _ _ e4) (by rw [List.getElem?_map, ex]; rfl), rfl, ?_⟩
    rw [oc_if]
    simp -implicitDefEqProofs only [rt_cB, rt_e2, rt_e1, rt_eA, rt_aCons, rt_aNil, rt_eV, rt_eC, List.set_cons_succ, List.set_cons_zero, List.getElem?_cons_succ, List.getElem?_cons_zero]
    refine (chk_rt (List.all_eq_true.mp cases_ok _ (List.getElem_mem hi))).imp ?_
    rintro w h5 ⟨rfl, s5⟩
    simp -implicitDefEqProofs only [neg_int, ne_int, rt_ok, decide_true, Bool.not_true, Bool.false_eq_true, if_false, oc_nil]
    exact ⟨sb.trans s5, _, rfl⟩
  rintro σ h5 ⟨sb, v2, rfl⟩
  refine ⟨by have := wkL_fin (sb _ _ e4); rwa [List.length_map] at this, ?_⟩
  clear sb e3
  -- bad texts
  have tw : ∀ g, qTwice (.str [97, 32, 49, 32, 49, 32, 48, 32, 49, 10]) g = .ok (.str ([97, 32, 49, 32, 49, 32, 48, 32, 49, 10] ++ [97, 32, 49, 32, 49, 32, 48, 32, 49, 10])) g := fun _ => rfl
  simp -implicitDefEqProofs only [rt_e1, rt_eC, tw, rt_ok, List.set_cons_succ, List.set_cons_zero]
  refine ⟨by decide, ?_⟩
  generalize hx : ([97, 32, 49, 50, 32, 49, 32, 48, 32, 49, 10, 98, 32, 49, 50, 32, 49, 32, 48, 32, 49, 10, 99, 32, 49, 50, 32, 49, 32, 48, 32, 49, 10, 100, 32, 50, 32, 49, 32, 48, 32, 49, 10] : List Nat) = x1
  generalize hy : ([97, 32, 49, 32, 49, 32, 48, 32, 49, 10] ++ [97, 32, 49, 32, 49, 32, 48, 32, 49, 10] : List Nat) = x2
  have e6 := MH.push_same h5 (.lst [MV.str x1, MV.str x2])
  generalize h5.push (.lst [MV.str x1, MV.str x2]) = h6 at e6
  generalize h5.n = f at e6
  rw [oc_drop]
  refine append_rtE (f := f) (xs := [MV.str x1, MV.str x2]) rfl e6 (by simp) ?_
  simp -implicitDefEqProofs only [rt_aCons, rt_aNil]
  refine rt_eSm (s := []) ?_
  simp -implicitDefEqProofs only [rt_eC]
  refine ⟨trivial, ?_⟩
  refine five_rt (by decide) fun h7 o7 q7 e7 => ?_
  refine join_rt e7 (by decide) ?_
  refine ⟨_, rfl, q7 _ _ e6, ?_⟩
  have e8 : (h7.set f (.lst ([MV.str x1, MV.str x2] ++ [MV.str (joinC [] ([97, 98, 99, 100, 101].map fun c => [c] ++ [32, 49, 32, 49, 32, 48, 32, 49, 10]))]))).get f = some (.lst (someL.map MV.str)) := by
    rw [MH.set_same (q7 _ _ e6), ← hx, ← hy]; rfl
  generalize h7.set f (.lst ([MV.str x1, MV.str x2] ++ [MV.str (joinC [] ([97, 98, 99, 100, 101].map fun c => [c] ++ [32, 49, 32, 49, 32, 48, 32, 49, 10]))])) = h8 at e8
  rw [oc_for]
  simp -implicitDefEqProofs only [rt_wSeq, rt_eV, List.getElem?_cons_succ, List.getElem?_cons_zero]
  refine ⟨f, _, rfl, e8, ?_⟩
  rw [List.length_map]
  refine for_inv (w := wkL f someL.length) (fun i σ h' => Sub h8 h' ∧ ∃ v2, σ = [v, some (.ref m), v2, some (.ref f), none, none, none]) ⟨.refl, _, rfl⟩ ?_ ?_
  · rintro i σ h' hi ⟨sb, v2, rfl⟩
    have ex : someL[i]? = some (someL[i]'hi) := List.getElem?_eq_getElem hi
    refine ⟨_, _, wkL_at (sb _ _ e8) (by rw [List.getElem?_map, ex]; rfl), rfl, ?_⟩
    rw [oc_if]
    simp -implicitDefEqProofs only [rt_cB, rt_e2, rt_e1, rt_eA, rt_aCons, rt_aNil, rt_eV, rt_eC, List.set_cons_succ, List.set_cons_zero, List.getElem?_cons_succ, List.getElem?_cons_zero]
    refine (chk_rt (List.all_eq_true.mp some_ok _ (List.getElem_mem hi))).imp ?_
    rintro w h9 ⟨rfl, s9⟩
    simp -implicitDefEqProofs only [neg_int, ne_int, rt_ok, decide_true, Bool.not_true, Bool.false_eq_true, if_false, oc_nil]
    exact ⟨sb.trans s9, _, rfl⟩
  rintro σ h9 ⟨sb, v2', rfl⟩
  refine ⟨by have := wkL_fin (sb _ _ e8); rwa [List.length_map] at this, ?_⟩
  clear sb e8 e7 e6 e4 q7 hx hy
  -- the rows
  simp -implicitDefEqProofs only [rt_qTup, List.set_cons_succ, List.set_cons_zero, List.getElem?_cons_succ, List.getElem?_cons_zero]
  refine ⟨by decide, by decide, by decide, by decide, by decide, by decide, by decide, by decide, ?_⟩
  refine addOdd (MH.push_same h9 _) (by decide) fun h10 g _ e10 => ?_
  have e10 : h10.get g = some (.lst (rowsL.map fun t => MV.tup [.str t.1, .int t.2])) := e10
  rw [oc_for]
  simp -implicitDefEqProofs only [rt_wSeq, rt_eV, List.getElem?_cons_succ, List.getElem?_cons_zero]
  refine ⟨g, _, rfl, e10, ?_⟩
  rw [List.length_map]
  refine for_inv (w := wkL g rowsL.length) (fun i σ h' => Sub h10 h' ∧ ∃ v2 v5, σ = [v, some (.ref m), v2, some (.ref f), some (.ref g), v5, none]) ⟨.refl, _, _, rfl⟩ ?_ ?_
  · rintro i σ h' hi ⟨sb, v2, v5, rfl⟩
    have ex : rowsL[i]? = some (rowsL[i]'hi) := List.getElem?_eq_getElem hi
    refine ⟨_, _, wkL_at (sb _ _ e10) (by rw [List.getElem?_map, ex]; rfl), rfl, ?_⟩
    rw [oc_if]
    simp -implicitDefEqProofs only [rt_cB, rt_e2, rt_e1, rt_eA, rt_aCons, rt_aNil, rt_eV, rt_eC, List.set_cons_succ, List.set_cons_zero, List.getElem?_cons_succ, List.getElem?_cons_zero]
    refine (chk_rt (List.all_eq_true.mp rows_ok _ (List.getElem_mem hi))).imp ?_
    rintro w h11 ⟨rfl, s11⟩
    simp -implicitDefEqProofs only [ne_int, rt_ok, decide_true, Bool.not_true, Bool.false_eq_true, if_false, oc_nil]
    exact ⟨sb.trans s11, _, _, rfl⟩
  rintro σ h11 ⟨sb, v2'', v5, rfl⟩
  refine ⟨by have := wkL_fin (sb _ _ e10); rwa [List.length_map] at this, ?_⟩
  simp -implicitDefEqProofs only [oc_ret, rt_eC]
theorem law_true (ns : List Int) (hl : ns.length ≤ 63) : ∃ h', m_law [.flst (ns.map MV.int)] MH.empty = .ok (.bl true) h' := by
  have z : Rt (m_law_14 [.flst (ns.map MV.int)] MH.empty) fun v _ => v = .bl true := by
    unfold m_law_14
    have mn : ∀ h', qMin2 [.int 24, .int (ns.map MV.int).length] h' = .ok (.int (if ((ns.map MV.int).length : Int) < 24 then ((ns.map MV.int).length : Int) else 24)) h' := fun h' => by
      show qMin2' (.int 24) (.int (ns.map MV.int).length) h' = _
      unfold qMin2'
      rw [List.length_map]
      by_cases c : (ns.length : Int) < 24
      · dsimp only; rw [if_pos c, decide_eq_true c]
      · dsimp only; rw [if_neg c, decide_eq_false c]
    have mx : ∀ (k : Int) h', qMax2 [.int 1, .int k] h' = .ok (.int (if 1 < k then k else 1)) h' := fun k h' => by
      show qMax2' (.int 1) (.int k) h' = _
      unfold qMax2'
      by_cases c : 1 < k
      · dsimp only; rw [if_pos c, decide_eq_true c]
      · dsimp only; rw [if_neg c, decide_eq_false c]
    simp only [rt_fn, oc_seq, oc_for, rt_wRng3, rt_eC, rt_eA, rt_aCons, rt_aNil, rt_eV, List.map_cons, List.map_nil, List.cons_append, List.nil_append, List.getElem?_cons_zero, len_flst, rt_ok, mn, mx]
    refine ⟨_, _, _, rfl, rfl, rfl, rfl, ?_, by decide, by decide, ?_⟩
    · refine rgOk_of ?_ ?_ <;> (split <;> split <;> omega)
    generalize stepN 0 _ 3 = N
    refine for_inv (w := wkC 0 3 N) (fun i σ h' => ∃ v, σ = [some (.flst (ns.map MV.int)), v]) ⟨_, rfl⟩ ?_ ?_
    · rintro i σ h' hi ⟨v, rfl⟩
      refine ⟨.int (0 + (i : Nat) * 3), _, rfl, rfl, ?_⟩
      simp [-isN_eq]
      refine (one_rt (h := h'.push _) (s := h'.n) ⟨_, 0, ?_, Int.le_refl _, MH.push_same _ _⟩).imp ?_
      · omega
      · rintro v h2 ⟨rfl, _, _⟩
        simp
    · rintro σ h' ⟨v, rfl⟩
      refine ⟨rfl, ?_⟩
      simp only [oc_ret, rt_eA, rt_aNil]
      exact fixed_rt
  obtain ⟨v, h', e1, e2⟩ := z.inv
  rw [e2] at e1
  exact ⟨h', e1⟩
end
end L13
end KA
set_option autoImplicit true
set_option maxHeartbeats 200000
set_option maxRecDepth 512
set_option Elab.async false
set_option linter.all false
set_option maxRecDepth 100000
set_option maxHeartbeats 0
/-! H13: the head and the end (printed by gen.py). -/
namespace KA
namespace L13
open PySem PySem.Spec PyProof.Rows L2
abbrev R : PySem.W.OpenRow := PySem.W.OpenLaw.row PySem.Challenge.rw_keepapart_k13_whole_texts
abbrev hk : PySem.W.Hook := hookP 5 fa fnl gtl ex
def ob (s : PySem.W.SharedT) : AlP := obsPG 5 fa fnl gtl ex (HandSHeadRun.getT s)
theorem ob_eq (s : PySem.W.SharedT) : ob s = hk.obs s.abs := obsPG_eq (HandSHeadRun.getT_eq s)
def names : List PySem.Str := (PySem.Challenge.pw_keepapart_k13_whole_texts.main.scope.names.map (·.1)).filter (fun x => x ≠ "law")
theorem run (w : World) : HandSHeadRun.RunEq R (PySem.W.view R.prog [48]) hk ob 8000 names w := by
  intro os
  kernel_rfl
theorem only_frz {K : PySem.W.Frag} {H : Hp} {a : Addr} {xs : List V} (O : Only H) (h : SqL K H a xs) : FrzL K H a xs := by
  rcases h with (h | ⟨o, h⟩) | h
  · rcases O a with z | ⟨o, ys, z⟩
    · rw [z] at h; cases h
    · rw [z] at h; cases h
  · exact .inl ⟨o, h⟩
  · exact .inr h
theorem sp_law {K : PySem.W.Frag} (H : Hp) (a : Addr) (ns : List Int) (hl : ns.length ≤ 63) (O : Only H) (h : SqL K H a (ns.map V.int)) : spM (Gk K) 1 m_law_14 [.ref a] H (fun v _ => v = .bl true) (fun _ _ _ => False) := by
  refine ⟨rfl, [], MH.empty, [.flst (ns.map MV.int)], ⟨rfl, List.nodup_nil, fun i o e => ?_, fun b hb => (by cases hb), fun p hp => (by cases hp), fun b hb => (by cases hb)⟩, .cons ?_ .nil, ?_⟩
  · have := MH.get_lt e
    exact absurd this (Nat.not_lt_zero i)
  · simp only [RV]
    exact ⟨a, _, rfl, only_frz O h, rvs_ints ns⟩
  · obtain ⟨h', e⟩ := law_true ns hl
    have e : m_law_14 [.flst (ns.map MV.int)] MH.empty = .ok (.bl true) h' := e
    rw [e]
    intro m' H' x _ _ r
    simpa only [RV] using r
end L13
end KA
open PySem PySem.W PySem.Calls PyProof.Rows
theorem PySem.Challenge.cw_keepapart_k13_whole_texts_holds : PySem.Challenge.rw_keepapart_k13_whole_texts.Holds := by
  w_on; o_law
  refine HandSHeadRun.head_any (r := OpenLaw.row PySem.Challenge.rw_keepapart_k13_whole_texts) (q := view (OpenLaw.row PySem.Challenge.rw_keepapart_k13_whole_texts).prog [48]) (H := KA.L13.hk) (ob := KA.L13.ob) (M := 8000) (loose := KA.L13.names) (d := HandSHeadRun.topDef (OpenLaw.row PySem.Challenge.rw_keepapart_k13_whole_texts).prog 48) (kwd := []) KA.L13.ob_eq
    (by kernel_rfl) (fun s => by kernel_rfl) KA.L13.run (by kernel_rfl) (by kernel_rfl) (by kernel_rfl) (by rfl) (by first | assumption | decide +kernel) (by decide +kernel) ⟨rfl, rfl, rfl, rfl, rfl, by decide +kernel⟩ ?hw ?hc
  case hw => w_witness2
  case hc =>
    refine L2.walk_ofE (l := PySem.Challenge.rw_keepapart_k13_whole_texts) (n := 63) (k := 9) (x := "_law_script") (CX := L2.CX0) rfl (by decide) (by kernel_rfl) ⟨rfl, by decide, by decide⟩ ?F (fun _ _ _ _ z => z)
    intro w mg fa h Y Gm hmg0
    obtain ⟨K, KX, c, ce, cv⟩ := Y
    obtain ⟨ce1, ce2⟩ := He.ba ce
    have hmg : mg ("law" : PySem.Str) = some (.ref fa) := by
      have e : (HandSHeadRun.topDef (OpenLaw.row PySem.Challenge.rw_keepapart_k13_whole_texts).prog 48).name = ("law" : PySem.Str) := by kernel_rfl
      rw [← e]
      exact hmg0
    have enP : KA.EnvP KA.L13.fa KA.L13.fnl KA.L13.gtl KA.L13.ex K mg := ⟨⟨c, ce1, h, KX, Gm⟩, ce2, cv⟩
    have hg : mg ("law" : PySem.Str) = some (.ref (He.ga K "law")) := enP.glo 57 rfl
    have z := hmg.symm.trans hg
    cases z
    obtain ⟨fd, F⟩ := enP.c.def_ (d := KA.L13.D_law) 25 rfl
    have F : L2.FunD _ "law" "law" (L2.defArgs KA.L13.st_law) (L2.defBody KA.L13.st_law) KA.L13.sc_law ((KA.L13.D_law).dvs _) ((KA.L13.D_law).kws _) _ fd := F
    have hb := L2.FunD.bindsA (ps := ["_law_script"]) F fun _ _ _ _ _ _ us hl => match us, hl with | [_], _ => rfl
    exact ⟨K, fd, KA.spM (KA.L13.Gk K) 1 KA.m_law_14, KX, fun s u => hb s [u] rfl, fun H a ns hl O hS => KA.L13.sp_law H a ns hl O hS, fun base _ _ => KA.L13.r_law ⟨enP, by kernel_rfl, by kernel_rfl⟩ F⟩
