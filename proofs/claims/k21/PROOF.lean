import PyProof.Rows.All
import HandS.ForMost
import KE.KDictKeyed
import HandS.Dict
import KE.DataEq
import HandS.TupLe
import HandS.TupAny
import HandS.TupMul
import HandS.Conv
import HandS.Codes
import HandS.Star
import HandS.OwnEq
import HandS.More
import HandS.Flow
import HandS.Style
import HandS.Iter
import HandS.Walk
import HandS.Comp
import HandS.IsInst
import HandS.TupLen
import KE.KDictDisplayH
import HandS.HeadEnd
import HandS.Defaults
import HandS.DictComp
import HandS.Zip0
import HandS.Zip
import KE.GoesMore
import HandS.SortInts
import KE.KDictLaws
import HandS.HeadHook2
import HandS.Head0
import HandS.Head1
import HandS.Head2
import HandS.HeadHook1
import PySem.Challenge.RW_tallygates_k21_whole_machines
section
set_option linter.all false
/-! Y1: a small language of combinators for Python's defs, as total functions over plain values and a store. -/
namespace Y
open PySem (Str)
inductive PV where
  | non | bl (b : Bool) | int (i : Int) | str (s : Str) | tup (xs : List PV) | ref (a : Nat)
  | fn (i : Nat) | cls (i : Nat) | ty (i : Nat)
  | clo (f a : Nat) | exc (c a : Nat) | rng (a b : Int)
  /-- a list that is only read (the script) -/
  | cl (xs : List PV)
  deriving Inhabited
inductive Cell where
  | lst (v : Nat) (xs : List PV) | dct (v : Nat) (kvs : List (PV × PV)) | ins (c : Nat) (fs : List (Nat × PV))
  deriving Inhabited
inductive Tr where
  | nil | node (c : Option Cell) (l r : Tr)
def Tr.get : Tr → Nat → Option Cell
  | .nil, _ => none
  | .node c l r, k => match k with
    | 0 => c
    | k + 1 => match k % 2 with
      | 0 => l.get (k / 2)
      | _ => r.get (k / 2)
def Tr.set : Nat → Tr → Nat → Cell → Tr
  | 0, t, _, _ => t
  | f + 1, .nil, k, v => (match k with
    | 0 => .node (some v) .nil .nil
    | k + 1 => (match k % 2 with
      | 0 => .node none (Tr.set f .nil (k / 2) v) .nil
      | _ => .node none .nil (Tr.set f .nil (k / 2) v)))
  | f + 1, .node c l r, k, v => (match k with
    | 0 => .node (some v) l r
    | k + 1 => (match k % 2 with
      | 0 => .node c (Tr.set f l (k / 2) v) r
      | _ => .node c l (Tr.set f r (k / 2) v)))
structure St where
  n : Nat
  t : Tr
def St.get (s : St) (a : Nat) : Option Cell := s.t.get a
def St.set (s : St) (a : Nat) (c : Cell) : St := ⟨s.n, Tr.set (a + 1) s.t a c⟩
def St.new (s : St) (c : Cell) : St := ⟨s.n + 1, Tr.set (s.n + 1) s.t s.n c⟩
inductive R (α : Type) where
  | ok (a : α) (st : St) | exc (c a : Nat) (st : St) | stuck (why : Nat)
@[inline] def R.bind {α β : Type} : R α → (α → St → R β) → R β
  | .ok a st, k => k a st
  | .exc c a st, _ => .exc c a st
  | .stuck w, _ => .stuck w
abbrev Fr := List (Option PV)
inductive Bop where | add | sub | mul | fdiv | mod | pow
inductive Cop where | eq | ne | lt | le | gt | ge | in_ | notIn | is_ | isNot
abbrev Ev := PV → List PV → St → R PV
abbrev X := Ev → Fr → St → R PV
abbrev XA := Ev → Fr → St → R (List PV)
/-- what is walked: its items, and the lists and dicts that must stand still -/
abbrev Gd := List (Nat × Nat)
abbrev XI := Ev → Fr → St → R (List PV × Gd)
abbrev XO := Ev → Fr → St → R (Option PV)
abbrev XT := PV → Ev → Fr → St → R Fr
inductive RS where
  | next (fr : Fr) (st : St) | ret (v : PV) (st : St) | exc (c a : Nat) (fr : Fr) (st : St) | stuck (why : Nat)
abbrev XS := Ev → Fr → St → RS
structure FD where
  np : Nat
  va : Bool
  ns : Nat
  body : XS
structure CD where
  base : Option Nat
  exc : Bool
  ms : List (Nat × Nat)
structure Pg where
  fns : Nat → Option FD
  cls : Nat → Option CD
/-! lists -/
def lim : Nat := 16777216
def setNth {α : Type} : List α → Nat → α → List α
  | [], _, _ => []
  | _ :: r, 0, v => v :: r
  | x :: r, n + 1, v => x :: setNth r n v
def nth {α : Type} : List α → Nat → Option α
  | [], _ => none
  | x :: _, 0 => some x
  | _ :: r, n + 1 => nth r n
def len {α : Type} : List α → Nat
  | [] => 0
  | _ :: r => len r + 1
def okLen {α : Type} (xs : List α) : Bool := Nat.ble (len xs) lim
def look {α : Type} : List (Nat × α) → Nat → Option α
  | [], _ => none
  | (k, v) :: r, f => if Nat.beq k f then some v else look r f
def putF {α : Type} : List (Nat × α) → Nat → α → List (Nat × α)
  | [], f, v => [(f, v)]
  | (k, x) :: r, f, v => if Nat.beq k f then (k, v) :: r else (k, x) :: putF r f v
def takeN {α : Type} : Nat → List α → List α
  | 0, _ => [] | _ + 1, [] => [] | n+1, x :: r => x :: takeN n r
def dropN {α : Type} : Nat → List α → List α
  | 0, xs => xs | _ + 1, [] => [] | n+1, _ :: r => dropN n r
def repL {α : Type} : Nat → List α → List α
  | 0, _ => []
  | n + 1, xs => xs ++ repL n xs
/-! equality of plain data -/
def all2 (f : PV → PV → Option Bool) : List PV → List PV → Option Bool
  | [], [] => some true
  | x :: xs, y :: ys => match f x y with
    | some true => all2 f xs ys
    | some false => some false
    | none => none
  | _, _ => some false
def b2i (b : Bool) : Int := if b then 1 else 0
def natsEq : List Nat → List Nat → Bool
  | [], [] => true
  | x :: xs, y :: ys => if Nat.beq x y then natsEq xs ys else false
  | _, _ => false
def strEq (x y : Str) : Bool := natsEq x.cps.toList y.cps.toList
def intEq : Int → Int → Bool
  | .ofNat a, .ofNat b => Nat.beq a b
  | .negSucc a, .negSucc b => Nat.beq a b
  | _, _ => false
def natLt (a b : Nat) : Bool := Nat.ble (a+1) b
def intLt : Int → Int → Bool
  | .ofNat a, .ofNat b => natLt a b
  | .negSucc a, .negSucc b => natLt b a
  | .negSucc _, .ofNat _ => true
  | .ofNat _, .negSucc _ => false
def natsLt : List Nat → List Nat → Bool
  | [], _ :: _ => true
  | _, [] => false
  | x :: xs, y :: ys => if Nat.beq x y then natsLt xs ys else natLt x y
def strLt (x y : Str) : Bool := natsLt x.cps.toList y.cps.toList
def plainV : PV → Bool
  | .non => true | .bl _ => true | .int _ => true | .str _ => true | .tup _ => true | _ => false
def deqI (x : Int) (b : PV) : Option Bool := match b with
  | .int y => some (intEq x y)
  | .bl y => some (intEq x (b2i y))
  | v => if plainV v then some false else none
def deqS (x : Str) (b : PV) : Option Bool := match b with
  | .str y => some (strEq x y)
  | v => if plainV v then some false else none
def deqN (b : PV) : Option Bool := match b with
  | .non => some true
  | v => if plainV v then some false else none
def deqT (f : PV → PV → Option Bool) (x : List PV) (b : PV) : Option Bool := match b with
  | .tup y => all2 f x y
  | v => if plainV v then some false else none
/-- ==, of plain data alone -/
def deq : Nat → PV → PV → Option Bool
  | 0 => fun _ _ => none
  | n + 1 => fun a b => match a with
    | .int x => deqI x b
    | .tup x => deqT (deq n) x b
    | .str x => deqS x b
    | .bl x => deqI (b2i x) b
    | .non => deqN b
    | _ => none
abbrev D := 8
def allV (f : PV → Bool) : List PV → Bool
  | [] => true
  | x :: xs => if f x then allV f xs else false
/-- plain data of a depth -/
def isKey : Nat → PV → Bool
  | 0 => fun _ => false
  | n + 1 => fun a => match a with
    | .non => true | .bl _ => true | .int _ => true | .str _ => true
    | .tup xs => allV (isKey n) xs
    | _ => false
def dget : List (PV × PV) → PV → Option (Option PV)
  | [], _ => some none
  | (k, v) :: r, x => match deq D k x with
    | some true => some (some v)
    | some false => dget r x
    | none => none
def dput : List (PV × PV) → PV → PV → Option (List (PV × PV))
  | [], x, v => some [(x, v)]
  | (k, w) :: r, x, v => match deq D k x with
    | some true => some ((k, v) :: r)
    | some false => (match dput r x v with | some r' => some ((k, w) :: r') | none => none)
    | none => none
def ddel : List (PV × PV) → PV → List (PV × PV)
  | [], _ => []
  | (k, w) :: r, x => match deq D k x with
    | some true => r
    | _ => (k, w) :: ddel r x
def lexLt (eq lt : PV → PV → Option Bool) : List PV → List PV → Option Bool
  | [], _ :: _ => some true
  | _, [] => some false
  | x :: xs, y :: ys => match eq x y with
    | some true => lexLt eq lt xs ys
    | some false => lt x y
    | none => none
def dltI (x : Int) (b : PV) : Option Bool := match b with
  | .int y => some (intLt x y)
  | _ => none
def dltS (x : Str) (b : PV) : Option Bool := match b with | .str y => some (strLt x y) | _ => none
def dltT (e f : PV → PV → Option Bool) (x : List PV) (b : PV) : Option Bool := match b with | .tup y => lexLt e f x y | _ => none
/-- <, of plain data of one kind -/
def dlt : Nat → PV → PV → Option Bool
  | 0 => fun _ _ => none
  | n + 1 => fun a b => match a with
    | .int x => dltI x b
    | .tup x => dltT (deq n) (dlt n) x b
    | .str x => dltS x b
    | _ => none
/-! arithmetic -/
def b64 : Nat := 18446744073709551616
def addV (a b : PV) (st : St) : R PV := match a with
  | .int x => (match b with | .int y => .ok (.int (x + y)) st | _ => .stuck 5)
  | .str x => (match b with | .str y => if Nat.ble (x.cps.size + y.cps.size) lim then .ok (.str (x ++ y)) st else .stuck 5 | _ => .stuck 5)
  | .tup x => (match b with | .tup y => if okLen (x ++ y) then .ok (.tup (x ++ y)) st else .stuck 5 | _ => .stuck 5)
  | .ref x => (match b with
    | .ref y => (match st.get x, st.get y with
      | some (.lst _ xs), some (.lst _ ys) => if okLen (xs ++ ys) then .ok (.ref st.n) (st.new (.lst 0 (xs ++ ys))) else .stuck 3
      | _, _ => .stuck 3)
    | _ => .stuck 5)
  | _ => .stuck 5
def subV (a b : PV) (st : St) : R PV := match a with
  | .int x => (match b with | .int y => .ok (.int (x - y)) st | _ => .stuck 6)
  | _ => .stuck 6
def mulV (a b : PV) (st : St) : R PV := match a with
  | .int x => (match b with | .int y => if natLt x.natAbs b64 || natLt y.natAbs b64 then .ok (.int (x * y)) st else .stuck 7 | _ => .stuck 7)
  | .tup x => (match b with | .int n => if intEq n 1 then .ok (.tup x) st else if intLt 1 n && (intLt n 1001 && (Nat.ble 1 (len x) && Nat.ble (len x) 1000)) then .ok (.tup (repL n.toNat x)) st else .stuck 7 | _ => .stuck 7)
  | .ref x => (match b with
    | .int n => (match st.get x with
      | some (.lst _ xs) => if natLt n.natAbs lim && Nat.ble (len xs * n.toNat) lim then .ok (.ref st.n) (st.new (.lst 0 (repL n.toNat xs))) else .stuck 7
      | _ => .stuck 7)
    | _ => .stuck 7)
  | _ => .stuck 7
def fdivV (a b : PV) (st : St) : R PV := match a with
  | .int x => (match b with | .int y => if intEq y 0 then .stuck 8 else if natLt y.natAbs 1073741824 then .ok (.int (Int.fdiv x y)) st else .stuck 8 | _ => .stuck 8)
  | _ => .stuck 8
def modV (a b : PV) (st : St) : R PV := match a with
  | .int x => (match b with | .int y => if intEq y 0 then .stuck 9 else .ok (.int (Int.fmod x y)) st | _ => .stuck 9)
  | _ => .stuck 9
def powV (a b : PV) (st : St) : R PV := match a with
  | .int x => (match b with | .int y => (match y with | .ofNat n => if natLt x.natAbs b64 && Nat.ble n 1000000 then .ok (.int (x ^ n)) st else .stuck 10 | _ => .stuck 10) | _ => .stuck 10)
  | _ => .stuck 10
def bopV (o : Bop) (a b : PV) (st : St) : R PV := match o with
  | .add => addV a b st
  | .sub => subV a b st
  | .mul => mulV a b st
  | .fdiv => fdivV a b st
  | .mod => modV a b st
  | .pow => powV a b st
end Y
end
section
set_option linter.all false
set_option maxRecDepth 100000
/-! Y2: how values, stores and frames lie in the model's abstract heap. -/
namespace Y
open PySem L2
/-! ### the store's laws -/
theorem Tr.get_set : ∀ (f : Nat) (t : Tr) (k j : Nat) (v : Cell), k < f → (Tr.set f t k v).get j = if j = k then some v else t.get j
  | 0, t, k, j, v, h => absurd h (Nat.not_lt_zero _)
  | f + 1, .nil, 0, j, v, h => by
    cases j with
    | zero => rfl
    | succ j =>
      have e : ¬ (j + 1 = 0) := by omega
      rw [if_neg e]
      show (match j % 2 with | 0 => Tr.get .nil (j / 2) | _ => Tr.get .nil (j / 2)) = none
      split <;> rfl
  | f + 1, .nil, k + 1, j, v, h => by
    have hk : k / 2 < f := by omega
    have ih := Tr.get_set f .nil (k / 2)
    cases j with
    | zero =>
      rw [if_neg (by omega)]
      show Tr.get (match k % 2 with | 0 => _ | _ => _) 0 = none
      split <;> rfl
    | succ j =>
      show Tr.get (match k % 2 with | 0 => _ | _ => _) (j + 1) = _
      by_cases e : k % 2 = 0
      · rw [e]
        show (match j % 2 with | 0 => _ | _ => _) = _
        by_cases e2 : j % 2 = 0
        · rw [e2]
          show (Tr.set f .nil (k / 2) v).get (j / 2) = _
          rw [ih _ _ hk]
          by_cases q : j + 1 = k + 1
          · rw [if_pos q, if_pos (by omega)]
          · rw [if_neg q, if_neg (by omega)]; rfl
        · rw [if_neg (by omega)]
          split
          · omega
          · rfl
      · have e' : k % 2 = 1 := by omega
        rw [e']
        show (match j % 2 with | 0 => _ | _ => _) = _
        by_cases e2 : j % 2 = 0
        · rw [e2, if_neg (by omega)]; rfl
        · have e2' : j % 2 = 1 := by omega
          rw [e2']
          show (Tr.set f .nil (k / 2) v).get (j / 2) = _
          rw [ih _ _ hk]
          by_cases q : j + 1 = k + 1
          · rw [if_pos q, if_pos (by omega)]
          · rw [if_neg q, if_neg (by omega)]; rfl
  | f + 1, .node c l r, 0, j, v, h => by
    cases j with
    | zero => rfl
    | succ j => rw [if_neg (by omega)]; rfl
  | f + 1, .node c l r, k + 1, j, v, h => by
    have hk : k / 2 < f := by omega
    have ihl := Tr.get_set f l (k / 2)
    have ihr := Tr.get_set f r (k / 2)
    cases j with
    | zero =>
      rw [if_neg (by omega)]
      show Tr.get (match k % 2 with | 0 => _ | _ => _) 0 = _
      split <;> rfl
    | succ j =>
      show Tr.get (match k % 2 with | 0 => _ | _ => _) (j + 1) = _
      by_cases e : k % 2 = 0
      · rw [e]
        show (match j % 2 with | 0 => _ | _ => _) = _
        by_cases e2 : j % 2 = 0
        · rw [e2]
          show (Tr.set f l (k / 2) v).get (j / 2) = _
          rw [ihl _ _ hk]
          by_cases q : j + 1 = k + 1
          · rw [if_pos q, if_pos (by omega)]
          · rw [if_neg q, if_neg (by omega)]
            show _ = (match j % 2 with | 0 => _ | _ => _)
            rw [e2]
            rfl
        · have e2' : j % 2 = 1 := by omega
          rw [if_neg (by omega)]
          show _ = (match j % 2 with | 0 => _ | _ => _)
          rw [e2']
          rfl
      · have e' : k % 2 = 1 := by omega
        rw [e']
        show (match j % 2 with | 0 => _ | _ => _) = _
        by_cases e2 : j % 2 = 0
        · rw [e2, if_neg (by omega)]
          show _ = (match j % 2 with | 0 => _ | _ => _)
          rw [e2]
          rfl
        · have e2' : j % 2 = 1 := by omega
          rw [e2']
          show (Tr.set f r (k / 2) v).get (j / 2) = _
          rw [ihr _ _ hk]
          by_cases q : j + 1 = k + 1
          · rw [if_pos q, if_pos (by omega)]
          · rw [if_neg q, if_neg (by omega)]
            show _ = (match j % 2 with | 0 => _ | _ => _)
            rw [e2']
            rfl
theorem St.get_set (s : St) (a b : Nat) (c : Cell) : (s.set a c).get b = if b = a then some c else s.get b := Tr.get_set _ _ _ _ _ (Nat.lt_succ_self _)
theorem St.get_new (s : St) (b : Nat) (c : Cell) : (s.new c).get b = if b = s.n then some c else s.get b := Tr.get_set _ _ _ _ _ (Nat.lt_succ_self _)
theorem St.n_set (s : St) (a : Nat) (c : Cell) : (s.set a c).n = s.n := rfl
theorem St.n_new (s : St) (c : Cell) : (s.new c).n = s.n + 1 := rfl
/-! ### the law's own table -/
structure Tb where
  fa : Nat → Addr
  ca : Nat → Addr
  nm : Nat → Str
  inj : ∀ i j, nm i = nm j → i = j
  P : Program
  w : World
def tyName : Nat → String
  | 0 => "int" | 1 => "bool" | 2 => "str" | 3 => "list" | 4 => "tuple" | _ => "dict"
/-- a list that is only read -/
def SqC (K : PySem.W.Frag) (H : Hp) (p : Addr) (vs : List V) : Prop := (∃ o, H p = some (.frz o (.lst vs))) ∨ (SqL K (fun _ => none) p vs)
theorem SqC.sq {K : PySem.W.Frag} {H : Hp} {p : Addr} {vs : List V} (h : SqC K H p vs) : SqL K H p vs := by
  rcases h with ⟨o, h⟩ | h
  · exact .inl (.inr ⟨o, h⟩)
  · rcases h with (h | ⟨_, h⟩) | h
    · cases h
    · cases h
    · exact .inr h
mutual
inductive Rep (T : Tb) (K : PySem.W.Frag) (ρ : Nat → Addr) (n : Nat) (H : Hp) : PV → V → Prop
  | non : Rep T K ρ n H .non .non
  | bl (b : Bool) : Rep T K ρ n H (.bl b) (.bl b)
  | int (i : Int) : Rep T K ρ n H (.int i) (.int i)
  | str (s : Str) : Rep T K ρ n H (.str s) (.str s)
  | tup {xs : List PV} {p : Addr} {vs : List V} (h : SqT K H p vs) (r : Reps T K ρ n H xs vs) : Rep T K ρ n H (.tup xs) (.ref p)
  | ref {a : Nat} (h : a < n) : Rep T K ρ n H (.ref a) (.ref (ρ a))
  | fn (i : Nat) : Rep T K ρ n H (.fn i) (.ref (T.fa i))
  | cls (i : Nat) : Rep T K ρ n H (.cls i) (.ref (T.ca i))
  | ty (i : Nat) : Rep T K ρ n H (.ty i) (.ty (tyName i))
  | rng {a b : Int} {p : Addr} (h : H p = some (.rng a b)) : Rep T K ρ n H (.rng a b) (.ref p)
  | cl {xs : List PV} {p : Addr} {vs : List V} (h : SqC K H p vs) (r : Reps T K ρ n H xs vs) : Rep T K ρ n H (.cl xs) (.ref p)
inductive Reps (T : Tb) (K : PySem.W.Frag) (ρ : Nat → Addr) (n : Nat) (H : Hp) : List PV → List V → Prop
  | nil : Reps T K ρ n H [] []
  | cons {v : PV} {V : V} {vs : List PV} {Vs : List L2.V} (h : Rep T K ρ n H v V) (t : Reps T K ρ n H vs Vs) : Reps T K ρ n H (v :: vs) (V :: Vs)
end
/-- what a Rep leans on stays -/
structure Stay (K : PySem.W.Frag) (ρ : Nat → Addr) (n : Nat) (H : Hp) (ρ' : Nat → Addr) (n' : Nat) (H' : Hp) : Prop where
  le : n ≤ n'
  rho : ∀ a, a < n → ρ' a = ρ a
  tup : ∀ p xs, SqT K H p xs → SqT K H' p xs
  rng : ∀ p a b, H p = some (.rng a b) → H' p = some (.rng a b)
  cl : ∀ p vs, SqC K H p vs → SqC K H' p vs
section
variable {T : Tb} {K : PySem.W.Frag} {ρ ρ' ρ2 : Nat → Addr} {n n' n2 : Nat} {H H' H2 : Hp}
theorem Stay.refl : Stay K ρ n H ρ n H := ⟨Nat.le_refl _, fun _ _ => rfl, fun _ _ h => h, fun _ _ _ h => h, fun _ _ h => h⟩
theorem Stay.trans (a : Stay K ρ n H ρ' n' H') (b : Stay K ρ' n' H' ρ2 n2 H2) : Stay K ρ n H ρ2 n2 H2 :=
  ⟨Nat.le_trans a.le b.le, fun x h => (b.rho x (Nat.lt_of_lt_of_le h a.le)).trans (a.rho x h), fun p xs h => b.tup p xs (a.tup p xs h), fun p x y h => b.rng p x y (a.rng p x y h), fun p v h => b.cl p v (a.cl p v h)⟩
mutual
theorem Rep.stay (s : Stay K ρ n H ρ' n' H') : ∀ {v : PV} {V : L2.V}, Rep T K ρ n H v V → Rep T K ρ' n' H' v V
  | _, _, .non => .non
  | _, _, .bl b => .bl b
  | _, _, .int i => .int i
  | _, _, .str i => .str i
  | _, _, .tup h r => .tup (s.tup _ _ h) (Reps.stay s r)
  | _, _, .ref h => by rw [← s.rho _ h]; exact .ref (Nat.lt_of_lt_of_le h s.le)
  | _, _, .fn i => .fn i
  | _, _, .cls i => .cls i
  | _, _, .ty i => .ty i
  | _, _, .rng h => .rng (s.rng _ _ _ h)
  | _, _, .cl h r => .cl (s.cl _ _ h) (Reps.stay s r)
theorem Reps.stay (s : Stay K ρ n H ρ' n' H') : ∀ {vs : List PV} {Vs : List L2.V}, Reps T K ρ n H vs Vs → Reps T K ρ' n' H' vs Vs
  | _, _, .nil => .nil
  | _, _, .cons h t => .cons (Rep.stay s h) (Reps.stay s t)
end
theorem Reps.length : ∀ {vs : List PV} {Vs : List L2.V}, Reps T K ρ n H vs Vs → vs.length = Vs.length
  | _, _, .nil => rfl
  | _, _, .cons _ t => by rw [List.length_cons, List.length_cons, Reps.length t]
theorem len_eq {α : Type} : ∀ xs : List α, len xs = xs.length
  | [] => rfl
  | _ :: r => by rw [len, len_eq r]; rfl
theorem nth_eq {α : Type} : ∀ (xs : List α) (i : Nat), nth xs i = xs[i]?
  | [], i => by simp [nth]
  | x :: r, 0 => rfl
  | x :: r, i + 1 => by rw [nth, nth_eq r i]; rfl
theorem setNth_eq {α : Type} : ∀ (xs : List α) (i : Nat) (v : α), setNth xs i v = xs.set i v
  | [], i, v => by cases i <;> rfl
  | x :: r, 0, v => rfl
  | x :: r, i + 1, v => by rw [setNth, setNth_eq r i v]; rfl
theorem okLen_iff {α : Type} {xs : List α} : okLen xs = true ↔ xs.length ≤ sizeLine := by
  unfold okLen lim
  rw [Nat.ble_eq, len_eq]
  exact Iff.rfl
theorem Reps.get : ∀ {vs : List PV} {Vs : List L2.V} {i : Nat} {v : PV}, Reps T K ρ n H vs Vs → vs[i]? = some v → ∃ V, Vs[i]? = some V ∧ Rep T K ρ n H v V
  | _, _, i, _, .nil, e => by simp at e
  | _, _, 0, _, .cons h _, e => by simp at e; subst e; exact ⟨_, rfl, h⟩
  | _, _, i + 1, v, .cons _ t, e => by
    obtain ⟨V, a, b⟩ := Reps.get (i := i) (v := v) t (by simpa using e)
    exact ⟨V, by simpa using a, b⟩
theorem Reps.append : ∀ {vs ws : List PV} {Vs Ws : List L2.V}, Reps T K ρ n H vs Vs → Reps T K ρ n H ws Ws → Reps T K ρ n H (vs ++ ws) (Vs ++ Ws)
  | _, _, _, _, .nil, s => s
  | _, _, _, _, .cons h t, s => .cons h (Reps.append t s)
/-! ### a store's cells -/
inductive FsRep (T : Tb) (K : PySem.W.Frag) (ρ : Nat → Addr) (n : Nat) (H : Hp) : List (Nat × PV) → List (Str × V) → Prop
  | nil : FsRep T K ρ n H [] []
  | cons {f : Nat} {v : PV} {V : V} {fs : List (Nat × PV)} {gs : List (Str × L2.V)} (h : Rep T K ρ n H v V) (t : FsRep T K ρ n H fs gs) : FsRep T K ρ n H ((f, v) :: fs) ((T.nm f, V) :: gs)
theorem FsRep.stay (s : Stay K ρ n H ρ' n' H') : ∀ {fs : List (Nat × PV)} {gs : List (Str × L2.V)}, FsRep T K ρ n H fs gs → FsRep T K ρ' n' H' fs gs
  | _, _, .nil => .nil
  | _, _, .cons h t => .cons (h.stay s) (FsRep.stay s t)
/-! ### dicts -/
def keyA (v : PV) : Option Key := match v with
  | .int i => some (.inl i)
  | .str x => some (.inr x)
  | _ => none
def keyNL (f : PV → Option NestedKey) : List PV → Option (List NestedKey)
  | [] => some []
  | x :: xs => match f x with
    | some k => (match keyNL f xs with | some ks => some (k :: ks) | none => none)
    | none => none
def tupN (o : Option (List NestedKey)) : Option NestedKey := match o with
  | some ks => some (.tup ks)
  | none => none
/-- a value as a key -/
def keyN : Nat → PV → Option NestedKey
  | 0 => fun _ => none
  | n + 1 => fun a => match a with
    | .int i => some (.num i)
    | .bl b => some (.num (b2i b))
    | .str x => some (.text x)
    | .non => some .none
    | .tup xs => tupN (keyNL (keyN n) xs)
    | _ => none
def keyB (v : PV) : Option NestedKey := match v with
  | .tup xs => keyN 8 (.tup xs)
  | _ => none
/-- the entries of a dict with plain keys; with tuples as keys -/
inductive EnA (T : Tb) (K : PySem.W.Frag) (ρ : Nat → Addr) (n : Nat) (H : Hp) : List (PV × PV) → List (Key × Value) → Prop
  | nil : EnA T K ρ n H [] []
  | cons {k v : PV} {W : V} {u : Value} {κ : Key} {r : List (PV × PV)} {rs : List (Key × Value)} (hk : keyA k = some κ) (hv : Rep T K ρ n H v W) (hu : RelV W u) (t : EnA T K ρ n H r rs) : EnA T K ρ n H ((k, v) :: r) ((κ, u) :: rs)
inductive EnB (T : Tb) (K : PySem.W.Frag) (ρ : Nat → Addr) (n : Nat) (H : Hp) : List (PV × PV) → List (NestedKey × Addr × Value) → Prop
  | nil : EnB T K ρ n H [] []
  | cons {k v : PV} {W : V} {u : Value} {κ : NestedKey} {b : Addr} {r : List (PV × PV)} {rs : List (NestedKey × Addr × Value)} (hk : keyB k = some κ) (hb : Rep T K ρ n H k (.ref b)) (hv : Rep T K ρ n H v W) (hu : RelV W u) (t : EnB T K ρ n H r rs) : EnB T K ρ n H ((k, v) :: r) ((κ, b, u) :: rs)
theorem EnA.stay (s : Stay K ρ n H ρ' n' H') : ∀ {kvs : List (PV × PV)} {vs : List (Key × Value)}, EnA T K ρ n H kvs vs → EnA T K ρ' n' H' kvs vs
  | _, _, .nil => .nil
  | _, _, .cons hk hv hu t => .cons hk (hv.stay s) hu (EnA.stay s t)
theorem EnB.stay (s : Stay K ρ n H ρ' n' H') : ∀ {kvs : List (PV × PV)} {vs : List (NestedKey × Addr × Value)}, EnB T K ρ n H kvs vs → EnB T K ρ' n' H' kvs vs
  | _, _, .nil => .nil
  | _, _, .cons hk hb hv hu t => .cons hk (hb.stay s) (hv.stay s) hu (EnB.stay s t)
theorem EnA.length : ∀ {kvs : List (PV × PV)} {vs : List (Key × Value)}, EnA T K ρ n H kvs vs → kvs.length = vs.length
  | _, _, .nil => rfl
  | _, _, .cons _ _ _ t => by rw [List.length_cons, List.length_cons, EnA.length t]
theorem EnB.length : ∀ {kvs : List (PV × PV)} {vs : List (NestedKey × Addr × Value)}, EnB T K ρ n H kvs vs → kvs.length = vs.length
  | _, _, .nil => rfl
  | _, _, .cons _ _ _ _ t => by rw [List.length_cons, List.length_cons, EnB.length t]
def RawA (P : Program) (w : World) (o : Obj) (vs : List (Key × Value)) : Prop := ∃ es ep, o.ExactDict ∧ o.data = .dict es ep ∧ KeysOf (mixKind P w) es ∧ Pairs (mixKind P w) es.toList vs ∧ (vs.map (·.1)).Nodup
def RawB (P : Program) (w : World) (o : Obj) (xs : List (NestedKey × Addr × Value)) : Prop := ∃ es ep, o.ExactDict ∧ o.data = .dict es ep ∧ es.toList = xs.map (entryOfKey (nestedKind P w)) ∧ (xs.map (·.1)).Nodup
/-- the object that stands there -/
def theO (p : Addr) (o : Obj) : HO := .ext fun h => h.get? p = some o
/-- a dict -/
def DctAt (T : Tb) (K : PySem.W.Frag) (ρ : Nat → Addr) (n : Nat) (H : Hp) (kvs : List (PV × PV)) (p : Addr) : Prop :=
  ∃ o, H p = some (theO p o) ∧ (p == sysModules) = false ∧ kvs.length ≤ sizeLine ∧
    ((∃ vs, EnA T K ρ n H kvs vs ∧ RawA T.P T.w o vs) ∨ (∃ xs, EnB T K ρ n H kvs xs ∧ RawB T.P T.w o xs))
theorem DctAt.stay (s : Stay K ρ n H ρ' n' H') {kvs : List (PV × PV)} {p : Addr} (hp : H' p = H p) (h : DctAt T K ρ n H kvs p) : DctAt T K ρ' n' H' kvs p := by
  obtain ⟨o, h1, h2, h3, h4⟩ := h
  refine ⟨o, by rw [hp]; exact h1, h2, h3, ?_⟩
  rcases h4 with ⟨vs, e, r⟩ | ⟨vs, e, r⟩
  · exact .inl ⟨vs, e.stay s, r⟩
  · exact .inr ⟨vs, e.stay s, r⟩
def CellRep (T : Tb) (K : PySem.W.Frag) (ρ : Nat → Addr) (n : Nat) (H : Hp) : Cell → Addr → Prop
  | .lst _ xs, p => ∃ vs, H p = some (.lst vs) ∧ Reps T K ρ n H xs vs
  | .ins c fs, p => ∃ dx gs, H p = some (.ins (T.ca c) dx gs) ∧ FsRep T K ρ n H fs gs
  | .dct _ kvs, p => DctAt T K ρ n H kvs p
structure StRep (T : Tb) (K : PySem.W.Frag) (ρ : Nat → Addr) (st : St) (H : Hp) : Prop where
  cell : ∀ a c, st.get a = some c → a < st.n ∧ CellRep T K ρ st.n H c (ρ a)
  full : ∀ a, a < st.n → (st.get a).isSome = true
  inj : ∀ a b, a < st.n → b < st.n → ρ a = ρ b → a = b
/-- a cell that may have been written: not, if its number is the same -/
def verEq : Option Cell → Option Cell → Prop
  | some (.lst v _), some (.lst w _) => v = w
  | some (.dct v _), some (.dct w _) => v = w
  | _, _ => False
def verLe : Option Cell → Option Cell → Prop
  | some (.lst v _), some (.lst w _) => v ≤ w
  | some (.dct v _), some (.dct w _) => v ≤ w
  | some (.ins _ _), some (.ins _ _) => True
  | _, _ => False
/-- what never changes -/
def fixO : HO → Bool
  | .tup _ => true | .frz _ _ => true | .rng _ _ => true | .own _ => true | _ => false
structure Nxt (ρ : Nat → Addr) (st : St) (H : Hp) (ρ' : Nat → Addr) (st' : St) (H' : Hp) : Prop where
  le : st.n ≤ st'.n
  rho : ∀ a, a < st.n → ρ' a = ρ a
  new : ∀ a, st.n ≤ a → a < st'.n → H (ρ' a) = none
  fix : ∀ p o, H p = some o → fixO o = true → H' p = some o
  trk : ∀ p, H' p = none → H p = none
  keep : ∀ p o, H p = some o → (∀ a, a < st.n → p ≠ ρ a) → H' p = some o
  ver : ∀ a, a < st.n → verLe (st.get a) (st'.get a)
  same : ∀ a, a < st.n → verEq (st.get a) (st'.get a) → H' (ρ a) = H (ρ a)
theorem verLe.refl {c : Option Cell} (h : c.isSome = true) : verLe c c := by
  cases c with
  | none => cases h
  | some c => cases c <;> first | exact Nat.le_refl _ | trivial
theorem verLe.trans {a b c : Option Cell} (h : verLe a b) (k : verLe b c) : verLe a c := by
  cases a with
  | none => exact h.elim
  | some a =>
    cases b with
    | none => cases a <;> exact h.elim
    | some b =>
      cases c with
      | none => cases b <;> exact k.elim
      | some c => cases a <;> cases b <;> cases c <;> first | exact Nat.le_trans h k | trivial | exact h.elim | exact k.elim
theorem verEq.mid {a b c : Option Cell} (h : verLe a b) (k : verLe b c) (e : verEq a c) : verEq a b ∧ verEq b c := by
  cases a with
  | none => exact h.elim
  | some a =>
    cases b with
    | none => cases a <;> exact h.elim
    | some b =>
      cases c with
      | none => cases b <;> exact k.elim
      | some c =>
        cases a <;> cases b <;> cases c <;> first | exact h.elim | exact k.elim | exact e.elim | exact ⟨Nat.le_antisymm h (Nat.le_trans k (Nat.le_of_eq (Eq.symm e))), Nat.le_antisymm k (Nat.le_trans (Nat.le_of_eq (Eq.symm e)) h)⟩
theorem Nxt.refl {st : St} (s : StRep T K ρ st H) : Nxt ρ st H ρ st H :=
  ⟨Nat.le_refl _, fun _ _ => rfl, fun a h1 h2 => absurd h2 (Nat.not_lt.mpr h1), fun _ _ h _ => h, fun _ h => h, fun _ _ h _ => h, fun a h => .refl (s.full a h), fun _ _ _ => rfl⟩
theorem Nxt.trans {st st' st2 : St} (a : Nxt ρ st H ρ' st' H') (b : Nxt ρ' st' H' ρ2 st2 H2) : Nxt ρ st H ρ2 st2 H2 where
  le := Nat.le_trans a.le b.le
  rho := fun x h => (b.rho x (Nat.lt_of_lt_of_le h a.le)).trans (a.rho x h)
  new := fun x h1 h2 => by
    by_cases hx : x < st'.n
    · rw [b.rho x hx]; exact a.new x h1 hx
    · exact a.trk _ (b.new x (Nat.not_lt.mp hx) h2)
  fix := fun p o h f => b.fix p o (a.fix p o h f) f
  trk := fun p h => a.trk p (b.trk p h)
  keep := fun p o h hn => b.keep p o (a.keep p o h hn) fun x hx e => by
    by_cases hx' : x < st.n
    · exact hn x hx' (e.trans (a.rho x hx'))
    · have q := a.new x (Nat.not_lt.mp hx') hx
      rw [← e, h] at q
      cases q
  ver := fun x h => (a.ver x h).trans (b.ver x (Nat.lt_of_lt_of_le h a.le))
  same := fun x h e => by
    obtain ⟨e1, e2⟩ := verEq.mid (a.ver x h) (b.ver x (Nat.lt_of_lt_of_le h a.le)) e
    have q := b.same x (Nat.lt_of_lt_of_le h a.le) e2
    rw [a.rho x h] at q
    exact q.trans (a.same x h e1)
theorem Nxt.sqT {st st' : St} (a : Nxt ρ st H ρ' st' H') {p : Addr} {xs : List L2.V} (h : SqT K H p xs) : SqT K H' p xs := by
  rcases h with (h | ⟨o, h⟩) | h
  · exact .inl (.inl (a.fix _ _ h rfl))
  · exact .inl (.inr ⟨o, a.fix _ _ h rfl⟩)
  · exact .inr h
theorem Nxt.sqC {st st' : St} (a : Nxt ρ st H ρ' st' H') {p : Addr} {xs : List L2.V} (h : SqC K H p xs) : SqC K H' p xs := by
  rcases h with ⟨o, h⟩ | h
  · exact .inl ⟨o, a.fix _ _ h rfl⟩
  · exact .inr h
theorem Nxt.stay {st st' : St} (a : Nxt ρ st H ρ' st' H') : Stay K ρ st.n H ρ' st'.n H' := ⟨a.le, a.rho, fun _ _ h => a.sqT h, fun p x y h => a.fix p _ h rfl, fun p vs h => a.sqC h⟩
/-! ### frames -/
def FrRep (T : Tb) (K : PySem.W.Frag) (ρ : Nat → Addr) (n : Nat) (H : Hp) (fr : Fr) (σ : L2.St) : Prop :=
  fr.length = σ.length ∧ ∀ (i : Nat) (v : PV), fr[i]? = some (some v) → ∃ V : L2.V, σ[i]? = some (some V) ∧ Rep T K ρ n H v V
theorem FrRep.stay {fr : Fr} {σ : L2.St} (s : Stay K ρ n H ρ' n' H') (f : FrRep T K ρ n H fr σ) : FrRep T K ρ' n' H' fr σ :=
  ⟨f.1, fun i v e => let ⟨V, h1, h2⟩ := f.2 i v e; ⟨V, h1, h2.stay s⟩⟩
theorem FrRep.set {fr : Fr} {σ : L2.St} {v : PV} {V : L2.V} (f : FrRep T K ρ n H fr σ) (r : Rep T K ρ n H v V) (i : Nat) : FrRep T K ρ n H (setNth fr i (some v)) (σ.set i (some V)) := by
  refine ⟨by rw [setNth_eq, List.length_set, List.length_set]; exact f.1, fun j w e => ?_⟩
  rw [setNth_eq] at e
  by_cases h : i = j
  · subst h
    have hi : i < fr.length := by
      have := (List.getElem?_eq_some_iff.mp e).1
      simpa using this
    rw [List.getElem?_set_self hi] at e
    cases e
    exact ⟨V, List.getElem?_set_self (by rw [← f.1]; exact hi), r⟩
  · rw [List.getElem?_set_ne h] at e
    obtain ⟨W, h1, h2⟩ := f.2 j w e
    exact ⟨W, by rw [List.getElem?_set_ne h]; exact h1, h2⟩
end
end Y
end
section
set_option linter.all false
set_option maxRecDepth 100000
/-! Y3: what a combinator's reading is; names, constants, arithmetic, tuples and lists. -/
namespace Y
open PySem L2 PyProof.Rows
section
variable (T : Tb) (K : PySem.W.Frag)
/-- a combinator's end, wished -/
def Out (ρ : Nat → Addr) (st : St) (H : Hp) (x : R PV) (Q : VK) : Prop :=
  ∃ v st', x = .ok v st' ∧ ∀ ρ' V H', Nxt ρ st H ρ' st' H' → StRep T K ρ' st' H' → Rep T K ρ' st'.n H' v V → Q V H'
def OutA (ρ : Nat → Addr) (st : St) (H : Hp) (x : R (List PV)) (Q : List V → Hp → Prop) : Prop :=
  ∃ v st', x = .ok v st' ∧ ∀ ρ' V H', Nxt ρ st H ρ' st' H' → StRep T K ρ' st' H' → Reps T K ρ' st'.n H' v V → Q V H'
def OutB (ρ : Nat → Addr) (st : St) (H : Hp) (x : R Bool) (Q : Bool → Hp → Prop) : Prop :=
  ∃ v st', x = .ok v st' ∧ ∀ ρ' H', Nxt ρ st H ρ' st' H' → StRep T K ρ' st' H' → Q v H'
def tE (r : Ev) (x : X) : TE := fun σ H Q => ∃ ρ fr st, FrRep T K ρ st.n H fr σ ∧ StRep T K ρ st H ∧ Out T K ρ st H (x r fr st) Q
def tA (r : Ev) (x : XA) : TA := fun σ H Q => ∃ ρ fr st, FrRep T K ρ st.n H fr σ ∧ StRep T K ρ st H ∧ OutA T K ρ st H (x r fr st) Q
def tT (r : Ev) (x : Ev → Fr → St → R Bool) : TT := fun σ H Q => ∃ ρ fr st, FrRep T K ρ st.n H fr σ ∧ StRep T K ρ st H ∧ OutB T K ρ st H (x r fr st) Q
/-- by values: one, two, many -/
def r1 (f : PV → St → R PV) : V → Hp → VK → Prop := fun x H Q => ∃ ρ st a, StRep T K ρ st H ∧ Rep T K ρ st.n H a x ∧ Out T K ρ st H (f a st) Q
def r2 (f : PV → PV → St → R PV) : R2 := fun x y H Q => ∃ ρ st a b, StRep T K ρ st H ∧ Rep T K ρ st.n H a x ∧ Rep T K ρ st.n H b y ∧ Out T K ρ st H (f a b st) Q
def rA (f : List PV → St → R PV) : List V → Hp → VK → Prop := fun xs H Q => ∃ ρ st as, StRep T K ρ st H ∧ Reps T K ρ st.n H as xs ∧ Out T K ρ st H (f as st) Q
end
section
variable {T : Tb} {K : PySem.W.Frag} {ρ : Nat → Addr} {st : St} {H : Hp}
theorem bind_ok {α β : Type} {m : R α} {k : α → St → R β} {v : β} {s : St} (h : m.bind k = .ok v s) : ∃ a s1, m = .ok a s1 ∧ k a s1 = .ok v s := by
  cases m with
  | ok a s1 => exact ⟨a, s1, rfl, h⟩
  | exc _ _ _ => cases h
  | stuck _ => cases h
/-- the end is here, the store as it was -/
theorem Out.here {v : PV} {V : L2.V} {Q : VK} (s : StRep T K ρ st H) (r : Rep T K ρ st.n H v V) (o : Out T K ρ st H (.ok v st) Q) : Q V H := by
  obtain ⟨w, s', e, k⟩ := o
  cases e
  exact k ρ V H (.refl s) s r
end
/-! ### the judgements, weakened -/
section
variable {X : Cx}
theorem PE.imp {e : Expr} {t t' : TE} (h : PE X e t) (i : ∀ σ H Q, t' σ H Q → t σ H Q) : PE X e t' := ⟨fun pins s σ H Q I q => h.run pins s σ H Q I (i σ H Q q)⟩
theorem PT.imp {e : Expr} {t t' : TT} (h : PT X e t) (i : ∀ σ H Q, t' σ H Q → t σ H Q) : PT X e t' := ⟨fun pins s σ H Q I q => h.run pins s σ H Q I (i σ H Q q)⟩
theorem PA.imp {es : List Expr} {t t' : TA} (h : PA X es t) (i : ∀ σ H Q, t' σ H Q → t σ H Q) : PA X es t' := ⟨fun pos pins s σ H Q I q => h.run pos pins s σ H Q I (i σ H Q q)⟩
end
/-! ### combinators -/
def aNil : XA := fun _ _ st => .ok [] st
def aCons (x : Y.X) (a : XA) : XA := fun r fr st => (x r fr st).bind fun v st => (a r fr st).bind fun vs st => .ok (v :: vs) st
def e_var (i : Nat) : Y.X := fun _ fr st => match nth fr i with | some (some v) => .ok v st | _ => .stuck (90000 + i)
def e_cst (v : PV) : Y.X := fun _ _ st => .ok v st
def e_tup (a : XA) : Y.X := fun r fr st => (a r fr st).bind fun vs st => if okLen vs then .ok (.tup vs) st else .stuck 20
def newC (c : Cell) (st : St) : R PV := .ok (.ref st.n) (st.new c)
def e_lst (a : XA) : Y.X := fun r fr st => (a r fr st).bind fun vs st => if okLen vs then newC (.lst 0 vs) st else .stuck 21
def e_bin (o : Bop) (a b : Y.X) : Y.X := fun r fr st => (a r fr st).bind fun x st => (b r fr st).bind fun y st => bopV o x y st
/-! ### a new object -/
section
variable {T : Tb} {K : PySem.W.Frag} {ρ : Nat → Addr} {st : St} {H : Hp}
theorem Stay.new {p : Addr} {o : HO} (hp : H p = none) {n : Nat} : Stay K ρ n H ρ n (upd H p o) where
  le := Nat.le_refl _
  rho := fun _ _ => rfl
  tup := fun q xs h => by
    rcases h with (h | ⟨u, h⟩) | h
    · exact .inl (.inl (by rw [upd_ne (ne_of_none h hp)]; exact h))
    · exact .inl (.inr ⟨u, by rw [upd_ne (ne_of_none h hp)]; exact h⟩)
    · exact .inr h
  rng := fun q a b h => by rw [upd_ne (ne_of_none h hp)]; exact h
  cl := fun q vs h => by
    rcases h with ⟨u, h⟩ | h
    · exact .inl ⟨u, by rw [upd_ne (ne_of_none h hp)]; exact h⟩
    · exact .inr h
theorem CellRep.keepNew {p q : Addr} {o : HO} {n : Nat} (hp : H p = none) : ∀ {c : Cell}, CellRep T K ρ n H c q → CellRep T K ρ n (upd H p o) c q
  | .lst _ xs, ⟨vs, h, r⟩ => ⟨vs, by rw [upd_ne (ne_of_none h hp)]; exact h, r.stay (.new hp)⟩
  | .ins c fs, ⟨dx, gs, h, r⟩ => ⟨dx, gs, by rw [upd_ne (ne_of_none h hp)]; exact h, r.stay (.new hp)⟩
  | .dct _ kvs, ⟨o, h1, h2⟩ => DctAt.stay (.new hp) (upd_ne (ne_of_none h1 hp)) ⟨o, h1, h2⟩
/-- a thing that is no cell of the store (a tuple, a range) is laid -/
theorem StRep.laid {p : Addr} {o : HO} (s : StRep T K ρ st H) (hp : H p = none) : StRep T K ρ st (upd H p o) :=
  ⟨fun a c e => ⟨(s.cell a c e).1, (s.cell a c e).2.keepNew hp⟩, s.full, s.inj⟩
/-- where a cell stands something is tracked -/
theorem StRep.here (s : StRep T K ρ st H) {p : Addr} (hp : H p = none) : ∀ a, a < st.n → p ≠ ρ a := fun a h q => by
  cases g : st.get a with
  | none => have z := s.full a h; rw [g] at z; cases z
  | some c =>
    have r := (s.cell a c g).2
    cases c with
    | lst v xs =>
      obtain ⟨vs, h1, _⟩ := r
      rw [← q, hp] at h1
      cases h1
    | ins c fs =>
      obtain ⟨dx, gs, h1, _⟩ := r
      rw [← q, hp] at h1
      cases h1
    | dct v kvs =>
      obtain ⟨o, h1, _⟩ := r
      rw [← q, hp] at h1
      cases h1
theorem Nxt.laid {p : Addr} {o : HO} (s : StRep T K ρ st H) (hp : H p = none) : Nxt ρ st H ρ st (upd H p o) where
  le := Nat.le_refl _
  rho := fun _ _ => rfl
  new := fun a h1 h2 => absurd h2 (Nat.not_lt.mpr h1)
  fix := fun q u h _ => by rw [upd_ne (ne_of_none h hp)]; exact h
  trk := fun q h => by
    by_cases e : q = p
    · subst e; exact hp
    · rw [upd_ne e] at h; exact h
  keep := fun q u h _ => by rw [upd_ne (ne_of_none h hp)]; exact h
  ver := fun a h => .refl (s.full a h)
  same := fun a h e => upd_ne (s.here hp a h).symm
/-- the store grows by a cell -/
def ρput (ρ : Nat → Addr) (n : Nat) (p : Addr) : Nat → Addr := fun a => if a = n then p else ρ a
theorem ρput_lt {a n : Nat} {p : Addr} (h : a < n) : ρput ρ n p a = ρ a := by unfold ρput; rw [if_neg (Nat.ne_of_lt h)]
theorem ρput_at {n : Nat} {p : Addr} : ρput ρ n p n = p := by unfold ρput; rw [if_pos rfl]
theorem Stay.grow {p : Addr} {o : HO} (hp : H p = none) {n : Nat} : Stay K ρ n H (ρput ρ n p) (n + 1) (upd H p o) :=
  let s : Stay K ρ n H ρ n (upd H p o) := .new hp
  ⟨Nat.le_succ _, fun a h => ρput_lt h, s.tup, s.rng, s.cl⟩
theorem CellRep.stay {ρ' : Nat → Addr} {H' : Hp} {n n' : Nat} {q : Addr} (s : Stay K ρ n H ρ' n' H') (hq : H' q = H q) : ∀ {c : Cell}, CellRep T K ρ n H c q → CellRep T K ρ' n' H' c q
  | .lst _ xs, ⟨vs, h, r⟩ => ⟨vs, by rw [hq]; exact h, r.stay s⟩
  | .ins c fs, ⟨dx, gs, h, r⟩ => ⟨dx, gs, by rw [hq]; exact h, r.stay s⟩
  | .dct _ kvs, h => DctAt.stay s hq h
theorem StRep.grow {p : Addr} {o : HO} {c : Cell} (s : StRep T K ρ st H) (hp : H p = none) (hc : CellRep T K (ρput ρ st.n p) (st.n + 1) (upd H p o) c p) : StRep T K (ρput ρ st.n p) (st.new c) (upd H p o) where
  cell := fun a c' e => by
    rw [St.get_new] at e
    by_cases h : a = st.n
    · rw [if_pos h] at e
      cases e
      subst h
      rw [ρput_at]
      exact ⟨Nat.lt_succ_self _, hc⟩
    · rw [if_neg h] at e
      obtain ⟨h1, h2⟩ := s.cell a c' e
      rw [ρput_lt h1]
      exact ⟨Nat.lt_succ_of_lt h1, h2.stay (.grow hp) (upd_ne (s.here hp a h1).symm)⟩
  full := fun a h => by
    rw [St.get_new]
    by_cases e : a = st.n
    · rw [if_pos e]; rfl
    · rw [if_neg e]
      exact s.full a (by have : a < st.n + 1 := h; omega)
  inj := fun a b ha hb e => by
    have ha : a < st.n + 1 := ha
    have hb : b < st.n + 1 := hb
    by_cases h1 : a = st.n <;> by_cases h2 : b = st.n
    · omega
    · subst h1
      have hb' : b < st.n := by omega
      rw [ρput_at, ρput_lt hb'] at e
      exact absurd e (s.here hp b hb')
    · subst h2
      have ha' : a < st.n := by omega
      rw [ρput_at, ρput_lt ha'] at e
      exact absurd e.symm (s.here hp a ha')
    · have ha' : a < st.n := by omega
      have hb' : b < st.n := by omega
      rw [ρput_lt ha', ρput_lt hb'] at e
      exact s.inj a b ha' hb' e
theorem Nxt.grow {p : Addr} {o : HO} {c : Cell} (s : StRep T K ρ st H) (hp : H p = none) : Nxt ρ st H (ρput ρ st.n p) (st.new c) (upd H p o) where
  le := Nat.le_succ _
  rho := fun a h => ρput_lt h
  new := fun a h1 h2 => by
    have h2 : a < st.n + 1 := h2
    have e : a = st.n := by omega
    subst e
    rw [ρput_at]; exact hp
  fix := fun q u h _ => by rw [upd_ne (ne_of_none h hp)]; exact h
  trk := fun q h => by
    by_cases e : q = p
    · subst e; exact hp
    · rw [upd_ne e] at h; exact h
  keep := fun q u h _ => by rw [upd_ne (ne_of_none h hp)]; exact h
  ver := fun a h => by
    rw [St.get_new, if_neg (Nat.ne_of_lt h)]
    exact .refl (s.full a h)
  same := fun a h e => upd_ne (s.here hp a h).symm
end
end Y
end
section
set_option linter.all false
set_option maxRecDepth 100000
/-! Y4: rules of names, constants, displays, arithmetic. -/
namespace Y
open PySem L2 PyProof.Rows
section
variable {X : Cx} {T : Tb} {r : Ev} {e : Expr} {es : List Expr} {pos : Pos}
theorem sE_var {i : Nat} (h : PE X e (tVar i)) : PE X e (tE T X.K r (e_var i)) := PE.imp h fun σ H Q ⟨ρ, fr, st, F, S, O⟩ => by
  obtain ⟨v, st', e1, k⟩ := O
  unfold e_var at e1
  rw [nth_eq] at e1
  cases g : fr[i]? with
  | none => rw [g] at e1; cases e1
  | some o =>
    rw [g] at e1
    cases o with
    | none => cases e1
    | some w =>
      cases e1
      obtain ⟨V, h1, h2⟩ := F.2 i _ g
      exact ⟨V, h1, k ρ V H (.refl S) S h2⟩
/-- a constant of plain kind -/
theorem sE_cst {v : PV} {V : L2.V} (h : PE X e (tC V)) (hr : ∀ ρ n H, Rep T X.K ρ n H v V) : PE X e (tE T X.K r (e_cst v)) := PE.imp h fun σ H Q ⟨ρ, fr, st, F, S, O⟩ => Out.here S (hr _ _ _) O
theorem sE_int {i : Int} {j : Nat} : PE X (.Constant (.int i) j pos) (tE T X.K r (e_cst (.int i))) := sE_cst pe_int fun _ _ _ => .int i
theorem sE_str {s : Str} {j : Nat} : PE X (.Constant (.str s) j pos) (tE T X.K r (e_cst (.str s))) := sE_cst pe_str fun _ _ _ => .str s
theorem sE_bl {b : Bool} {j : Nat} : PE X (.Constant (.bool b) j pos) (tE T X.K r (e_cst (.bl b))) := sE_cst pe_bl fun _ _ _ => .bl b
theorem sE_non {j : Nat} : PE X (.Constant .none j pos) (tE T X.K r (e_cst .non)) := sE_cst pe_non fun _ _ _ => .non
theorem sA_nil : PA X [] (tA T X.K r aNil) := PA.imp pa_nil fun σ H Q ⟨ρ, fr, st, F, S, O⟩ => by
  obtain ⟨v, st', e1, k⟩ := O
  cases e1
  exact k ρ [] H (.refl S) S .nil
theorem sA_cons {x : Y.X} {a : XA} (h : PE X e (tE T X.K r x)) (t : PA X es (tA T X.K r a)) (hs : starEach (e :: es) X.env = (false, eval e X.env) :: starEach es X.env := by rfl) : PA X (e :: es) (tA T X.K r (aCons x a)) :=
  PA.imp (pa_cons h t hs) fun σ H Q ⟨ρ, fr, st, F, S, O⟩ => by
    obtain ⟨v, st', e0, k⟩ := O
    obtain ⟨v1, s1, e1, e2⟩ := bind_ok e0
    obtain ⟨vs, s2, e2, e3⟩ := bind_ok e2
    cases e3
    refine ⟨ρ, fr, st, F, S, v1, s1, e1, fun ρ1 V1 H1 N1 S1 R1 => ⟨ρ1, fr, s1, F.stay N1.stay, S1, vs, _, e2, fun ρ2 Vs H2 N2 S2 R2 => ?_⟩⟩
    exact k ρ2 (V1 :: Vs) H2 (N1.trans N2) S2 (.cons (R1.stay N2.stay) R2)
theorem sE_tup {a : XA} {x1 : Nat} (h : PA X es (tA T X.K r a)) : PE X (.Tuple es x1 pos) (tE T X.K r (e_tup a)) := PE.imp (pe_tup h) fun σ H Q ⟨ρ, fr, st, F, S, O⟩ => by
  obtain ⟨v, st', e0, k⟩ := O
  obtain ⟨vs, s1, e1, e2⟩ := bind_ok e0
  cases g : okLen vs with
  | false => rw [g] at e2; cases e2
  | true =>
    rw [g] at e2
    cases e2
    refine ⟨ρ, fr, st, F, S, vs, _, e1, fun ρ1 Vs H1 N1 S1 R1 => ⟨by rw [← R1.length]; exact okLen_iff.mp g, fun p hp => ?_⟩⟩
    exact k ρ1 (.ref p) _ (N1.trans (.laid S1 hp)) (S1.laid hp) (.tup (.inl (.inl upd_same)) (R1.stay (.new hp)))
/-- a new list -/
theorem new_lst {ρ : Nat → Addr} {st : St} {H : Hp} {K : PySem.W.Frag} {xs : List PV} {Vs : List L2.V} {p : Addr} (S : StRep T K ρ st H) (R : Reps T K ρ st.n H xs Vs) (hp : H p = none) :
    StRep T K (ρput ρ st.n p) (st.new (.lst 0 xs)) (upd H p (.lst Vs)) ∧ Nxt ρ st H (ρput ρ st.n p) (st.new (.lst 0 xs)) (upd H p (.lst Vs)) ∧ Rep T K (ρput ρ st.n p) (st.n + 1) (upd H p (.lst Vs)) (.ref st.n) (.ref p) := by
  refine ⟨S.grow hp ⟨Vs, upd_same, R.stay (.grow hp)⟩, .grow S hp, ?_⟩
  have q : Rep T K (ρput ρ st.n p) (st.n + 1) (upd H p (.lst Vs)) (.ref st.n) (.ref (ρput ρ st.n p st.n)) := .ref (Nat.lt_succ_self _)
  rw [ρput_at] at q
  exact q
theorem sE_lst {a : XA} (h : PA X es (tA T X.K r a)) : PE X (.List es pos) (tE T X.K r (e_lst a)) := PE.imp (pe_lst h) fun σ H Q ⟨ρ, fr, st, F, S, O⟩ => by
  obtain ⟨v, st', e0, k⟩ := O
  obtain ⟨vs, s1, e1, e2⟩ := bind_ok e0
  cases g : okLen vs with
  | false => rw [g] at e2; cases e2
  | true =>
    rw [g] at e2
    cases e2
    refine ⟨ρ, fr, st, F, S, vs, _, e1, fun ρ1 Vs H1 N1 S1 R1 => ⟨by rw [← R1.length]; exact okLen_iff.mp g, fun p hp => ?_⟩⟩
    obtain ⟨S2, N2, R2⟩ := new_lst S1 R1 hp
    exact k _ _ _ (N1.trans N2) S2 R2
/-! ### by values -/
theorem OpR.impR {f : Value → Value → Sem Value} {q q' : R2} (h : OpR X f q) (i : ∀ x y H Q, q' x y H Q → q x y H Q) : OpR X f q' := fun pins s σ H x y v u Q I rx ry z => h pins s σ H x y v u Q I rx ry (i x y H Q z)
theorem sE_bin' {op : Operator} {o : Bop} {a b : Expr} {x y : Y.X} (hop : OpR X (binaryOp op) (r2 T X.K (bopV o))) (ha : PE X a (tE T X.K r x)) (hb : PE X b (tE T X.K r y)) : PE X (.BinOp a op b pos) (tE T X.K r (e_bin o x y)) :=
  PE.imp (pe_op hop ha hb) fun σ H Q ⟨ρ, fr, st, F, S, O⟩ => by
    obtain ⟨v, st', e1, k⟩ := O
    obtain ⟨v1, s1, e1, e2⟩ := bind_ok e1
    obtain ⟨v2, s2, e2, e3⟩ := bind_ok e2
    refine ⟨ρ, fr, st, F, S, v1, s1, e1, fun ρ1 V1 H1 N1 S1 R1 => ⟨ρ1, fr, s1, F.stay N1.stay, S1, v2, s2, e2, fun ρ2 V2 H2 N2 S2 R2 => ?_⟩⟩
    exact ⟨ρ2, s2, v1, v2, S2, R1.stay N2.stay, R2, v, st', e3, fun ρ3 V3 H3 N3 S3 R3 => k ρ3 V3 H3 ((N1.trans N2).trans N3) S3 R3⟩
/-- an operation on two ints -/
theorem r2_int {K : PySem.W.Frag} {f : PV → PV → St → R PV} {C : Int → Int → Prop} {g : Int → Int → Int} {x y : L2.V} {H : Hp} {Q : VK}
    (hf : ∀ a b st v st', f a b st = .ok v st' → (∃ i j, a = .int i ∧ b = .int j ∧ C i j ∧ v = .int (g i j) ∧ st' = st)) (h : r2 T K f x y H Q) : rI C (fun i j => .int (g i j)) x y H Q := by
  obtain ⟨ρ, st, a, b, S, ra, rb, v, st', e, k⟩ := h
  obtain ⟨i, j, rfl, rfl, hc, rfl, rfl⟩ := hf _ _ _ _ _ e
  cases ra
  cases rb
  exact ⟨i, j, rfl, rfl, hc, k ρ _ H (.refl S) S (.int _)⟩
end
end Y
end
section
set_option linter.all false
set_option maxRecDepth 100000
/-! Y5: plain data, comparisons, binary operators, truth and tests. -/
namespace Y
open PySem L2 PyProof.Rows
/-! ### a value as plain data -/
def datL (f : PV → Option PyData) : List PV → Option (List PyData)
  | [] => some []
  | x :: xs => match f x with
    | some d => (match datL f xs with | some ds => some (d :: ds) | none => none)
    | none => none
def datC (f : PV → Option PyData) : Option Cell → Option PyData
  | some (.lst _ xs) => (match datL f xs with | some ds => some (.list ds) | none => none)
  | _ => none
def datT (l : Bool) (o : Option (List PyData)) : Option PyData := match o with
  | some ds => some (if l then .list ds else .tuple ds)
  | none => none
def datS (st : St) : Nat → PV → Option PyData
  | 0 => fun _ => none
  | n + 1 => fun a => match a with
    | .int i => some (.int i)
    | .str s => some (.str s)
    | .bl b => some (.bool b)
    | .non => some .none
    | .tup xs => datT false (datL (datS st n) xs)
    | .cl xs => datT true (datL (datS st n) xs)
    | .ref x => datC (datS st n) (st.get x)
    | _ => none
section
variable {T : Tb} {K : PySem.W.Frag} {ρ : Nat → Addr} {st : St} {H : Hp}
/-- what a datum is known to be -/
structure IsDat (K : PySem.W.Frag) (H : Hp) (n : Nat) (V : L2.V) (d : PyData) : Prop where
  dp : Dp K H V d
  plain : d.plain = true
  depth : d.depth ≤ n
theorem datL_all {n : Nat} (S : StRep T K ρ st H) (ih : ∀ {a : PV} {d : PyData} {V : L2.V}, datS st n a = some d → Rep T K ρ st.n H a V → IsDat K H n V d) :
    ∀ {xs : List PV} {ds : List PyData} {Vs : List L2.V}, datL (datS st n) xs = some ds → Reps T K ρ st.n H xs Vs → DpAll K H Vs ds ∧ PyData.plainAll ds = true ∧ PyData.depthAll ds ≤ n
  | [], ds, Vs, e, r => by
    cases r
    cases e
    exact ⟨.nil, by simp [PyData.plainAll], by simp [PyData.depthAll]⟩
  | x :: xs, ds, Vs, e, r => by
    cases r with
    | cons h t =>
      unfold datL at e
      cases g : datS st n x with
      | none => rw [g] at e; cases e
      | some d =>
        rw [g] at e
        cases g2 : datL (datS st n) xs with
        | none => rw [g2] at e; cases e
        | some ds' =>
          rw [g2] at e
          cases e
          obtain ⟨h1, h2, h3⟩ := ih g h
          obtain ⟨t1, t2, t3⟩ := datL_all S ih g2 t
          refine ⟨.cons h1 t1, ?_, ?_⟩
          · simp [PyData.plainAll, h2, t2]
          · simp only [PyData.depthAll]
            exact Nat.max_le.mpr ⟨h3, t3⟩
theorem datS_is (S : StRep T K ρ st H) : ∀ {n : Nat} {a : PV} {d : PyData} {V : L2.V}, datS st n a = some d → Rep T K ρ st.n H a V → IsDat K H n V d
  | 0, a, d, V, e, r => by cases e
  | n + 1, a, d, V, e, r => by
    have ih := @datS_is S n
    cases r with
    | non => cases e; exact ⟨.non, rfl, Nat.zero_le _⟩
    | bl b => cases e; exact ⟨.bl b, rfl, Nat.zero_le _⟩
    | int i => cases e; exact ⟨.int i, rfl, Nat.zero_le _⟩
    | str i => cases e; exact ⟨.str i, rfl, Nat.zero_le _⟩
    | @tup xs p vs h t =>
      have e : datT false (datL (datS st n) xs) = some d := e
      cases g : datL (datS st n) xs with
      | none => rw [g] at e; cases e
      | some ds =>
        rw [g] at e
        cases e
        obtain ⟨t1, t2, t3⟩ := datL_all S ih g t
        exact ⟨.tup h t1, by simpa [PyData.plain] using t2, by simp [PyData.depth]; omega⟩
    | @cl xs p vs h t =>
      have e : datT true (datL (datS st n) xs) = some d := e
      cases g : datL (datS st n) xs with
      | none => rw [g] at e; cases e
      | some ds =>
        rw [g] at e
        cases e
        obtain ⟨t1, t2, t3⟩ := datL_all S ih g t
        exact ⟨.lst h.sq t1, by simpa [PyData.plain] using t2, by simp [PyData.depth]; omega⟩
    | @ref x hx =>
      have e : datC (datS st n) (st.get x) = some d := e
      cases g0 : st.get x with
      | none => rw [g0] at e; cases e
      | some c =>
        rw [g0] at e
        obtain ⟨_, cr⟩ := S.cell x c g0
        cases c with
        | lst v xs =>
          have e : (match datL (datS st n) xs with | some ds => some (PyData.list ds) | none => none) = some d := e
          obtain ⟨vs, h1, t⟩ := cr
          cases g : datL (datS st n) xs with
          | none => rw [g] at e; cases e
          | some ds =>
            rw [g] at e
            cases e
            obtain ⟨t1, t2, t3⟩ := datL_all S ih g t
            exact ⟨.lst (SqL.of h1) t1, by simpa [PyData.plain] using t2, by simp [PyData.depth]; omega⟩
        | dct v kvs => cases e
        | ins c fs => cases e
    | fn i => cases e
    | cls i => cases e
    | ty i => cases e
    | rng h => cases e
end
/-! ### == and in, of plain data -/
abbrev DD := 12
def eqD (a b : PV) (st : St) : Option Bool := match datS st DD a, datS st DD b with
  | some d, some e => some (PyData.eqv d e)
  | _, _ => none
def okB (o : Option Bool) (neg : Bool) (st : St) (w : Nat) : R PV := match o with
  | some c => .ok (.bl (if neg then !c else c)) st
  | none => .stuck w
def anyEq (d : PyData) : List PyData → Bool
  | [] => false
  | y :: ys => if PyData.eqv y d then true else anyEq d ys
def inD (a b : PV) (st : St) : Option Bool := match datS st DD a, datS st DD b with
  | some d, some (.list ds) => some (anyEq d ds)
  | some d, some (.tuple ds) => some (anyEq d ds)
  | _, _ => none
theorem anyEq_any (d : PyData) : ∀ ds : List PyData, anyEq d ds = ds.any fun y => PyData.eqv y d
  | [] => rfl
  | y :: ys => by
    rw [anyEq, anyEq_any d ys, List.any_cons]
    cases PyData.eqv y d <;> rfl
section
variable {X : Cx} {T : Tb} {k : Nat}
theorem okB_ok {o : Option Bool} {neg : Bool} {st st' : St} {w : Nat} {v : PV} (h : okB o neg st w = .ok v st') : ∃ c, o = some c ∧ v = .bl (if neg then !c else c) ∧ st' = st := by
  cases o with
  | none => cases h
  | some c => cases h; exact ⟨c, rfl, rfl, rfl⟩
theorem depthAll_list {ds : List PyData} {n : Nat} (h : (PyData.list ds).depth ≤ n + 1) : PyData.depthAll ds ≤ n := by
  simp [PyData.depth] at h; omega
theorem depthAll_tup {ds : List PyData} {n : Nat} (h : (PyData.tuple ds).depth ≤ n + 1) : PyData.depthAll ds ≤ n := by
  simp [PyData.depth] at h; omega
theorem op_eqP (hr : Room k X.A) : OpR X (compareOp .Eq) (r2 T X.K fun a b st => okB (eqD a b st) false st 30) := by
  intro pins s σ H x y v u Q I rx ry h
  obtain ⟨ρ, st, a, b, S, ra, rb, w, st', e, kk⟩ := h
  obtain ⟨c, e1, rfl, rfl⟩ := okB_ok e
  unfold eqD at e1
  cases ga : datS st' DD a with
  | none => rw [ga] at e1; cases e1
  | some d =>
    cases gb : datS st' DD b with
    | none => rw [ga, gb] at e1; cases e1
    | some d' =>
      rw [ga, gb] at e1
      cases e1
      obtain ⟨p1, p2, p3⟩ := datS_is S ga ra
      obtain ⟨q1, q2, q3⟩ := datS_is S gb rb
      obtain ⟨as, r1⟩ := Dp.reads I d x v p1 rx
      obtain ⟨bs, r2⟩ := Dp.reads I d' y u q1 ry
      refine SeqAt.eq_plain r1 r2 p2 q2 ?_ ⟨.bl _, H, I, rfl, kk ρ _ H (.refl S) S (.bl _)⟩
      have := hr.units
      have hDD : DD = 12 := rfl
      have : min d.depth d'.depth ≤ d.depth := Nat.min_le_left _ _
      omega
theorem op_neP (hr : Room k X.A) : OpR X (compareOp .NotEq) (r2 T X.K fun a b st => okB (eqD a b st) true st 30) := by
  intro pins s σ H x y v u Q I rx ry h
  obtain ⟨ρ, st, a, b, S, ra, rb, w, st', e, kk⟩ := h
  obtain ⟨c, e1, rfl, rfl⟩ := okB_ok e
  unfold eqD at e1
  cases ga : datS st' DD a with
  | none => rw [ga] at e1; cases e1
  | some d =>
    cases gb : datS st' DD b with
    | none => rw [ga, gb] at e1; cases e1
    | some d' =>
      rw [ga, gb] at e1
      cases e1
      obtain ⟨p1, p2, p3⟩ := datS_is S ga ra
      obtain ⟨q1, q2, q3⟩ := datS_is S gb rb
      obtain ⟨as, r1⟩ := Dp.reads I d x v p1 rx
      obtain ⟨bs, r2⟩ := Dp.reads I d' y u q1 ry
      refine SeqAt.ne_plain r1 r2 p2 q2 ?_ ⟨.bl _, H, I, rfl, kk ρ _ H (.refl S) S (.bl _)⟩
      have := hr.units
      have hDD : DD = 12 := rfl
      have : min d.depth d'.depth ≤ d.depth := Nat.min_le_left _ _
      omega
theorem inD_some {a b : PV} {st : St} {c : Bool} (h : inD a b st = some c) : ∃ d ds, datS st DD a = some d ∧ (datS st DD b = some (.list ds) ∨ datS st DD b = some (.tuple ds)) ∧ c = ds.any fun y => PyData.eqv y d := by
  unfold inD at h
  cases ga : datS st DD a with
  | none => rw [ga] at h; cases h
  | some d =>
    cases gb : datS st DD b with
    | none => rw [ga, gb] at h; cases h
    | some d' =>
      rw [ga, gb] at h
      cases d' with
      | list ds => cases h; exact ⟨d, ds, rfl, .inl rfl, anyEq_any d ds⟩
      | tuple ds => cases h; exact ⟨d, ds, rfl, .inr rfl, anyEq_any d ds⟩
      | _ => cases h
theorem op_inP (hr : Room k X.A) : OpR X (compareOp .In) (r2 T X.K fun a b st => okB (inD a b st) false st 31) := by
  intro pins s σ H x y v u Q I rx ry h
  obtain ⟨ρ, st, a, b, S, ra, rb, w, st', e, kk⟩ := h
  obtain ⟨c, e1, rfl, rfl⟩ := okB_ok e
  obtain ⟨d, ds, ga, gb, rfl⟩ := inD_some e1
  obtain ⟨p1, p2, p3⟩ := datS_is S ga ra
  obtain ⟨as, r1⟩ := Dp.reads I d x v p1 rx
  have hu := hr.units
  rcases gb with gb | gb
  · obtain ⟨q1, q2, q3⟩ := datS_is S gb rb
    obtain ⟨bs, r2⟩ := Dp.reads I _ y u q1 ry
    refine SeqAt.in_list_data r2 r1 (by simpa [PyData.plain] using q2) p2 ?_ ⟨.bl _, H, I, rfl, kk ρ _ H (.refl S) S (.bl _)⟩
    have hDD : DD = 12 := rfl
    have : min (PyData.depthAll ds) d.depth ≤ d.depth := Nat.min_le_right _ _
    omega
  · obtain ⟨q1, q2, q3⟩ := datS_is S gb rb
    obtain ⟨bs, r2⟩ := Dp.reads I _ y u q1 ry
    refine SeqAt.in_tuple_data r2 r1 (by simpa [PyData.plain] using q2) p2 ?_ ⟨.bl _, H, I, rfl, kk ρ _ H (.refl S) S (.bl _)⟩
    have hDD : DD = 12 := rfl
    have : min (PyData.depthAll ds) d.depth ≤ d.depth := Nat.min_le_right _ _
    omega
theorem op_ninP (hr : Room k X.A) : OpR X (compareOp .NotIn) (r2 T X.K fun a b st => okB (inD a b st) true st 31) := by
  intro pins s σ H x y v u Q I rx ry h
  obtain ⟨ρ, st, a, b, S, ra, rb, w, st', e, kk⟩ := h
  obtain ⟨c, e1, rfl, rfl⟩ := okB_ok e
  obtain ⟨d, ds, ga, gb, rfl⟩ := inD_some e1
  obtain ⟨p1, p2, p3⟩ := datS_is S ga ra
  obtain ⟨as, r1⟩ := Dp.reads I d x v p1 rx
  have hu := hr.units
  rcases gb with gb | gb
  · obtain ⟨q1, q2, q3⟩ := datS_is S gb rb
    obtain ⟨bs, r2⟩ := Dp.reads I _ y u q1 ry
    refine SeqAt.notIn_list_data r2 r1 (by simpa [PyData.plain] using q2) p2 ?_ ⟨.bl _, H, I, rfl, kk ρ _ H (.refl S) S (.bl _)⟩
    have hDD : DD = 12 := rfl
    have : min (PyData.depthAll ds) d.depth ≤ d.depth := Nat.min_le_right _ _
    omega
  · obtain ⟨q1, q2, q3⟩ := datS_is S gb rb
    obtain ⟨bs, r2⟩ := Dp.reads I _ y u q1 ry
    refine SeqAt.notIn_tuple_data r2 r1 (by simpa [PyData.plain] using q2) p2 ?_ ⟨.bl _, H, I, rfl, kk ρ _ H (.refl S) S (.bl _)⟩
    have hDD : DD = 12 := rfl
    have : min (PyData.depthAll ds) d.depth ≤ d.depth := Nat.min_le_right _ _
    omega
end
end Y
end
section
set_option linter.all false
set_option maxRecDepth 100000
/-! Y6: binary operators by values. -/
namespace Y
open PySem L2 PyProof.Rows
theorem repL_flat {α : Type} : ∀ (n : Nat) (xs : List α), repL n xs = (List.replicate n xs).flatten
  | 0, xs => rfl
  | n + 1, xs => by
    rw [repL, repL_flat n xs, List.replicate_succ, List.flatten_cons]
theorem natLt_iff {a b : Nat} : natLt a b = true ↔ a < b := by
  unfold natLt
  rw [Nat.ble_eq]
  exact Iff.rfl
theorem intEq_iff {a b : Int} : intEq a b = true ↔ a = b := by
  cases a <;> cases b <;> simp [intEq] <;> omega
theorem intLt_iff {a b : Int} : intLt a b = true ↔ a < b := by
  cases a with
  | ofNat a =>
    cases b with
    | ofNat b =>
      show natLt a b = true ↔ _
      rw [natLt_iff]
      exact Int.ofNat_lt.symm
    | negSucc b => show false = true ↔ _; simp; omega
  | negSucc a =>
    cases b with
    | ofNat b => show true = true ↔ _; simp; omega
    | negSucc b =>
      show natLt b a = true ↔ _
      rw [natLt_iff]
      omega
section
variable {T : Tb} {K : PySem.W.Frag} {ρ ρ' : Nat → Addr} {n : Nat} {H : Hp}
theorem Reps.rep {xs : List PV} {Vs : List L2.V} (h : Reps T K ρ n H xs Vs) : ∀ m, Reps T K ρ n H (repL m xs) (List.replicate m Vs).flatten
  | 0 => .nil
  | m + 1 => by
    rw [repL, List.replicate_succ, List.flatten_cons]
    exact h.append (Reps.rep h m)
theorem Reps.nil_iff {xs : List PV} {Vs : List L2.V} (h : Reps T K ρ n H xs Vs) : xs = [] ↔ Vs = [] := by
  cases h <;> simp
/-- a list's cell -/
theorem lst_at {st : St} {a v : Nat} {xs : List PV} (S : StRep T K ρ st H) (g : st.get a = some (.lst v xs)) : a < st.n ∧ ∃ vs, H (ρ a) = some (.lst vs) ∧ Reps T K ρ st.n H xs vs := S.cell a _ g
end
section
variable {X : Cx} {T : Tb}
theorem op_subP : OpR X (binaryOp .Sub) (r2 T X.K subV) := OpR.impR op_sub fun x y H Q h => by
  obtain ⟨ρ, st, a, b, S, ra, rb, v, st', e, k⟩ := h
  cases a with
  | int i =>
    cases b with
    | int j =>
      cases e
      cases ra
      cases rb
      exact ⟨i, j, rfl, rfl, k ρ _ H (.refl S) S (.int _)⟩
    | _ => cases e
  | _ => cases e
theorem op_fdivP : OpR X (binaryOp .FloorDiv) (r2 T X.K fdivV) := OpR.impR op_fdivN fun x y H Q h => by
  obtain ⟨ρ, st, a, b, S, ra, rb, v, st', e, k⟩ := h
  cases a with
  | int i =>
    cases b with
    | int j =>
      cases ra
      cases rb
      have e : (if intEq j 0 = true then R.stuck 8 else if natLt j.natAbs 1073741824 = true then R.ok (PV.int (Int.fdiv i j)) st else R.stuck 8) = .ok v st' := e
      by_cases h0 : intEq j 0 = true
      · rw [if_pos h0] at e; cases e
      · rw [if_neg h0] at e
        by_cases h1 : natLt j.natAbs 1073741824 = true
        · rw [if_pos h1] at e
          cases e
          exact ⟨i, j, rfl, rfl, ⟨fun z => h0 (intEq_iff.mpr z), natLt_iff.mp h1⟩, k ρ _ H (.refl S) S (.int _)⟩
        · rw [if_neg h1] at e; cases e
    | _ => cases e
  | _ => cases e
theorem op_modP : OpR X (binaryOp .Mod) (r2 T X.K modV) := OpR.impR op_modN fun x y H Q h => by
  obtain ⟨ρ, st, a, b, S, ra, rb, v, st', e, k⟩ := h
  cases a with
  | int i =>
    cases b with
    | int j =>
      cases ra
      cases rb
      have e : (if intEq j 0 = true then R.stuck 9 else R.ok (PV.int (Int.fmod i j)) st) = .ok v st' := e
      by_cases h0 : intEq j 0 = true
      · rw [if_pos h0] at e; cases e
      · rw [if_neg h0] at e
        cases e
        exact ⟨i, j, rfl, rfl, fun z => h0 (intEq_iff.mpr z), k ρ _ H (.refl S) S (.int _)⟩
    | _ => cases e
  | _ => cases e
theorem op_powP : OpR X (binaryOp .Pow) (r2 T X.K powV) := OpR.impR op_pow fun x y H Q h => by
  obtain ⟨ρ, st, a, b, S, ra, rb, v, st', e, k⟩ := h
  cases a with
  | int i =>
    cases b with
    | int j =>
      cases j with
      | ofNat m =>
        cases ra
        cases rb
        have e : (if (natLt i.natAbs b64 && Nat.ble m 1000000) = true then R.ok (PV.int (i ^ m)) st else R.stuck 10) = .ok v st' := e
        by_cases h0 : (natLt i.natAbs b64 && Nat.ble m 1000000) = true
        · rw [if_pos h0] at e
          cases e
          rw [Bool.and_eq_true] at h0
          have h1 := natLt_iff.mp h0.1
          have h2 := Nat.ble_eq ▸ h0.2
          refine ⟨i, (m : Int), rfl, rfl, ⟨by omega, by (have h3 : m ≤ 1000000 := h2); omega, ?_⟩, k ρ _ H (.refl S) S (.int _)⟩
          have hb : b64 = 2 ^ 64 := by decide
          omega
        · rw [if_neg h0] at e; cases e
      | negSucc m => cases e
    | _ => cases e
  | _ => cases e
theorem addV_inv {a b v : PV} {st st' : St} (e : addV a b st = .ok v st') :
    (∃ i j, a = .int i ∧ b = .int j ∧ v = .int (i + j) ∧ st' = st) ∨
    (∃ i j, a = .str i ∧ b = .str j ∧ i.cps.size + j.cps.size ≤ sizeLine ∧ v = .str (i ++ j) ∧ st' = st) ∨
    (∃ i j, a = .tup i ∧ b = .tup j ∧ (i ++ j).length ≤ sizeLine ∧ v = .tup (i ++ j) ∧ st' = st) ∨
    (∃ x y u w xs ys, a = .ref x ∧ b = .ref y ∧ st.get x = some (.lst u xs) ∧ st.get y = some (.lst w ys) ∧ (xs ++ ys).length ≤ sizeLine ∧ v = .ref st.n ∧ st' = st.new (.lst 0 (xs ++ ys))) := by
  cases a with
  | int i =>
    cases b with
    | int j => cases e; exact .inl ⟨i, j, rfl, rfl, rfl, rfl⟩
    | _ => cases e
  | str i =>
    cases b with
    | str j =>
      have e : (if Nat.ble (i.cps.size + j.cps.size) lim = true then R.ok (PV.str (i ++ j)) st else R.stuck 5) = .ok v st' := e
      by_cases h : Nat.ble (i.cps.size + j.cps.size) lim = true
      · rw [if_pos h] at e
        cases e
        exact .inr (.inl ⟨i, j, rfl, rfl, Nat.ble_eq ▸ h, rfl, rfl⟩)
      · rw [if_neg h] at e; cases e
    | _ => cases e
  | tup i =>
    cases b with
    | tup j =>
      have e : (if okLen (i ++ j) = true then R.ok (PV.tup (i ++ j)) st else R.stuck 5) = .ok v st' := e
      by_cases h : okLen (i ++ j) = true
      · rw [if_pos h] at e
        cases e
        exact .inr (.inr (.inl ⟨i, j, rfl, rfl, okLen_iff.mp h, rfl, rfl⟩))
      · rw [if_neg h] at e; cases e
    | _ => cases e
  | ref x =>
    cases b with
    | ref y =>
      have e : (match st.get x, st.get y with
        | some (.lst _ xs), some (.lst _ ys) => if okLen (xs ++ ys) = true then R.ok (PV.ref st.n) (st.new (.lst 0 (xs ++ ys))) else .stuck 3
        | _, _ => .stuck 3) = .ok v st' := e
      cases g1 : st.get x with
      | none => rw [g1] at e; cases e
      | some c =>
        cases g2 : st.get y with
        | none => rw [g1, g2] at e; cases c <;> cases e
        | some d =>
          rw [g1, g2] at e
          cases c with
          | lst u xs =>
            cases d with
            | lst w ys =>
              have e : (if okLen (xs ++ ys) = true then R.ok (PV.ref st.n) (st.new (.lst 0 (xs ++ ys))) else .stuck 3) = .ok v st' := e
              by_cases h : okLen (xs ++ ys) = true
              · rw [if_pos h] at e
                cases e
                exact .inr (.inr (.inr ⟨x, y, u, w, xs, ys, rfl, rfl, g1, g2, okLen_iff.mp h, rfl, rfl⟩))
              · rw [if_neg h] at e; cases e
            | _ => cases e
          | _ => cases e
    | _ => cases e
  | _ => cases e
theorem op_addP : OpR X (binaryOp .Add) (r2 T X.K addV) := fun pins s σ H x y v u Q I rx ry h => by
  obtain ⟨ρ, st, a, b, S, ra, rb, w, st', e, k⟩ := h
  rcases addV_inv e with ⟨i, j, rfl, rfl, rfl, rfl⟩ | ⟨i, j, rfl, rfl, hz, rfl, rfl⟩ | ⟨i, j, rfl, rfl, hz, rfl, rfl⟩ | ⟨a', b', c1, c2, xs, ys, rfl, rfl, g1, g2, hz, rfl, rfl⟩
  · cases ra
    cases rb
    exact op_add pins s σ H _ _ v u Q I rx ry ⟨i, j, rfl, rfl, k ρ _ H (.refl S) S (.int _)⟩
  · cases ra
    cases rb
    exact op_add_str pins s σ H _ _ v u Q I rx ry ⟨i, j, rfl, rfl, hz, k ρ _ H (.refl S) S (.str _)⟩
  · cases ra with
    | @tup _ p vs h1 t1 =>
      cases rb with
      | @tup _ q ws h2 t2 =>
        refine op_catA pins s σ H _ _ v u Q I rx ry ⟨p, q, vs, ws, rfl, rfl, h1, h2, by rw [← t1.length, ← t2.length, ← List.length_append]; exact hz, fun z => ?_, fun _ z => ?_, fun _ _ m hm => ?_⟩
        · have z' := t1.nil_iff.mpr z
          subst z'
          exact k ρ _ H (.refl S) S (.tup h2 t2)
        · have z' := t2.nil_iff.mpr z
          subst z'
          rw [List.append_nil] at k
          exact k ρ _ H (.refl S) S (.tup h1 t1)
        · exact k ρ _ _ (.laid S hm) (S.laid hm) (.tup (.inl (.inl upd_same)) ((t1.append t2).stay (.new hm)))
  · obtain ⟨_, vs, h1, t1⟩ := lst_at S g1
    obtain ⟨_, ws, h2, t2⟩ := lst_at S g2
    cases ra
    cases rb
    refine op_cat pins s σ H _ _ v u Q I rx ry ⟨_, _, vs, ws, rfl, rfl, h1, h2, by rw [← t1.length, ← t2.length, ← List.length_append]; exact hz, fun p hp => ?_⟩
    obtain ⟨S2, N2, R2⟩ := new_lst S (t1.append t2) hp
    exact k _ _ _ N2 S2 R2
end
end Y
end
section
set_option linter.all false
set_option maxRecDepth 100000
set_option maxHeartbeats 4000000
/-! Y7: times; the operators together. -/
namespace Y
open PySem PySem.Spec L2 PyProof.Rows
theorem tuple_mul1 (l : Addr) (items : Array Value) (n : Nat) (dd : Option Addr) (sl : Array (Option Value)) (u : Tok) :
    Meets (Builtin.«tuple.__mul__» ⟨[.ref l, .int 1 u], []⟩) (fun _ R s => s.heap.get? l = some { cls := .type "tuple", dict := dd, data := .seq items n, slots := sl } ∧
      R (.ok (.ret (Value.ref l))) s) :=
  .of_wp fun prog w A R s h => by
    obtain ⟨hp, g, d, tk, os⟩ := s
    obtain ⟨hl, h⟩ := h
    have f1 := AutoSeq1.idx_int
    have c0 : (decide ((1 : Int) < -(2 ^ 63)) || decide ((1 : Int) ≥ 2 ^ 63)) = false := by decide
    have c1 : (items.isEmpty || (1 : Int) == 1) = true := by simp
    wp_walk using wpAny_loadPart' hl
    repeat (first
      | (refine wpAny_ite_false (decide_eq_false (by rw [c0]; exact Bool.false_ne_true)) ?_; wp_walk using wpAny_loadPart' hl)
      | (refine wpAny_ite_true (decide_eq_true (by rw [c1])) ?_; wp_walk using wpAny_loadPart' hl))
    all_goals exact ⟨_, rfl, h⟩
def rRepT1 (K : PySem.W.Frag) : R2 := fun x y H Q => ∃ l xs, x = .ref l ∧ y = .int 1 ∧ SqT K H l xs ∧ Q (.ref l) H
section
variable {X : Cx} {T : Tb}
theorem op_repT1 : OpR X (binaryOp .Mult) (rRepT1 X.K) := by
  intro pins s σ H x y v u Q I rx ry h
  obtain ⟨l, xs, rfl, rfl, hT, q⟩ := h
  cases rx
  obtain ⟨t, rfl⟩ := ry
  obtain ⟨its, r, ⟨⟨cls, dd, data, sl⟩, ho, hc, n, hd⟩, hs⟩ := I.tuple hT
  simp only at hc hd
  subst hc hd
  refine wpAny_binaryOp_repeat_ref (T := "tuple") (U := "int") (by decide) ⟨_, ho, rfl⟩ (fun s' => typeIs_int s' 1 t) noFill_tuple_mul F.fills_int_mul F.slot_int_rmul repeat_tuple F.slot_int_index.lookup
    (call_meets F.slot_int_rmul (typeIs_int s 1 t) F.entry_int_rmul (F.args_int_rmul_2 _ _) (int_rmul_tuple 1 t l its.toArray n dd sl)
      ⟨ho, rfl, ⟨_, ho, rfl⟩, call_meets F.slot_tuple_mul ⟨_, ho, rfl⟩ F.entry_tuple_mul (F.args_tuple_mul_2 _ _) (tuple_mul1 l its.toArray n dd sl t) ⟨ho, ?_⟩⟩)
  exact ⟨.ref l, H, I, rfl, q⟩
theorem mulV_inv {a b v : PV} {st st' : St} (e : mulV a b st = .ok v st') :
    (∃ i j, a = .int i ∧ b = .int j ∧ CMul i j ∧ v = .int (i * j) ∧ st' = st) ∨
    (∃ x, a = .tup x ∧ b = .int 1 ∧ v = .tup x ∧ st' = st) ∨
    (∃ x n, a = .tup x ∧ b = .int n ∧ 2 ≤ n ∧ n ≤ 1000 ∧ x ≠ [] ∧ x.length ≤ 1000 ∧ v = .tup (repL n.toNat x) ∧ st' = st) ∨
    (∃ x n u xs, a = .ref x ∧ b = .int n ∧ st.get x = some (.lst u xs) ∧ -(2 ^ 63) ≤ n ∧ n < 2 ^ 63 ∧ xs.length * n.toNat ≤ sizeLine ∧ v = .ref st.n ∧ st' = st.new (.lst 0 (repL n.toNat xs))) := by
  cases a with
  | int i =>
    cases b with
    | int j =>
      have e : (if (natLt i.natAbs b64 || natLt j.natAbs b64) = true then R.ok (PV.int (i * j)) st else R.stuck 7) = .ok v st' := e
      by_cases h : (natLt i.natAbs b64 || natLt j.natAbs b64) = true
      · rw [if_pos h] at e
        cases e
        refine .inl ⟨i, j, rfl, rfl, ?_, rfl, rfl⟩
        rw [Bool.or_eq_true, natLt_iff, natLt_iff] at h
        unfold b64 at h
        unfold CMul
        omega
      · rw [if_neg h] at e; cases e
    | _ => cases e
  | tup x =>
    cases b with
    | int n =>
      have e : (if intEq n 1 = true then R.ok (.tup x) st else if (intLt 1 n && (intLt n 1001 && (Nat.ble 1 (len x) && Nat.ble (len x) 1000))) = true then R.ok (.tup (repL n.toNat x)) st else R.stuck 7) = .ok v st' := e
      by_cases h : intEq n 1 = true
      · rw [if_pos h] at e
        cases e
        have := intEq_iff.mp h
        subst this
        exact .inr (.inl ⟨x, rfl, rfl, rfl, rfl⟩)
      · rw [if_neg h] at e
        by_cases h2 : (intLt 1 n && (intLt n 1001 && (Nat.ble 1 (len x) && Nat.ble (len x) 1000))) = true
        · rw [if_pos h2] at e
          cases e
          rw [Bool.and_eq_true, Bool.and_eq_true, Bool.and_eq_true, intLt_iff, intLt_iff, Nat.ble_eq, Nat.ble_eq, len_eq] at h2
          obtain ⟨a1, a2, a3, a4⟩ := h2
          refine .inr (.inr (.inl ⟨x, n, rfl, rfl, by omega, by omega, ?_, a4, rfl, rfl⟩))
          rintro rfl
          simp at a3
        · rw [if_neg h2] at e; cases e
    | _ => cases e
  | ref x =>
    cases b with
    | int n =>
      have e : (match st.get x with
        | some (.lst _ xs) => if (natLt n.natAbs lim && Nat.ble (len xs * n.toNat) lim) = true then R.ok (PV.ref st.n) (st.new (.lst 0 (repL n.toNat xs))) else .stuck 7
        | _ => .stuck 7) = .ok v st' := e
      cases g : st.get x with
      | none => rw [g] at e; cases e
      | some c =>
        rw [g] at e
        cases c with
        | lst u xs =>
          have e : (if (natLt n.natAbs lim && Nat.ble (len xs * n.toNat) lim) = true then R.ok (PV.ref st.n) (st.new (.lst 0 (repL n.toNat xs))) else .stuck 7) = .ok v st' := e
          by_cases h : (natLt n.natAbs lim && Nat.ble (len xs * n.toNat) lim) = true
          · rw [if_pos h] at e
            cases e
            rw [Bool.and_eq_true, natLt_iff, Nat.ble_eq, len_eq] at h
            unfold lim at h
            exact .inr (.inr (.inr ⟨x, n, u, xs, rfl, rfl, g, by omega, by omega, h.2, rfl, rfl⟩))
          · rw [if_neg h] at e; cases e
        | _ => cases e
    | _ => cases e
  | _ => cases e
theorem op_mulP : OpR X (binaryOp .Mult) (r2 T X.K mulV) := fun pins s σ H x y v u Q I rx ry h => by
  obtain ⟨ρ, st, a, b, S, ra, rb, w, st', e, k⟩ := h
  rcases mulV_inv e with ⟨i, j, rfl, rfl, hc, rfl, rfl⟩ | ⟨x', rfl, rfl, rfl, rfl⟩ | ⟨x', n, rfl, rfl, h1, h2, h3, h4, rfl, rfl⟩ | ⟨x', n, u', xs, rfl, rfl, g, h1, h2, h3, rfl, rfl⟩
  · cases ra
    cases rb
    exact op_mul pins s σ H _ _ v u Q I rx ry ⟨i, j, rfl, rfl, hc, k ρ _ H (.refl S) S (.int _)⟩
  · cases ra with
    | @tup _ p vs hp t1 =>
      cases rb
      exact op_repT1 pins s σ H _ _ v u Q I rx ry ⟨p, vs, rfl, rfl, hp, k ρ _ H (.refl S) S (.tup hp t1)⟩
  · cases ra with
    | @tup _ p vs hp t1 =>
      cases rb
      refine op_repT pins s σ H _ _ v u Q I rx ry ⟨p, n, vs, rfl, rfl, hp, fun z => h3 (t1.nil_iff.mpr z), h1, h2, by rw [← t1.length]; exact h4, fun m hm => ?_⟩
      exact k ρ _ _ (.laid S hm) (S.laid hm) (.tup (.inl (.inl upd_same)) ((t1.rep _).stay (.new hm)))
  · obtain ⟨_, vs, hh, t1⟩ := lst_at S g
    cases ra
    cases rb
    refine op_rep pins s σ H _ _ v u Q I rx ry ⟨_, n, vs, rfl, rfl, hh, h1, h2, by rw [← t1.length]; exact h3, fun p hp => ?_⟩
    obtain ⟨S2, N2, R2⟩ := new_lst S (t1.rep n.toNat) hp
    exact k _ _ _ N2 S2 R2
/-- a binary operator's name in the model -/
def bopM : Bop → Operator
  | .add => .Add | .sub => .Sub | .mul => .Mult | .fdiv => .FloorDiv | .mod => .Mod | .pow => .Pow
theorem op_bopP : ∀ o : Bop, OpR X (binaryOp (bopM o)) (r2 T X.K (bopV o))
  | .add => op_addP | .sub => op_subP | .mul => op_mulP | .fdiv => op_fdivP | .mod => op_modP | .pow => op_powP
theorem sE_bin {r : Ev} {pos : Pos} {a b : Expr} {x y : Y.X} (o : Bop) (ha : PE X a (tE T X.K r x)) (hb : PE X b (tE T X.K r y)) : PE X (.BinOp a (bopM o) b pos) (tE T X.K r (e_bin o x y)) := sE_bin' (op_bopP o) ha hb
end
end Y
end
section
set_option linter.all false
set_option maxRecDepth 100000
set_option maxHeartbeats 4000000
/-! Y8: calls by value; == and != of instances; comparisons. -/
namespace Y
open PySem PySem.Spec L2 PyProof.Rows
/-- what a def does, by the evaluator -/
def spE (T : Tb) (K : PySem.W.Frag) (r : Ev) (i : Nat) : Sp := fun vs H Q _ => ∃ ρ st as, StRep T K ρ st H ∧ Reps T K ρ st.n H as vs ∧ Out T K ρ st H (r (.fn i) as st) Q
structure EvC (P : Program) (w : World) (K : PySem.W.Frag) (mg : Str → Option Value) (base : Heap) (T : Tb) (k : Nat) (r : Ev) (i : Nat) : Prop where
  fn : FnR P w K mg base C8.CX0 k (T.fa i) (spE T K r i)
  kp : PySem.W.keepIn K (.ref (T.fa i)) = true
  isf : PySem.W.isFn K (.ref (T.fa i)) = true
section
variable {X : Cx} {T : Tb} {k : Nat} {r : Ev} {i : Nat}
theorem EvC.run1 (c : EvC X.prog X.w X.K X.mg X.base T k r i) (hr : Room k X.A) {pins : List (Addr × Obj)} {σ : L2.St} {H : Hp} {s : Shared} {vs : List L2.V} {us : List Value} {Q : VK} (I : Inv X pins σ H s) (rv : Vals vs us) (h : spE T X.K r i vs H Q C8.E0) :
    wpAny (model X.prog X.w) X.A (call (.ref (T.fa i)) us) (EP X pins σ Q) X.xe s := wpAny_call (codeAny_mono (run_fnR c.fn hr C8.pass0 I rv h) fun rr s' h => by
  cases rr with
  | error e => exact h
  | ok f => cases f <;> exact h)
/-- .. inside another room -/
theorem EvC.runA (c : EvC X.prog X.w X.K X.mg X.base T k r i) {A : Around} (hr : Room k A) (hf : A.frames = X.A.frames) {pins : List (Addr × Obj)} {σ : L2.St} {H : Hp} {s : Shared} {vs : List L2.V} {us : List Value} {Q : VK} (I : Inv X pins σ H s) (rv : Vals vs us) (h : spE T X.K r i vs H Q C8.E0) {E : Value → Shared → Prop} :
    wpAny (model X.prog X.w) A (call (.ref (T.fa i)) us) (EP X pins σ Q) E s := by
  have e0 : Env0 X.prog X.w X.K X.mg X.base A X.stack s H := by
    have e := I.env0
    exact ⟨by rw [hf]; exact e.frames, e.mod, e.bs, e.bsz, e.funs, e.frf, e.hok, e.bare⟩
  refine wpAny_call (codeAny_mono (c.fn A X.stack s H us vs Q C8.E0 hr e0 rv h) fun rr s' hq => ?_)
  cases rr with
  | error e => exact False.elim hq
  | ok f =>
    cases f with
    | ret u => exact I.after hq
    | next => exact False.elim hq
    | brk => exact False.elim hq
    | cont => exact False.elim hq
end
/-! ### == of instances -/
section
variable {M : Model} {prog : Program} {w : World} {A : Around} {E : Value → Shared → Prop} {s : Shared} {K : PySem.W.Frag} {x C f : Addr} {ox : Obj} {od : Option Obj} {b : Value}
theorem call_objNe {Q : Value → Shared → Prop} (X : K.In s.heap) (I : PySem.W.InstAt s.heap x ox C od) (hm : PySem.W.mroIn K C (.type "object") = some true) (hs : PySem.W.findIn K (.ref C) "__eq__" = some (some (.ref f))) (hf : PySem.W.isFn K (.ref f) = true) (hu : A.in1.units < cLine)
    (h : wpAny (model prog w) A.in1 (call (.ref f) [.ref x, b]) (fun v s' => ∃ c, v = .bool c ∧ Q (.bool (!c)) s') E s) :
    wpAny (model prog w) A (call (.builtin "object.__ne__") [.ref x, b]) Q E s := by
  refine wpAny_call (codeAny_call_builtin F.cmp_object.ne.plain F.cmpEntry_ne (PySem.W.check_slot F.cmpKind_ne F.cmpSplit_ne (I.type.andThen (PySem.W.looks_mroIn X hm)) (F.cmpArgs_ne _ _) ?_))
  unfold Builtin.«object.__ne__»
  repeat (first
    | with_reducible refine wpAny_cRoomFor hu ?_
    | (refine wpAny_bind (m := callSpecialIfBound? (.ref x) (Str.ofString "__eq__") [b])
        (PySem.W.ifBound_K X I hs hf (wpAny_mono h (fun r s' hr => by
          obtain ⟨b, rfl, hq⟩ := hr
          repeat (first | exact hq | exact wpAny_pure hq | exact wpAny_truthy_bool hq | (refine wpAny_bind (m := truthy (.bool _)) (wpAny_truthy_bool ?_)) | wp_step)) fun _ _ e => e)))
    | wp_step)
theorem ifBound_objNe {args : List Value} {Q : Option Value → Shared → Prop} (X : K.In s.heap) (I : PySem.W.InstAt s.heap x ox C od) (hs : PySem.W.findIn K (.ref C) "__ne__" = some (some (.builtin "object.__ne__")))
    (h : wpAny M A (call (.builtin "object.__ne__") (.ref x :: args)) (fun v => Q (some v)) E s) : wpAny M A (callSpecialIfBound? (.ref x) "__ne__" args) Q E s := by
  simp only [callSpecialIfBound?, bindSpecialIfBound?]
  refine wpAny_holding (wpAny_bind (wpAny_bind (wpAny_bind (I.type.here ((PySem.W.looks_findIn X hs).here ?_)))))
  refine wpAny_bind (wpAny_askSetting (wpAny_ite ?_))
  have fin : wpAny M A (call (.builtin "object.__ne__") ([.ref x] ++ args) >>= fun v => pure (some v)) Q E s := wpAny_bind (wpAny_mono h (fun v s' h' => wpAny_pure h') fun _ _ h' => h')
  split
  · exact wpAny_bind (wpAny_of_eq (F.cmp_object.ne.bind _) (wpAny_pure (by exact fin)))
  · exact wpAny_tryCatch (wpAny_bind (wpAny_of_eq (F.cmp_object.ne.bind _) (wpAny_pure (by exact fin))))
/-- x != b, by the class's own __eq__ -/
theorem ne_K {tb : Value} {Q : Value → Shared → Prop} (hu : A.in1.in1.units < cLine) (X : K.In s.heap) (I : PySem.W.InstAt s.heap x ox C od) (hb : PySem.W.Looks (model prog w) s.heap (typeOf b) tb) (hn : PySem.W.notFirst K C tb = true)
    (hm : PySem.W.mroIn K C (.type "object") = some true) (hs : PySem.W.findIn K (.ref C) "__eq__" = some (some (.ref f))) (hf : PySem.W.isFn K (.ref f) = true) (hne : PySem.W.findIn K (.ref C) "__ne__" = some (some (.builtin "object.__ne__")))
    (h : wpAny (model prog w) A.in1 (call (.ref f) [.ref x, b]) (fun v s' => ∃ c, v = .bool c ∧ Q (.bool (!c)) s') E s) : wpAny (model prog w) A (richCompare .NotEq (.ref x) b) Q E s := by
  have u1 : A.in1.units = A.units + 1 := rfl
  have u2 : A.in1.in1.units = A.units + 1 + 1 := rfl
  have one : wpAny (model prog w) A (tryCompare (.ref x) "__ne__" b) (fun r s' => ∃ v, r = some v ∧ Q v s') E s := by
    unfold tryCompare
    refine wpAny_bind (ifBound_objNe X I hne (call_objNe X I hm hs hf (by omega) (wpAny_mono h (fun v s' hv => ?_) fun _ _ e => e)))
    obtain ⟨c, rfl, q⟩ := hv
    exact ⟨c, rfl, wpAny_pure ⟨_, rfl, q⟩⟩
  simp only [richCompare, cmpInfo_NotEq, oneThing_ref]
  refine wpAny_holding (wpAny_bind (wpAny_cRoomFor (by omega) ?_))
  refine wpAny_bind (I.type.here (wpAny_bind (hb.here ?_)))
  split
  · rename_i q
    have e : PySem.W.subIn K tb (.ref C) = some false := by
      rcases Bool.or_eq_true_iff.mp hn with e | e
      · rw [beq_iff_eq.mp e] at q; simp at q
      · exact beq_iff_eq.mp e
    refine wpAny_bind ((PySem.W.looks_subIn X e).here ?_)
    simp only [Bool.false_eq_true, if_false]
    refine wpAny_bind (wpAny_mono one (fun r s' z => ?_) fun _ _ e => e)
    obtain ⟨v, rfl, hq⟩ := z
    exact wpAny_pure hq
  · refine wpAny_bind (wpAny_pure ?_)
    simp only [Bool.false_eq_true, if_false]
    refine wpAny_bind (wpAny_mono one (fun r s' z => ?_) fun _ _ e => e)
    obtain ⟨v, rfl, hq⟩ := z
    exact wpAny_pure hq
end
end Y
end
section
set_option linter.all false
set_option maxRecDepth 100000
set_option maxHeartbeats 4000000
/-! Y9: comparisons. -/
namespace Y
open PySem PySem.Spec L2 PyProof.Rows
def clsAt (st : St) (a : PV) : Option Nat := match a with
  | .ref x => (match st.get x with | some (.ins c _) => some c | _ => none)
  | _ => none
def negB (neg : Bool) (v : PV) (st : St) : R PV := match v with
  | .bl t => .ok (.bl (if neg then !t else t)) st
  | _ => .stuck 33
def eqI (L : List (Nat × Nat)) (neg : Bool) (r : Ev) (c : Nat) (a b : PV) (st : St) : R PV := match look L c with
  | some i => (match clsAt st b with
    | some c2 => (match look L c2 with
      | some _ => (r (.fn i) [a, b] st).bind (negB neg)
      | none => .stuck 33)
    | none => .stuck 33)
  | none => .stuck 33
/-- == -/
def eqX (L : List (Nat × Nat)) (neg : Bool) (r : Ev) (a b : PV) (st : St) : R PV := match clsAt st a with
  | some c => eqI L neg r c a b st
  | none => okB (eqD a b st) neg st 30
def cmpI (f : Int → Int → Bool) (a b : PV) (st : St) : R PV := match a with
  | .int i => (match b with | .int j => .ok (.bl (f i j)) st | _ => .stuck 34)
  | _ => .stuck 34
def isV (neg : Bool) (a b : PV) (st : St) : R PV := match b with
  | .non => (match a with
    | .non => .ok (.bl (!neg)) st
    | .bl _ => .ok (.bl neg) st | .int _ => .ok (.bl neg) st | .str _ => .ok (.bl neg) st | .tup _ => .ok (.bl neg) st | .ref _ => .ok (.bl neg) st
    | _ => .stuck 35)
  | .bl y => (match a with | .bl x => .ok (.bl (if neg then !(x == y) else x == y)) st | _ => .stuck 35)
  | _ => .stuck 35
def cmpV (L : List (Nat × Nat)) (o : Cop) (r : Ev) (a b : PV) (st : St) : R PV := match o with
  | .eq => eqX L false r a b st
  | .ne => eqX L true r a b st
  | .lt => cmpI intLt a b st
  | .le => cmpI (fun i j => !intLt j i) a b st
  | .gt => cmpI (fun i j => intLt j i) a b st
  | .ge => cmpI (fun i j => !intLt i j) a b st
  | .in_ => okB (inD a b st) false st 31
  | .notIn => okB (inD a b st) true st 31
  | .is_ => isV false a b st
  | .isNot => isV true a b st
/-- what == needs of the classes with an __eq__ of their own -/
structure EqC (P : Program) (w : World) (K : PySem.W.Frag) (mg : Str → Option Value) (base : Heap) (T : Tb) (k : Nat) (r : Ev) (L : List (Nat × Nat)) : Prop where
  at_ : ∀ c i, look L c = some i → PySem.W.findIn K (.ref (T.ca c)) "__eq__" = some (some (.ref (T.fa i))) ∧ PySem.W.findIn K (.ref (T.ca c)) "__ne__" = some (some (.builtin "object.__ne__")) ∧ PySem.W.mroIn K (T.ca c) (.type "object") = some true ∧ EvC P w K mg base T k r i
  nf : ∀ c c2 i i2, look L c = some i → look L c2 = some i2 → PySem.W.notFirst K (T.ca c) (.ref (T.ca c2)) = true
section
variable {K : PySem.W.Frag} {T : Tb} {ρ : Nat → Addr} {st : St} {H : Hp}
theorem clsAt_some {a : PV} {c : Nat} {V : L2.V} (S : StRep T K ρ st H) (ra : Rep T K ρ st.n H a V) (h : clsAt st a = some c) : ∃ p dx gs, V = .ref p ∧ H p = some (.ins (T.ca c) dx gs) := by
  cases ra with
  | @ref x hx =>
    simp only [clsAt] at h
    cases g : st.get x with
    | none => rw [g] at h; cases h
    | some cl =>
      rw [g] at h
      cases cl with
      | ins c' fs =>
        cases h
        obtain ⟨_, dx, gs, h1, _⟩ := S.cell x _ g
        exact ⟨_, dx, gs, rfl, h1⟩
      | _ => cases h
  | _ => cases h
end
section
variable {X : Cx} {T : Tb} {k : Nat} {r : Ev} {L : List (Nat × Nat)}
theorem negB_ok {neg : Bool} {v w : PV} {st st' : St} (h : negB neg v st = .ok w st') : ∃ t, v = .bl t ∧ w = .bl (if neg then !t else t) ∧ st' = st := by
  cases v with
  | bl t => cases h; exact ⟨t, rfl, rfl, rfl⟩
  | _ => cases h
theorem eqI_ok {neg : Bool} {c : Nat} {a b w : PV} {st st' : St} (h : eqI L neg r c a b st = .ok w st') : ∃ i c2 i2 t, look L c = some i ∧ clsAt st b = some c2 ∧ look L c2 = some i2 ∧ r (.fn i) [a, b] st = .ok (.bl t) st' ∧ w = .bl (if neg then !t else t) := by
  unfold eqI at h
  cases g1 : look L c with
  | none => rw [g1] at h; cases h
  | some i =>
    cases g2 : clsAt st b with
    | none => rw [g1, g2] at h; cases h
    | some c2 =>
      cases g3 : look L c2 with
      | none => rw [g1, g2] at h; simp only [g3] at h; cases h
      | some i2 =>
        rw [g1, g2] at h
        simp only [g3] at h
        obtain ⟨v, s1, h1, h2⟩ := bind_ok h
        obtain ⟨t, rfl, rfl, rfl⟩ := negB_ok h2
        exact ⟨i, c2, i2, t, rfl, rfl, g3, h1, rfl⟩
/-- == and != -/
theorem op_eqX (hr : Room (k + 1) X.A) (C : EqC X.prog X.w X.K X.mg X.base T k r L) : OpR X (compareOp .Eq) (r2 T X.K (eqX L false r)) := by
  intro pins s σ H x y v u Q I rx ry h
  obtain ⟨ρ, st, a, b, S, ra, rb, w, st', e, kk⟩ := h
  unfold eqX at e
  cases g : clsAt st a with
  | none =>
    rw [g] at e
    exact op_eqP hr pins s σ H x y v u Q I rx ry ⟨ρ, st, a, b, S, ra, rb, w, st', e, kk⟩
  | some c =>
    rw [g] at e
    obtain ⟨i, c2, i2, t, g1, g2, g3, g4, rfl⟩ := eqI_ok e
    obtain ⟨p, dx, gs, rfl, hp⟩ := clsAt_some S ra g
    obtain ⟨q, dy, gs', rfl, hq⟩ := clsAt_some S rb g2
    obtain ⟨f1, f2, f3, ev⟩ := C.at_ c i g1
    cases rx
    cases ry
    obtain ⟨mA, J, _⟩ := ins_get I.hok hp
    obtain ⟨mB, J', _⟩ := ins_get I.hok hq
    obtain ⟨od, J, _⟩ := J.look
    obtain ⟨od', J', _⟩ := J'.look
    obtain ⟨m, hF⟩ := I.fr
    show wpAny _ _ (richCompare .Eq _ _) _ _ _
    refine PySem.W.cmp_K (op := .Eq) (tb := .ref (T.ca c2)) hr.units0 hF I.ok.mod.kin J J'.type (C.nf c c2 i i2 g1 g3) f1 ev.isf ?_
    refine wpAny_mono (ev.run1 (hr.mono (Nat.le_succ k)) I (vs := [.ref p, .ref q]) (.cons rfl (.cons rfl .nil)) ?_ (Q := fun z H1 => (∃ t, z = V.bl t) ∧ Q z H1)) (fun z s1 hz => ?_) fun _ _ e => e
    · exact ⟨ρ, st, [a, b], S, .cons ra (.cons rb .nil), .bl t, st', g4, fun ρ' V H' N S' R' => by
        cases R'
        exact ⟨⟨t, rfl⟩, kk ρ' _ H' N S' (.bl t)⟩⟩
    · obtain ⟨z', H', I', rz, ⟨t', rfl⟩, q1⟩ := hz
      cases rz
      exact ⟨.bl t', H', I', rfl, q1⟩
theorem op_neX (hr : Room (k + 1) X.A) (C : EqC X.prog X.w X.K X.mg X.base T k r L) : OpR X (compareOp .NotEq) (r2 T X.K (eqX L true r)) := by
  intro pins s σ H x y v u Q I rx ry h
  obtain ⟨ρ, st, a, b, S, ra, rb, w, st', e, kk⟩ := h
  unfold eqX at e
  cases g : clsAt st a with
  | none =>
    rw [g] at e
    exact op_neP hr pins s σ H x y v u Q I rx ry ⟨ρ, st, a, b, S, ra, rb, w, st', e, kk⟩
  | some c =>
    rw [g] at e
    obtain ⟨i, c2, i2, t, g1, g2, g3, g4, rfl⟩ := eqI_ok e
    obtain ⟨p, dx, gs, rfl, hp⟩ := clsAt_some S ra g
    obtain ⟨q, dy, gs', rfl, hq⟩ := clsAt_some S rb g2
    obtain ⟨f1, f2, f3, ev⟩ := C.at_ c i g1
    cases rx
    cases ry
    obtain ⟨mA, J, _⟩ := ins_get I.hok hp
    obtain ⟨mB, J', _⟩ := ins_get I.hok hq
    obtain ⟨od, J, _⟩ := J.look
    obtain ⟨od', J', _⟩ := J'.look
    have hun := hr.units
    have u1 : X.A.in1.units = X.A.units + 1 := rfl
    have u2 : X.A.in1.in1.units = X.A.units + 1 + 1 := rfl
    show wpAny _ _ (richCompare .NotEq _ _) _ _ _
    refine ne_K (tb := .ref (T.ca c2)) (by omega) I.kIn J J'.type (C.nf c c2 i i2 g1 g3) f3 f1 ev.isf f2 ?_
    refine wpAny_mono (ev.runA hr.in1 rfl I (vs := [.ref p, .ref q]) (.cons rfl (.cons rfl .nil)) ?_ (Q := fun z H1 => ∃ t, z = V.bl t ∧ Q (.bl (!t)) H1)) (fun z s1 hz => ?_) fun _ _ e => e
    · exact ⟨ρ, st, [a, b], S, .cons ra (.cons rb .nil), .bl t, st', g4, fun ρ' V H' N S' R' => by
        cases R'
        exact ⟨t, rfl, kk ρ' _ H' N S' (.bl _)⟩⟩
    · obtain ⟨z', H', I', rz, t', rfl, q1⟩ := hz
      cases rz
      exact ⟨t', rfl, .bl (!t'), H', I', rfl, q1⟩
theorem cmpI_ok {f : Int → Int → Bool} {a b w : PV} {st st' : St} (h : cmpI f a b st = .ok w st') : ∃ i j, a = .int i ∧ b = .int j ∧ w = .bl (f i j) ∧ st' = st := by
  cases a with
  | int i =>
    cases b with
    | int j => cases h; exact ⟨i, j, rfl, rfl, rfl, rfl⟩
    | _ => cases h
  | _ => cases h
theorem op_cmpI {op : CmpOp} {g f : Int → Int → Bool} (ho : OpR X (compareOp op) (rI0 fun i j => .bl (g i j))) (hf : ∀ i j, f i j = g i j) : OpR X (compareOp op) (r2 T X.K (cmpI f)) := OpR.impR ho fun x y H Q h => by
  obtain ⟨ρ, st, a, b, S, ra, rb, w, st', e, kk⟩ := h
  obtain ⟨i, j, rfl, rfl, rfl, rfl⟩ := cmpI_ok e
  cases ra
  cases rb
  refine ⟨i, j, rfl, rfl, ?_⟩
  show Q (.bl (g i j)) H
  rw [← hf]
  exact kk ρ _ H (.refl S) S (.bl _)
theorem intLt_dec (i j : Int) : intLt i j = decide (i < j) := by
  by_cases h : i < j
  · rw [decide_eq_true h]; exact intLt_iff.mpr h
  · rw [decide_eq_false h]
    cases e : intLt i j with
    | false => rfl
    | true => exact absurd (intLt_iff.mp e) h
theorem intLe_dec (i j : Int) : (!intLt j i) = decide (i ≤ j) := by
  rw [intLt_dec]
  by_cases h : i ≤ j
  · rw [decide_eq_true h, decide_eq_false (by omega)]; rfl
  · rw [decide_eq_false h, decide_eq_true (by omega)]; rfl
theorem isV_ok {neg : Bool} {a b w : PV} {st st' : St} (h : isV neg a b st = .ok w st') : (b = .non ∧ st' = st ∧ ((a = .non ∧ w = .bl (!neg)) ∨ (w = .bl neg ∧ ((∃ c, a = .bl c) ∨ (∃ c, a = .int c) ∨ (∃ c, a = .str c) ∨ (∃ c, a = .tup c) ∨ ∃ c, a = .ref c)))) ∨ ∃ x y, a = .bl x ∧ b = .bl y ∧ w = .bl (if neg then !(x == y) else x == y) ∧ st' = st := by
  cases b with
  | non =>
    cases a with
    | non => cases h; exact .inl ⟨rfl, rfl, .inl ⟨rfl, rfl⟩⟩
    | bl c => cases h; exact .inl ⟨rfl, rfl, .inr ⟨rfl, .inl ⟨c, rfl⟩⟩⟩
    | int c => cases h; exact .inl ⟨rfl, rfl, .inr ⟨rfl, .inr (.inl ⟨c, rfl⟩)⟩⟩
    | str c => cases h; exact .inl ⟨rfl, rfl, .inr ⟨rfl, .inr (.inr (.inl ⟨c, rfl⟩))⟩⟩
    | tup c => cases h; exact .inl ⟨rfl, rfl, .inr ⟨rfl, .inr (.inr (.inr (.inl ⟨c, rfl⟩)))⟩⟩
    | ref c => cases h; exact .inl ⟨rfl, rfl, .inr ⟨rfl, .inr (.inr (.inr (.inr ⟨c, rfl⟩)))⟩⟩
    | _ => cases h
  | bl y =>
    cases a with
    | bl x => cases h; exact .inr ⟨x, y, rfl, rfl, rfl, rfl⟩
    | _ => cases h
  | _ => cases h
theorem op_isP : OpR X (compareOp .Is) (r2 T X.K (isV false)) := fun pins s σ H x y v u Q I rx ry h => by
  obtain ⟨ρ, st, a, b, S, ra, rb, w, st', e, kk⟩ := h
  rcases isV_ok e with ⟨rfl, rfl, h⟩ | ⟨c, d, rfl, rfl, rfl, rfl⟩
  · cases rb
    rcases h with ⟨rfl, rfl⟩ | ⟨rfl, h⟩
    · cases ra
      exact op_isN pins s σ H _ _ v u Q I rx ry ⟨rfl, kk ρ _ H (.refl S) S (.bl _)⟩
    · refine op_isN pins s σ H _ _ v u Q I rx ry ⟨rfl, ?_⟩
      rcases h with ⟨c, rfl⟩ | ⟨c, rfl⟩ | ⟨c, rfl⟩ | ⟨c, rfl⟩ | ⟨c, rfl⟩ <;> cases ra <;> exact kk ρ _ H (.refl S) S (.bl _)
  · cases ra
    cases rb
    refine op_is_bl pins s σ H _ _ v u Q I rx ry ⟨c, d, rfl, rfl, ?_⟩
    have := kk ρ _ H (.refl S) S (.bl _)
    rw [Bool.beq_eq_decide_eq] at this
    exact this
theorem op_isNotP : OpR X (compareOp .IsNot) (r2 T X.K (isV true)) := fun pins s σ H x y v u Q I rx ry h => by
  obtain ⟨ρ, st, a, b, S, ra, rb, w, st', e, kk⟩ := h
  rcases isV_ok e with ⟨rfl, rfl, h⟩ | ⟨c, d, rfl, rfl, rfl, rfl⟩
  · cases rb
    rcases h with ⟨rfl, rfl⟩ | ⟨rfl, h⟩
    · cases ra
      exact op_notN pins s σ H _ _ v u Q I rx ry ⟨rfl, kk ρ _ H (.refl S) S (.bl _)⟩
    · refine op_notN pins s σ H _ _ v u Q I rx ry ⟨rfl, ?_⟩
      rcases h with ⟨c, rfl⟩ | ⟨c, rfl⟩ | ⟨c, rfl⟩ | ⟨c, rfl⟩ | ⟨c, rfl⟩ <;> cases ra <;> exact kk ρ _ H (.refl S) S (.bl _)
  · cases ra
    cases rb
    refine op_isnot_bl pins s σ H _ _ v u Q I rx ry ⟨c, d, rfl, rfl, ?_⟩
    have := kk ρ _ H (.refl S) S (.bl _)
    rw [Bool.beq_eq_decide_eq] at this
    exact this
def copM : Cop → CmpOp
  | .eq => .Eq | .ne => .NotEq | .lt => .Lt | .le => .LtE | .gt => .Gt | .ge => .GtE | .in_ => .In | .notIn => .NotIn | .is_ => .Is | .isNot => .IsNot
theorem op_cmpP (hr : Room (k + 1) X.A) (C : EqC X.prog X.w X.K X.mg X.base T k r L) : ∀ o : Cop, OpR X (compareOp (copM o)) (r2 T X.K (cmpV L o r))
  | .eq => op_eqX hr C
  | .ne => op_neX hr C
  | .lt => op_cmpI op_lt intLt_dec
  | .le => op_cmpI op_le intLe_dec
  | .gt => op_cmpI op_gt fun i j => intLt_dec j i
  | .ge => op_cmpI op_ge fun i j => intLe_dec j i
  | .in_ => op_inP hr
  | .notIn => op_ninP hr
  | .is_ => op_isP
  | .isNot => op_isNotP
end
end Y
end
section
set_option linter.all false
set_option maxRecDepth 100000
set_option maxHeartbeats 4000000
/-! Y10: truth, tests, comparisons as expressions. -/
namespace Y
open PySem PySem.Spec L2 PyProof.Rows
abbrev XB := Ev → Fr → St → R Bool
def nonNil {α : Type} : List α → Bool
  | [] => false
  | _ :: _ => true
def isBl (v : PV) (st : St) : R Bool := match v with
  | .bl t => .ok t st
  | _ => .stuck 36
def truI (BL : List (Nat × Option Nat)) (r : Ev) (c : Nat) (a : PV) (st : St) : R Bool := match look BL c with
  | some (some i) => (r (.fn i) [a] st).bind isBl
  | some none => .ok true st
  | none => .stuck 36
def truC (BL : List (Nat × Option Nat)) (r : Ev) (a : PV) (st : St) (o : Option Cell) : R Bool := match o with
  | some (.lst _ xs) => .ok (nonNil xs) st
  | some (.ins c _) => truI BL r c a st
  | _ => .stuck 36
def truX (BL : List (Nat × Option Nat)) (r : Ev) (a : PV) (st : St) : R Bool := match a with
  | .bl b => .ok b st
  | .non => .ok false st
  | .int i => .ok (!intEq i 0) st
  | .str x => if Nat.ble x.cps.size lim then .ok (!Nat.beq x.cps.size 0) st else .stuck 36
  | .tup xs => .ok (nonNil xs) st
  | .cl xs => .ok (nonNil xs) st
  | .ref x => truC BL r a st (st.get x)
  | _ => .stuck 36
structure TruC (P : Program) (w : World) (K : PySem.W.Frag) (mg : Str → Option Value) (base : Heap) (T : Tb) (k : Nat) (r : Ev) (L : List (Nat × Option Nat)) : Prop where
  own : ∀ c i, look L c = some (some i) → PySem.W.findIn K (.ref (T.ca c)) "__bool__" = some (some (.ref (T.fa i))) ∧ EvC P w K mg base T k r i
  no : ∀ c, look L c = some none → PySem.W.findIn K (.ref (T.ca c)) "__bool__" = some none ∧ PySem.W.findIn K (.ref (T.ca c)) "__len__" = some none
def rB (T : Tb) (K : PySem.W.Frag) (f : PV → St → R Bool) : V → Hp → (Bool → Hp → Prop) → Prop := fun x H Q => ∃ ρ st a, StRep T K ρ st H ∧ Rep T K ρ st.n H a x ∧ OutB T K ρ st H (f a st) Q
section
variable {T : Tb} {K : PySem.W.Frag} {ρ : Nat → Addr} {st : St} {H : Hp}
theorem OutB.here {c : Bool} {Q : Bool → Hp → Prop} (s : StRep T K ρ st H) (o : OutB T K ρ st H (.ok c st) Q) : Q c H := by
  obtain ⟨w, s', e, k⟩ := o
  cases e
  exact k ρ H (.refl s) s
theorem Reps.tru {xs : List PV} {Vs : List L2.V} (h : Reps T K ρ st.n H xs Vs) : (nonNil xs) = !Vs.isEmpty := by
  cases h <;> rfl
end
section
variable {X : Cx} {T : Tb} {k : Nat} {r : Ev} {BL : List (Nat × Option Nat)}
theorem tru_X (hr : Room k X.A) (C : TruC X.prog X.w X.K X.mg X.base T k r BL) : TruR X (rB T X.K (truX BL r)) := by
  intro pins s σ H x v Q I rx h
  obtain ⟨ρ, st, a, S, ra, o⟩ := h
  have base : ∀ c, TruV X.K x H c → Q c H → wpAny (model X.prog X.w) X.A (truthy v) (TP X pins σ Q) X.xe s := fun c h1 h2 => tru_ok pins s σ H x v Q I rx ⟨c, h1, h2⟩
  cases ra with
  | non => exact base false rfl (OutB.here S o)
  | bl b => exact base b rfl (OutB.here S o)
  | int i =>
    refine base _ rfl ?_
    have := OutB.here S o
    have e : (!intEq i 0) = (i != 0) := by
      cases h : intEq i 0 with
      | true => have := intEq_iff.mp h; subst this; rfl
      | false =>
        have : i ≠ 0 := fun z => by rw [intEq_iff.mpr z] at h; cases h
        simp [this]
    rw [← e]; exact this
  | str x =>
    have o' : OutB T X.K ρ st H (if Nat.ble x.cps.size lim = true then .ok (!Nat.beq x.cps.size 0) st else .stuck 36) Q := o
    by_cases hz : Nat.ble x.cps.size lim = true
    · rw [if_pos hz] at o'
      have q := OutB.here S o'
      refine base _ ⟨Nat.ble_eq ▸ hz, rfl⟩ ?_
      have e : (!Nat.beq x.cps.size 0) = ((x.length : Int) != 0) := by
        show (!Nat.beq x.length 0) = _
        cases h : Nat.beq x.length 0 with
        | true => rw [Nat.eq_of_beq_eq_true h]; rfl
        | false =>
          have := Nat.ne_of_beq_eq_false h
          have z : ((x.length : Int) != 0) = true := by
            rw [bne_iff_ne]; omega
          rw [z]; rfl
      rw [← e]; exact q
    · rw [if_neg hz] at o'
      obtain ⟨_, _, e, _⟩ := o'
      cases e
  | @tup xs p vs h t =>
    have q := OutB.here S o
    rw [t.tru] at q
    exact base _ (.inr (.inl ⟨vs, h, rfl⟩)) q
  | @cl xs p vs h t =>
    have q := OutB.here S o
    rw [t.tru] at q
    exact base _ (.inl ⟨vs, h.sq, rfl⟩) q
  | @ref x hx =>
    have o' : OutB T X.K ρ st H (truC BL r (.ref x) st (st.get x)) Q := o
    cases g : st.get x with
    | none => rw [g] at o'; obtain ⟨_, _, e, _⟩ := o'; cases e
    | some cl =>
      rw [g] at o'
      cases cl with
      | lst ver xs =>
        obtain ⟨_, vs, h, t⟩ := lst_at S g
        have q := OutB.here S o'
        rw [t.tru] at q
        exact base _ (.inl ⟨vs, .of h, rfl⟩) q
      | dct ver xs => obtain ⟨_, _, e, _⟩ := o'; cases e
      | ins c fs =>
        obtain ⟨_, dx, gs, h, _⟩ := S.cell x _ g
        cases rx
        obtain ⟨mA, J, _⟩ := ins_get I.hok h
        obtain ⟨od, J, _⟩ := J.look
        obtain ⟨m, hF⟩ := I.fr
        have o2 : OutB T X.K ρ st H (truI BL r c (.ref x) st) Q := o'
        unfold truI at o2
        cases g1 : look BL c with
        | none => rw [g1] at o2; obtain ⟨_, _, e, _⟩ := o2; cases e
        | some y =>
          rw [g1] at o2
          cases y with
          | none =>
            obtain ⟨f1, f2⟩ := C.no c g1
            exact PySem.W.truthy_K0 hF I.ok.mod.kin J f1 f2 ⟨H, I, OutB.here S o2⟩
          | some i =>
            obtain ⟨f1, ev⟩ := C.own c i g1
            obtain ⟨b, st', e, kk⟩ := o2
            obtain ⟨w, s1, e1, e2⟩ := bind_ok e
            cases w with
            | bl t =>
              cases e2
              refine PySem.W.truthy_K hF I.ok.mod.kin J f1 ev.isf ?_
              refine wpAny_mono (ev.run1 hr I (vs := [.ref (ρ x)]) (.cons rfl .nil) ?_ (Q := fun z H1 => z = V.bl b ∧ Q b H1)) (fun z s1 hz => ?_) fun _ _ e => e
              · exact ⟨ρ, st, [.ref x], S, .cons (.ref hx) .nil, .bl b, st', e1, fun ρ' V H' N S' R' => by
                  cases R'
                  exact ⟨rfl, kk ρ' H' N S'⟩⟩
              · obtain ⟨z', H', I', rz, rfl, q1⟩ := hz
                cases rz
                exact ⟨H', I', q1⟩
            | _ => cases e2
  | fn i => obtain ⟨_, _, e, _⟩ := o; cases e
  | cls i => obtain ⟨_, _, e, _⟩ := o; cases e
  | ty i => obtain ⟨_, _, e, _⟩ := o; cases e
  | rng h => obtain ⟨_, _, e, _⟩ := o; cases e
end
/-! ### tests and bools -/
def b_val (BL : List (Nat × Option Nat)) (x : Y.X) : XB := fun r fr st => (x r fr st).bind fun v st => truX BL r v st
def b_not (x : XB) : XB := fun r fr st => (x r fr st).bind fun c st => .ok (!c) st
def b_and (x y : XB) : XB := fun r fr st => (x r fr st).bind fun c st => match c with | true => y r fr st | false => .ok false st
def b_or (x y : XB) : XB := fun r fr st => (x r fr st).bind fun c st => match c with | true => .ok true st | false => y r fr st
def e_cmp (L : List (Nat × Nat)) (o : Cop) (a b : Y.X) : Y.X := fun r fr st => (a r fr st).bind fun x st => (b r fr st).bind fun y st => cmpV L o r x y st
def b_cmp (L : List (Nat × Nat)) (o : Cop) (a b : Y.X) : XB := fun r fr st => (e_cmp L o a b r fr st).bind isBl
def e_chain (L : List (Nat × Nat)) (a : Y.X) (o : Cop) (b : Y.X) (o' : Cop) (c : Y.X) : Y.X := fun r fr st => (a r fr st).bind fun x st => (b r fr st).bind fun y st => (cmpV L o r x y st).bind fun z st => (isBl z st).bind fun t st => match t with
  | true => (c r fr st).bind fun w st => cmpV L o' r y w st
  | false => .ok (.bl false) st
def b_chain (L : List (Nat × Nat)) (a : Y.X) (o : Cop) (b : Y.X) (o' : Cop) (c : Y.X) : XB := fun r fr st => (e_chain L a o b o' c r fr st).bind isBl
def e_not (BL : List (Nat × Option Nat)) (x : Y.X) : Y.X := fun r fr st => (x r fr st).bind fun v st => (truX BL r v st).bind fun c st => .ok (.bl (!c)) st
def e_and (BL : List (Nat × Option Nat)) (x y : Y.X) : Y.X := fun r fr st => (x r fr st).bind fun v st => (truX BL r v st).bind fun c st => match c with | true => y r fr st | false => .ok v st
def e_or (BL : List (Nat × Option Nat)) (x y : Y.X) : Y.X := fun r fr st => (x r fr st).bind fun v st => (truX BL r v st).bind fun c st => match c with | true => .ok v st | false => y r fr st
def e_ife (c : XB) (x y : Y.X) : Y.X := fun r fr st => (c r fr st).bind fun c st => match c with | true => x r fr st | false => y r fr st
section
variable {X : Cx} {T : Tb} {k : Nat} {r : Ev} {BL : List (Nat × Option Nat)} {L : List (Nat × Nat)} {pos : Pos} {a b c : Expr} {x y z : Y.X} {p q : XB} {rest : List Expr}
theorem isBl_ok {v : PV} {st st' : St} {c : Bool} (h : isBl v st = .ok c st') : v = .bl c ∧ st' = st := by
  cases v with
  | bl t => cases h; exact ⟨rfl, rfl⟩
  | _ => cases h
theorem sT_val (hr : Room k X.A) (C : TruC X.prog X.w X.K X.mg X.base T k r BL) (ha : PE X a (tE T X.K r x)) (he : ∀ whole, isTrue a X.env whole = (do let v ← whole; standAt a.pos; holding [v] (truthy v)) := by intro _; rfl) : PT X a (tT T X.K r (b_val BL x)) := by
  refine ⟨fun pins s σ H Q I h => ?_⟩
  obtain ⟨ρ, fr, st, F, S, v, st', e0, kk⟩ := h
  obtain ⟨v1, s1, e1, e2⟩ := bind_ok e0
  refine isTrue_plain (thn (ha.run pins s σ H (fun x H1 => rB T X.K (truX BL r) x H1 Q) I ⟨ρ, fr, st, F, S, v1, s1, e1, fun ρ1 V1 H1 N1 S1 R1 => ?_⟩) fun v s1 ⟨x, H1, I1, r1, q1⟩ => tru_X hr C pins s1 σ H1 x v Q I1 r1 q1) (he _)
  exact ⟨ρ1, s1, v1, S1, R1, v, st', e2, fun ρ2 H2 N2 S2 => kk ρ2 H2 (N1.trans N2) S2⟩
theorem sT_not (ha : PT X a (tT T X.K r p)) : PT X (.UnaryOp .Not a pos) (tT T X.K r (b_not p)) := PT.imp (pt_not ha) fun σ H Q ⟨ρ, fr, st, F, S, v, st', e0, kk⟩ => by
  obtain ⟨v1, s1, e1, e2⟩ := bind_ok e0
  cases e2
  exact ⟨ρ, fr, st, F, S, v1, _, e1, kk⟩
theorem PW.imp {X : Cx} {e : Expr} {t t' : TT} (h : PW X e t) (i : ∀ σ H Q, t' σ H Q → t σ H Q) : PW X e t' := ⟨fun wh pins s σ H Q I q => h.run wh pins s σ H Q I (i σ H Q q)⟩
theorem sW_and (ha : PT X a (tT T X.K r p)) (hb : PW X (.BoolOp .And (b :: rest) pos) (tT T X.K r q)) : PW X (.BoolOp .And (a :: b :: rest) pos) (tT T X.K r (b_and p q)) := PW.imp (pw_and ha hb) fun σ H Q ⟨ρ, fr, st, F, S, v, st', e0, kk⟩ => by
  obtain ⟨v1, s1, e1, e2⟩ := bind_ok e0
  refine ⟨ρ, fr, st, F, S, v1, s1, e1, fun ρ1 H1 N1 S1 => ?_⟩
  cases v1 with
  | true => rw [if_pos rfl]; exact ⟨ρ1, fr, s1, F.stay N1.stay, S1, v, st', e2, fun ρ2 H2 N2 S2 => kk ρ2 H2 (N1.trans N2) S2⟩
  | false => cases e2; exact kk ρ1 H1 N1 S1
theorem sW_or (ha : PT X a (tT T X.K r p)) (hb : PW X (.BoolOp .Or (b :: rest) pos) (tT T X.K r q)) : PW X (.BoolOp .Or (a :: b :: rest) pos) (tT T X.K r (b_or p q)) := PW.imp (pw_or ha hb) fun σ H Q ⟨ρ, fr, st, F, S, v, st', e0, kk⟩ => by
  obtain ⟨v1, s1, e1, e2⟩ := bind_ok e0
  refine ⟨ρ, fr, st, F, S, v1, s1, e1, fun ρ1 H1 N1 S1 => ?_⟩
  cases v1 with
  | true => cases e2; exact kk ρ1 H1 N1 S1
  | false => exact ⟨ρ1, fr, s1, F.stay N1.stay, S1, v, st', e2, fun ρ2 H2 N2 S2 => kk ρ2 H2 (N1.trans N2) S2⟩
theorem sW_and1 (ha : PT X a (tT T X.K r p)) : PW X (.BoolOp .And [a] pos) (tT T X.K r p) := pw_and1 ha
theorem sW_or1 (ha : PT X a (tT T X.K r p)) : PW X (.BoolOp .Or [a] pos) (tT T X.K r p) := pw_or1 ha
theorem sE_cmp (o : Cop) (hr : Room (k + 1) X.A) (C : EqC X.prog X.w X.K X.mg X.base T k r L) (ha : PE X a (tE T X.K r x)) (hb : PE X b (tE T X.K r y)) (hm : behindInMarks (copM o) b = false) : PE X (.Compare a [copM o] [b] pos) (tE T X.K r (e_cmp L o x y)) :=
  PE.imp (pe_cmpR (op_cmpP hr C o) ha hb hm) fun σ H Q ⟨ρ, fr, st, F, S, v, st', e1, kk⟩ => by
    obtain ⟨v1, s1, e1, e2⟩ := bind_ok e1
    obtain ⟨v2, s2, e2, e3⟩ := bind_ok e2
    refine ⟨ρ, fr, st, F, S, v1, s1, e1, fun ρ1 V1 H1 N1 S1 R1 => ⟨ρ1, fr, s1, F.stay N1.stay, S1, v2, s2, e2, fun ρ2 V2 H2 N2 S2 R2 => ?_⟩⟩
    exact ⟨ρ2, s2, v1, v2, S2, R1.stay N2.stay, R2, v, st', e3, fun ρ3 V3 H3 N3 S3 R3 => kk ρ3 V3 H3 ((N1.trans N2).trans N3) S3 R3⟩
/-- a test of an expression that gives a bool -/
theorem tB_of {t : TE} {σ : L2.St} {H : Hp} {Q : Bool → Hp → Prop} (hx : ∀ Q, tE T X.K r x σ H Q → t σ H Q) (h : tT T X.K r (fun r fr st => (x r fr st).bind isBl) σ H Q) : tTest t σ H Q := by
  obtain ⟨ρ, fr, st, F, S, v, st', e0, kk⟩ := h
  obtain ⟨v1, s1, e1, e2⟩ := bind_ok e0
  obtain ⟨rfl, rfl⟩ := isBl_ok e2
  refine hx _ ⟨ρ, fr, st, F, S, .bl v, _, e1, fun ρ1 V1 H1 N1 S1 R1 => ?_⟩
  cases R1
  exact ⟨v, rfl, kk ρ1 H1 N1 S1⟩
theorem i_cmp {ta tb : TE} {rr : R2} {f : PV → PV → St → R PV} (ia : ∀ σ H Q, tE T X.K r x σ H Q → ta σ H Q) (ib : ∀ σ H Q, tE T X.K r y σ H Q → tb σ H Q) (ir : ∀ u v H Q, r2 T X.K f u v H Q → rr u v H Q)
    (σ : L2.St) (H : Hp) (Q : VK) (h : tE T X.K r (fun r fr st => (x r fr st).bind fun v st => (y r fr st).bind fun w st => f v w st) σ H Q) : tOp rr ta tb σ H Q := by
  obtain ⟨ρ, fr, st, F, S, v, st', e1, kk⟩ := h
  obtain ⟨v1, s1, e1, e2⟩ := bind_ok e1
  obtain ⟨v2, s2, e2, e3⟩ := bind_ok e2
  refine ia _ _ _ ⟨ρ, fr, st, F, S, v1, s1, e1, fun ρ1 V1 H1 N1 S1 R1 => ib _ _ _ ⟨ρ1, fr, s1, F.stay N1.stay, S1, v2, s2, e2, fun ρ2 V2 H2 N2 S2 R2 => ?_⟩⟩
  exact ir _ _ _ _ ⟨ρ2, s2, v1, v2, S2, R1.stay N2.stay, R2, v, st', e3, fun ρ3 V3 H3 N3 S3 R3 => kk ρ3 V3 H3 ((N1.trans N2).trans N3) S3 R3⟩
theorem sT_cmp (o : Cop) (hr : Room (k + 1) X.A) (C : EqC X.prog X.w X.K X.mg X.base T k r L) (ha : PE X a (tE T X.K r x)) (hb : PE X b (tE T X.K r y)) (hm : behindInMarks (copM o) b = false) : PT X (.Compare a [copM o] [b] pos) (tT T X.K r (b_cmp L o x y)) :=
  PT.imp (pt_cmpR (op_cmpP hr C o) ha hb hm) fun σ H Q h => tB_of (i_cmp (fun _ _ _ z => z) (fun _ _ _ z => z) (fun _ _ _ _ z => z) σ H) h
theorem i_chain {o o' : Cop} (σ : L2.St) (H : Hp) (Q : VK) (h : tE T X.K r (e_chain L x o y o' z) σ H Q) : tChain (r2 T X.K (cmpV L o r)) (r2 T X.K (cmpV L o' r)) (tE T X.K r x) (tE T X.K r y) (tE T X.K r z) σ H Q := by
  obtain ⟨ρ, fr, st, F, S, v, st', e1, kk⟩ := h
  obtain ⟨v1, s1, e1, e2⟩ := bind_ok e1
  obtain ⟨v2, s2, e2, e3⟩ := bind_ok e2
  obtain ⟨v3, s3, e3, e4⟩ := bind_ok e3
  obtain ⟨t, s4, e4, e5⟩ := bind_ok e4
  obtain ⟨rfl, rfl⟩ := isBl_ok e4
  refine ⟨ρ, fr, st, F, S, v1, s1, e1, fun ρ1 V1 H1 N1 S1 R1 => ⟨ρ1, fr, s1, F.stay N1.stay, S1, v2, s2, e2, fun ρ2 V2 H2 N2 S2 R2 => ?_⟩⟩
  refine ⟨ρ2, s2, v1, v2, S2, R1.stay N2.stay, R2, .bl t, _, e3, fun ρ3 V3 H3 N3 S3 R3 => ?_⟩
  cases R3
  refine ⟨t, rfl, ?_⟩
  cases t with
  | false => cases e5; exact kk ρ3 _ H3 ((N1.trans N2).trans N3) S3 (.bl false)
  | true =>
    rw [if_pos rfl]
    obtain ⟨v5, s5, e5, e6⟩ := bind_ok e5
    refine ⟨ρ3, fr, _, (F.stay N1.stay).stay (N2.trans N3).stay, S3, v5, s5, e5, fun ρ4 V4 H4 N4 S4 R4 => ?_⟩
    exact ⟨ρ4, s5, v2, v5, S4, R2.stay (N3.trans N4).stay, R4, v, st', e6, fun ρ5 V5 H5 N5 S5 R5 => kk ρ5 V5 H5 ((((N1.trans N2).trans N3).trans N4).trans N5) S5 R5⟩
theorem sE_chain (o o' : Cop) (hr : Room (k + 1) X.A) (C : EqC X.prog X.w X.K X.mg X.base T k r L) (ha : PE X a (tE T X.K r x)) (hb : PE X b (tE T X.K r y)) (hc : PE X c (tE T X.K r z)) (hm : lastMarks [copM o, copM o'] [b, c] = false := by with_unfolding_all rfl) : PE X (.Compare a [copM o, copM o'] [b, c] pos) (tE T X.K r (e_chain L x o y o' z)) :=
  PE.imp (pe_chain (op_cmpP hr C o) (op_cmpP hr C o') ha hb hc hm) i_chain
theorem sT_chain (o o' : Cop) (hr : Room (k + 1) X.A) (C : EqC X.prog X.w X.K X.mg X.base T k r L) (ha : PE X a (tE T X.K r x)) (hb : PE X b (tE T X.K r y)) (hc : PE X c (tE T X.K r z)) (hm : lastMarks [copM o, copM o'] [b, c] = false := by with_unfolding_all rfl) : PT X (.Compare a [copM o, copM o'] [b, c] pos) (tT T X.K r (b_chain L x o y o' z)) :=
  PT.imp (pt_chain (op_cmpP hr C o) (op_cmpP hr C o') ha hb hc hm) fun σ H Q h => tB_of (i_chain σ H) h
theorem sE_not (hr : Room k X.A) (C : TruC X.prog X.w X.K X.mg X.base T k r BL) (ha : PE X a (tE T X.K r x)) : PE X (.UnaryOp .Not a pos) (tE T X.K r (e_not BL x)) := by
  refine ⟨fun pins s σ H Q I h => ?_⟩
  obtain ⟨ρ, fr, st, F, S, v, st', e0, kk⟩ := h
  obtain ⟨v1, s1, e1, e2⟩ := bind_ok e0
  obtain ⟨c, s2, e2, e3⟩ := bind_ok e2
  cases e3
  refine UnaryOp_ (thn (ha.run pins s σ H (fun x H1 => rB T X.K (truX BL r) x H1 fun c H2 => Q (.bl (!c)) H2) I ⟨ρ, fr, st, F, S, v1, s1, e1, fun ρ1 V1 H1 N1 S1 R1 => ?_⟩) fun v s1 ⟨x, H1, I1, r1, q1⟩ => ?_)
  · exact ⟨ρ1, s1, v1, S1, R1, c, _, e2, fun ρ2 H2 N2 S2 => kk ρ2 _ H2 (N1.trans N2) S2 (.bl _)⟩
  · exact not_of (thn (tru_X hr C pins s1 σ H1 x v _ I1 r1 q1) fun c s2 ⟨H2, I2, q2⟩ => ⟨.bl (!c), H2, I2, rfl, q2⟩)
theorem sE_and (hr : Room k X.A) (C : TruC X.prog X.w X.K X.mg X.base T k r BL) (ha : PE X a (tE T X.K r x)) (hb : PE X (.BoolOp .And (b :: rest) pos) (tE T X.K r y)) : PE X (.BoolOp .And (a :: b :: rest) pos) (tE T X.K r (e_and BL x y)) := by
  refine ⟨fun pins s σ H Q I h => ?_⟩
  obtain ⟨ρ, fr, st, F, S, v, st', e0, kk⟩ := h
  obtain ⟨v1, s1, e1, e2⟩ := bind_ok e0
  obtain ⟨c, s2, e2, e3⟩ := bind_ok e2
  refine BoolOp_and (thn (ha.run pins s σ H (fun x H1 => rB T X.K (truX BL r) x H1 fun c H2 => if c = true then tE T X.K r y σ H2 Q else Q x H2) I ⟨ρ, fr, st, F, S, v1, s1, e1, fun ρ1 V1 H1 N1 S1 R1 => ?_⟩) fun v s1 ⟨x, H1, I1, r1, q1⟩ => ?_)
  · refine ⟨ρ1, s1, v1, S1, R1, c, _, e2, fun ρ2 H2 N2 S2 => ?_⟩
    cases c with
    | true => rw [if_pos rfl]; exact ⟨ρ2, fr, s2, (F.stay N1.stay).stay N2.stay, S2, v, st', e3, fun ρ3 V3 H3 N3 S3 R3 => kk ρ3 V3 H3 ((N1.trans N2).trans N3) S3 R3⟩
    | false => cases e3; exact kk ρ2 V1 H2 (N1.trans N2) S2 (R1.stay N2.stay)
  · refine thn (tru_X hr C pins s1 σ H1 x v _ I1 r1 q1) fun c s2 ⟨H2, I2, q2⟩ => ?_
    cases c with
    | true => exact hb.run pins s2 σ H2 Q I2 q2
    | false => exact ⟨x, H2, I2, r1, q2⟩
theorem sE_or (hr : Room k X.A) (C : TruC X.prog X.w X.K X.mg X.base T k r BL) (ha : PE X a (tE T X.K r x)) (hb : PE X (.BoolOp .Or (b :: rest) pos) (tE T X.K r y)) : PE X (.BoolOp .Or (a :: b :: rest) pos) (tE T X.K r (e_or BL x y)) := by
  refine ⟨fun pins s σ H Q I h => ?_⟩
  obtain ⟨ρ, fr, st, F, S, v, st', e0, kk⟩ := h
  obtain ⟨v1, s1, e1, e2⟩ := bind_ok e0
  obtain ⟨c, s2, e2, e3⟩ := bind_ok e2
  refine BoolOp_or (thn (ha.run pins s σ H (fun x H1 => rB T X.K (truX BL r) x H1 fun c H2 => if c = true then Q x H2 else tE T X.K r y σ H2 Q) I ⟨ρ, fr, st, F, S, v1, s1, e1, fun ρ1 V1 H1 N1 S1 R1 => ?_⟩) fun v s1 ⟨x, H1, I1, r1, q1⟩ => ?_)
  · refine ⟨ρ1, s1, v1, S1, R1, c, _, e2, fun ρ2 H2 N2 S2 => ?_⟩
    cases c with
    | true => cases e3; exact kk ρ2 V1 H2 (N1.trans N2) S2 (R1.stay N2.stay)
    | false => exact ⟨ρ2, fr, s2, (F.stay N1.stay).stay N2.stay, S2, v, st', e3, fun ρ3 V3 H3 N3 S3 R3 => kk ρ3 V3 H3 ((N1.trans N2).trans N3) S3 R3⟩
  · refine thn (tru_X hr C pins s1 σ H1 x v _ I1 r1 q1) fun c s2 ⟨H2, I2, q2⟩ => ?_
    cases c with
    | true => exact ⟨x, H2, I2, r1, q2⟩
    | false => exact hb.run pins s2 σ H2 Q I2 q2
theorem sE_and1 (ha : PE X a (tE T X.K r x)) : PE X (.BoolOp .And [a] pos) (tE T X.K r x) := pe_one ha
theorem sE_or1 (ha : PE X a (tE T X.K r x)) : PE X (.BoolOp .Or [a] pos) (tE T X.K r x) := pe_one ha
theorem sE_ife (hc : PT X c (tT T X.K r p)) (ha : PE X a (tE T X.K r x)) (hb : PE X b (tE T X.K r y)) : PE X (.IfExp c a b pos) (tE T X.K r (e_ife p x y)) := PE.imp (pe_ifExp hc ha hb) fun σ H Q ⟨ρ, fr, st, F, S, v, st', e0, kk⟩ => by
  obtain ⟨c, s1, e1, e2⟩ := bind_ok e0
  refine ⟨ρ, fr, st, F, S, c, s1, e1, fun ρ1 H1 N1 S1 => ?_⟩
  cases c with
  | true => rw [if_pos rfl]; exact ⟨ρ1, fr, s1, F.stay N1.stay, S1, v, st', e2, fun ρ2 V2 H2 N2 S2 R2 => kk ρ2 V2 H2 (N1.trans N2) S2 R2⟩
  | false => exact ⟨ρ1, fr, s1, F.stay N1.stay, S1, v, st', e2, fun ρ2 V2 H2 N2 S2 R2 => kk ρ2 V2 H2 (N1.trans N2) S2 R2⟩
end
end Y
end
section
set_option linter.all false
set_option maxRecDepth 100000
set_option maxHeartbeats 4000000
/-! Y11: attributes, methods of one's own, calls, instances. -/
namespace Y
open PySem PySem.Spec L2 PyProof.Rows
def memN (c : Nat) : List Nat → Bool
  | [] => false
  | x :: r => if Nat.beq c x then true else memN c r
def fldO (f : Nat) (L : List Nat) (st : St) (o : Option Cell) : R PV := match o with
  | some (.ins c fs) => if memN c L then (match look fs f with | some w => .ok w st | none => .stuck 41) else .stuck 40
  | _ => .stuck 42
def fldV (f : Nat) (L : List Nat) (v : PV) (st : St) : R PV := match v with
  | .ref a => fldO f L st (st.get a)
  | _ => .stuck 43
def e_attr (x : Y.X) (f : Nat) (L : List Nat) : Y.X := fun r fr st => (x r fr st).bind fun v st => fldV f L v st
def metO (m : Nat) (ms : List (Nat × Nat)) (o : Option Cell) : Option Nat := match o with
  | some (.ins c fs) => (match look fs m with | none => look ms c | some _ => none)
  | _ => none
def metV (m : Nat) (ms : List (Nat × Nat)) (v : PV) (st : St) : Option Nat := match v with
  | .ref a => metO m ms (st.get a)
  | _ => none
def e_meth (x : Y.X) (m : Nat) (ms : List (Nat × Nat)) (a : XA) : Y.X := fun r fr st => (x r fr st).bind fun v st => match metV m ms v st with
  | some i => (a r fr st).bind fun vs st => r (.fn i) (v :: vs) st
  | none => .stuck 44
def e_call (i : Nat) (a : XA) : Y.X := fun r fr st => (a r fr st).bind fun vs st => r (.fn i) vs st
def madeV (w : PV) (v : PV) (st : St) : R PV := match v with
  | .non => .ok w st
  | _ => .stuck 45
def makeV (c i : Nat) (r : Ev) (vs : List PV) (st : St) : R PV := (r (.fn i) (.ref st.n :: vs) (st.new (.ins c []))).bind fun v st' => madeV (.ref st.n) v st'
def e_make (c i : Nat) (a : XA) : Y.X := fun r fr st => (a r fr st).bind fun vs st => makeV c i r vs st
def aStar (x : Y.X) (a : XA) : XA := fun r fr st => (x r fr st).bind fun v st => match v with
  | .tup xs => (a r fr st).bind fun ys st => .ok (xs ++ ys) st
  | .cl xs => (a r fr st).bind fun ys st => .ok (xs ++ ys) st
  | .ref p => (match st.get p with
    | some (.lst _ xs) => (a r fr st).bind fun ys st => .ok (xs ++ ys) st
    | _ => .stuck 46)
  | _ => .stuck 46
section
theorem memN_mem {c : Nat} : ∀ {L : List Nat}, memN c L = true → c ∈ L
  | [], h => by cases h
  | x :: r, h => by
    unfold memN at h
    by_cases e : Nat.beq c x = true
    · exact List.mem_cons.mpr (.inl (Nat.eq_of_beq_eq_true e))
    · rw [if_neg e] at h
      exact List.mem_cons.mpr (.inr (memN_mem h))
variable {T : Tb} {K : PySem.W.Frag} {ρ : Nat → Addr} {n : Nat} {H : Hp}
theorem FsRep.lk : ∀ {fs : List (Nat × PV)} {gs : List (Str × L2.V)} {f : Nat} {v : PV}, FsRep T K ρ n H fs gs → look fs f = some v → ∃ V, gs.lookup (T.nm f) = some V ∧ Rep T K ρ n H v V
  | _, _, f, v, .nil, h => by cases h
  | _, _, f, v, .cons (f := g) r t, h => by
    unfold Y.look at h
    by_cases e : Nat.beq g f = true
    · rw [if_pos e] at h
      cases h
      have := Nat.eq_of_beq_eq_true e
      subst this
      exact ⟨_, by rw [List.lookup_cons, show (T.nm g == T.nm g) = true from by simp], r⟩
    · rw [if_neg e] at h
      obtain ⟨V, h1, h2⟩ := FsRep.lk t h
      refine ⟨V, ?_, h2⟩
      have : (T.nm f == T.nm g) = false := by
        rw [beq_eq_false_iff_ne]
        intro z
        have := T.inj _ _ z
        subst this
        exact e (Nat.beq_refl _)
      rw [List.lookup_cons, this]
      exact h1
theorem FsRep.nolk : ∀ {fs : List (Nat × PV)} {gs : List (Str × L2.V)} {f : Nat}, FsRep T K ρ n H fs gs → look fs f = none → gs.lookup (T.nm f) = none
  | _, _, f, .nil, h => rfl
  | _, _, f, .cons (f := g) r t, h => by
    unfold Y.look at h
    by_cases e : Nat.beq g f = true
    · rw [if_pos e] at h; cases h
    · rw [if_neg e] at h
      have : (T.nm f == T.nm g) = false := by
        rw [beq_eq_false_iff_ne]
        intro z
        have := T.inj _ _ z
        subst this
        exact e (Nat.beq_refl _)
      rw [List.lookup_cons, this]
      exact FsRep.nolk t h
end
section
variable {X : Cx} {T : Tb} {k : Nat} {r : Ev} {pos apos p sp_ : Pos} {e o : Expr} {es : List Expr} {x : Y.X} {a : XA} {f m i c : Nat} {nx : Str}
/-- an attribute -/
theorem sE_attr {L : List Nat} (he : PE X e (tE T X.K r x)) (hL : ∀ c ∈ L, Cls X.K (T.ca c) ∧ NoAttr X.K (T.ca c) (T.nm f)) (hf : T.nm f = nx) (hb : attributeBase e nx X.env (eval e X.env) = eval e X.env := by rfl) : PE X (.Attribute e nx pos) (tE T X.K r (e_attr x f L)) :=
  PE.imp (pe_fld he hb) fun σ H Q ⟨ρ, fr, st, F, S, v, st', e1, kk⟩ => by
    obtain ⟨v1, s1, e1, e2⟩ := bind_ok e1
    refine ⟨ρ, fr, st, F, S, v1, s1, e1, fun ρ1 V1 H1 N1 S1 R1 => ?_⟩
    cases R1 with
    | @ref y hy =>
      have e2 : fldO f L s1 (s1.get y) = .ok v st' := e2
      cases g : s1.get y with
      | none => rw [g] at e2; cases e2
      | some cl =>
        rw [g] at e2
        cases cl with
        | ins c fs =>
          have e2 : (if memN c L = true then (match look fs f with | some w => R.ok w s1 | none => .stuck 41) else .stuck 40) = .ok v st' := e2
          by_cases hm : memN c L = true
          · rw [if_pos hm] at e2
            cases g2 : look fs f with
            | none => rw [g2] at e2; cases e2
            | some w =>
              rw [g2] at e2
              cases e2
              obtain ⟨_, dx, gs, h1, h2⟩ := S1.cell y _ g
              obtain ⟨V, l, rv⟩ := h2.lk g2
              obtain ⟨q1, q2⟩ := hL c (memN_mem hm)
              rw [hf] at l q2
              exact ⟨_, _, dx, gs, V, rfl, h1, q1, q2, l, kk ρ1 V H1 N1 S1 rv⟩
          · rw [if_neg hm] at e2; cases e2
        | _ => cases e2
    | _ => cases e2
/-- what a method's name means -/
structure MetC (P : Program) (w : World) (K : PySem.W.Frag) (mg : Str → Option Value) (base : Heap) (T : Tb) (k : Nat) (r : Ev) (m : Nat) (ms : List (Nat × Nat)) : Prop where
  at_ : ∀ c i, look ms c = some i → Cls K (T.ca c) ∧ Meth K (T.ca c) (T.nm m) (T.fa i) ∧ EvC P w K mg base T k r i
theorem metV_some {K : PySem.W.Frag} {ρ : Nat → Addr} {st : St} {H : Hp} {ms : List (Nat × Nat)} {v : PV} {V : L2.V} (S : StRep T K ρ st H) (R : Rep T K ρ st.n H v V) (h : metV m ms v st = some i) :
    ∃ c p dx gs, look ms c = some i ∧ V = .ref p ∧ H p = some (.ins (T.ca c) dx gs) ∧ gs.lookup (T.nm m) = none := by
  cases R with
  | @ref y hy =>
    have h : metO m ms (st.get y) = some i := h
    cases g : st.get y with
    | none => rw [g] at h; cases h
    | some cl =>
      rw [g] at h
      cases cl with
      | ins c fs =>
        have h : (match look fs m with | none => look ms c | some _ => none) = some i := h
        cases g2 : look fs m with
        | some _ => rw [g2] at h; cases h
        | none =>
          rw [g2] at h
          obtain ⟨_, dx, gs, h1, h2⟩ := S.cell y _ g
          exact ⟨c, _, dx, gs, h, rfl, h1, h2.nolk g2⟩
      | _ => cases h
  | _ => cases h
theorem sE_meth {ms : List (Nat × Nat)} {pl : Sem Bool} (hr : Room k X.A) (C : MetC X.prog X.w X.K X.mg X.base T k r m ms) (hm : T.nm m = nx) (he : PE X o (tE T X.K r x)) (ha : PA X (e :: es) (tA T X.K r a))
    (hst : starEach (e :: es) X.env = (false, eval e X.env) :: starEach es X.env := by rfl) (hpl : (backTo pos (starEach es X.env)).any (·.1) = false := by rfl)
    (ht : eval (.Call (.Attribute o nx apos) (e :: es) [] pos) X.env = (do
      let ov ← eval o X.env
      standAt apos.atName
      let (f, first) ← holding [ov] (getMethod ov nx pl)
      callWith pos f first (backTo pos (starEach (e :: es) X.env)) (backToKw pos (keywordEach [] X.env))) := by rfl) :
    PE X (.Call (.Attribute o nx apos) (e :: es) [] pos) (tE T X.K r (e_meth x m ms a)) := by
  refine ⟨fun pins s σ H Q I h => ?_⟩
  obtain ⟨ρ, fr, st, F, S, v, st', e0, kk⟩ := h
  obtain ⟨v1, s1, e1, e2⟩ := bind_ok e0
  cases g : metV m ms v1 s1 with
  | none => rw [g] at e2; cases e2
  | some i =>
    rw [g] at e2
    obtain ⟨vs, s2, e2, e3⟩ := bind_ok e2
    refine PySem.W.methodCall_KW (pl := pl) (thn (he.run pins s σ H (fun z H1 => ∃ ρ1, StRep T X.K ρ1 s1 H1 ∧ Nxt ρ st H ρ1 s1 H1 ∧ Rep T X.K ρ1 s1.n H1 v1 z) I ⟨ρ, fr, st, F, S, v1, s1, e1, fun ρ1 V1 H1 N1 S1 R1 => ⟨ρ1, S1, N1, R1⟩⟩) fun u t1 ⟨z, H1, I1, rz, ρ1, S1, N1, R1⟩ => ?_) ht
    obtain ⟨c, q, dx, gs, l1, rfl, hq, l2⟩ := metV_some S1 R1 g
    obtain ⟨c1, c2, ev⟩ := C.at_ c i l1
    obtain rfl : u = Value.ref q := rz
    rw [hm] at c2 l2
    refine getmeth_ok I1 hq c1 c2 l2 ?_
    refine PySem.W.callWith_K (first := [.ref q]) (h₀ := X.base) I.ok.mod.kin ev.kp (thn (ha.run pos pins t1 σ H1 (fun ws H2 => ∃ ρ2, StRep T X.K ρ2 s2 H2 ∧ Nxt ρ1 s1 H1 ρ2 s2 H2 ∧ Reps T X.K ρ2 s2.n H2 vs ws) I1 ⟨ρ1, fr, s1, F.stay N1.stay, S1, vs, s2, e2, fun ρ2 V2 H2 N2 S2 R2 => ⟨ρ2, S2, N2, R2⟩⟩) fun us t2 ⟨ws, H2, I2, rw_, ρ2, S2, N2, R2⟩ => ⟨I2.kIn, ?_⟩) hst hpl
    exact ev.run1 hr I2 (vs := .ref q :: ws) (.cons rfl rw_) ⟨ρ2, s2, v1 :: vs, S2, .cons (R1.stay N2.stay) R2, v, st', e3, fun ρ3 V3 H3 N3 S3 R3 => kk ρ3 V3 H3 ((N1.trans N2).trans N3) S3 R3⟩
theorem sE_meth0 {ms : List (Nat × Nat)} {pl : Sem Bool} (hr : Room k X.A) (C : MetC X.prog X.w X.K X.mg X.base T k r m ms) (hm : T.nm m = nx) (he : PE X o (tE T X.K r x))
    (ht : eval (.Call (.Attribute o nx apos) [] [] pos) X.env = (do
      let ov ← eval o X.env
      standAt apos.atName
      let (f, first) ← holding [ov] (getMethod ov nx pl)
      callWith pos f first (backTo pos (starEach [] X.env)) (backToKw pos (keywordEach [] X.env))) := by rfl) :
    PE X (.Call (.Attribute o nx apos) [] [] pos) (tE T X.K r (e_meth x m ms aNil)) := by
  refine ⟨fun pins s σ H Q I h => ?_⟩
  obtain ⟨ρ, fr, st, F, S, v, st', e0, kk⟩ := h
  obtain ⟨v1, s1, e1, e2⟩ := bind_ok e0
  cases g : metV m ms v1 s1 with
  | none => rw [g] at e2; cases e2
  | some i =>
    rw [g] at e2
    obtain ⟨vs, s2, e2, e3⟩ := bind_ok e2
    cases e2
    refine PySem.W.methodCall_KW (pl := pl) (thn (he.run pins s σ H (fun z H1 => ∃ ρ1, StRep T X.K ρ1 s1 H1 ∧ Nxt ρ st H ρ1 s1 H1 ∧ Rep T X.K ρ1 s1.n H1 v1 z) I ⟨ρ, fr, st, F, S, v1, s1, e1, fun ρ1 V1 H1 N1 S1 R1 => ⟨ρ1, S1, N1, R1⟩⟩) fun u t1 ⟨z, H1, I1, rz, ρ1, S1, N1, R1⟩ => ?_) ht
    obtain ⟨c, q, dx, gs, l1, rfl, hq, l2⟩ := metV_some S1 R1 g
    obtain ⟨c1, c2, ev⟩ := C.at_ c i l1
    obtain rfl : u = Value.ref q := rz
    rw [hm] at c2 l2
    refine getmeth_ok I1 hq c1 c2 l2 ?_
    refine PySem.W.callWith_K0 (first := [.ref q]) I1.kIn ev.kp ?_
    exact ev.run1 hr I1 (vs := [.ref q]) (.cons rfl .nil) ⟨ρ1, s1, [v1], S1, .cons R1 .nil, v, st', e3, fun ρ3 V3 H3 N3 S3 R3 => kk ρ3 V3 H3 (N1.trans N3) S3 R3⟩
/-- a def of the module, called -/
theorem sE_call (hr : Room k X.A) (C : EvC X.prog X.w X.K X.mg X.base T k r i) (hm : X.mg nx = some (.ref (T.fa i))) (hg : Gl X nx) (ha : PA X (e :: es) (tA T X.K r a)) (hdb : (nx == ("__debug__" : Str)) = false := by decide)
    (he : starEach (e :: es) X.env = (false, eval e X.env) :: starEach es X.env := by rfl) (hpl : (backTo pos (starEach es X.env)).any (·.1) = false := by rfl) : PE X (.Call (.Name nx p) (e :: es) [] pos) (tE T X.K r (e_call i a)) := by
  refine ⟨fun pins s σ H Q I h => ?_⟩
  obtain ⟨ρ, fr, st, F, S, v, st', e0, kk⟩ := h
  obtain ⟨vs, s1, e1, e2⟩ := bind_ok e0
  refine wpAny_Call_Name_kw (ld_glob I hg hm ?_ hdb)
  refine PySem.W.callWith_K (h₀ := X.base) I.ok.mod.kin C.kp (thn (ha.run pos pins s σ H (fun ws H1 => spE T X.K r i ws H1 Q C8.E0) I ⟨ρ, fr, st, F, S, vs, s1, e1, fun ρ1 V1 H1 N1 S1 R1 => ?_⟩) fun us s1 ⟨vs, H1, I1, r, q⟩ => ⟨I1.kIn, ?_⟩) he hpl
  · exact ⟨ρ1, s1, vs, S1, R1, v, st', e2, fun ρ2 V2 H2 N2 S2 R2 => kk ρ2 V2 H2 (N1.trans N2) S2 R2⟩
  · exact C.run1 hr I1 r q
theorem sE_call0 (hr : Room k X.A) (C : EvC X.prog X.w X.K X.mg X.base T k r i) (hm : X.mg nx = some (.ref (T.fa i))) (hg : Gl X nx) (hdb : (nx == ("__debug__" : Str)) = false := by decide) : PE X (.Call (.Name nx p) [] [] pos) (tE T X.K r (e_call i aNil)) := by
  refine ⟨fun pins s σ H Q I h => ?_⟩
  obtain ⟨ρ, fr, st, F, S, v, st', e0, kk⟩ := h
  obtain ⟨vs, s1, e1, e2⟩ := bind_ok e0
  cases e1
  refine wpAny_Call_Name_kw (ld_glob I hg hm ?_ hdb)
  exact PySem.W.callWith_K0 I.kIn C.kp (C.run1 hr I .nil ⟨ρ, _, [], S, .nil, v, st', e2, kk⟩)
/-- .. with stars -/
theorem sE_callS (hr : Room k X.A) (C : EvC X.prog X.w X.K X.mg X.base T k r i) (hm : X.mg nx = some (.ref (T.fa i))) (hg : Gl X nx) (ha : PA X (e :: es) (tA T X.K r a)) (hdb : (nx == ("__debug__" : Str)) = false := by decide)
    (he : starEach (e :: es) X.env = (false, eval e X.env) :: starEach es X.env := by rfl) (hst : (backTo pos (starEach es X.env)).any (·.1) = true := by rfl) : PE X (.Call (.Name nx p) (e :: es) [] pos) (tE T X.K r (e_call i a)) :=
  PE.imp (StX.pe_callS2 (E := C8.E0) C.fn hr C.kp hg hm C8.pass0 ha hdb he hst) fun σ H Q ⟨ρ, fr, st, F, S, v, st', e0, kk⟩ => by
    obtain ⟨vs, s1, e1, e2⟩ := bind_ok e0
    exact ⟨ρ, fr, st, F, S, vs, s1, e1, fun ρ1 V1 H1 N1 S1 R1 => ⟨ρ1, s1, vs, S1, R1, v, st', e2, fun ρ2 V2 H2 N2 S2 R2 => kk ρ2 V2 H2 (N1.trans N2) S2 R2⟩⟩
/-- what stands behind a star -/
theorem aStar_ok {ρ : Nat → Addr} {fr : Fr} {st st' : St} {ws : List PV} (e0 : aStar x a r fr st = .ok ws st') : ∃ v s1 xs ys, x r fr st = .ok v s1 ∧ a r fr s1 = .ok ys st' ∧ ws = xs ++ ys ∧
    ∀ {K : PySem.W.Frag} {ρ : Nat → Addr} {H : Hp} {V : L2.V}, StRep T K ρ s1 H → Rep T K ρ s1.n H v V → ∃ p Vs, V = .ref p ∧ (SqT K H p Vs ∨ SqL K H p Vs) ∧ Reps T K ρ s1.n H xs Vs := by
  obtain ⟨v, s1, e1, e2⟩ := bind_ok e0
  cases v with
  | tup xs =>
    obtain ⟨ys, s2, e2, e3⟩ := bind_ok e2
    cases e3
    refine ⟨_, s1, xs, ys, e1, e2, rfl, fun S R => ?_⟩
    cases R with
    | tup h t => exact ⟨_, _, rfl, .inl h, t⟩
  | cl xs =>
    obtain ⟨ys, s2, e2, e3⟩ := bind_ok e2
    cases e3
    refine ⟨_, s1, xs, ys, e1, e2, rfl, fun S R => ?_⟩
    cases R with
    | cl h t => exact ⟨_, _, rfl, .inr h.sq, t⟩
  | ref p =>
    cases g : s1.get p with
    | none => simp only [g] at e2; cases e2
    | some cl =>
      cases cl with
      | lst ver xs =>
        simp only [g] at e2
        obtain ⟨ys, s2, e2, e3⟩ := bind_ok e2
        cases e3
        refine ⟨_, s1, xs, ys, e1, e2, rfl, fun S R => ?_⟩
        obtain ⟨_, vs, h, t⟩ := lst_at S g
        cases R
        exact ⟨_, _, rfl, .inr (.of h), t⟩
      | _ => simp only [g] at e2; cases e2
  | _ => cases e2
theorem sA_star (h : PE X e (tE T X.K r x)) (t : PA X es (tA T X.K r a)) (hs : starEach (.Starred e p :: es) X.env = (true, eval e X.env) :: starEach es X.env := by rfl) : PA X (.Starred e p :: es) (tA T X.K r (aStar x a)) :=
  PA.imp (StX.pa_star h t hs) fun σ H Q ⟨ρ, fr, st, F, S, ws, st', e0, kk⟩ => by
    obtain ⟨v, s1, xs, ys, e1, e2, rfl, hh⟩ := aStar_ok (T := T) (ρ := ρ) e0
    refine ⟨ρ, fr, st, F, S, v, s1, e1, fun ρ1 V1 H1 N1 S1 R1 => ?_⟩
    obtain ⟨p, Vs, rfl, hp, rs⟩ := hh S1 R1
    exact ⟨p, Vs, rfl, hp, ρ1, fr, s1, F.stay N1.stay, S1, ys, st', e2, fun ρ2 V2 H2 N2 S2 R2 => kk ρ2 _ H2 (N1.trans N2) S2 ((rs.stay N2.stay).append R2)⟩
theorem sE_callS1 (hr : Room k X.A) (C : EvC X.prog X.w X.K X.mg X.base T k r i) (hm : X.mg nx = some (.ref (T.fa i))) (hg : Gl X nx) (he : PE X e (tE T X.K r x)) (hdb : (nx == ("__debug__" : Str)) = false := by decide)
    (hst : starEach [.Starred e sp_] X.env = [(true, eval e X.env)] := by rfl) : PE X (.Call (.Name nx p) [.Starred e sp_] [] pos) (tE T X.K r (e_call i (aStar x aNil))) :=
  PE.imp (StX.pe_callS1 (E := C8.E0) C.fn hr C.kp hg hm C8.pass0 he hdb hst) fun σ H Q ⟨ρ, fr, st, F, S, v, st', e0, kk⟩ => by
    obtain ⟨ws, s1, e1, e2⟩ := bind_ok e0
    obtain ⟨v1, s1, xs, ys, e1, e3, rfl, hh⟩ := aStar_ok (T := T) (ρ := ρ) e1
    cases e3
    refine ⟨ρ, fr, st, F, S, v1, s1, e1, fun ρ1 V1 H1 N1 S1 R1 => ?_⟩
    obtain ⟨p, Vs, rfl, hp, rs⟩ := hh S1 R1
    rw [List.append_nil] at e2
    exact ⟨p, Vs, rfl, hp, ρ1, s1, xs, S1, rs, v, st', e2, fun ρ2 V2 H2 N2 S2 R2 => kk ρ2 V2 H2 (N1.trans N2) S2 R2⟩
/-- an instance is made -/
theorem make_step {K : PySem.W.Frag} {ρ : Nat → Addr} {st st' : St} {H : Hp} {vs : List PV} {Vs : List L2.V} {v : PV} {Q : VK} {y dx : Addr} (S : StRep T K ρ st H) (R : Reps T K ρ st.n H vs Vs) (e0 : makeV c i r vs st = .ok v st')
    (kk : ∀ ρ' V H', Nxt ρ st H ρ' st' H' → StRep T K ρ' st' H' → Rep T K ρ' st'.n H' v V → Q V H') (hy : H y = none) (hd : H dx = none) (hne : dx ≠ y) :
    spE T K r i (V.ref y :: Vs) (upd (upd H dx (.own y)) y (.ins (T.ca c) dx [])) (fun z H2 => z = .non ∧ Q (.ref y) H2) C8.E0 := by
  obtain ⟨w, s1, e1, e2⟩ := bind_ok e0
  cases w with
  | non =>
    cases e2
    have hy' : upd H dx (.own y) y = none := by rw [upd_ne (Ne.symm hne)]; exact hy
    have S1 : StRep T K ρ st (upd H dx (.own y)) := S.laid hd
    have N1 : Nxt ρ st H ρ st (upd H dx (.own y)) := .laid S hd
    have S2 : StRep T K (ρput ρ st.n y) (st.new (.ins c [])) (upd (upd H dx (.own y)) y (.ins (T.ca c) dx [])) := S1.grow hy' ⟨dx, [], upd_same, .nil⟩
    have N2 : Nxt ρ st (upd H dx (.own y)) (ρput ρ st.n y) (st.new (.ins c [])) (upd (upd H dx (.own y)) y (.ins (T.ca c) dx [])) := .grow S1 hy'
    have N := N1.trans N2
    have Ry : Rep T K (ρput ρ st.n y) (st.n + 1) (upd (upd H dx (.own y)) y (.ins (T.ca c) dx [])) (.ref st.n) (.ref y) := by
      have q : Rep T K (ρput ρ st.n y) (st.n + 1) (upd (upd H dx (.own y)) y (.ins (T.ca c) dx [])) (.ref st.n) (.ref (ρput ρ st.n y st.n)) := .ref (Nat.lt_succ_self _)
      rw [ρput_at] at q
      exact q
    refine ⟨_, _, .ref st.n :: vs, S2, .cons Ry (R.stay N.stay), .non, _, e1, fun ρ' V H' N' S' R' => ?_⟩
    cases R'
    exact ⟨rfl, kk ρ' _ H' (N.trans N') S' (Ry.stay N'.stay)⟩
  | _ => cases e2
theorem sE_make (hr : Room (k + 1) X.A) (C : EvC X.prog X.w X.K X.mg X.base T k r i) (M : Mk X.K (T.ca c) (T.fa i)) (hm : X.mg nx = some (.ref (T.ca c))) (hg : Gl X nx) (ha : PA X (e :: es) (tA T X.K r a)) (hdb : (nx == ("__debug__" : Str)) = false := by decide)
    (he : starEach (e :: es) X.env = (false, eval e X.env) :: starEach es X.env := by rfl) (hpl : (backTo pos (starEach es X.env)).any (·.1) = false := by rfl) : PE X (.Call (.Name nx p) (e :: es) [] pos) (tE T X.K r (e_make c i a)) :=
  PE.imp (StX.pe_makeR (E := C8.E0) M C.fn hr hg hm C8.pass0 ha hdb he hpl) fun σ H Q ⟨ρ, fr, st, F, S, v, st', e0, kk⟩ => by
    obtain ⟨vs, s1, e1, e2⟩ := bind_ok e0
    exact ⟨ρ, fr, st, F, S, vs, s1, e1, fun ρ1 V1 H1 N1 S1 R1 y dx hy hd hne => make_step S1 R1 e2 (fun ρ2 V2 H2 N2 S2 R2 => kk ρ2 V2 H2 (N1.trans N2) S2 R2) hy hd hne⟩
theorem sE_make0 (hr : Room (k + 1) X.A) (C : EvC X.prog X.w X.K X.mg X.base T k r i) (M : Mk X.K (T.ca c) (T.fa i)) (hm : X.mg nx = some (.ref (T.ca c))) (hg : Gl X nx) (hdb : (nx == ("__debug__" : Str)) = false := by decide) : PE X (.Call (.Name nx p) [] [] pos) (tE T X.K r (e_make c i aNil)) := by
  refine ⟨fun pins s σ H Q I h => ?_⟩
  obtain ⟨ρ, fr, st, F, S, v, st', e0, kk⟩ := h
  obtain ⟨vs, s1, e1, e2⟩ := bind_ok e0
  cases e1
  refine wpAny_Call_Name_kw (ld_glob I hg hm ?_ hdb)
  exact PySem.W.callWith_K0 I.kIn M.kp (StX.run_makeR (E := C8.E0) M C.fn hr C8.pass0 I .nil fun y dx hy hd hne => make_step S .nil e2 kk hy hd hne)
end
end Y
end
section
set_option linter.all false
set_option maxRecDepth 100000
set_option maxHeartbeats 4000000
/-! Y12: statements and targets. -/
namespace Y
open PySem PySem.Spec L2 PyProof.Rows
/-! ### a cell written -/
section
variable {T : Tb} {K : PySem.W.Frag} {ρ : Nat → Addr} {st : St} {H : Hp}
theorem Stay.write {p : Addr} {o0 o : HO} (h0 : H p = some o0) (hf : fixO o0 = false) {n : Nat} : Stay K ρ n H ρ n (upd H p o) where
  le := Nat.le_refl _
  rho := fun _ _ => rfl
  tup := fun q xs h => by
    have ne : ∀ u, H q = some u → fixO u = true → q ≠ p := fun u e f z => by subst z; rw [h0] at e; cases e; rw [hf] at f; cases f
    rcases h with (h | ⟨u, h⟩) | h
    · exact .inl (.inl (by rw [upd_ne (ne _ h rfl)]; exact h))
    · exact .inl (.inr ⟨u, by rw [upd_ne (ne _ h rfl)]; exact h⟩)
    · exact .inr h
  rng := fun q a b h => by
    have ne : q ≠ p := fun z => by subst z; rw [h0] at h; cases h; cases hf
    rw [upd_ne ne]; exact h
  cl := fun q vs h => by
    rcases h with ⟨u, h⟩ | h
    · have ne : q ≠ p := fun z => by subst z; rw [h0] at h; cases h; cases hf
      exact .inl ⟨u, by rw [upd_ne ne]; exact h⟩
    · exact .inr h
theorem StRep.write {a : Nat} {c0 c' : Cell} {o0 o : HO} (s : StRep T K ρ st H) (g : st.get a = some c0) (h0 : H (ρ a) = some o0) (hf : fixO o0 = false) (hc : CellRep T K ρ st.n (upd H (ρ a) o) c' (ρ a)) : StRep T K ρ (st.set a c') (upd H (ρ a) o) where
  cell := fun b c e => by
    rw [St.get_set] at e
    by_cases h : b = a
    · rw [if_pos h] at e
      cases e
      subst h
      exact ⟨(s.cell b _ g).1, hc⟩
    · rw [if_neg h] at e
      obtain ⟨h1, h2⟩ := s.cell b c e
      exact ⟨h1, h2.stay (.write h0 hf) (upd_ne fun z => h (s.inj _ _ h1 (s.cell a _ g).1 z))⟩
  full := fun b h => by
    rw [St.get_set]
    by_cases e : b = a
    · rw [if_pos e]; rfl
    · rw [if_neg e]; exact s.full b h
  inj := s.inj
theorem Nxt.write {a : Nat} {c0 c' : Cell} {o0 o : HO} (s : StRep T K ρ st H) (g : st.get a = some c0) (h0 : H (ρ a) = some o0) (hf : fixO o0 = false) (hv : verLe (some c0) (some c')) (hn : ¬ verEq (some c0) (some c')) : Nxt ρ st H ρ (st.set a c') (upd H (ρ a) o) where
  le := Nat.le_refl _
  rho := fun _ _ => rfl
  new := fun b h1 h2 => absurd h2 (Nat.not_lt.mpr h1)
  fix := fun p u h f => by
    have ne : p ≠ ρ a := fun z => by subst z; rw [h0] at h; cases h; rw [hf] at f; cases f
    rw [upd_ne ne]; exact h
  trk := fun p h => by
    by_cases e : p = ρ a
    · subst e; rw [upd_same] at h; cases h
    · rw [upd_ne e] at h; exact h
  keep := fun p u h hn => by rw [upd_ne (hn a (s.cell a _ g).1)]; exact h
  ver := fun b h => by
    rw [St.get_set]
    by_cases e : b = a
    · subst e; rw [if_pos rfl, g]; exact hv
    · rw [if_neg e]; exact .refl (s.full b h)
  same := fun b h e => by
    rw [St.get_set] at e
    by_cases z : b = a
    · subst z; rw [if_pos rfl, g] at e; exact absurd e hn
    · exact upd_ne fun w => z (s.inj _ _ h (s.cell a _ g).1 w)
theorem FsRep.put {v : PV} {V : L2.V} {f : Nat} {n : Nat} (rv : Rep T K ρ n H v V) : ∀ {fs : List (Nat × PV)} {gs : List (Str × L2.V)}, FsRep T K ρ n H fs gs → FsRep T K ρ n H (putF fs f v) (L2.putF (T.nm f) V gs)
  | _, _, .nil => .cons rv .nil
  | _, _, .cons (f := g) (fs := fs) (gs := gs) r t => by
    unfold Y.putF L2.putF
    by_cases e : Nat.beq g f = true
    · have := Nat.eq_of_beq_eq_true e
      subst this
      rw [if_pos e, if_pos rfl]
      exact .cons rv t
    · rw [if_neg e, if_neg fun z => e (by rw [T.inj _ _ z]; exact Nat.beq_refl _)]
      exact .cons r (FsRep.put rv t)
theorem FsRep.len : ∀ {n : Nat} {fs : List (Nat × PV)} {gs : List (Str × L2.V)}, FsRep T K ρ n H fs gs → fs.length = gs.length
  | _, _, _, .nil => rfl
  | _, _, _, .cons _ t => by rw [List.length_cons, List.length_cons, FsRep.len t]
end
/-! ### readings -/
section
variable (T : Tb) (K : PySem.W.Frag)
def OutS (ρ : Nat → Addr) (st : St) (H : Hp) (x : RS) (D : Ends) : Prop := match x with
  | .next fr' st' => ∀ ρ' σ' H', Nxt ρ st H ρ' st' H' → StRep T K ρ' st' H' → FrRep T K ρ' st'.n H' fr' σ' → D.nx σ' H'
  | .ret v st' => ∀ ρ' V H', Nxt ρ st H ρ' st' H' → StRep T K ρ' st' H' → Rep T K ρ' st'.n H' v V → D.rt V H'
  | _ => False
def tS (r : Ev) (x : XS) : TS := fun D σ H => ∃ ρ fr st, FrRep T K ρ st.n H fr σ ∧ StRep T K ρ st H ∧ OutS T K ρ st H (x r fr st) D
def OutF (ρ : Nat → Addr) (st : St) (H : Hp) (x : R Fr) (Q : L2.St → Hp → Prop) : Prop :=
  ∃ fr' st', x = .ok fr' st' ∧ ∀ ρ' σ' H', Nxt ρ st H ρ' st' H' → StRep T K ρ' st' H' → FrRep T K ρ' st'.n H' fr' σ' → Q σ' H'
def tG (r : Ev) (t : XT) : TG := fun V σ H Q => ∃ ρ fr st v, FrRep T K ρ st.n H fr σ ∧ StRep T K ρ st H ∧ Rep T K ρ st.n H v V ∧ OutF T K ρ st H (t v r fr st) Q
abbrev XTs := List PV → Ev → Fr → St → R Fr
def tGs (r : Ev) (t : XTs) : TGs := fun Vs σ H Q => ∃ ρ fr st vs, FrRep T K ρ st.n H fr σ ∧ StRep T K ρ st H ∧ Reps T K ρ st.n H vs Vs ∧ OutF T K ρ st H (t vs r fr st) Q
end
section
variable {T : Tb} {K : PySem.W.Frag} {ρ ρ1 : Nat → Addr} {st st1 : St} {H H1 : Hp}
theorem OutS.next {x : RS} {D : Ends} (N : Nxt ρ st H ρ1 st1 H1) (o : OutS T K ρ st H x D) : OutS T K ρ1 st1 H1 x D := by
  cases x with
  | next fr st' => exact fun ρ' σ' H' N' S' F' => o ρ' σ' H' (N.trans N') S' F'
  | ret v st' => exact fun ρ' V H' N' S' R' => o ρ' V H' (N.trans N') S' R'
  | exc _ _ _ _ => exact o
  | stuck _ => exact o
theorem OutF.next {x : R Fr} {Q : L2.St → Hp → Prop} (N : Nxt ρ st H ρ1 st1 H1) (o : OutF T K ρ st H x Q) : OutF T K ρ1 st1 H1 x Q := let ⟨fr, st', e, k⟩ := o; ⟨fr, st', e, fun ρ' σ' H' N' => k ρ' σ' H' (N.trans N')⟩
theorem Out.next {x : R PV} {Q : VK} (N : Nxt ρ st H ρ1 st1 H1) (o : Out T K ρ st H x Q) : Out T K ρ1 st1 H1 x Q := let ⟨fr, st', e, k⟩ := o; ⟨fr, st', e, fun ρ' σ' H' N' => k ρ' σ' H' (N.trans N')⟩
theorem OutF.here {fr : Fr} {σ : L2.St} {Q : L2.St → Hp → Prop} (S : StRep T K ρ st H) (F : FrRep T K ρ st.n H fr σ) (o : OutF T K ρ st H (.ok fr st) Q) : Q σ H := by
  obtain ⟨_, _, e, k⟩ := o
  cases e
  exact k ρ σ H (.refl S) S F
end
section
variable {X : Cx}
theorem PS.imp {s : Stmt} {t t' : TS} (h : PS X s t) (i : ∀ D σ H, t' D σ H → t D σ H) : PS X s t' := ⟨fun pins s σ H D I q => h.run pins s σ H D I (i D σ H q)⟩
theorem PSs.imp {s : List Stmt} {t t' : TS} (h : PSs X s t) (i : ∀ D σ H, t' D σ H → t D σ H) : PSs X s t' := ⟨fun pins s σ H D I q => h.run pins s σ H D I (i D σ H q)⟩
theorem PG.imp {s : Expr} {t t' : TG} (h : PG X s t) (i : ∀ v σ H Q, t' v σ H Q → t v σ H Q) : PG X s t' := ⟨fun pins s σ H v u Q I r q => h.run pins s σ H v u Q I r (i v σ H Q q)⟩
theorem PGs.imp {s : List Expr} {t t' : TGs} (h : PGs X s t) (i : ∀ v σ H Q, t' v σ H Q → t v σ H Q) : PGs X s t' := ⟨fun pins s σ H v u Q I r q => h.run pins s σ H v u Q I r (i v σ H Q q)⟩
end
/-! ### targets -/
def t_v (i : Nat) : XT := fun v _ fr st => .ok (setNth fr i (some v)) st
def ts_nil : XTs := fun vs _ fr st => match vs with | [] => .ok fr st | _ => .stuck 50
def ts_cons (t : XT) (u : XTs) : XTs := fun vs r fr st => match vs with
  | v :: vs => (t v r fr st).bind fun fr st => u vs r fr st
  | [] => .stuck 50
/-- the items of a tuple or list that is unpacked -/
def itemsV (st : St) (v : PV) : Option (List PV) := match v with
  | .tup xs => some xs
  | _ => none
def t_tup (n : Nat) (t : XTs) : XT := fun v r fr st => match itemsV st v with
  | some xs => if Nat.beq (len xs) n then t xs r fr st else .stuck 51
  | none => .stuck 51
def setFO (f : Nat) (L : List Nat) (w : PV) (a : Nat) (st : St) (o : Option Cell) : R PV := match o with
  | some (.ins c fs) => if memN c L && Nat.ble (len fs) 500 then .ok .non (st.set a (.ins c (putF fs f w))) else .stuck 52
  | _ => .stuck 52
def setFV (f : Nat) (L : List Nat) (v w : PV) (st : St) : R PV := match v with
  | .ref a => setFO f L w a st (st.get a)
  | _ => .stuck 52
def t_attr (x : Y.X) (f : Nat) (L : List Nat) : XT := fun w r fr st => (x r fr st).bind fun v st => (setFV f L v w st).bind fun _ st => .ok fr st
section
variable {X : Cx} {T : Tb} {k : Nat} {r : Ev} {pos : Pos} {e o : Expr} {es : List Expr} {x : Y.X} {t : XT} {u : XTs} {i f n : Nat} {nx : Str}
theorem sG_v (hN : X.N.Nodup) (hi : X.N[i]? = some nx) (hx : Loc X.env.scope nx) (hf : X.fn nx = true ∨ X.env.scope.names.lookup nx = some .local := by first | exact .inl rfl | exact .inr rfl | assumption) : PG X (.Name nx pos) (tG T X.K r (t_v i)) :=
  PG.imp (pg_name hN hi hx hf) fun V σ H Q ⟨ρ, fr, st, v, F, S, R, o⟩ => OutF.here S (F.set R i) o
theorem sGs_nil : PGs X [] (tGs T X.K r ts_nil) := PGs.imp pgs_nil fun Vs σ H Q ⟨ρ, fr, st, vs, F, S, R, o⟩ => by
  cases R with
  | nil => exact ⟨rfl, OutF.here S F o⟩
  | cons _ _ => obtain ⟨_, _, e, _⟩ := o; cases e
theorem sGs_cons (h1 : PG X e (tG T X.K r t)) (h2 : PGs X es (tGs T X.K r u)) (hs : (assignEach (e :: es) X.env).map (·.2) = assign e X.env :: (assignEach es X.env).map (·.2) := by rfl) : PGs X (e :: es) (tGs T X.K r (ts_cons t u)) :=
  PGs.imp (pgs_cons h1 h2 hs) fun Vs σ H Q ⟨ρ, fr, st, vs, F, S, R, o⟩ => by
    cases R with
    | nil => obtain ⟨_, _, e, _⟩ := o; cases e
    | @cons v V vs' Vs' h tl =>
      refine ⟨V, Vs', rfl, ρ, fr, st, v, F, S, h, ?_⟩
      obtain ⟨fr2, st2, e2, kk⟩ := o
      obtain ⟨fr1, st1, e1, e3⟩ := bind_ok e2
      exact ⟨fr1, st1, e1, fun ρ' σ' H' N' S' F' => ⟨ρ', fr1, st1, vs', F', S', tl.stay N'.stay, fr2, st2, e3, fun ρ2 σ2 H2 N2 S2 F2 => kk ρ2 σ2 H2 (N'.trans N2) S2 F2⟩⟩
theorem sG_tup {k' : Nat} (hc : X.calm = true) (h : PGs X es (tGs T X.K r u)) (hn : (assignEach es X.env).length = n := by rfl) (hst : (assignEach es X.env).findIdx? (·.1) = none := by rfl) : PG X (.Tuple es k' pos) (tG T X.K r (t_tup n u)) :=
  PG.imp (pg_tup hc h hn hst) fun V σ H Q ⟨ρ, fr, st, v, F, S, R, o⟩ => by
    obtain ⟨fr2, st2, e2, kk⟩ := o
    unfold t_tup at e2
    cases R with
    | @tup xs p vs hp tl =>
      have e2 : (if Nat.beq (len xs) n = true then u xs r fr st else .stuck 51) = .ok fr2 st2 := e2
      by_cases hl : Nat.beq (len xs) n = true
      · rw [if_pos hl] at e2
        have hl := Nat.eq_of_beq_eq_true hl
        rw [len_eq] at hl
        exact ⟨p, vs, rfl, hp, by rw [← tl.length]; exact hl, ρ, fr, st, xs, F, S, tl, fr2, st2, e2, kk⟩
      · rw [if_neg hl] at e2; cases e2
    | _ => cases e2
theorem setFV_ok {K : PySem.W.Frag} {ρ : Nat → Addr} {st st' : St} {H : Hp} {L : List Nat} {v w z : PV} {V W : L2.V} (S : StRep T K ρ st H) (Rv : Rep T K ρ st.n H v V) (Rw : Rep T K ρ st.n H w W) (e : setFV f L v w st = .ok z st') :
    ∃ c p dx gs, c ∈ L ∧ V = .ref p ∧ H p = some (.ins (T.ca c) dx gs) ∧ gs.length < 1000 ∧ StRep T K ρ st' (upd H p (.ins (T.ca c) dx (L2.putF (T.nm f) W gs))) ∧ Nxt ρ st H ρ st' (upd H p (.ins (T.ca c) dx (L2.putF (T.nm f) W gs))) ∧ st'.n = st.n := by
  cases Rv with
  | @ref a ha =>
    have e : setFO f L w a st (st.get a) = .ok z st' := e
    cases g : st.get a with
    | none => rw [g] at e; cases e
    | some cl =>
      rw [g] at e
      cases cl with
      | ins c fs =>
        have e : (if (memN c L && Nat.ble (len fs) 500) = true then R.ok PV.non (st.set a (.ins c (putF fs f w))) else .stuck 52) = .ok z st' := e
        by_cases hm : (memN c L && Nat.ble (len fs) 500) = true
        · rw [if_pos hm] at e
          cases e
          rw [Bool.and_eq_true, Nat.ble_eq, len_eq] at hm
          obtain ⟨_, dx, gs, h1, h2⟩ := S.cell a _ g
          refine ⟨c, _, dx, gs, memN_mem hm.1, rfl, h1, by rw [← h2.len]; omega, S.write g h1 rfl ⟨dx, _, upd_same, (h2.stay (.write h1 rfl)).put (Rw.stay (.write h1 rfl))⟩, Nxt.write S g h1 rfl trivial (fun z => z), rfl⟩
        · rw [if_neg hm] at e; cases e
      | _ => cases e
  | _ => cases e
theorem sG_attr {L : List Nat} (he : PE X o (tE T X.K r x)) (hL : ∀ c ∈ L, Cls X.K (T.ca c) ∧ NoAttr X.K (T.ca c) (T.nm f)) (hf : T.nm f = nx) (ha : ∀ v, assign (.Attribute o nx pos) X.env v = (do
      let ov ← holding [v] (eval o X.env)
      standAt pos.atName
      holding [v, ov] (setAttr ov nx v)
      release [v, ov] []) := by intro _; rfl) : PG X (.Attribute o nx pos) (tG T X.K r (t_attr x f L)) := by
  refine ⟨fun pins s σ H W u Q I rw_ h => ?_⟩
  obtain ⟨ρ, fr, st, w, F, S, R, fr2, st2, e0, kk⟩ := h
  obtain ⟨v1, s1, e1, e2⟩ := bind_ok e0
  obtain ⟨z, s2, e2, e3⟩ := bind_ok e2
  cases e3
  rw [ha]
  refine wpAny_bind (wpAny_holding (thn (he.run pins s σ H (fun V H1 => ∃ ρ1, StRep T X.K ρ1 s1 H1 ∧ Nxt ρ st H ρ1 s1 H1 ∧ Rep T X.K ρ1 s1.n H1 v1 V) I ⟨ρ, fr, st, F, S, v1, s1, e1, fun ρ1 V1 H1 N1 S1 R1 => ⟨ρ1, S1, N1, R1⟩⟩) fun ov t1 ⟨V, H1, I1, rV, ρ1, S1, N1, R1⟩ => ?_))
  obtain ⟨c, p, dx, gs, hc, rfl, hp, hl, S2, N2, hn⟩ := setFV_ok S1 R1 (R.stay N1.stay) e2
  obtain ⟨q1, q2⟩ := hL c hc
  obtain rfl : ov = Value.ref p := rV
  rw [hf] at q2 S2 N2
  refine wpAny_bind (wpAny_standAt (wpAny_bind (wpAny_holding (setattr_ok I1 hp q1 q2 hl rw_ fun s3 I3 => ?_))))
  exact wpAny_release ⟨σ, _, I3, kk ρ1 σ _ (N1.trans N2) S2 (F.stay (N1.trans N2).stay)⟩
end
/-! ### statements -/
def s_nil : XS := fun _ fr st => .next fr st
def s_seq (x y : XS) : XS := fun r fr st => match x r fr st with
  | .next fr st => y r fr st
  | e => e
def s_ex (x : Y.X) : XS := fun r fr st => match x r fr st with
  | .ok _ st => .next fr st
  | .exc c a st => .exc c a fr st
  | .stuck w => .stuck w
def s_ret (x : Y.X) : XS := fun r fr st => match x r fr st with
  | .ok v st => .ret v st
  | .exc c a st => .exc c a fr st
  | .stuck w => .stuck w
def s_retN : XS := fun _ _ st => .ret .non st
def toS (fr0 : Fr) (x : R Fr) : RS := match x with
  | .ok fr st => .next fr st
  | .exc c a st => .exc c a fr0 st
  | .stuck w => .stuck w
def s_asg (t : XT) (x : Y.X) : XS := fun r fr st => toS fr ((x r fr st).bind fun v st => t v r fr st)
def s_asg2 (t u : XT) (x : Y.X) : XS := fun r fr st => toS fr ((x r fr st).bind fun v st => (t v r fr st).bind fun fr st => u v r fr st)
def s_par2 (i j : Nat) (x y : Y.X) : XS := fun r fr st => toS fr ((x r fr st).bind fun v st => (y r fr st).bind fun w st => .ok (setNth (setNth fr i (some v)) j (some w)) st)
def s_par3 (i j l : Nat) (x y z : Y.X) : XS := fun r fr st => toS fr ((x r fr st).bind fun v st => (y r fr st).bind fun w st => (z r fr st).bind fun q st => .ok (setNth (setNth (setNth fr i (some v)) j (some w)) l (some q)) st)
def s_if (c : XB) (x y : XS) : XS := fun r fr st => match c r fr st with
  | .ok true st => x r fr st
  | .ok false st => y r fr st
  | .exc c a st => .exc c a fr st
  | .stuck w => .stuck w
def whl (c : XB) (x : XS) (r : Ev) : Nat → Fr → St → RS
  | 0, _, _ => .stuck 60
  | n + 1, fr, st => match c r fr st with
    | .ok true st => (match x r fr st with
      | .next fr st => whl c x r n fr st
      | e => e)
    | .ok false st => .next fr st
    | .exc c a st => .exc c a fr st
    | .stuck w => .stuck w
def s_whl (n : Nat) (c : XB) (x : XS) : XS := fun r fr st => whl c x r n fr st
section
variable {X : Cx} {T : Tb} {k : Nat} {r : Ev} {pos : Pos} {e o : Expr} {es : List Expr} {x y : Y.X} {t t2 : XT} {i f n : Nat} {nx : Str} {p q : XS} {b : XB} {s : Stmt} {ss s1 s2 : List Stmt}
theorem sS_nil : PSs X [] (tS T X.K r s_nil) := PSs.imp pss_nil fun D σ H ⟨ρ, fr, st, F, S, o⟩ => o ρ σ H (.refl S) S F
theorem sS_cons (h1 : PS X s (tS T X.K r p)) (h2 : PSs X ss (tS T X.K r q)) : PSs X (s :: ss) (tS T X.K r (s_seq p q)) := PSs.imp (pss_cons h1 h2) fun D σ H ⟨ρ, fr, st, F, S, o⟩ => by
  refine ⟨ρ, fr, st, F, S, ?_⟩
  unfold s_seq at o
  cases g : p r fr st with
  | next fr1 st1 =>
    rw [g] at o
    exact fun ρ1 σ1 H1 N1 S1 F1 => ⟨ρ1, fr1, st1, F1, S1, o.next N1⟩
  | ret v st1 => rw [g] at o; exact o
  | exc _ _ _ _ => rw [g] at o; exact o
  | stuck _ => rw [g] at o; exact o
theorem sS_one (h1 : PS X s (tS T X.K r p)) : PSs X [s] (tS T X.K r p) := pss_one h1
theorem sS_ex (he : PE X e (tE T X.K r x)) (hs : swapsWith e none pos.line X.env = pure false := by rfl) : PS X (.Expr e pos) (tS T X.K r (s_ex x)) := PS.imp (ps_expr he hs) fun D σ H ⟨ρ, fr, st, F, S, o⟩ => by
  unfold s_ex at o
  cases g : x r fr st with
  | ok v st1 =>
    rw [g] at o
    exact ⟨ρ, fr, st, F, S, v, st1, g, fun ρ1 V1 H1 N1 S1 R1 => o ρ1 σ H1 N1 S1 (F.stay N1.stay)⟩
  | exc _ _ _ => rw [g] at o; exact o.elim
  | stuck _ => rw [g] at o; exact o.elim
theorem sS_doc {x' : Str} {j : Nat} {pos' : Pos} : PS X (.Expr (.Constant (.str x') j pos) pos') (tS T X.K r s_nil) := PS.imp ps_doc fun D σ H ⟨ρ, fr, st, F, S, o⟩ => o ρ σ H (.refl S) S F
theorem sS_pass : PS X (.Pass pos) (tS T X.K r s_nil) := PS.imp ps_pass fun D σ H ⟨ρ, fr, st, F, S, o⟩ => o ρ σ H (.refl S) S F
theorem sS_ret (he : PE X e (tE T X.K r x)) : PS X (.Return (some e) pos) (tS T X.K r (s_ret x)) := PS.imp (ps_ret he) fun D σ H ⟨ρ, fr, st, F, S, o⟩ => by
  unfold s_ret at o
  cases g : x r fr st with
  | ok v st1 =>
    rw [g] at o
    exact ⟨ρ, fr, st, F, S, v, st1, g, o⟩
  | exc _ _ _ => rw [g] at o; exact o.elim
  | stuck _ => rw [g] at o; exact o.elim
theorem sS_retN : PS X (.Return none pos) (tS T X.K r s_retN) := PS.imp ps_retN fun D σ H ⟨ρ, fr, st, F, S, o⟩ => o ρ .non H (.refl S) S .non
/-- a statement that cannot be reached rightly (a raise) -/
def s_never : XS := fun _ _ _ => .stuck 99
theorem sS_never : PS X s (tS T X.K r s_never) := PS.imp ps_never fun D σ H ⟨ρ, fr, st, F, S, o⟩ => o.elim
theorem toS_ok {K : PySem.W.Frag} {ρ : Nat → Addr} {st : St} {H : Hp} {fr0 : Fr} {m : R Fr} {D : Ends} (o : OutS T K ρ st H (toS fr0 m) D) : OutF T K ρ st H m D.nx := by
  cases m with
  | ok fr st' => exact ⟨fr, st', rfl, o⟩
  | exc _ _ _ => exact o.elim
  | stuck _ => exact o.elim
theorem sS_asg {tg : Expr} (he : PE X e (tE T X.K r x)) (hg : PG X tg (tG T X.K r t)) (hs : swapsWithSole [tg] e pos.line X.env = pure false := by rfl) (hw : swappedStores [tg] e X.env = pure none := by rfl)
    (h1 : (assignEach [tg] X.env).map (·.2) = [assign tg X.env] := by rfl) : PS X (.Assign [tg] e pos) (tS T X.K r (s_asg t x)) := PS.imp (ps_asg he hg hs hw h1) fun D σ H ⟨ρ, fr, st, F, S, o⟩ => by
  obtain ⟨fr2, st2, e2, kk⟩ := toS_ok o
  obtain ⟨v1, st1, e1, e3⟩ := bind_ok e2
  exact ⟨ρ, fr, st, F, S, v1, st1, e1, fun ρ1 V1 H1 N1 S1 R1 => ⟨ρ1, fr, st1, v1, F.stay N1.stay, S1, R1, fr2, st2, e3, fun ρ2 σ2 H2 N2 S2 F2 => kk ρ2 σ2 H2 (N1.trans N2) S2 F2⟩⟩
theorem sS_asg2 {tg tg2 : Expr} (he : PE X e (tE T X.K r x)) (h1 : PG X tg (tG T X.K r t)) (h2 : PG X tg2 (tG T X.K r t2)) (ha : (assignEach [tg, tg2] X.env).map (·.2) = [assign tg X.env, assign tg2 X.env] := by rfl) (hw : swappedStores [tg, tg2] e X.env = pure none := by rfl) :
    PS X (.Assign [tg, tg2] e pos) (tS T X.K r (s_asg2 t t2 x)) := PS.imp (ps_asg2 he h1 h2 ha hw) fun D σ H ⟨ρ, fr, st, F, S, o⟩ => by
  obtain ⟨fr2, st2, e2, kk⟩ := toS_ok o
  obtain ⟨v1, st1, e1, e3⟩ := bind_ok e2
  obtain ⟨fr3, st3, e3, e4⟩ := bind_ok e3
  exact ⟨ρ, fr, st, F, S, v1, st1, e1, fun ρ1 V1 H1 N1 S1 R1 => ⟨ρ1, fr, st1, v1, F.stay N1.stay, S1, R1, fr3, st3, e3, fun ρ3 σ3 H3 N3 S3 F3 => ⟨ρ3, fr3, st3, v1, F3, S3, R1.stay N3.stay, fr2, st2, e4, fun ρ2 σ2 H2 N2 S2 F2 => kk ρ2 σ2 H2 ((N1.trans N3).trans N2) S2 F2⟩⟩⟩
theorem sS_if (hc : PT X e (tT T X.K r b)) (ha : PSs X s1 (tS T X.K r p)) (hb : PSs X s2 (tS T X.K r q)) : PS X (.If e s1 s2 pos) (tS T X.K r (s_if b p q)) := PS.imp (ps_if hc ha hb) fun D σ H ⟨ρ, fr, st, F, S, o⟩ => by
  unfold s_if at o
  cases g : b r fr st with
  | ok c st1 =>
    rw [g] at o
    refine ⟨ρ, fr, st, F, S, c, st1, g, fun ρ1 H1 N1 S1 => ?_⟩
    cases c with
    | true => rw [if_pos rfl]; exact ⟨ρ1, fr, st1, F.stay N1.stay, S1, o.next N1⟩
    | false => exact ⟨ρ1, fr, st1, F.stay N1.stay, S1, o.next N1⟩
  | exc _ _ _ => rw [g] at o; exact o.elim
  | stuck _ => rw [g] at o; exact o.elim
theorem sS_par2 {i j : Nat} {nx ny : Str} {a c : Expr} {px py pt : Pos} {kt k2 pt2} (hc : X.calm = true) (hN : X.N.Nodup) (hi : X.N[i]? = some nx) (hj : X.N[j]? = some ny) (hij : i ≠ j)
    (hx : X.env.scope.names.lookup nx = some .local) (hy : X.env.scope.names.lookup ny = some .local) (ha : PE X a (tE T X.K r x)) (hb : PE X c (tE T X.K r y))
    (hw : swappedStores [.Tuple [.Name nx px, .Name ny py] kt pt] (.Tuple [a, c] k2 pt2) X.env = pure (some [nx, ny]))
    (he1 : starEach [a, c] X.env = (false, eval a X.env) :: starEach [c] X.env := by rfl) (he2 : starEach [c] X.env = (false, eval c X.env) :: starEach [] X.env := by rfl)
    (hs : swapsWithSole [.Tuple [.Name nx px, .Name ny py] kt pt] (.Tuple [a, c] k2 pt2) pos.line X.env = pure false := by rfl) :
    PS X (.Assign [.Tuple [.Name nx px, .Name ny py] kt pt] (.Tuple [a, c] k2 pt2) pos) (tS T X.K r (s_par2 i j x y)) :=
  PS.imp (ps_par hc hN hi hj hij hx hy (sA_cons ha (sA_cons hb sA_nil he2) he1) hw hs) fun D σ H ⟨ρ, fr, st, F, S, o⟩ => by
    obtain ⟨fr2, st2, e2, kk⟩ := toS_ok o
    obtain ⟨v1, st1, e1, e3⟩ := bind_ok e2
    obtain ⟨v2, st3, e3, e4⟩ := bind_ok e3
    cases e4
    refine ⟨ρ, fr, st, F, S, [v1, v2], st2, by simp only [aCons, aNil, e1, R.bind, e3], fun ρ1 V1 H1 N1 S1 R1 => ?_⟩
    cases R1 with
    | cons ra rt =>
      cases rt with
      | cons rb rn =>
        cases rn
        exact ⟨_, _, rfl, kk ρ1 _ H1 N1 S1 (((F.stay N1.stay).set ra i).set rb j)⟩
theorem sS_par3 {i j l : Nat} {nx ny nz : Str} {a c d : Expr} {z : Y.X} {px py pz pt : Pos} {kt k2 pt2} (hc : X.calm = true) (hN : X.N.Nodup) (hi : X.N[i]? = some nx) (hj : X.N[j]? = some ny) (hl : X.N[l]? = some nz) (hij : i ≠ j) (hil : i ≠ l) (hjl : j ≠ l)
    (hx : X.env.scope.names.lookup nx = some .local) (hy : X.env.scope.names.lookup ny = some .local) (hz : X.env.scope.names.lookup nz = some .local) (ha : PE X a (tE T X.K r x)) (hb : PE X c (tE T X.K r y)) (hd : PE X d (tE T X.K r z))
    (hw : swappedStores [.Tuple [.Name nx px, .Name ny py, .Name nz pz] kt pt] (.Tuple [a, c, d] k2 pt2) X.env = pure (some [nx, ny, nz]))
    (he1 : starEach [a, c, d] X.env = (false, eval a X.env) :: starEach [c, d] X.env := by rfl) (he2 : starEach [c, d] X.env = (false, eval c X.env) :: starEach [d] X.env := by rfl) (he3 : starEach [d] X.env = (false, eval d X.env) :: starEach [] X.env := by rfl)
    (hs : swapsWithSole [.Tuple [.Name nx px, .Name ny py, .Name nz pz] kt pt] (.Tuple [a, c, d] k2 pt2) pos.line X.env = pure false := by rfl) :
    PS X (.Assign [.Tuple [.Name nx px, .Name ny py, .Name nz pz] kt pt] (.Tuple [a, c, d] k2 pt2) pos) (tS T X.K r (s_par3 i j l x y z)) :=
  PS.imp (ps_par3 hc hN hi hj hl hij hil hjl hx hy hz (sA_cons ha (sA_cons hb (sA_cons hd sA_nil he3) he2) he1) hw hs) fun D σ H ⟨ρ, fr, st, F, S, o⟩ => by
    obtain ⟨fr2, st2, e2, kk⟩ := toS_ok o
    obtain ⟨v1, st1, f1, g1⟩ := bind_ok e2
    obtain ⟨v2, st3, f2, g2⟩ := bind_ok g1
    obtain ⟨v3, st4, f3, g3⟩ := bind_ok g2
    cases g3
    refine ⟨ρ, fr, st, F, S, [v1, v2, v3], st2, by simp only [aCons, aNil, f1, R.bind, f2, f3], fun ρ1 V1 H1 N1 S1 R1 => ?_⟩
    cases R1 with
    | cons ra rt =>
      cases rt with
      | cons rb rn =>
        cases rn with
        | cons rc rn =>
          cases rn
          exact ⟨_, _, _, rfl, kk ρ1 _ H1 N1 S1 ((((F.stay N1.stay).set ra i).set rb j).set rc l)⟩
/-- while -/
theorem sS_whl (hp : PassesOwn (model X.prog X.w) X.A X.env X.xe) (hc : PT X e (tT T X.K r b)) (hb : PSs X ss (tS T X.K r p)) : PS X (.While e ss [] pos) (tS T X.K r (s_whl n b p)) := PS.imp (ps_while hp hc hb) fun D σ H ⟨ρ, fr, st, F, S, o⟩ => by
  refine ⟨fun m σ1 H1 => ∃ ρ1 fr1 st1, FrRep T X.K ρ1 st1.n H1 fr1 σ1 ∧ StRep T X.K ρ1 st1 H1 ∧ OutS T X.K ρ1 st1 H1 (whl b p r m fr1 st1) D, ⟨n, ρ, fr, st, F, S, o⟩, ?_⟩
  rintro m σ1 H1 ⟨ρ1, fr1, st1, F1, S1, o1⟩
  cases m with
  | zero => exact o1.elim
  | succ m =>
    unfold whl at o1
    cases g : b r fr1 st1 with
    | ok c st2 =>
      rw [g] at o1
      refine ⟨ρ1, fr1, st1, F1, S1, c, st2, g, fun ρ2 H2 N2 S2 => ?_⟩
      cases c with
      | false => exact o1 ρ2 σ1 H2 N2 S2 (F1.stay N2.stay)
      | true =>
        rw [if_pos rfl]
        refine ⟨fun σ' H' => ∃ ρ1 fr1 st1, FrRep T X.K ρ1 st1.n H' fr1 σ' ∧ StRep T X.K ρ1 st1 H' ∧ OutS T X.K ρ1 st1 H' (whl b p r m fr1 st1) D, fun σ' H' h => ⟨m, Nat.lt_succ_self _, h⟩, ρ2, fr1, st2, F1.stay N2.stay, S2, ?_⟩
        have o2 := o1.next N2
        cases g2 : p r fr1 st2 with
        | next fr3 st3 =>
          simp only [g2] at o2
          exact fun ρ3 σ3 H3 N3 S3 F3 => ⟨ρ3, fr3, st3, F3, S3, o2.next N3⟩
        | ret v st3 => simp only [g2] at o2; exact o2
        | exc _ _ _ _ => simp only [g2] at o2; exact o2
        | stuck _ => simp only [g2] at o2; exact o2
    | exc _ _ _ => rw [g] at o1; exact o1.elim
    | stuck _ => rw [g] at o1; exact o1.elim
end
end Y
end
section
set_option linter.all false
set_option maxRecDepth 100000
set_option maxHeartbeats 4000000
/-! Y13: for. -/
namespace Y
open PySem PySem.Spec L2 PyProof.Rows
def verOk (v : Nat) (o : Option Cell) : Bool := match o with
  | some (.lst w _) => Nat.beq w v
  | some (.dct w _) => Nat.beq w v
  | _ => false
def gdOk : Gd → St → Bool
  | [], _ => true
  | (a, v) :: r, st => if verOk v (st.get a) then gdOk r st else false
/-- the guards as they stand at the beginning -/
def GdAt (gd : Gd) (st : St) : Prop := gdOk gd st = true
theorem verOk_eq {v : Nat} {c d : Option Cell} (h : verOk v c = true) (k : verOk v d = true) (l : verLe c d) : verEq c d := by
  cases c with
  | none => cases h
  | some c =>
    cases d with
    | none => cases k
    | some d =>
      cases c with
      | lst a xs =>
        cases d with
        | lst b ys => exact (Nat.eq_of_beq_eq_true h).trans (Nat.eq_of_beq_eq_true k).symm
        | dct b ys => exact l.elim
        | ins _ _ => cases k
      | dct a xs =>
        cases d with
        | lst b ys => exact l.elim
        | dct b ys => exact (Nat.eq_of_beq_eq_true h).trans (Nat.eq_of_beq_eq_true k).symm
        | ins _ _ => cases k
      | ins _ _ => cases h
theorem gdOk_mem {gd : Gd} {st : St} (h : gdOk gd st = true) : ∀ p ∈ gd, verOk p.2 (st.get p.1) = true := by
  induction gd with
  | nil => intro p hp; cases hp
  | cons q r ih =>
    obtain ⟨a, v⟩ := q
    unfold gdOk at h
    by_cases e : verOk v (st.get a) = true
    · rw [if_pos e] at h
      intro p hp
      rcases List.mem_cons.mp hp with z | z
      · subst z; exact e
      · exact ih h p z
    · rw [if_neg e] at h; cases h
section
variable {T : Tb} {K : PySem.W.Frag}
/-- a walk's things -/
structure Wk (T : Tb) (K : PySem.W.Frag) (J : It) (items : List PV) (gd : Gd) (ρ1 : Nat → Addr) (st1 : St) (H1 : Hp) : Prop where
  goes : ∀ i ρ st H, Nxt ρ1 st1 H1 ρ st H → StRep T K ρ st H → gdOk gd st = true → i < items.length → J.go i H
  stops : ∀ ρ st H, Nxt ρ1 st1 H1 ρ st H → StRep T K ρ st H → gdOk gd st = true → J.stop items.length H
  yields : ∀ i x H' ρ st H, Nxt ρ1 st1 H1 ρ st H → StRep T K ρ st H → gdOk gd st = true → i < items.length → J.yld i H x H' → StRep T K ρ st H' ∧ Nxt ρ st H ρ st H' ∧ ∃ y, items[i]? = some y ∧ Rep T K ρ st.n H' y x
def OutI (T : Tb) (K : PySem.W.Frag) (ρ : Nat → Addr) (st : St) (H : Hp) (x : R (List PV × Gd)) (R : It → Hp → Prop) : Prop :=
  ∃ items gd st1, x = .ok (items, gd) st1 ∧ ∀ ρ1 H1, Nxt ρ st H ρ1 st1 H1 → StRep T K ρ1 st1 H1 → ∀ J, Wk T K J items gd ρ1 st1 H1 → R J H1
def tI (T : Tb) (K : PySem.W.Frag) (r : Ev) (x : XI) : TI := fun σ H R => ∃ ρ fr st, FrRep T K ρ st.n H fr σ ∧ StRep T K ρ st H ∧ OutI T K ρ st H (x r fr st) R
end
def forL (t : XT) (body : XS) (gd : Gd) (r : Ev) : List PV → Fr → St → RS
  | [], fr, st => if gdOk gd st then .next fr st else .stuck 61
  | v :: vs, fr, st => if gdOk gd st then (match t v r fr st with
    | .ok fr st => (match body r fr st with
      | .next fr st => forL t body gd r vs fr st
      | e => e)
    | .exc c a st => .exc c a fr st
    | .stuck w => .stuck w) else .stuck 61
def s_for (t : XT) (x : XI) (body : XS) : XS := fun r fr st => match x r fr st with
  | .ok p st => forL t body p.2 r p.1 fr st
  | .exc c a st => .exc c a fr st
  | .stuck w => .stuck w
theorem drop_cons {α : Type} {xs : List α} {i : Nat} {y : α} (h : xs[i]? = some y) : xs.drop i = y :: xs.drop (i + 1) := by
  obtain ⟨hi, e⟩ := List.getElem?_eq_some_iff.mp h
  rw [List.drop_eq_getElem_cons hi, e]
section
variable {X : Cx} {T : Tb} {k : Nat} {r : Ev} {pos : Pos} {tg iter : Expr} {t : XT} {x : XI} {p : XS} {ss : List Stmt}
theorem sS_for (hp : PassesOwn (model X.prog X.w) X.A X.env X.xe) (hc : X.calm = true) (hi : PI X tg iter (tI T X.K r x)) (hg : PG X tg (tG T X.K r t)) (hb : PSs X ss (tS T X.K r p)) (hs : ∀ x, foldedSetIterable iter X.env x = pure x := by intro _; rfl) :
    PS X (.For tg iter ss [] pos) (tS T X.K r (s_for t x p)) := PS.imp (ps_for hp hc hi hg hb hs) fun D σ H ⟨ρ, fr, st, F, S, o⟩ => by
  unfold s_for at o
  cases g : x r fr st with
  | exc _ _ _ => rw [g] at o; exact o.elim
  | stuck _ => rw [g] at o; exact o.elim
  | ok q st1 =>
    obtain ⟨items, gd⟩ := q
    rw [g] at o
    have o : OutS T X.K ρ st H (forL t p gd r items fr st1) D := o
    refine ⟨ρ, fr, st, F, S, items, gd, st1, g, fun ρ1 H1 N1 S1 J wk => ?_⟩
    refine ⟨fun i m σ H => m = items.length - i ∧ i ≤ items.length ∧ ∃ ρ fr st, FrRep T X.K ρ st.n H fr σ ∧ StRep T X.K ρ st H ∧ Nxt ρ1 st1 H1 ρ st H ∧ OutS T X.K ρ st H (forL t p gd r (items.drop i) fr st) D, ⟨_, rfl, Nat.zero_le _, ρ1, fr, st1, F.stay N1.stay, S1, .refl S1, o.next N1⟩, ?_⟩
    rintro i m σ2 H2 ⟨rfl, hi, ρ2, fr2, st2, F2, S2, N2, o2⟩
    by_cases hlt : i < items.length
    · have hy : items[i]? = some items[i] := List.getElem?_eq_getElem hlt
      rw [drop_cons hy] at o2
      unfold forL at o2
      by_cases hg : gdOk gd st2 = true
      · rw [if_pos hg] at o2
        refine .inr ⟨wk.goes i ρ2 st2 H2 N2 S2 hg hlt, fun σ3 H3 => ∃ ρ fr st, FrRep T X.K ρ st.n H3 fr σ3 ∧ StRep T X.K ρ st H3 ∧ Nxt ρ1 st1 H1 ρ st H3 ∧ OutS T X.K ρ st H3 (forL t p gd r (items.drop (i + 1)) fr st) D, fun σ' H' h => ⟨_, by omega, rfl, hlt, h⟩, fun z H' hz => ?_⟩
        obtain ⟨S3, N3, y, hy', R3⟩ := wk.yields i z H' ρ2 st2 H2 N2 S2 hg hlt hz
        rw [hy] at hy'
        cases hy'
        have o3 := o2.next N3
        cases g3 : t items[i] r fr2 st2 with
        | exc _ _ _ => simp only [g3] at o3; exact o3.elim
        | stuck _ => simp only [g3] at o3; exact o3.elim
        | ok fr4 st4 =>
          simp only [g3] at o3
          refine ⟨ρ2, fr2, st2, items[i], F2.stay N3.stay, S3, R3, fr4, st4, g3, fun ρ4 σ4 H4 N4 S4 F4 => ⟨ρ4, fr4, st4, F4, S4, ?_⟩⟩
          have o4 := o3.next N4
          cases g5 : p r fr4 st4 with
          | next fr5 st5 =>
            simp only [g5] at o4
            exact fun ρ5 σ5 H5 N5 S5 F5 => ⟨ρ5, fr5, st5, F5, S5, ((N2.trans N3).trans N4).trans N5, o4.next N5⟩
          | ret v st5 => simp only [g5] at o4; exact o4
          | exc _ _ _ _ => simp only [g5] at o4; exact o4
          | stuck _ => simp only [g5] at o4; exact o4
      · rw [if_neg hg] at o2; exact o2.elim
    · have e : i = items.length := by omega
      subst e
      rw [List.drop_length] at o2
      unfold forL at o2
      by_cases hg : gdOk gd st2 = true
      · rw [if_pos hg] at o2
        exact .inl ⟨wk.stops ρ2 st2 H2 N2 S2 hg, o2 ρ2 σ2 H2 (.refl S2) S2 F2⟩
      · rw [if_neg hg] at o2; exact o2.elim
end
/-! ### what is walked -/
def itemsI (st : St) (v : PV) : R (List PV × Gd) := match v with
  | .tup xs => .ok (xs, []) st
  | .cl xs => .ok (xs, []) st
  | .ref a => (match st.get a with
    | some (.lst w xs) => .ok (xs, [(a, w)]) st
    | _ => .stuck 62)
  | _ => .stuck 62
def i_plain (x : Y.X) : XI := fun r fr st => (x r fr st).bind fun v st => itemsI st v
/-- a, a + 1, .. (n of them) -/
def upTo (a : Int) : Nat → List PV
  | 0 => []
  | n + 1 => .int a :: upTo (a + 1) n
def okR (a : Int) : Bool := natLt a.natAbs 4611686018427387904
def rngI (a b : Int) (st : St) : R (List PV × Gd) := if okR a && okR b then .ok (upTo a (b - a).toNat, []) st else .stuck 63
def i_rng1 (x : Y.X) : XI := fun r fr st => (x r fr st).bind fun v st => match v with
  | .int b => rngI 0 b st
  | _ => .stuck 63
def i_rng2 (x y : Y.X) : XI := fun r fr st => (x r fr st).bind fun v st => (y r fr st).bind fun w st => match v with
  | .int a => (match w with | .int b => rngI a b st | _ => .stuck 63)
  | _ => .stuck 63
theorem upTo_length : ∀ (n : Nat) (a : Int), (upTo a n).length = n
  | 0, a => rfl
  | n + 1, a => by rw [upTo, List.length_cons, upTo_length n]
theorem upTo_get : ∀ (n : Nat) (a : Int) (i : Nat), i < n → (upTo a n)[i]? = some (.int (a + i))
  | 0, a, i, h => absurd h (Nat.not_lt_zero _)
  | n + 1, a, 0, h => by simp [upTo]
  | n + 1, a, i + 1, h => by
    rw [upTo, List.getElem?_cons_succ, upTo_get n (a + 1) i (by omega)]
    congr 2
    omega
section
variable {T : Tb} {K : PySem.W.Frag} {ρ1 : Nat → Addr} {st1 : St} {H1 : Hp}
theorem wk_tup {p : Addr} {xs : List PV} {vs : List L2.V} (h : SqT K H1 p vs) (t : Reps T K ρ1 st1.n H1 xs vs) : Wk T K (Itt K p) xs [] ρ1 st1 H1 where
  goes := fun i ρ st H N S _ hi => ⟨vs, _, N.sqT h, List.getElem?_eq_getElem (by rw [← t.length]; exact hi)⟩
  stops := fun ρ st H N S _ => ⟨vs, N.sqT h, by rw [t.length]; exact Nat.le_refl _⟩
  yields := fun i x H' ρ st H N S _ hi hz => by
    obtain ⟨rfl, hz⟩ := hz
    have e := hz vs (N.sqT h)
    obtain ⟨V, e1, rv⟩ := (t.stay N.stay).get (List.getElem?_eq_getElem hi)
    rw [e] at e1
    cases e1
    exact ⟨S, .refl S, _, List.getElem?_eq_getElem hi, rv⟩
theorem wk_cl {p : Addr} {xs : List PV} {vs : List L2.V} (h : SqC K H1 p vs) (t : Reps T K ρ1 st1.n H1 xs vs) : Wk T K (Itl K p) xs [] ρ1 st1 H1 where
  goes := fun i ρ st H N S _ hi => ⟨vs, _, (N.sqC h).sq, List.getElem?_eq_getElem (by rw [← t.length]; exact hi)⟩
  stops := fun ρ st H N S _ => ⟨vs, (N.sqC h).sq, by rw [t.length]; exact Nat.le_refl _⟩
  yields := fun i x H' ρ st H N S _ hi hz => by
    obtain ⟨rfl, hz⟩ := hz
    have e := hz vs (N.sqC h).sq
    obtain ⟨V, e1, rv⟩ := (t.stay N.stay).get (List.getElem?_eq_getElem hi)
    rw [e] at e1
    cases e1
    exact ⟨S, .refl S, _, List.getElem?_eq_getElem hi, rv⟩
theorem Nxt.lstStill {ρ : Nat → Addr} {st : St} {H : Hp} {a w : Nat} {xs : List PV} {vs : List L2.V} {gd : Gd} (N : Nxt ρ1 st1 H1 ρ st H) (g : st1.get a = some (.lst w xs)) (ha : a < st1.n) (h : H1 (ρ1 a) = some (.lst vs)) (hm : (a, w) ∈ gd) (hg : gdOk gd st = true) : H (ρ1 a) = some (.lst vs) := by
  rw [N.same a ha (verOk_eq (v := w) (by rw [g]; exact Nat.beq_refl _) (gdOk_mem hg _ hm) (N.ver a ha))]
  exact h
theorem wk_lst {a w : Nat} {xs : List PV} {vs : List L2.V} (g : st1.get a = some (.lst w xs)) (ha : a < st1.n) (h : H1 (ρ1 a) = some (.lst vs)) (t : Reps T K ρ1 st1.n H1 xs vs) : Wk T K (Itl K (ρ1 a)) xs [(a, w)] ρ1 st1 H1 where
  goes := fun i ρ st H N S hg hi => ⟨vs, _, .of (N.lstStill g ha h (List.mem_singleton.mpr rfl) hg), List.getElem?_eq_getElem (by rw [← t.length]; exact hi)⟩
  stops := fun ρ st H N S hg => ⟨vs, .of (N.lstStill g ha h (List.mem_singleton.mpr rfl) hg), by rw [t.length]; exact Nat.le_refl _⟩
  yields := fun i x H' ρ st H N S hg hi hz => by
    obtain ⟨rfl, hz⟩ := hz
    have e := hz vs (.of (N.lstStill g ha h (List.mem_singleton.mpr rfl) hg))
    obtain ⟨V, e1, rv⟩ := (t.stay N.stay).get (List.getElem?_eq_getElem hi)
    rw [e] at e1
    cases e1
    exact ⟨S, .refl S, _, List.getElem?_eq_getElem hi, rv⟩
theorem wk_rng {a : Int} {n : Nat} : Wk T K (Itr a n) (upTo a n) [] ρ1 st1 H1 where
  goes := fun i ρ st H N S _ hi => by rw [upTo_length] at hi; exact hi
  stops := fun ρ st H N S _ => by rw [upTo_length]; exact Nat.le_refl n
  yields := fun i x H' ρ st H N S _ hi hz => by
    obtain ⟨rfl, rfl⟩ := hz
    rw [upTo_length] at hi
    exact ⟨S, .refl S, _, upTo_get n a i hi, .int _⟩
end
section
variable {X : Cx} {T : Tb} {k : Nat} {r : Ev} {pos p : Pos} {tg e e2 : Expr} {x y : Y.X}
/-- the walk of a value -/
theorem pyIter_val {pins : List (Addr × Obj)} {σ : L2.St} {H : Hp} {s : Shared} {ρ : Nat → Addr} {st : St} {v : PV} {V : L2.V} {u : Value} {R : It → Hp → Prop} (I : L2.Inv X pins σ H s) (ru : RelV V u) (S : StRep T X.K ρ st H) (Rv : Rep T X.K ρ st.n H v V) {items : List PV} {gd : Gd} {st' : St} (e : itemsI st v = .ok (items, gd) st')
    (h : st' = st → ∀ J, Wk T X.K J items gd ρ st H → R J H) : wpAny (model X.prog X.w) X.A (pyIter u) (PIE X pins σ tg R) X.xe s := by
  cases Rv with
  | @tup xs p vs hp t =>
    cases e
    cases ru
    obtain ⟨its, rv, q, hz⟩ := I.tuple hp
    refine wpAny_pyIter_tuple (show s.heap.IsTuple p its.toArray from q) ?_
    exact ⟨s.heap.objs.size, [s.heap.objs.size], _, _, H, rfl, I.kept (t' := s.toks) fun b o e => Heap.get?_push_of_some _ e, turn_tuple p _, ⟨_, Heap.get?_push_size _ rfl, rfl, rfl⟩, fun b hb => by
      have e : b = s.heap.objs.size := by simpa using hb
      subst e
      exact I.fpOk (Nat.le_refl _) (I.hok.fresh (Nat.le_refl _)), h rfl _ (wk_tup hp t)⟩
  | @cl xs p vs hp t =>
    cases e
    cases ru
    obtain ⟨its, rv, q, hz⟩ := I.list hp.sq
    refine wpAny_pyIter_list q.isList ?_
    exact ⟨s.heap.objs.size, [s.heap.objs.size], _, _, H, rfl, I.kept (t' := s.toks) fun b o e => Heap.get?_push_of_some _ e, turn_list p _, ⟨_, Heap.get?_push_size _ rfl, rfl, rfl⟩, fun b hb => by
      have e : b = s.heap.objs.size := by simpa using hb
      subst e
      exact I.fpOk (Nat.le_refl _) (I.hok.fresh (Nat.le_refl _)), h rfl _ (wk_cl hp t)⟩
  | @ref a ha =>
    cases g : st.get a with
    | none => simp only [itemsI, g] at e; cases e
    | some c =>
      cases c with
      | lst w xs =>
        simp only [itemsI, g] at e
        cases e
        obtain ⟨_, vs, hp, t⟩ := lst_at S g
        cases ru
        obtain ⟨its, rv, q, hz⟩ := I.list (.of hp)
        refine wpAny_pyIter_list q.isList ?_
        exact ⟨s.heap.objs.size, [s.heap.objs.size], _, _, H, rfl, I.kept (t' := s.toks) fun b o e => Heap.get?_push_of_some _ e, turn_list _ _, ⟨_, Heap.get?_push_size _ rfl, rfl, rfl⟩, fun b hb => by
          have e : b = s.heap.objs.size := by simpa using hb
          subst e
          exact I.fpOk (Nat.le_refl _) (I.hok.fresh (Nat.le_refl _)), h rfl _ (wk_lst g ha hp t)⟩
      | dct w xs => simp only [itemsI, g] at e; cases e
      | ins c fs => simp only [itemsI, g] at e; cases e
  | _ => cases e
theorem itemsI_st {st st' : St} {v : PV} {q : List PV × Gd} (e : itemsI st v = .ok q st') : st' = st := by
  cases v with
  | tup xs => cases e; rfl
  | cl xs => cases e; rfl
  | ref a =>
    cases g : st.get a with
    | none => simp only [itemsI, g] at e; cases e
    | some c => cases c with
      | lst w xs => simp only [itemsI, g] at e; cases e; rfl
      | _ => simp only [itemsI, g] at e; cases e
  | _ => cases e
theorem sI_plain (he : PE X e (tE T X.K r x)) : PI X tg e (tI T X.K r (i_plain x)) := by
  refine ⟨fun pins s σ H R I ⟨ρ, fr, st, F, S, items, gd, st2, e0, kk⟩ => ?_⟩
  obtain ⟨v1, s1, e1, e2⟩ := bind_ok e0
  have hst := itemsI_st e2
  subst hst
  exact thn (he.run pins s σ H (fun V H1 => ∃ ρ1, StRep T X.K ρ1 st2 H1 ∧ Nxt ρ st H ρ1 st2 H1 ∧ Rep T X.K ρ1 st2.n H1 v1 V) I ⟨ρ, fr, st, F, S, v1, _, e1, fun ρ1 V1 H1 N1 S1 R1 => ⟨ρ1, S1, N1, R1⟩⟩) fun u t1 ⟨V, H1, I1, rV, ρ1, S1, N1, R1⟩ => pyIter_val I1 rV S1 R1 e2 fun _ J wk => kk ρ1 H1 N1 S1 J wk
theorem PI.imp {w w' : TI} (h : PI X tg e w) (i : ∀ σ H R, w' σ H R → w σ H R) : PI X tg e w' := ⟨fun pins s σ H R I q => h.run pins s σ H R I (i σ H R q)⟩
theorem rngI_ok {a b : Int} {st st' : St} {q : List PV × Gd} (h : rngI a b st = .ok q st') : st' = st ∧ q = (upTo a (b - a).toNat, []) ∧ -(2 ^ 62) ≤ a ∧ a < 2 ^ 62 ∧ -(2 ^ 62) ≤ b ∧ b < 2 ^ 62 := by
  unfold rngI at h
  by_cases g : (okR a && okR b) = true
  · rw [if_pos g] at h
    cases h
    rw [Bool.and_eq_true] at g
    unfold okR at g
    rw [natLt_iff, natLt_iff] at g
    exact ⟨rfl, rfl, by omega, by omega, by omega, by omega⟩
  · rw [if_neg g] at h; cases h
theorem sI_rng1 (hg : Gl X "range") (hm : X.mg "range" = none) (he : PE X e (tE T X.K r x)) (hs : starEach [e] X.env = [(false, eval e X.env)] := by rfl) (hs2 : starEach [e] X.env = (false, eval e X.env) :: starEach [] X.env := by rfl) : PI X tg (.Call (.Name "range" p) [e] [] pos) (tI T X.K r (i_rng1 x)) :=
  PI.imp (pi_range1 hg hm (sA_cons he sA_nil hs2) hs) fun σ H R ⟨ρ, fr, st, F, S, items, gd, st2, e0, kk⟩ => by
    obtain ⟨v1, s1, e1, e2⟩ := bind_ok e0
    cases v1 with
    | int b =>
      obtain ⟨rfl, hq, h1, h2, h3, h4⟩ := rngI_ok e2
      cases hq
      refine ⟨ρ, fr, st, F, S, [.int b], st2, by simp only [aCons, aNil, e1, Y.R.bind], fun ρ1 V1 H1 N1 S1 R1 => ?_⟩
      cases R1 with
      | cons ra rt =>
        cases rt
        cases ra
        refine ⟨b, rfl, h3, h4, kk ρ1 H1 N1 S1 _ ?_⟩
        rw [show b - 0 = b from by omega]
        exact wk_rng
    | _ => cases e2
theorem sI_rng2 (hg : Gl X "range") (hm : X.mg "range" = none) (he : PE X e (tE T X.K r x)) (he2 : PE X e2 (tE T X.K r y)) (hs : starEach [e, e2] X.env = [(false, eval e X.env), (false, eval e2 X.env)] := by rfl) (hs2 : starEach [e2] X.env = [(false, eval e2 X.env)] := by rfl)
    (hs3 : starEach [e, e2] X.env = (false, eval e X.env) :: starEach [e2] X.env := by rfl) (hs4 : starEach [e2] X.env = (false, eval e2 X.env) :: starEach [] X.env := by rfl) : PI X tg (.Call (.Name "range" p) [e, e2] [] pos) (tI T X.K r (i_rng2 x y)) :=
  PI.imp (pi_range2 hg hm (sA_cons he (sA_cons he2 sA_nil hs4) hs3) hs hs2) fun σ H R ⟨ρ, fr, st, F, S, items, gd, st2, e0, kk⟩ => by
    obtain ⟨v1, s1, e1, e2⟩ := bind_ok e0
    obtain ⟨v2, s2, e3, e4⟩ := bind_ok e2
    cases v1 with
    | int a =>
      cases v2 with
      | int b =>
        obtain ⟨rfl, hq, h1, h2, h3, h4⟩ := rngI_ok e4
        cases hq
        refine ⟨ρ, fr, st, F, S, [.int a, .int b], st2, by simp only [aCons, aNil, e1, Y.R.bind, e3], fun ρ1 V1 H1 N1 S1 R1 => ?_⟩
        cases R1 with
        | cons ra rt =>
          cases rt with
          | cons rb rn =>
            cases rn
            cases ra
            cases rb
            exact ⟨a, b, rfl, ⟨h1, h2, h3, h4⟩, kk ρ1 H1 N1 S1 _ wk_rng⟩
      | _ => cases e4
    | _ => cases e4
end
end Y
end
section
set_option linter.all false
set_option maxRecDepth 100000
set_option maxHeartbeats 4000000
/-! Y14: subscripts and slices of sequences. -/
namespace Y
open PySem PySem.Spec L2 PyProof.Rows
/-- the place that i means in n things -/
def atN (n : Nat) (i : Int) : Option Nat := match i with
  | .ofNat j => if natLt j n then some j else none
  | .negSucc j => if Nat.ble (j + 1) n then some (n - (j + 1)) else none
theorem atN_ix {n : Nat} {i : Int} {j : Nat} (h : atN n i = some j) : ixN n i = some j := by
  unfold ixN
  cases i with
  | ofNat k =>
    have h : (if natLt k n = true then some k else none) = some j := h
    by_cases e : natLt k n = true
    · rw [if_pos e] at h
      cases h
      have hz := natLt_iff.mp e
      rw [if_pos (show 0 ≤ Int.ofNat j from Int.natCast_nonneg j), if_pos (show Int.ofNat j < (n : Int) from Int.ofNat_lt.mpr hz)]
      rfl
    · rw [if_neg e] at h; cases h
  | negSucc k =>
    have h : (if Nat.ble (k + 1) n = true then some (n - (k + 1)) else none) = some j := h
    by_cases e : Nat.ble (k + 1) n = true
    · rw [if_pos e] at h
      cases h
      rw [Nat.ble_eq] at e
      rw [if_neg (by omega), if_pos (by omega)]
      congr 1
      omega
    · rw [if_neg e] at h; cases h
def atV (xs : List PV) (i : Int) : Option PV := match atN (len xs) i with
  | some j => nth xs j
  | none => none
theorem Reps.at' {T : Tb} {K : PySem.W.Frag} {ρ : Nat → Addr} {n : Nat} {H : Hp} {xs : List PV} {Vs : List L2.V} {i : Int} {v : PV} (t : Reps T K ρ n H xs Vs) (h : atV xs i = some v) : ∃ V, atI Vs i = some V ∧ Rep T K ρ n H v V := by
  unfold atV at h
  cases g : atN (len xs) i with
  | none => rw [g] at h; cases h
  | some j =>
    rw [g] at h
    have h : nth xs j = some v := h
    rw [nth_eq] at h
    obtain ⟨V, e, rv⟩ := t.get h
    rw [len_eq, t.length] at g
    exact ⟨V, by unfold atI; rw [atN_ix g]; exact e, rv⟩
def someV (o : Option PV) (st : St) (w : Nat) : R PV := match o with
  | some v => .ok v st
  | none => .stuck w
theorem someV_ok {o : Option PV} {st st' : St} {w : Nat} {v : PV} (h : someV o st w = .ok v st') : o = some v ∧ st' = st := by
  cases o with
  | some x => cases h; exact ⟨rfl, rfl⟩
  | none => cases h
/-- the items of any sequence -/
def seqV (st : St) (v : PV) : Option (List PV) := match v with
  | .tup xs => some xs
  | .cl xs => some xs
  | .ref a => (match st.get a with | some (.lst _ xs) => some xs | _ => none)
  | _ => none
theorem seqV_ok {T : Tb} {K : PySem.W.Frag} {ρ : Nat → Addr} {st : St} {H : Hp} {v : PV} {V : L2.V} {xs : List PV} (S : StRep T K ρ st H) (R : Rep T K ρ st.n H v V) (h : seqV st v = some xs) : ∃ p vs, V = .ref p ∧ (SqL K H p vs ∨ SqT K H p vs) ∧ Reps T K ρ st.n H xs vs := by
  cases R with
  | tup hp t => cases h; exact ⟨_, _, rfl, .inr hp, t⟩
  | cl hp t => cases h; exact ⟨_, _, rfl, .inl hp.sq, t⟩
  | @ref a ha =>
    cases g : st.get a with
    | none => simp only [seqV, g] at h; cases h
    | some c =>
      cases c with
      | lst w ys =>
        simp only [seqV, g] at h
        cases h
        obtain ⟨_, vs, hp, t⟩ := lst_at S g
        exact ⟨_, _, rfl, .inl (.of hp), t⟩
      | _ => simp only [seqV, g] at h; cases h
  | _ => cases h
def getT (x : Str) (b : PV) (st : St) : R PV := match b with
  | .int i => if Nat.ble x.cps.size lim then (match atN x.cps.size i with
    | some j => (match nth x.cps.toList j with | some c => .ok (.str ⟨#[c]⟩) st | none => .stuck 70)
    | none => .stuck 70) else .stuck 70
  | _ => .stuck 70
def getQ (xs : List PV) (b : PV) (st : St) : R PV := match b with
  | .int i => someV (atV xs i) st 71
  | _ => .stuck 71
def getL (o : Option Cell) (b : PV) (st : St) : R PV := match o with
  | some (.lst _ xs) => getQ xs b st
  | _ => .stuck 72
/-- a[b], a a sequence -/
def getS (a b : PV) (st : St) : R PV := match a with
  | .tup xs => getQ xs b st
  | .cl xs => getQ xs b st
  | .ref x => getL (st.get x) b st
  | .str x => getT x b st
  | _ => .stuck 72
section
variable {X : Cx} {T : Tb}
theorem IxR.impR {r r' : R2} (h : IxR X r) (i : ∀ x y H Q, r' x y H Q → r x y H Q) : IxR X r' := fun vl sl pins s σ H x y v u Q I rx ry z => h vl sl pins s σ H x y v u Q I rx ry (i x y H Q z)
theorem getQ_ok {xs : List PV} {b v : PV} {st st' : St} (h : getQ xs b st = .ok v st') : ∃ i, b = .int i ∧ atV xs i = some v ∧ st' = st := by
  cases b with
  | int i => obtain ⟨e1, e2⟩ := someV_ok h; exact ⟨i, rfl, e1, e2⟩
  | _ => cases h
theorem ix_getS : IxR X (r2 T X.K getS) := IxR.impR ix_seq fun x y H Q ⟨ρ, st, a, b, S, ra, rb, v, st', e, kk⟩ => by
  cases ra with
  | @tup xs p vs hp t =>
    obtain ⟨i, rfl, h1, rfl⟩ := getQ_ok (xs := xs) e
    obtain ⟨V, h2, rv⟩ := t.at' h1
    cases rb
    exact .inr (.inl ⟨p, vs, i, V, rfl, rfl, hp, h2, kk ρ V H (.refl S) S rv⟩)
  | @cl xs p vs hp t =>
    obtain ⟨i, rfl, h1, rfl⟩ := getQ_ok (xs := xs) e
    obtain ⟨V, h2, rv⟩ := t.at' h1
    cases rb
    exact .inl ⟨p, vs, i, V, rfl, rfl, hp.sq, h2, kk ρ V H (.refl S) S rv⟩
  | @ref c hc =>
    have e : getL (st.get c) b st = .ok v st' := e
    cases g : st.get c with
    | none => rw [g] at e; cases e
    | some cl =>
      rw [g] at e
      cases cl with
      | lst w xs =>
        obtain ⟨i, rfl, h1, rfl⟩ := getQ_ok (xs := xs) e
        obtain ⟨_, vs, hp, t⟩ := lst_at S g
        obtain ⟨V, h2, rv⟩ := t.at' h1
        cases rb
        exact .inl ⟨_, vs, i, V, rfl, rfl, .of hp, h2, kk ρ V H (.refl S) S rv⟩
      | _ => cases e
  | str z =>
    cases b with
    | int i =>
      cases rb
      have e : (if Nat.ble z.cps.size lim = true then (match atN z.cps.size i with
        | some j => (match nth z.cps.toList j with | some c => R.ok (PV.str ⟨#[c]⟩) st | none => .stuck 70)
        | none => .stuck 70) else .stuck 70) = .ok v st' := e
      by_cases hz : Nat.ble z.cps.size lim = true
      · rw [if_pos hz] at e
        cases g : atN z.cps.size i with
        | none => rw [g] at e; cases e
        | some j =>
          rw [g] at e
          have e : (match nth z.cps.toList j with | some c => R.ok (PV.str ⟨#[c]⟩) st | none => .stuck 70) = .ok v st' := e
          cases g2 : nth z.cps.toList j with
          | none => rw [g2] at e; cases e
          | some c =>
            rw [g2] at e
            cases e
            rw [nth_eq] at g2
            refine .inr (.inr ⟨z, i, c, rfl, rfl, Nat.ble_eq ▸ hz, ?_, kk ρ _ H (.refl S) S (.str _)⟩)
            unfold atI
            rw [show z.cps.toList.length = z.cps.size from Array.length_toList, atN_ix g]
            exact g2
      · rw [if_neg hz] at e; cases e
    | _ => cases e
  | _ => cases e
end
/-! ### slices -/
abbrev XP := Ev → Fr → St → R (Option Int)
def oN : XP := fun _ _ st => .ok none st
def oS (x : Y.X) : XP := fun r fr st => (x r fr st).bind fun v st => match v with
  | .int i => .ok (some i) st
  | _ => .stuck 73
def sIxP (n d : Nat) (o : Option Int) : Nat := match o with
  | none => d
  | some (.ofNat k) => if Nat.ble k n then k else n
  | some (.negSucc k) => n - (k + 1)
theorem sIxP_eq (n d : Nat) (o : Option Int) : sIxP n d o = HT.sIx n d o := by
  cases o with
  | none => rfl
  | some i =>
    cases i with
    | ofNat k =>
      show (if Nat.ble k n = true then k else n) = if (k : Int) < 0 then ((k : Int) + (n : Int)).toNat else min (k : Int).toNat n
      rw [if_neg (show ¬ ((k : Int) < 0) from by omega)]
      by_cases h : Nat.ble k n = true
      · rw [if_pos h]; rw [Nat.ble_eq] at h; simp; omega
      · rw [if_neg h]; rw [Nat.ble_eq] at h; simp; omega
    | negSucc k =>
      show n - (k + 1) = if Int.negSucc k < 0 then (Int.negSucc k + (n : Int)).toNat else min (Int.negSucc k).toNat n
      rw [if_pos (Int.negSucc_lt_zero k)]
      omega
theorem takeN_eq {α : Type} : ∀ (n : Nat) (xs : List α), takeN n xs = xs.take n
  | 0, xs => by simp [takeN]
  | n + 1, [] => by simp [takeN]
  | n + 1, x :: r => by rw [takeN, takeN_eq n r]; rfl
theorem dropN_eq {α : Type} : ∀ (n : Nat) (xs : List α), dropN n xs = xs.drop n
  | 0, xs => by simp [dropN]
  | n + 1, [] => by simp [dropN]
  | n + 1, x :: r => by rw [dropN, dropN_eq n r]; rfl
def cutP {α : Type} (xs : List α) (lo hi : Option Int) : List α :=
  takeN (sIxP (len xs) (len xs) hi - sIxP (len xs) 0 lo) (dropN (sIxP (len xs) 0 lo) xs)
section
variable {T : Tb} {K : PySem.W.Frag} {ρ : Nat → Addr} {n : Nat} {H : Hp}
theorem Reps.take {xs : List PV} {Vs : List L2.V} (h : Reps T K ρ n H xs Vs) : ∀ m : Nat, Reps T K ρ n H (xs.take m) (Vs.take m) := by
  intro m
  induction m generalizing xs Vs with
  | zero => rw [List.take_zero, List.take_zero]; exact .nil
  | succ m ih =>
    cases h with
    | nil => rw [List.take_nil, List.take_nil]; exact .nil
    | cons a b => rw [List.take_succ_cons, List.take_succ_cons]; exact .cons a (ih b)
theorem Reps.drop {xs : List PV} {Vs : List L2.V} (h : Reps T K ρ n H xs Vs) : ∀ m : Nat, Reps T K ρ n H (xs.drop m) (Vs.drop m) := by
  intro m
  induction m generalizing xs Vs with
  | zero => exact h
  | succ m ih =>
    cases h with
    | nil => rw [List.drop_nil, List.drop_nil]; exact .nil
    | cons a b => rw [List.drop_succ_cons, List.drop_succ_cons]; exact ih b
theorem Reps.cut {xs : List PV} {Vs : List L2.V} (h : Reps T K ρ n H xs Vs) (lo hi : Option Int) : Reps T K ρ n H (cutP xs lo hi) (cutV Vs lo hi) := by
  unfold cutP cutV
  rw [takeN_eq, dropN_eq, len_eq, sIxP_eq, sIxP_eq, h.length]
  exact (h.drop _).take _
end
def cutS (x : Str) (lo hi : Option Int) (st : St) : R PV := if Nat.ble x.cps.size lim then .ok (.str (Txt.slice x lo hi)) st else .stuck 74
def slV (a : PV) (lo hi : Option Int) (st : St) : R PV := match a with
  | .tup xs => .ok (.tup (cutP xs lo hi)) st
  | .cl xs => newC (.lst 0 (cutP xs lo hi)) st
  | .ref x => (match st.get x with
    | some (.lst _ xs) => newC (.lst 0 (cutP xs lo hi)) st
    | _ => .stuck 74)
  | .str x => cutS x lo hi st
  | _ => .stuck 74
def e_sl (x : Y.X) (lo hi : XP) : Y.X := fun r fr st => (x r fr st).bind fun v st => (lo r fr st).bind fun l st => (hi r fr st).bind fun h st => slV v l h st
def OutP (T : Tb) (K : PySem.W.Frag) (ρ : Nat → Addr) (st : St) (H : Hp) (x : R (Option Int)) (Q : Option Int → Hp → Prop) : Prop :=
  ∃ v st', x = .ok v st' ∧ ∀ ρ' H', Nxt ρ st H ρ' st' H' → StRep T K ρ' st' H' → Q v H'
def tP (T : Tb) (K : PySem.W.Frag) (r : Ev) (x : XP) : TO := fun σ H Q => ∃ ρ fr st, FrRep T K ρ st.n H fr σ ∧ StRep T K ρ st H ∧ OutP T K ρ st H (x r fr st) Q
def rSl (T : Tb) (K : PySem.W.Frag) (f : PV → Option Int → Option Int → St → R PV) : V → Option Int → Option Int → Hp → VK → Prop := fun x lo hi H Q => ∃ ρ st a, StRep T K ρ st H ∧ Rep T K ρ st.n H a x ∧ Out T K ρ st H (f a lo hi st) Q
section
variable {X : Cx} {T : Tb} {r : Ev} {pos p2 : Pos} {e : Expr} {x : Y.X} {lo hi : Option Expr} {l h : XP}
theorem PO.imp {e : Option Expr} {t t' : TO} (h : PO X e t) (i : ∀ σ H Q, t' σ H Q → t σ H Q) : PO X e t' := ⟨fun pins s σ H Q I q => h.run pins s σ H Q I (i σ H Q q)⟩
theorem sO_none : PO X none (tP T X.K r oN) := PO.imp po_none fun σ H Q ⟨ρ, fr, st, F, S, v, st', e, kk⟩ => by
  cases e
  exact kk ρ H (.refl S) S
theorem sO_some (he : PE X e (tE T X.K r x)) : PO X (some e) (tP T X.K r (oS x)) := PO.imp (po_some he) fun σ H Q ⟨ρ, fr, st, F, S, v, st', e, kk⟩ => by
  obtain ⟨v1, s1, e1, e2⟩ := bind_ok e
  cases v1 with
  | int i =>
    cases e2
    refine ⟨ρ, fr, st, F, S, .int i, _, e1, fun ρ1 V1 H1 N1 S1 R1 => ?_⟩
    cases R1
    exact ⟨i, rfl, kk ρ1 H1 N1 S1⟩
  | _ => cases e2
theorem sl_slV : SlR X (rSl T X.K slV) := by
  intro pins s σ H x v vl vu lo hi sl Q I rx hs pl pu ⟨ρ, st, a, S, ra, w, st', e, kk⟩
  cases ra with
  | @tup xs p vs hp t =>
    cases e
    refine sl_tupA pins s σ H _ v vl vu lo hi sl Q I rx hs pl pu ⟨p, vs, rfl, hp, fun hw => ?_, fun hw m hm => ?_⟩
    · have e : cutV vs lo hi = vs := by
        unfold cutV
        rw [hw.1, hw.2, List.drop_zero, Nat.sub_zero, List.take_length]
      have q := t.cut lo hi
      rw [e] at q
      exact kk ρ _ H (.refl S) S (.tup hp q)
    · exact kk ρ _ _ (.laid S hm) (S.laid hm) (.tup (.inl (.inl upd_same)) ((t.cut lo hi).stay (.new hm)))
  | @cl xs p vs hp t =>
    cases e
    refine sl_list pins s σ H _ v vl vu lo hi sl Q I rx hs pl pu ⟨p, vs, rfl, hp.sq, fun m hm => ?_⟩
    obtain ⟨S2, N2, R2⟩ := new_lst S (t.cut lo hi) hm
    exact kk _ _ _ N2 S2 R2
  | @ref c hc =>
    cases g : st.get c with
    | none => simp only [slV, g] at e; cases e
    | some cl =>
      cases cl with
      | lst ver xs =>
        simp only [slV, g] at e
        cases e
        obtain ⟨_, vs, hp, t⟩ := lst_at S g
        refine sl_list pins s σ H _ v vl vu lo hi sl Q I rx hs pl pu ⟨_, vs, rfl, .of hp, fun m hm => ?_⟩
        obtain ⟨S2, N2, R2⟩ := new_lst S (t.cut lo hi) hm
        exact kk _ _ _ N2 S2 R2
      | _ => simp only [slV, g] at e; cases e
  | str z =>
    have e : (if Nat.ble z.cps.size lim = true then R.ok (PV.str (Txt.slice z lo hi)) st else .stuck 74) = .ok w st' := e
    by_cases hz : Nat.ble z.cps.size lim = true
    · rw [if_pos hz] at e
      cases e
      exact C8.sl_txt pins s σ H _ v vl vu lo hi sl Q I rx hs pl pu ⟨z, rfl, Nat.ble_eq ▸ hz, kk ρ _ H (.refl S) S (.str _)⟩
    · rw [if_neg hz] at e; cases e
  | _ => cases e
theorem sE_sl (he : PE X e (tE T X.K r x)) (hl : PO X lo (tP T X.K r l)) (hu : PO X hi (tP T X.K r h)) : PE X (.Subscript e (.Slice lo hi none p2) pos) (tE T X.K r (e_sl x l h)) :=
  PE.imp (pe_slice sl_slV he hl hu) fun σ H Q ⟨ρ, fr, st, F, S, v, st', e0, kk⟩ => by
    obtain ⟨v1, s1, e1, e2⟩ := bind_ok e0
    obtain ⟨v2, s2, e2, e3⟩ := bind_ok e2
    obtain ⟨v3, s3, e3, e4⟩ := bind_ok e3
    refine ⟨ρ, fr, st, F, S, v1, s1, e1, fun ρ1 V1 H1 N1 S1 R1 => ⟨ρ1, fr, s1, F.stay N1.stay, S1, v2, s2, e2, fun ρ2 H2 N2 S2 => ⟨ρ2, fr, s2, (F.stay N1.stay).stay N2.stay, S2, v3, s3, e3, fun ρ3 H3 N3 S3 => ?_⟩⟩⟩
    exact ⟨ρ3, s3, v1, S3, (R1.stay N2.stay).stay N3.stay, v, st', e4, fun ρ4 V4 H4 N4 S4 R4 => kk ρ4 V4 H4 (((N1.trans N2).trans N3).trans N4) S4 R4⟩
end
end Y
end
section
set_option linter.all false
set_option maxRecDepth 100000
set_option maxHeartbeats 4000000
/-! Y15: list comprehensions. -/
namespace Y
open PySem PySem.Spec L2 PyProof.Rows
/-! ### a thing beside the store -/
section
variable {T : Tb} {K : PySem.W.Frag} {ρ ρ1 : Nat → Addr} {st st1 : St} {H H1 : Hp} {D : Addr} {o0 o : HO}
theorem StRep.aside (S : StRep T K ρ st H) (h0 : H D = some o0) (hf : fixO o0 = false) (hD : ∀ a, a < st.n → D ≠ ρ a) : StRep T K ρ st (upd H D o) :=
  ⟨fun a c e => ⟨(S.cell a c e).1, (S.cell a c e).2.stay (.write h0 hf) (upd_ne (hD a (S.cell a c e).1).symm)⟩, S.full, S.inj⟩
theorem Nxt.aside (N : Nxt ρ1 st1 H1 ρ st H) (h1 : H1 D = none) (hD : ∀ a, a < st.n → D ≠ ρ a) : Nxt ρ1 st1 H1 ρ st (upd H D o) where
  le := N.le
  rho := N.rho
  new := N.new
  fix := fun p u h f => by rw [upd_ne (ne_of_none h h1)]; exact N.fix p u h f
  trk := fun p h => by
    by_cases e : p = D
    · subst e; exact h1
    · rw [upd_ne e] at h; exact N.trk p h
  keep := fun p u h hn => by rw [upd_ne (ne_of_none h h1)]; exact N.keep p u h hn
  ver := N.ver
  same := fun a h e => by
    rw [upd_ne fun z => hD a (Nat.lt_of_lt_of_le h N.le) (z.symm.trans (N.rho a h).symm)]
    exact N.same a h e
theorem Nxt.apart (N : Nxt ρ1 st1 H1 ρ st H) (h : H1 D = some o0) (hD : ∀ a, a < st1.n → D ≠ ρ1 a) : ∀ a, a < st.n → D ≠ ρ a := fun a ha z => by
  by_cases hx : a < st1.n
  · exact hD a hx (z.trans (N.rho a hx))
  · have q := N.new a (Nat.not_lt.mp hx) ha
    rw [← z, h] at q
    cases q
/-- it becomes a cell -/
theorem StRep.adopt {c : Cell} (S : StRep T K ρ st H) (hD : ∀ a, a < st.n → D ≠ ρ a) (hc : CellRep T K (ρput ρ st.n D) (st.n + 1) H c D) : StRep T K (ρput ρ st.n D) (st.new c) H where
  cell := fun a c' e => by
    rw [St.get_new] at e
    by_cases h : a = st.n
    · rw [if_pos h] at e
      cases e
      subst h
      rw [ρput_at]
      exact ⟨Nat.lt_succ_self _, hc⟩
    · rw [if_neg h] at e
      obtain ⟨h1, h2⟩ := S.cell a c' e
      rw [ρput_lt h1]
      exact ⟨Nat.lt_succ_of_lt h1, h2.stay ⟨Nat.le_succ _, fun b hb => ρput_lt hb, fun _ _ h => h, fun _ _ _ h => h, fun _ _ h => h⟩ rfl⟩
  full := fun a h => by
    rw [St.get_new]
    by_cases e : a = st.n
    · rw [if_pos e]; rfl
    · rw [if_neg e]
      exact S.full a (by have : a < st.n + 1 := h; omega)
  inj := fun a b ha hb e => by
    have ha : a < st.n + 1 := ha
    have hb : b < st.n + 1 := hb
    by_cases h1 : a = st.n <;> by_cases h2 : b = st.n
    · omega
    · subst h1
      have hb' : b < st.n := by omega
      rw [ρput_at, ρput_lt hb'] at e
      exact absurd e (hD b hb')
    · subst h2
      have ha' : a < st.n := by omega
      rw [ρput_at, ρput_lt ha'] at e
      exact absurd e.symm (hD a ha')
    · have ha' : a < st.n := by omega
      have hb' : b < st.n := by omega
      rw [ρput_lt ha', ρput_lt hb'] at e
      exact S.inj a b ha' hb' e
theorem Nxt.adopt {c : Cell} (N : Nxt ρ1 st1 H1 ρ st H) (S : StRep T K ρ st H) (h1 : H1 D = none) : Nxt ρ1 st1 H1 (ρput ρ st.n D) (st.new c) H where
  le := Nat.le_succ_of_le N.le
  rho := fun a h => (ρput_lt (Nat.lt_of_lt_of_le h N.le)).trans (N.rho a h)
  new := fun a h2 h3 => by
    have h3 : a < st.n + 1 := h3
    by_cases e : a = st.n
    · subst e; rw [ρput_at]; exact h1
    · rw [ρput_lt (by omega)]; exact N.new a h2 (by omega)
  fix := N.fix
  trk := N.trk
  keep := N.keep
  ver := fun a h => by
    rw [St.get_new, if_neg (Nat.ne_of_lt (Nat.lt_of_lt_of_le h N.le))]
    exact N.ver a h
  same := fun a h e => by
    rw [St.get_new, if_neg (Nat.ne_of_lt (Nat.lt_of_lt_of_le h N.le))] at e
    exact N.same a h e
theorem Stay.put {n : Nat} : Stay K ρ n H (ρput ρ n D) (n + 1) H := ⟨Nat.le_succ _, fun b hb => ρput_lt hb, fun _ _ h => h, fun _ _ _ h => h, fun _ _ h => h⟩
end
/-! ### targets of names alone -/
def wipeF (fr : Fr) : List Nat → Fr
  | [] => fr
  | v :: vs => setNth (wipeF fr vs) v none
section
variable {T : Tb} {K : PySem.W.Frag} {ρ : Nat → Addr} {n : Nat} {H : Hp}
theorem FrRep.unset {fr : Fr} {σ : L2.St} (f : FrRep T K ρ n H fr σ) (i : Nat) : FrRep T K ρ n H (setNth fr i none) (σ.set i none) := by
  refine ⟨by rw [setNth_eq, List.length_set, List.length_set]; exact f.1, fun j w e => ?_⟩
  rw [setNth_eq] at e
  by_cases h : i = j
  · subst h
    have hi : i < fr.length := by
      have := (List.getElem?_eq_some_iff.mp e).1
      simpa using this
    rw [List.getElem?_set_self hi] at e
    cases e
  · rw [List.getElem?_set_ne h] at e
    obtain ⟨W, h1, h2⟩ := f.2 j w e
    exact ⟨W, by rw [List.getElem?_set_ne h]; exact h1, h2⟩
theorem FrRep.wipe {fr : Fr} {σ : L2.St} (f : FrRep T K ρ n H fr σ) : ∀ vs, FrRep T K ρ n H (wipeF fr vs) (L2.wipe σ vs)
  | [] => f
  | v :: vs => (FrRep.wipe f vs).unset v
theorem wipe_set {σ : L2.St} {i : Nat} {x : Option L2.V} : ∀ {vs : List Nat}, i ∈ vs → L2.wipe (σ.set i x) vs = L2.wipe σ vs
  | v :: vs, h => by
    unfold L2.wipe
    by_cases e : i ∈ vs
    · rw [wipe_set e]
    · rcases List.mem_cons.mp h with z | z
      · subst z
        have : ∀ ws : List Nat, i ∉ ws → L2.wipe (σ.set i x) ws = (L2.wipe σ ws).set i x := by
          intro ws
          induction ws with
          | nil => intro _; rfl
          | cons a r ih =>
            intro hn
            unfold L2.wipe
            rw [ih fun q => hn (List.mem_cons_of_mem _ q), List.set_comm _ _ fun q => hn (by rw [q]; exact List.mem_cons_self)]
        rw [this vs e, List.set_set]
      · exact absurd z e
theorem wipe_in {σ : L2.St} {a : Nat} : ∀ {us : List Nat}, a ∈ us → (L2.wipe σ us).set a none = L2.wipe σ us
  | b :: r, h => by
    show (List.set (L2.wipe σ r) b none).set a none = List.set (L2.wipe σ r) b none
    by_cases e : a = b
    · subst e; rw [List.set_set]
    · rw [List.set_comm _ _ (Ne.symm e), wipe_in (by rcases List.mem_cons.mp h with z | z; exact absurd z e; exact z)]
theorem wipe_again (σ : L2.St) (vs : List Nat) : ∀ ws : List Nat, (∀ i ∈ ws, i ∈ vs) → L2.wipe (L2.wipe σ vs) ws = L2.wipe σ vs
  | [], _ => rfl
  | a :: r, hs => by
    show (L2.wipe (L2.wipe σ vs) r).set a none = L2.wipe σ vs
    rw [wipe_again σ vs r fun q hq => hs q (List.mem_cons_of_mem _ hq)]
    exact wipe_in (hs a List.mem_cons_self)
end
def OutW (T : Tb) (K : PySem.W.Frag) (vs : List Nat) (ρ : Nat → Addr) (st : St) (H : Hp) (σ : L2.St) (x : R Fr) (Q : L2.St → Hp → Prop) : Prop :=
  ∃ fr' st', x = .ok fr' st' ∧ ∀ ρ' σ' H', Nxt ρ st H ρ' st' H' → StRep T K ρ' st' H' → FrRep T K ρ' st'.n H' fr' σ' → L2.wipe σ' vs = L2.wipe σ vs → Q σ' H'
def tW (T : Tb) (K : PySem.W.Frag) (vs : List Nat) (r : Ev) (t : XT) : TG := fun V σ H Q => ∃ ρ fr st v, FrRep T K ρ st.n H fr σ ∧ StRep T K ρ st H ∧ Rep T K ρ st.n H v V ∧ OutW T K vs ρ st H σ (t v r fr st) Q
def tWs (T : Tb) (K : PySem.W.Frag) (vs : List Nat) (r : Ev) (t : XTs) : TGs := fun Vs σ H Q => ∃ ρ fr st ws, FrRep T K ρ st.n H fr σ ∧ StRep T K ρ st H ∧ Reps T K ρ st.n H ws Vs ∧ OutW T K vs ρ st H σ (t ws r fr st) Q
section
variable {X : Cx} {T : Tb} {k : Nat} {r : Ev} {pos : Pos} {e o : Expr} {es : List Expr} {x : Y.X} {t : XT} {u : XTs} {i f n : Nat} {nx : Str} {vs : List Nat}
theorem sW_v (hN : X.N.Nodup) (hi : X.N[i]? = some nx) (hx : Loc X.env.scope nx) (hv : i ∈ vs) (hf : X.fn nx = true ∨ X.env.scope.names.lookup nx = some .local := by first | exact .inl rfl | exact .inr rfl | assumption) : PG X (.Name nx pos) (tW T X.K vs r (t_v i)) :=
  PG.imp (pg_name hN hi hx hf) fun V σ H Q ⟨ρ, fr, st, v, F, S, R, o⟩ => by
    obtain ⟨_, _, e, kk⟩ := o
    cases e
    exact kk ρ _ H (.refl S) S (F.set R i) (wipe_set hv)
theorem sWs_nil : PGs X [] (tWs T X.K vs r ts_nil) := PGs.imp pgs_nil fun Vs σ H Q ⟨ρ, fr, st, vs, F, S, R, o⟩ => by
  cases R with
  | nil =>
    obtain ⟨_, _, e, kk⟩ := o
    cases e
    exact ⟨rfl, kk ρ _ H (.refl S) S F rfl⟩
  | cons _ _ => obtain ⟨_, _, e, _⟩ := o; cases e
theorem sWs_cons (h1 : PG X e (tW T X.K vs r t)) (h2 : PGs X es (tWs T X.K vs r u)) (hs : (assignEach (e :: es) X.env).map (·.2) = assign e X.env :: (assignEach es X.env).map (·.2) := by rfl) : PGs X (e :: es) (tWs T X.K vs r (ts_cons t u)) :=
  PGs.imp (pgs_cons h1 h2 hs) fun Vs σ H Q ⟨ρ, fr, st, ws, F, S, R, o⟩ => by
    cases R with
    | nil => obtain ⟨_, _, e, _⟩ := o; cases e
    | @cons v V vs' Vs' h tl =>
      refine ⟨V, Vs', rfl, ρ, fr, st, v, F, S, h, ?_⟩
      obtain ⟨fr2, st2, e2, kk⟩ := o
      obtain ⟨fr1, st1, e1, e3⟩ := bind_ok e2
      exact ⟨fr1, st1, e1, fun ρ' σ' H' N' S' F' w' => ⟨ρ', fr1, st1, vs', F', S', tl.stay N'.stay, fr2, st2, e3, fun ρ2 σ2 H2 N2 S2 F2 w2 => kk ρ2 σ2 H2 (N'.trans N2) S2 F2 (w2.trans w')⟩⟩
theorem sW_tup {k' : Nat} (hc : X.calm = true) (h : PGs X es (tWs T X.K vs r u)) (hn : (assignEach es X.env).length = n := by rfl) (hst : (assignEach es X.env).findIdx? (·.1) = none := by rfl) : PG X (.Tuple es k' pos) (tW T X.K vs r (t_tup n u)) :=
  PG.imp (pg_tup hc h hn hst) fun V σ H Q ⟨ρ, fr, st, v, F, S, R, o⟩ => by
    obtain ⟨fr2, st2, e2, kk⟩ := o
    unfold t_tup at e2
    cases R with
    | @tup xs p vs hp tl =>
      have e2 : (if Nat.beq (len xs) n = true then u xs r fr st else .stuck 51) = .ok fr2 st2 := e2
      by_cases hl : Nat.beq (len xs) n = true
      · rw [if_pos hl] at e2
        have hl := Nat.eq_of_beq_eq_true hl
        rw [len_eq] at hl
        exact ⟨p, vs, rfl, hp, by rw [← tl.length]; exact hl, ρ, fr, st, xs, F, S, tl, fr2, st2, e2, kk⟩
      · rw [if_neg hl] at e2; cases e2
    | _ => cases e2
end
/-! ### the comprehension -/
def lcL (elt : Y.X) (t : XT) (tt : XB) (gd : Gd) (r : Ev) (fr : Fr) : List PV → St → R (List PV)
  | [], st => if gdOk gd st then .ok [] st else .stuck 64
  | v :: vs, st => if gdOk gd st then ((t v r fr st).bind fun fr2 st => (tt r fr2 st).bind fun c st => match c with
    | true => (elt r fr2 st).bind fun y st => (lcL elt t tt gd r fr vs st).bind fun ys st => .ok (y :: ys) st
    | false => lcL elt t tt gd r fr vs st) else .stuck 64
def bT : XB := fun _ _ st => .ok true st
def lcV (elt : Y.X) (vs : List Nat) (t : XT) (it : XI) (tt : XB) (r : Ev) (fr : Fr) (st : St) : R (List PV) := (it r fr st).bind fun p st => lcL elt t tt p.2 r (wipeF fr vs) p.1 st
def e_lc (elt : Y.X) (vs : List Nat) (t : XT) (it : XI) (tt : XB) : Y.X := fun r fr st => (lcV elt vs t it tt r fr st).bind fun ys st => if okLen ys then newC (.lst 0 ys) st else .stuck 65
theorem bool_cases {c : Bool} {α : Type} {a b : α} : (match c with | true => a | false => b) = if c = true then a else b := by cases c <;> rfl
section
variable {X : Cx} {T : Tb} {r : Ev}
theorem sYes (σ : L2.St) (H : Hp) (Q : Bool → Hp → Prop) (h : tT T X.K r bT σ H Q) : tYes σ H Q := by
  obtain ⟨ρ, fr, st, F, S, v, st', e, kk⟩ := h
  cases e
  exact kk ρ H (.refl S) S
theorem PTs.imp {es : List Expr} {t t' : TT} (h : PTs X es t) (i : ∀ σ H Q, t' σ H Q → t σ H Q) : PTs X es t' := ⟨fun pins s σ H Q I q => h.run pins s σ H Q I (i σ H Q q)⟩
theorem sTs_nil : PTs X [] (tT T X.K r bT) := PTs.imp pts_nil sYes
theorem sTs_one {c : Expr} {b : XB} (h : PT X c (tT T X.K r b)) : PTs X [c] (tT T X.K r b) := pts_one h
/-- the walk's reading, whatever stands at its end -/
theorem i_lc {K : PySem.W.Frag} {elt : Y.X} {vs : List Nat} {t : XT} {it : XI} {tt : XB} {σ : L2.St} {H : Hp} {Q : VK} (h : tE T K r (e_lc elt vs t it tt) σ H Q) : tLc (tI T K r it) (tW T K vs r t) (tT T K r tt) (tE T K r elt) vs σ H Q := by
  obtain ⟨ρ, fr, st, F, S, v, st', e0, kk⟩ := h
  obtain ⟨ys, s1, e1, e2⟩ := bind_ok e0
  obtain ⟨⟨items, gd⟩, s0, e3, e4⟩ := bind_ok e1
  cases hz : okLen ys with
  | false => rw [hz] at e2; cases e2
  | true =>
    rw [hz] at e2
    cases e2
    have hz := okLen_iff.mp hz
    refine ⟨ρ, fr, st, F, S, items, gd, s0, e3, fun ρ1 H1 N1 S1 J wk D hD => ?_⟩
    have hD1 : ∀ a, a < s0.n → D ≠ ρ1 a := S1.here hD
    refine ⟨fun i m H => m = items.length - i ∧ i ≤ items.length ∧ ∃ ρ2 st2 done acc rest, StRep T K ρ2 st2 H ∧ Nxt ρ1 s0 H1 ρ2 st2 H ∧ (∀ a, a < st2.n → D ≠ ρ2 a) ∧ H D = some (.lst acc) ∧ Reps T K ρ2 st2.n H done acc ∧ lcL elt t tt gd r (wipeF fr vs) (items.drop i) st2 = .ok rest s1 ∧ done ++ rest = ys,
      ⟨_, rfl, Nat.zero_le _, ρ1, s0, [], [], ys, S1.laid hD, Nxt.laid S1 hD, hD1, upd_same, .nil, e4, rfl⟩, ?_⟩
    rintro i m H2 ⟨rfl, hi, ρ2, st2, done, acc, rest, S2, N2, hD2, hH2, rd, ee, hy⟩
    by_cases hlt : i < items.length
    · have hyi : items[i]? = some items[i] := List.getElem?_eq_getElem hlt
      rw [drop_cons hyi] at ee
      unfold lcL at ee
      by_cases hg : gdOk gd st2 = true
      · rw [if_pos hg] at ee
        refine .inr ⟨wk.goes i ρ2 st2 H2 N2 S2 hg hlt, fun H => ∃ ρ2 st2 done acc rest, StRep T K ρ2 st2 H ∧ Nxt ρ1 s0 H1 ρ2 st2 H ∧ (∀ a, a < st2.n → D ≠ ρ2 a) ∧ H D = some (.lst acc) ∧ Reps T K ρ2 st2.n H done acc ∧ lcL elt t tt gd r (wipeF fr vs) (items.drop (i + 1)) st2 = .ok rest s1 ∧ done ++ rest = ys, fun H' h => ⟨_, by omega, rfl, hlt, h⟩, fun z H' hz' => ?_⟩
        obtain ⟨S3, N3, y, hy', R3⟩ := wk.yields i z H' ρ2 st2 H2 N2 S2 hg hlt hz'
        rw [hyi] at hy'
        cases hy'
        obtain ⟨fr4, st4, g4, ee⟩ := bind_ok ee
        obtain ⟨c, st5, g5, ee⟩ := bind_ok ee
        have hH3 : H' D = some (.lst acc) := N3.keep D _ hH2 hD2
        refine ⟨ρ2, wipeF fr vs, st2, items[i], ((F.stay N1.stay).wipe vs).stay (N2.trans N3).stay, S3, R3, fr4, st4, g4, fun ρ4 σ4 H4 N4 S4 F4 w4 => ⟨?_, ρ4, fr4, st4, F4, S4, c, st5, g5, fun ρ5 H5 N5 S5 => ?_⟩⟩
        · rw [w4]; exact wipe_again σ vs vs fun _ h => h
        · have hD4 := N4.apart hH3 hD2
          have hH4 : H4 D = some (.lst acc) := N4.keep D _ hH3 hD2
          have hD5 := N5.apart hH4 hD4
          have hH5 : H5 D = some (.lst acc) := N5.keep D _ hH4 hD4
          have N25 := ((N2.trans N3).trans N4).trans N5
          have rd5 := rd.stay ((N3.trans N4).trans N5).stay
          cases c with
          | false => exact ⟨ρ5, st5, done, acc, rest, S5, N25, hD5, hH5, rd5, ee, hy⟩
          | true =>
            obtain ⟨y, st6, g6, ee⟩ := bind_ok ee
            obtain ⟨rest', st7, g7, ee⟩ := bind_ok ee
            cases ee
            show tE T K r elt σ4 H5 _
            refine ⟨ρ5, fr4, st5, F4.stay N5.stay, S5, y, st6, g6, fun ρ6 V6 H6 N6 S6 R6 => ?_⟩
            have hD6 := N6.apart hH5 hD5
            have hH6 : H6 D = some (.lst acc) := N6.keep D _ hH5 hD5
            refine ⟨acc, hH6, ?_, ρ6, st6, done ++ [y], acc ++ [V6], rest', S6.aside hH6 rfl hD6, (N25.trans N6).aside hD hD6, hD6, upd_same, ?_, g7, by rw [List.append_assoc]; exact hy⟩
            · rw [← rd.length]
              have : ys.length = done.length + (rest'.length + 1) := by rw [← hy, List.length_append, List.length_cons]
              omega
            · exact ((rd5.stay N6.stay).append (.cons R6 .nil)).stay (.write hH6 rfl)
      · rw [if_neg hg] at ee; cases ee
    · have e : i = items.length := by omega
      subst e
      rw [List.drop_length] at ee
      unfold lcL at ee
      by_cases hg : gdOk gd st2 = true
      · rw [if_pos hg] at ee
        cases ee
        rw [List.append_nil] at hy
        subst hy
        refine .inl ⟨wk.stops ρ2 _ H2 N2 S2 hg, ?_⟩
        have q : Rep T K (ρput ρ2 s1.n D) (s1.n + 1) H2 (.ref s1.n) (.ref (ρput ρ2 s1.n D s1.n)) := .ref (Nat.lt_succ_self _)
        rw [ρput_at] at q
        exact kk _ _ H2 (N1.trans (N2.adopt S2 hD)) (S2.adopt hD2 ⟨acc, hH2, rd.stay .put⟩) q
      · rw [if_neg hg] at ee; cases ee
variable {elt tg iter : Expr} {ifs : List Expr} {scope : Scope} {own : List (Str × Nat)} {pos : Pos} {xe : Y.X} {t : XT} {it : XI} {tt : XB}
theorem sE_lc (hc : X.calm = true) (hN : X.N.Nodup) (ok : BlkOk X.N X.env.scope scope own) (hi : PI X tg iter (tI T X.K r it))
    (hg : ∀ (s : Shared) (H : Hp) (C : Addr) (cl : List (Str × Addr)) (fp : List Addr), PG (X.blk s H scope (compEnvC scope cl C X.env) fp) tg (tW T X.K (own.map (·.2)) r t))
    (ht : ∀ (s : Shared) (H : Hp) (C : Addr) (cl : List (Str × Addr)) (fp : List Addr), PTs (X.blk s H scope (compEnvC scope cl C X.env) fp) ifs (tT T X.K r tt))
    (he : ∀ (s : Shared) (H : Hp) (C : Addr) (cl : List (Str × Addr)) (fp : List Addr), PE (X.blk s H scope (compEnvC scope cl C X.env) fp) elt (tE T X.K r xe))
    (hs : ∀ x, foldedSetIterable iter X.env x = pure x := by intro _; rfl) : PE X (.ListComp elt [⟨tg, iter, ifs, 0⟩] scope pos) (tE T X.K r (e_lc xe (own.map (·.2)) t it tt)) :=
  PE.imp (pe_lc hc hN hi ok hg ht he hs) fun _ _ _ h => i_lc h
/-- name = [..] -/
theorem sS_setLc {i : Nat} {y : Str} {py spos : Pos} (hc : X.calm = true) (hN : X.N.Nodup) (hy : X.N[i]? = some y) (hyl : X.env.scope.names.lookup y = some .local)
    (hsw : swapsWith (.ListComp elt [⟨tg, iter, ifs, 0⟩] scope pos) (some (.Name y py)) spos.line X.env = pure true)
    (ok : BlkOk X.N X.env.scope scope own) (hi : PI X tg iter (tI T X.K r it))
    (hg : ∀ (s : Shared) (H : Hp) (C : Addr) (cl : List (Str × Addr)) (fp : List Addr), PG (X.blk s H scope (compEnvC scope cl C X.env) fp) tg (tW T X.K (own.map (·.2)) r t))
    (ht : ∀ (s : Shared) (H : Hp) (C : Addr) (cl : List (Str × Addr)) (fp : List Addr), PTs (X.blk s H scope (compEnvC scope cl C X.env) fp) ifs (tT T X.K r tt))
    (he : ∀ (s : Shared) (H : Hp) (C : Addr) (cl : List (Str × Addr)) (fp : List Addr), PE (X.blk s H scope (compEnvC scope cl C X.env) fp) elt (tE T X.K r xe))
    (hs : ∀ x, foldedSetIterable iter X.env x = pure x := by intro _; rfl) : PS X (.Assign [.Name y py] (.ListComp elt [⟨tg, iter, ifs, 0⟩] scope pos) spos) (tS T X.K r (s_asg (t_v i) (e_lc xe (own.map (·.2)) t it tt))) :=
  PS.imp (ps_setLc hc hN hy hyl hsw hi ok hg ht he hs) fun D σ H ⟨ρ, fr, st, F, S, o⟩ => by
    obtain ⟨fr2, st2, e2, kk⟩ := toS_ok o
    obtain ⟨v1, st1, e1, e3⟩ := bind_ok e2
    cases e3
    exact i_lc ⟨ρ, fr, st, F, S, v1, _, e1, fun ρ1 V1 H1 N1 S1 R1 => kk ρ1 _ H1 N1 S1 ((F.stay N1.stay).set R1 i)⟩
end
end Y
end
section
set_option linter.all false
set_option maxRecDepth 100000
set_option maxHeartbeats 4000000
/-! Y16: built-in calls. -/
namespace Y
open PySem PySem.Spec L2 PyProof.Rows
def e_bi (g : List PV → St → R PV) (a : XA) : Y.X := fun r fr st => (a r fr st).bind fun vs st => g vs st
def e_biR (g : Ev → List PV → St → R PV) (a : XA) : Y.X := fun r fr st => (a r fr st).bind fun vs st => g r vs st
section
variable {X : Cx} {T : Tb} {r : Ev} {pos p : Pos} {e : Expr} {es : List Expr} {a : XA} {nx : Str} {id TT : String} {g : Ev → List PV → St → R PV}
theorem i_bi {K : PySem.W.Frag} (σ : L2.St) (H : Hp) (Q : VK) (h : tE T K r (e_biR g a) σ H Q) : tCB (rA T K (g r)) (tA T K r a) σ H Q := by
  obtain ⟨ρ, fr, st, F, S, v, st', e0, kk⟩ := h
  obtain ⟨vs, s1, e1, e2⟩ := bind_ok e0
  exact ⟨ρ, fr, st, F, S, vs, s1, e1, fun ρ1 V1 H1 N1 S1 R1 => ⟨ρ1, s1, vs, S1, R1, v, st', e2, fun ρ2 V2 H2 N2 S2 R2 => kk ρ2 V2 H2 (N1.trans N2) S2 R2⟩⟩
theorem sE_biB (hc : CallR X (.builtin id) (rA T X.K (g r))) (hg : Gl X nx) (hm : X.mg nx = none) (hv : bootBuiltins nx = some (.builtin id)) (ha : PA X (e :: es) (tA T X.K r a)) (hn : nx ≠ "__name__" := by decide) (hdb : (nx == ("__debug__" : Str)) = false := by decide)
    (he : starEach (e :: es) X.env = (false, eval e X.env) :: starEach es X.env := by rfl) (hpl : (backTo pos (starEach es X.env)).any (·.1) = false := by rfl) : PE X (.Call (.Name nx p) (e :: es) [] pos) (tE T X.K r (e_biR g a)) :=
  PE.imp (pe_callB hc hg hm hv ha hn hdb he hpl) i_bi
theorem sE_biT (hc : CallR X (.type TT) (rA T X.K (g r))) (hg : Gl X nx) (hm : X.mg nx = none) (hv : bootBuiltins nx = some (.type TT)) (ha : PA X (e :: es) (tA T X.K r a)) (hn : nx ≠ "__name__" := by decide) (hdb : (nx == ("__debug__" : Str)) = false := by decide)
    (he : starEach (e :: es) X.env = (false, eval e X.env) :: starEach es X.env := by rfl) (hpl : (backTo pos (starEach es X.env)).any (·.1) = false := by rfl) : PE X (.Call (.Name nx p) (e :: es) [] pos) (tE T X.K r (e_biR g a)) :=
  PE.imp (pe_callTy hc hg hm hv ha hn hdb he hpl) i_bi
theorem CallR.impR {f : Value} {q q' : List V → Hp → VK → Prop} (h : CallR X f q) (i : ∀ xs H Q, q' xs H Q → q xs H Q) : CallR X f q' := fun pins s σ H xs us Q I rv z => h pins s σ H xs us Q I rv (i xs H Q z)
end
/-! ### len -/
def lenI (LL : List (Nat × Nat)) (r : Ev) (a : PV) (c : Nat) (st : St) : R PV := match look LL c with
  | some i => (r (.fn i) [a] st).bind fun v st => match v with
    | .int n => if Nat.ble n.toNat lim && intLt (-1) n then .ok (.int n) st else .stuck 80
    | _ => .stuck 80
  | none => .stuck 80
def lenC (LL : List (Nat × Nat)) (r : Ev) (a : PV) (st : St) (o : Option Cell) : R PV := match o with
  | some (.lst _ xs) => .ok (.int (len xs)) st
  | some (.ins c _) => lenI LL r a c st
  | _ => .stuck 80
def len1 (LL : List (Nat × Nat)) (r : Ev) (a : PV) (st : St) : R PV := match a with
  | .tup xs => .ok (.int (len xs)) st
  | .cl xs => .ok (.int (len xs)) st
  | .str x => if Nat.ble x.cps.size lim then .ok (.int x.cps.size) st else .stuck 80
  | .ref x => lenC LL r a st (st.get x)
  | _ => .stuck 80
def on1 (f : PV → St → R PV) (vs : List PV) (st : St) : R PV := match vs with
  | [a] => f a st
  | _ => .stuck 81
def on2 (f : PV → PV → St → R PV) (vs : List PV) (st : St) : R PV := match vs with
  | [a, b] => f a b st
  | _ => .stuck 81
def lenB (LL : List (Nat × Nat)) (r : Ev) (vs : List PV) (st : St) : R PV := on1 (len1 LL r) vs st
theorem on1_ok {f : PV → St → R PV} {vs : List PV} {st st' : St} {v : PV} (h : on1 f vs st = .ok v st') : ∃ a, vs = [a] ∧ f a st = .ok v st' := by
  cases vs with
  | nil => cases h
  | cons a t => cases t with
    | nil => exact ⟨a, rfl, h⟩
    | cons _ _ => cases h
theorem on2_ok {f : PV → PV → St → R PV} {vs : List PV} {st st' : St} {v : PV} (h : on2 f vs st = .ok v st') : ∃ a b, vs = [a, b] ∧ f a b st = .ok v st' := by
  cases vs with
  | nil => cases h
  | cons a t => cases t with
    | nil => cases h
    | cons b u => cases u with
      | nil => exact ⟨a, b, rfl, h⟩
      | cons _ _ => cases h
section
variable {T : Tb} {K : PySem.W.Frag} {ρ : Nat → Addr} {n : Nat} {H : Hp}
theorem Reps.one {a : PV} {Vs : List L2.V} (h : Reps T K ρ n H [a] Vs) : ∃ V, Vs = [V] ∧ Rep T K ρ n H a V := by
  cases h with
  | cons h t => cases t; exact ⟨_, rfl, h⟩
theorem Reps.two {a b : PV} {Vs : List L2.V} (h : Reps T K ρ n H [a, b] Vs) : ∃ V W, Vs = [V, W] ∧ Rep T K ρ n H a V ∧ Rep T K ρ n H b W := by
  cases h with
  | cons h t => cases t with
    | cons h2 t => cases t; exact ⟨_, _, rfl, h, h2⟩
end
structure LenC (P : Program) (w : World) (K : PySem.W.Frag) (mg : Str → Option Value) (base : Heap) (T : Tb) (k : Nat) (r : Ev) (L : List (Nat × Nat)) : Prop where
  at_ : ∀ c i, look L c = some i → PySem.W.findIn K (.ref (T.ca c)) "__len__" = some (some (.ref (T.fa i))) ∧ EvC P w K mg base T k r i
section
variable {X : Cx} {T : Tb} {k : Nat} {r : Ev} {LL : List (Nat × Nat)}
theorem cr_len (hr : Room (k + 1) X.A) (C : LenC X.prog X.w X.K X.mg X.base T k r LL) : CallR X (.builtin "len") (rA T X.K (lenB LL r)) := by
  intro pins s σ H xs us Q I rv ⟨ρ, st, as, S, R, v, st', e, kk⟩
  obtain ⟨a, rfl, e⟩ := on1_ok e
  obtain ⟨V, rfl, ra⟩ := R.one
  cases ra with
  | @tup ys p vs hp t =>
    cases e
    refine call_len pins s σ H _ us Q I rv ⟨_, vs.length, rfl, .inr ⟨vs, hp, rfl⟩, ?_⟩
    rw [← t.length, ← len_eq]
    exact kk ρ _ H (.refl S) S (.int _)
  | @cl ys p vs hp t =>
    cases e
    refine call_len pins s σ H _ us Q I rv ⟨_, vs.length, rfl, .inl ⟨vs, hp.sq, rfl⟩, ?_⟩
    rw [← t.length, ← len_eq]
    exact kk ρ _ H (.refl S) S (.int _)
  | str x =>
    have e : (if Nat.ble x.cps.size lim = true then Y.R.ok (PV.int x.cps.size) st else .stuck 80) = .ok v st' := e
    by_cases hz : Nat.ble x.cps.size lim = true
    · rw [if_pos hz] at e
      cases e
      exact call_len pins s σ H _ us Q I rv ⟨_, x.length, rfl, ⟨Nat.ble_eq ▸ hz, rfl⟩, kk ρ _ H (.refl S) S (.int _)⟩
    · rw [if_neg hz] at e; cases e
  | @ref x hx =>
    have e : lenC LL r (.ref x) st (st.get x) = .ok v st' := e
    cases g : st.get x with
    | none => rw [g] at e; cases e
    | some cl =>
      rw [g] at e
      cases cl with
      | lst w ys =>
        cases e
        obtain ⟨_, vs, hp, t⟩ := lst_at S g
        refine call_len pins s σ H _ us Q I rv ⟨_, vs.length, rfl, .inl ⟨vs, .of hp, rfl⟩, ?_⟩
        rw [← t.length, ← len_eq]
        exact kk ρ _ H (.refl S) S (.int _)
      | dct _ _ => cases e
      | ins c fs =>
        have e : lenI LL r (.ref x) c st = .ok v st' := e
        unfold lenI at e
        cases g1 : look LL c with
        | none => rw [g1] at e; cases e
        | some i =>
          rw [g1] at e
          obtain ⟨v1, s1, e1, e2⟩ := bind_ok e
          cases v1 with
          | int n =>
            have e2 : (if (Nat.ble n.toNat lim && intLt (-1) n) = true then Y.R.ok (PV.int n) s1 else .stuck 80) = .ok v st' := e2
            by_cases hb : (Nat.ble n.toNat lim && intLt (-1) n) = true
            · rw [if_pos hb] at e2
              cases e2
              rw [Bool.and_eq_true, Nat.ble_eq, intLt_iff] at hb
              have hb1 := hb.1
              unfold lim at hb1
              obtain ⟨_, dx, gs, hp, _⟩ := S.cell x _ g
              obtain ⟨u, rfl, ru⟩ := vals1 rv
              cases ru
              obtain ⟨mA, J, _⟩ := ins_get I.hok hp
              obtain ⟨od, J, _⟩ := J.look
              obtain ⟨m, hF⟩ := I.fr
              obtain ⟨f1, ev⟩ := C.at_ c i g1
              refine PySem.W.len_K hF I.ok.mod.kin J f1 ev.isf ?_
              refine wpAny_mono (ev.runA hr.in1 rfl I (vs := [.ref (ρ x)]) (.cons rfl .nil) ?_ (Q := fun z H1 => z = L2.V.int n ∧ Q (.int n) H1)) (fun z s1 hz => ?_) fun _ _ e => e
              · exact ⟨ρ, st, [.ref x], S, .cons (.ref hx) .nil, .int n, st', e1, fun ρ' V H' N S' R' => by
                  cases R'
                  exact ⟨rfl, kk ρ' _ H' N S' (.int n)⟩⟩
              · obtain ⟨z', H', I', rz, rfl, q1⟩ := hz
                obtain ⟨t, rfl⟩ := rz
                refine ⟨⟨by omega, by omega⟩, ?_⟩
                exact ⟨.int n, H', I'.tok _, ⟨_, rfl⟩, q1⟩
            · rw [if_neg hb] at e2; cases e2
          | _ => cases e2
  | _ => cases e
end
/-! ### conversions -/
def tup1 (a : PV) (st : St) : R PV := match seqV st a with
  | some xs => .ok (.tup xs) st
  | none => .stuck 82
def lst1 (a : PV) (st : St) : R PV := match seqV st a with
  | some xs => newC (.lst 0 xs) st
  | none => .stuck 83
def int1 (a : PV) (st : St) : R PV := match a with
  | .int i => .ok (.int i) st
  | .bl b => .ok (.int (b2i b)) st
  | _ => .stuck 84
def bool1 (a : PV) (st : St) : R PV := match a with
  | .int i => .ok (.bl (!intEq i 0)) st
  | .bl b => .ok (.bl b) st
  | _ => .stuck 85
def abs1 (a : PV) (st : St) : R PV := match a with
  | .int i => .ok (.int i.natAbs) st
  | _ => .stuck 86
def max2 (a b : PV) (st : St) : R PV := match a with
  | .int i => (match b with | .int j => .ok (.int (if intLt i j then j else i)) st | _ => .stuck 87)
  | _ => .stuck 87
def min2 (a b : PV) (st : St) : R PV := match a with
  | .int i => (match b with | .int j => .ok (.int (if intLt j i then j else i)) st | _ => .stuck 87)
  | _ => .stuck 87
/-- a list's ints -/
def intsV : List PV → Option (List Int)
  | [] => some []
  | .int i :: r => (match intsV r with | some is => some (i :: is) | none => none)
  | _ :: _ => none
def blsV : List PV → Option (List Bool)
  | [] => some []
  | .bl i :: r => (match blsV r with | some is => some (i :: is) | none => none)
  | _ :: _ => none
def sumI : List Int → Int
  | [] => 0
  | i :: r => i + sumI r
def maxI (i : Int) : List Int → Int
  | [] => i
  | j :: r => maxI (if intLt i j then j else i) r
def minI (i : Int) : List Int → Int
  | [] => i
  | j :: r => minI (if intLt j i then j else i) r
def allB : List Bool → Bool
  | [] => true
  | b :: r => if b then allB r else false
def anyB : List Bool → Bool
  | [] => false
  | b :: r => if b then true else anyB r
/-- the items of a list (no tuple) -/
def lstV (st : St) (v : PV) : Option (List PV) := match v with
  | .cl xs => some xs
  | .ref a => (match st.get a with | some (.lst _ xs) => some xs | _ => none)
  | _ => none
def lstInts (st : St) (v : PV) : Option (List Int) := match lstV st v with
  | some xs => intsV xs
  | none => none
def lstBls (st : St) (v : PV) : Option (List Bool) := match lstV st v with
  | some xs => blsV xs
  | none => none
def sum1 (a : PV) (st : St) : R PV := match lstInts st a with
  | some is => .ok (.int (sumI is)) st
  | none => .stuck 88
def max1 (a : PV) (st : St) : R PV := match lstInts st a with
  | some (i :: is) => .ok (.int (maxI i is)) st
  | _ => .stuck 88
def min1 (a : PV) (st : St) : R PV := match lstInts st a with
  | some (i :: is) => .ok (.int (minI i is)) st
  | _ => .stuck 88
def all1 (a : PV) (st : St) : R PV := match lstBls st a with
  | some bs => .ok (.bl (allB bs)) st
  | none => .stuck 89
def any1 (a : PV) (st : St) : R PV := match lstBls st a with
  | some bs => .ok (.bl (anyB bs)) st
  | none => .stuck 89
theorem lstV_ok {T : Tb} {K : PySem.W.Frag} {ρ : Nat → Addr} {st : St} {H : Hp} {v : PV} {V : L2.V} {xs : List PV} (S : StRep T K ρ st H) (R : Rep T K ρ st.n H v V) (h : lstV st v = some xs) : ∃ p vs, V = .ref p ∧ SqL K H p vs ∧ Reps T K ρ st.n H xs vs := by
  cases R with
  | cl hp t => cases h; exact ⟨_, _, rfl, hp.sq, t⟩
  | @ref a ha =>
    cases g : st.get a with
    | none => simp only [lstV, g] at h; cases h
    | some c =>
      cases c with
      | lst w ys =>
        simp only [lstV, g] at h
        cases h
        obtain ⟨_, vs, hp, t⟩ := lst_at S g
        exact ⟨_, _, rfl, .of hp, t⟩
      | _ => simp only [lstV, g] at h; cases h
  | _ => cases h
theorem intsV_ok {T : Tb} {K : PySem.W.Frag} {ρ : Nat → Addr} {n : Nat} {H : Hp} : ∀ {xs : List PV} {vs : List L2.V} {is : List Int}, Reps T K ρ n H xs vs → intsV xs = some is → vs = is.map V.int
  | _, _, _, .nil, h => by cases h; rfl
  | _, _, is, .cons (v := v) (vs := r) ra t, h => by
    cases ra with
    | int i =>
      have h : (match intsV r with | some is => some (i :: is) | none => none) = some is := h
      cases g : intsV r with
      | none => rw [g] at h; cases h
      | some js =>
        rw [g] at h
        cases h
        rw [intsV_ok t g]
        rfl
    | _ => cases h
theorem blsV_ok {T : Tb} {K : PySem.W.Frag} {ρ : Nat → Addr} {n : Nat} {H : Hp} : ∀ {xs : List PV} {vs : List L2.V} {is : List Bool}, Reps T K ρ n H xs vs → blsV xs = some is → vs = is.map V.bl
  | _, _, _, .nil, h => by cases h; rfl
  | _, _, is, .cons (v := v) (vs := r) ra t, h => by
    cases ra with
    | bl i =>
      have h : (match blsV r with | some is => some (i :: is) | none => none) = some is := h
      cases g : blsV r with
      | none => rw [g] at h; cases h
      | some js =>
        rw [g] at h
        cases h
        rw [blsV_ok t g]
        rfl
    | _ => cases h
theorem lstInts_ok {T : Tb} {K : PySem.W.Frag} {ρ : Nat → Addr} {st : St} {H : Hp} {v : PV} {V : L2.V} {is : List Int} (S : StRep T K ρ st H) (R : Rep T K ρ st.n H v V) (h : lstInts st v = some is) : ∃ p, V = .ref p ∧ SqL K H p (is.map L2.V.int) := by
  unfold lstInts at h
  cases g : lstV st v with
  | none => rw [g] at h; cases h
  | some xs =>
    rw [g] at h
    obtain ⟨p, vs, e, hp, t⟩ := lstV_ok S R g
    have := intsV_ok t h
    subst this
    exact ⟨p, e, hp⟩
theorem lstBls_ok {T : Tb} {K : PySem.W.Frag} {ρ : Nat → Addr} {st : St} {H : Hp} {v : PV} {V : L2.V} {is : List Bool} (S : StRep T K ρ st H) (R : Rep T K ρ st.n H v V) (h : lstBls st v = some is) : ∃ p, V = .ref p ∧ SqL K H p (is.map L2.V.bl) := by
  unfold lstBls at h
  cases g : lstV st v with
  | none => rw [g] at h; cases h
  | some xs =>
    rw [g] at h
    obtain ⟨p, vs, e, hp, t⟩ := lstV_ok S R g
    have := blsV_ok t h
    subst this
    exact ⟨p, e, hp⟩
theorem sumI_eq : ∀ is : List Int, sumI is = is.sum
  | [] => rfl
  | i :: r => by rw [sumI, sumI_eq r, List.sum_cons]
theorem allB_eq : ∀ is : List Bool, allB is = is.all id
  | [] => rfl
  | i :: r => by rw [allB, allB_eq r, List.all_cons]; cases i <;> rfl
theorem anyB_eq : ∀ is : List Bool, anyB is = is.any id
  | [] => rfl
  | i :: r => by rw [anyB, anyB_eq r, List.any_cons]; cases i <;> rfl
theorem maxI_is : ∀ (is : List Int) (i m : Int), m ∈ i :: is → (∀ y ∈ i :: is, y ≤ m) → maxI i is = m
  | [], i, m, h, _ => by rw [List.mem_singleton] at h; exact h.symm
  | j :: r, i, m, h, k => by
    rw [maxI]
    by_cases e : intLt i j = true
    · rw [if_pos e]
      rw [intLt_iff] at e
      refine maxI_is r j m ?_ fun y hy => k y (List.mem_cons_of_mem _ hy)
      rcases List.mem_cons.mp h with z | z
      · have := k j (by simp); omega
      · exact z
    · rw [if_neg e]
      rw [intLt_iff] at e
      refine maxI_is r i m ?_ fun y hy => k y (by rcases List.mem_cons.mp hy with z | z; simp [z]; simp [z])
      rcases List.mem_cons.mp h with z | z
      · simp [z]
      · rcases List.mem_cons.mp z with z | z
        · have := k i (by simp); have : i = m := by omega
          simp [this]
        · simp [z]
theorem minI_is : ∀ (is : List Int) (i m : Int), m ∈ i :: is → (∀ y ∈ i :: is, m ≤ y) → minI i is = m
  | [], i, m, h, _ => by rw [List.mem_singleton] at h; exact h.symm
  | j :: r, i, m, h, k => by
    rw [minI]
    by_cases e : intLt j i = true
    · rw [if_pos e]
      rw [intLt_iff] at e
      refine minI_is r j m ?_ fun y hy => k y (List.mem_cons_of_mem _ hy)
      rcases List.mem_cons.mp h with z | z
      · have := k j (by simp); omega
      · exact z
    · rw [if_neg e]
      rw [intLt_iff] at e
      refine minI_is r i m ?_ fun y hy => k y (by rcases List.mem_cons.mp hy with z | z; simp [z]; simp [z])
      rcases List.mem_cons.mp h with z | z
      · simp [z]
      · rcases List.mem_cons.mp z with z | z
        · have := k i (by simp); have : i = m := by omega
          simp [this]
        · simp [z]
section
variable {X : Cx} {T : Tb}
/-- a built-in of one argument -/
theorem cr_one {f : Value} {g : PV → St → R PV} (h : ∀ (pins : List (Addr × Obj)) (s : Shared) (σ : L2.St) (H : Hp) (us : List Value) (Q : VK) (ρ : Nat → Addr) (st : St) (a : PV) (V : L2.V) (v : PV) (st' : St), L2.Inv X pins σ H s → Vals [V] us → StRep T X.K ρ st H → Rep T X.K ρ st.n H a V → g a st = .ok v st' →
    (∀ ρ' V H', Nxt ρ st H ρ' st' H' → StRep T X.K ρ' st' H' → Rep T X.K ρ' st'.n H' v V → Q V H') → wpAny (model X.prog X.w) X.A (call f us) (EP X pins σ Q) X.xe s) : CallR X f (rA T X.K (on1 g)) := by
  intro pins s σ H xs us Q I rv ⟨ρ, st, as, S, R, v, st', e, kk⟩
  obtain ⟨a, rfl, e⟩ := on1_ok e
  obtain ⟨V, rfl, ra⟩ := R.one
  exact h pins s σ H us Q ρ st a V v st' I rv S ra e kk
theorem cr_tuple : CallR X (.type "tuple") (rA T X.K (on1 tup1)) := cr_one fun pins s σ H us Q ρ st a V v st' I rv S R e kk => by
  unfold tup1 at e
  cases g : seqV st a with
  | none => rw [g] at e; cases e
  | some xs =>
    rw [g] at e
    cases e
    obtain ⟨p, vs, rfl, hp, t⟩ := seqV_ok S R g
    refine call_tuple_of pins s σ H _ us Q I rv ⟨p, vs, rfl, ?_⟩
    rcases hp with hp | hp
    · exact .inl ⟨hp, fun l hl => kk ρ _ _ (.laid S hl) (S.laid hl) (.tup (.inl (.inl upd_same)) (t.stay (.new hl)))⟩
    · exact .inr ⟨hp, kk ρ _ H (.refl S) S (.tup hp t)⟩
theorem cr_list : CallR X (.type "list") (rA T X.K (on1 lst1)) := cr_one fun pins s σ H us Q ρ st a V v st' I rv S R e kk => by
  unfold lst1 at e
  cases g : seqV st a with
  | none => rw [g] at e; cases e
  | some xs =>
    rw [g] at e
    cases e
    obtain ⟨p, vs, rfl, hp, t⟩ := seqV_ok S R g
    refine call_list_of pins s σ H _ us Q I rv ⟨p, vs, rfl, hp, fun l hl => ?_⟩
    obtain ⟨S2, N2, R2⟩ := new_lst S t hl
    exact kk _ _ _ N2 S2 R2
theorem cr_int : CallR X (.type "int") (rA T X.K (on1 int1)) := cr_one fun pins s σ H us Q ρ st a V v st' I rv S R e kk => by
  cases R with
  | int i => cases e; exact call_int1 pins s σ H _ us Q I rv (.inl ⟨i, rfl, kk ρ _ H (.refl S) S (.int _)⟩)
  | bl b =>
    cases e
    refine call_int1 pins s σ H _ us Q I rv (.inr ⟨b, rfl, ?_⟩)
    exact kk ρ _ H (.refl S) S (.int _)
  | _ => cases e
theorem intNe0 (i : Int) : (!intEq i 0) = (i != 0) := by
  cases h : intEq i 0 with
  | true => have := intEq_iff.mp h; subst this; rfl
  | false =>
    have : i ≠ 0 := fun z => by rw [intEq_iff.mpr z] at h; cases h
    simp [this]
theorem cr_bool : CallR X (.type "bool") (rA T X.K (on1 bool1)) := cr_one fun pins s σ H us Q ρ st a V v st' I rv S R e kk => by
  cases R with
  | int i =>
    cases e
    rw [intNe0] at kk
    exact call_bool1 pins s σ H _ us Q I rv (.inl ⟨i, rfl, kk ρ _ H (.refl S) S (.bl _)⟩)
  | bl b => cases e; exact call_bool1 pins s σ H _ us Q I rv (.inr ⟨b, rfl, kk ρ _ H (.refl S) S (.bl _)⟩)
  | _ => cases e
theorem cr_abs : CallR X (.builtin "abs") (rA T X.K (on1 abs1)) := cr_one fun pins s σ H us Q ρ st a V v st' I rv S R e kk => by
  cases R with
  | int i =>
    cases e
    refine call_abs pins s σ H _ us Q I rv ⟨i, rfl, ?_⟩
    have e : (if i < 0 then -i else i) = ((i.natAbs : Nat) : Int) := by split <;> omega
    rw [e]
    exact kk ρ _ H (.refl S) S (.int _)
  | _ => cases e
theorem cr_sum1 (hc : X.calm = true) : CallR X (.builtin "sum") (rA T X.K (on1 sum1)) := cr_one fun pins s σ H us Q ρ st a V v st' I rv S R e kk => by
  unfold sum1 at e
  cases g : lstInts st a with
  | none => rw [g] at e; cases e
  | some is =>
    rw [g] at e
    cases e
    obtain ⟨p, rfl, hp⟩ := lstInts_ok S R g
    rw [sumI_eq] at kk
    exact cr_sum hc pins s σ H _ us Q I rv ⟨p, is, rfl, hp, kk ρ _ H (.refl S) S (.int _)⟩
theorem cr_max1 (hc : X.calm = true) : CallR X (.builtin "max") (rA T X.K (on1 max1)) := cr_one fun pins s σ H us Q ρ st a V v st' I rv S R e kk => by
  unfold max1 at e
  cases g : lstInts st a with
  | none => rw [g] at e; cases e
  | some is =>
    rw [g] at e
    cases is with
    | nil => cases e
    | cons i is =>
      cases e
      obtain ⟨p, rfl, hp⟩ := lstInts_ok S R g
      refine cr_max hc pins s σ H _ us Q I rv ⟨p, i :: is, rfl, hp, Nat.succ_pos _, fun m h1 h2 => ?_⟩
      rw [← maxI_is is i m h1 h2]
      exact kk ρ _ H (.refl S) S (.int _)
theorem cr_min1 (hc : X.calm = true) : CallR X (.builtin "min") (rA T X.K (on1 min1)) := cr_one fun pins s σ H us Q ρ st a V v st' I rv S R e kk => by
  unfold min1 at e
  cases g : lstInts st a with
  | none => rw [g] at e; cases e
  | some is =>
    rw [g] at e
    cases is with
    | nil => cases e
    | cons i is =>
      cases e
      obtain ⟨p, rfl, hp⟩ := lstInts_ok S R g
      refine cr_min hc pins s σ H _ us Q I rv ⟨p, i :: is, rfl, hp, Nat.succ_pos _, fun m h1 h2 => ?_⟩
      rw [← minI_is is i m h1 h2]
      exact kk ρ _ H (.refl S) S (.int _)
theorem cr_all1 (hc : X.calm = true) : CallR X (.builtin "all") (rA T X.K (on1 all1)) := cr_one fun pins s σ H us Q ρ st a V v st' I rv S R e kk => by
  unfold all1 at e
  cases g : lstBls st a with
  | none => rw [g] at e; cases e
  | some is =>
    rw [g] at e
    cases e
    obtain ⟨p, rfl, hp⟩ := lstBls_ok S R g
    rw [allB_eq] at kk
    exact cr_all hc pins s σ H _ us Q I rv ⟨p, is, rfl, hp, kk ρ _ H (.refl S) S (.bl _)⟩
theorem cr_any1 (hc : X.calm = true) : CallR X (.builtin "any") (rA T X.K (on1 any1)) := cr_one fun pins s σ H us Q ρ st a V v st' I rv S R e kk => by
  unfold any1 at e
  cases g : lstBls st a with
  | none => rw [g] at e; cases e
  | some is =>
    rw [g] at e
    cases e
    obtain ⟨p, rfl, hp⟩ := lstBls_ok S R g
    rw [anyB_eq] at kk
    exact cr_any hc pins s σ H _ us Q I rv ⟨p, is, rfl, hp, kk ρ _ H (.refl S) S (.bl _)⟩
theorem cr_max2 (hc : X.calm = true) : CallR X (.builtin "max") (rA T X.K (on2 max2)) := by
  intro pins s σ H xs us Q I rv ⟨ρ, st, as, S, R, v, st', e, kk⟩
  obtain ⟨a, b, rfl, e⟩ := on2_ok e
  obtain ⟨V, W, rfl, ra, rb⟩ := R.two
  cases ra with
  | int i =>
    cases rb with
    | int j =>
      cases e
      refine call_max2 hc pins s σ H _ us Q I rv ⟨i, j, rfl, ?_⟩
      rw [intLt_dec] at kk
      have q := kk ρ _ H (.refl S) S (.int _)
      by_cases h : i < j
      · rw [decide_eq_true h, if_pos rfl] at q; rw [if_pos h]; exact q
      · rw [decide_eq_false h, if_neg (by decide)] at q; rw [if_neg h]; exact q
    | _ => cases e
  | _ => cases e
theorem cr_min2 (hc : X.calm = true) : CallR X (.builtin "min") (rA T X.K (on2 min2)) := by
  intro pins s σ H xs us Q I rv ⟨ρ, st, as, S, R, v, st', e, kk⟩
  obtain ⟨a, b, rfl, e⟩ := on2_ok e
  obtain ⟨V, W, rfl, ra, rb⟩ := R.two
  cases ra with
  | int i =>
    cases rb with
    | int j =>
      cases e
      refine call_min2 hc pins s σ H _ us Q I rv ⟨i, j, rfl, ?_⟩
      rw [intLt_dec] at kk
      have q := kk ρ _ H (.refl S) S (.int _)
      by_cases h : j < i
      · rw [decide_eq_true h, if_pos rfl] at q; rw [if_pos h]; exact q
      · rw [decide_eq_false h, if_neg (by decide)] at q; rw [if_neg h]; exact q
    | _ => cases e
  | _ => cases e
end
end Y
end
section
set_option linter.all false
set_option maxRecDepth 100000
set_option maxHeartbeats 4000000
/-! Y17: list methods, stores into lists, op=, isinstance. -/
namespace Y
open PySem PySem.Spec L2 PyProof.Rows
def isLst (v : PV) (st : St) : Bool := match v with
  | .cl _ => true
  | .ref a => (match st.get a with | some (.lst _ _) => true | _ => false)
  | _ => false
/-- v.m(..), v a list -/
def e_lm (g : PV → List PV → St → R PV) (x : Y.X) (a : XA) : Y.X := fun r fr st => (x r fr st).bind fun v st => if isLst v st then (a r fr st).bind fun vs st => g v vs st else .stuck 100
def rM (T : Tb) (K : PySem.W.Frag) (g : PV → List PV → St → R PV) : V → List V → Hp → VK → Prop := fun x xs H Q => ∃ ρ st a as, StRep T K ρ st H ∧ Rep T K ρ st.n H a x ∧ Reps T K ρ st.n H as xs ∧ Out T K ρ st H (g a as st) Q
def lastV : List PV → Option PV
  | [] => none
  | [x] => some x
  | _ :: r => lastV r
def butLast : List PV → List PV
  | [] => []
  | [_] => []
  | x :: r => x :: butLast r
def appO (a : Nat) (v : PV) (st : St) (o : Option Cell) : R PV := match o with
  | some (.lst w xs) => if Nat.ble (len xs + 1) lim then .ok .non (st.set a (.lst (w + 1) (xs ++ [v]))) else .stuck 101
  | _ => .stuck 101
def m_append (a : PV) (vs : List PV) (st : St) : R PV := match a with
  | .ref x => (match vs with | [v] => appO x v st (st.get x) | _ => .stuck 101)
  | _ => .stuck 101
def popO (a : Nat) (st : St) (o : Option Cell) : R PV := match o with
  | some (.lst w xs) => (match lastV xs with | some v => .ok v (st.set a (.lst (w + 1) (butLast xs))) | none => .stuck 102)
  | _ => .stuck 102
def m_pop (a : PV) (vs : List PV) (st : St) : R PV := match a with
  | .ref x => (match vs with | [] => popO x st (st.get x) | _ => .stuck 102)
  | _ => .stuck 102
theorem lastV_eq : ∀ xs : List PV, lastV xs = xs[xs.length - 1]?
  | [] => rfl
  | [x] => rfl
  | x :: y :: r => by
    rw [lastV, lastV_eq (y :: r)]
    simp
    intro h; exact absurd h (by simp)
theorem butLast_eq : ∀ xs : List PV, butLast xs = xs.dropLast
  | [] => rfl
  | [x] => rfl
  | x :: y :: r => by
    show x :: butLast (y :: r) = x :: (y :: r).dropLast
    rw [butLast_eq (y :: r)]
section
variable {T : Tb} {K : PySem.W.Frag} {ρ : Nat → Addr} {st : St} {H : Hp}
theorem lst_write {a w : Nat} {xs ys : List PV} {vs ws : List L2.V} (S : StRep T K ρ st H) (g : st.get a = some (.lst w xs)) (h : H (ρ a) = some (.lst vs)) (r : Reps T K ρ st.n H ys ws) :
    StRep T K ρ (st.set a (.lst (w + 1) ys)) (upd H (ρ a) (.lst ws)) ∧ Nxt ρ st H ρ (st.set a (.lst (w + 1) ys)) (upd H (ρ a) (.lst ws)) :=
  ⟨S.write g h rfl ⟨ws, upd_same, r.stay (.write h rfl)⟩, Nxt.write S g h rfl (Nat.le_succ w) fun z => Nat.succ_ne_self w z.symm⟩
theorem Reps.dropLast {xs : List PV} {Vs : List L2.V} (h : Reps T K ρ st.n H xs Vs) : Reps T K ρ st.n H xs.dropLast Vs.dropLast := by
  rw [List.dropLast_eq_take, List.dropLast_eq_take, h.length]
  exact h.take _
theorem Reps.set {xs : List PV} {Vs : List L2.V} {v : PV} {V : L2.V} (rv : Rep T K ρ st.n H v V) (h : Reps T K ρ st.n H xs Vs) : ∀ j, Reps T K ρ st.n H (xs.set j v) (Vs.set j V) := by
  intro j
  induction j generalizing xs Vs with
  | zero =>
    cases h with
    | nil => exact .nil
    | cons a b => exact .cons rv b
  | succ j ih =>
    cases h with
    | nil => exact .nil
    | cons a b => exact .cons a (ih b)
theorem isLst_ok {v : PV} {V : L2.V} (S : StRep T K ρ st H) (R : Rep T K ρ st.n H v V) (h : isLst v st = true) : tyV K "list" V H := by
  cases R with
  | cl hp t => exact .inl ⟨rfl, _, hp.sq⟩
  | @ref a ha =>
    cases g : st.get a with
    | none => simp only [isLst, g] at h; cases h
    | some c =>
      cases c with
      | lst w ys =>
        obtain ⟨_, vs, hp, t⟩ := lst_at S g
        exact .inl ⟨rfl, vs, .of hp⟩
      | _ => simp only [isLst, g] at h; cases h
  | _ => cases h
end
section
variable {X : Cx} {T : Tb} {r : Ev} {o e : Expr} {es : List Expr} {name : Str} {apos cpos : Pos} {id : String} {g : PV → List PV → St → R PV} {x : Y.X} {a : XA}
theorem mt_appendP : MtR X "list.append" (rM T X.K m_append) := by
  intro pins s σ H x xs v us Q I rx rv ⟨ρ, st, a, as, S, ra, rs, w, st', e, kk⟩
  cases ra with
  | @ref c hc =>
    cases rs with
    | nil => cases e
    | cons h t =>
      cases t with
      | cons _ _ => cases e
      | nil =>
        rename_i y Y
        have e : appO c y st (st.get c) = .ok w st' := e
        cases g : st.get c with
        | none => rw [g] at e; cases e
        | some cl =>
          rw [g] at e
          cases cl with
          | lst ver ys =>
            have e : (if Nat.ble (len ys + 1) lim = true then R.ok PV.non (st.set c (.lst (ver + 1) (ys ++ [y]))) else .stuck 101) = .ok w st' := e
            by_cases hb : Nat.ble (len ys + 1) lim = true
            · rw [if_pos hb] at e
              cases e
              obtain ⟨_, vs, hp, t⟩ := lst_at S g
              rw [Nat.ble_eq, len_eq, t.length] at hb
              obtain ⟨S2, N2⟩ := lst_write S g hp (t.append (.cons h .nil))
              exact mt_append pins s σ H _ _ v us Q I rx rv ⟨_, vs, _, rfl, rfl, hp, hb, kk ρ _ _ N2 S2 .non⟩
            · rw [if_neg hb] at e; cases e
          | _ => cases e
  | _ => cases e
theorem mt_popP : MtR X "list.pop" (rM T X.K m_pop) := by
  intro pins s σ H x xs v us Q I rx rv ⟨ρ, st, a, as, S, ra, rs, w, st', e, kk⟩
  cases ra with
  | @ref c hc =>
    cases rs with
    | cons _ _ => cases e
    | nil =>
      have e : popO c st (st.get c) = .ok w st' := e
      cases g : st.get c with
      | none => rw [g] at e; cases e
      | some cl =>
        rw [g] at e
        cases cl with
        | lst ver ys =>
          have e : (match lastV ys with | some v => R.ok v (st.set c (.lst (ver + 1) (butLast ys))) | none => .stuck 102) = .ok w st' := e
          cases g2 : lastV ys with
          | none => rw [g2] at e; cases e
          | some y =>
            rw [g2] at e
            cases e
            obtain ⟨_, vs, hp, t⟩ := lst_at S g
            rw [lastV_eq] at g2
            obtain ⟨V, h1, h2⟩ := t.get g2
            rw [t.length] at h1
            rw [butLast_eq] at kk
            obtain ⟨S2, N2⟩ := lst_write S g hp t.dropLast
            exact mt_pop pins s σ H _ _ v us Q I rx rv ⟨_, vs, V, rfl, rfl, hp, h1, kk ρ V _ N2 S2 (h2.stay N2.stay)⟩
        | _ => cases e
  | _ => cases e
theorem sE_lm (slot : Slot "list" name id) (hty : typeOf (.builtin id) = pure (.type "method_descriptor")) (hm : MtR X id (rM T X.K g)) (ho : PE X o (tE T X.K r x)) (ha : PA X (e :: es) (tA T X.K r a))
    (hbase : attributeBase o name X.env (eval o X.env) = eval o X.env := by rfl)
    (hfew : ((backTo cpos (starEach (e :: es) X.env)).all (fun x => !x.1) && (backToKw cpos (keywordEach [] X.env)).all (fun x => x.1.isSome)
      && decide ((e :: es).length + ([] : List Keyword).length + (if ([] : List Keyword).isEmpty then 0 else 1) < 30)) = true := by rfl)
    (hline : (apos.endLine == cpos.line) = true := by rfl) (hs : starEach (e :: es) X.env = (false, eval e X.env) :: starEach es X.env := by rfl) (hplain : (backTo cpos (starEach es X.env)).any (·.1) = false := by rfl) :
    PE X (.Call (.Attribute o name apos) (e :: es) [] cpos) (tE T X.K r (e_lm g x a)) :=
  PE.imp (pe_bm F.plainAttrs_list slot hty hm ho ha hbase hfew hline hs hplain) fun σ H Q ⟨ρ, fr, st, F, S, v, st', e0, kk⟩ => by
    obtain ⟨v1, s1, e1, e2⟩ := bind_ok e0
    cases hl : isLst v1 s1 with
    | false => rw [hl] at e2; cases e2
    | true =>
      rw [hl] at e2
      obtain ⟨vs, s2, e2, e3⟩ := bind_ok e2
      refine ⟨ρ, fr, st, F, S, v1, s1, e1, fun ρ1 V1 H1 N1 S1 R1 => ⟨isLst_ok S1 R1 hl, ρ1, fr, s1, F.stay N1.stay, S1, vs, s2, e2, fun ρ2 V2 H2 N2 S2 R2 => ?_⟩⟩
      exact ⟨ρ2, s2, v1, vs, S2, R1.stay N2.stay, R2, v, st', e3, fun ρ3 V3 H3 N3 S3 R3 => kk ρ3 V3 H3 ((N1.trans N2).trans N3) S3 R3⟩
theorem sE_lm0 (slot : Slot "list" name id) (hty : typeOf (.builtin id) = pure (.type "method_descriptor")) (hm : MtR X id (rM T X.K g)) (ho : PE X o (tE T X.K r x))
    (hbase : attributeBase o name X.env (eval o X.env) = eval o X.env := by rfl) (hline : (apos.endLine == cpos.line) = true := by rfl) : PE X (.Call (.Attribute o name apos) [] [] cpos) (tE T X.K r (e_lm g x aNil)) :=
  PE.imp (pe_bm0 F.plainAttrs_list slot hty hm ho hbase hline) fun σ H Q ⟨ρ, fr, st, F, S, v, st', e0, kk⟩ => by
    obtain ⟨v1, s1, e1, e2⟩ := bind_ok e0
    cases hl : isLst v1 s1 with
    | false => rw [hl] at e2; cases e2
    | true =>
      rw [hl] at e2
      have e3 : g v1 [] s1 = .ok v st' := e2
      exact ⟨ρ, fr, st, F, S, v1, s1, e1, fun ρ1 V1 H1 N1 S1 R1 => ⟨isLst_ok S1 R1 hl, ρ1, s1, v1, [], S1, R1, .nil, v, st', e3, fun ρ3 V3 H3 N3 S3 R3 => kk ρ3 V3 H3 (N1.trans N3) S3 R3⟩⟩
end
/-! ### stores into lists -/
def setLO (b v : PV) (a : Nat) (st : St) (o : Option Cell) : R PV := match o with
  | some (.lst w xs) => (match b with
    | .int i => (match atN (len xs) i with | some j => .ok .non (st.set a (.lst (w + 1) (setNth xs j v))) | none => .stuck 103)
    | _ => .stuck 103)
  | _ => .stuck 103
def setLV (a b v : PV) (st : St) : R PV := match a with
  | .ref x => setLO b v x st (st.get x)
  | _ => .stuck 103
def rSet (T : Tb) (K : PySem.W.Frag) (f : PV → PV → PV → St → R PV) : TSet := fun o i v H Q => ∃ ρ st a b c, StRep T K ρ st H ∧ Rep T K ρ st.n H a o ∧ Rep T K ρ st.n H b i ∧ Rep T K ρ st.n H c v ∧ ∃ z st', f a b c st = .ok z st' ∧ ∀ ρ' H', Nxt ρ st H ρ' st' H' → StRep T K ρ' st' H' → Q H'
section
variable {X : Cx} {T : Tb}
theorem PSet.imp {t t' : TSet} (h : PSet X t) (i : ∀ o x v H Q, t' o x v H Q → t o x v H Q) : PSet X t' := fun pins s σ H o x v ov iv u Q I ro ri rv z => h pins s σ H o x v ov iv u Q I ro ri rv (i o x v H Q z)
theorem set_lst : PSet X (rSet T X.K setLV) := PSet.imp set_list fun o x v H Q ⟨ρ, st, a, b, c, S, ra, rb, rc, z, st', e, kk⟩ => by
  cases ra with
  | @ref y hy =>
    have e : setLO b c y st (st.get y) = .ok z st' := e
    cases g : st.get y with
    | none => rw [g] at e; cases e
    | some cl =>
      rw [g] at e
      cases cl with
      | lst w xs =>
        cases b with
        | int i =>
          have e : (match atN (len xs) i with | some j => R.ok PV.non (st.set y (.lst (w + 1) (setNth xs j c))) | none => .stuck 103) = .ok z st' := e
          cases g2 : atN (len xs) i with
          | none => rw [g2] at e; cases e
          | some j =>
            rw [g2] at e
            cases e
            cases rb
            obtain ⟨_, vs, hp, t⟩ := lst_at S g
            rw [len_eq, t.length] at g2
            rw [setNth_eq] at kk
            obtain ⟨S2, N2⟩ := lst_write S g hp (t.set rc j)
            exact ⟨_, vs, i, j, rfl, rfl, hp, atN_ix g2, kk ρ _ N2 S2⟩
        | _ => cases e
      | _ => cases e
  | _ => cases e
end
def t_sub (f : PV → PV → PV → St → R PV) (x y : Y.X) : XT := fun v r fr st => (x r fr st).bind fun a st => (y r fr st).bind fun b st => (f a b v st).bind fun _ st => .ok fr st
section
variable {X : Cx} {T : Tb} {r : Ev} {pos tpos : Pos} {o i e : Expr} {x y z : Y.X} {f : PV → PV → PV → St → R PV}
theorem sG_sub (hs : PSet X (rSet T X.K f)) (ho : PE X o (tE T X.K r x)) (hi : PE X i (tE T X.K r y))
    (ha : ∀ v, assign (.Subscript o i pos) X.env v = (do
      let ov ← holding [v] (eval o X.env)
      let iv ← holding [v, ov] (eval i X.env)
      standAt pos
      holding [v, ov, iv] (setItem ov iv v)
      release [v, ov, iv] []) := by intro _; rfl) : PG X (.Subscript o i pos) (tG T X.K r (t_sub f x y)) :=
  PG.imp (pg_sub ho hi hs ha) fun V σ H Q ⟨ρ, fr, st, v, F, S, R, fr2, st2, e0, kk⟩ => by
    obtain ⟨a, s1, e1, g1⟩ := bind_ok e0
    obtain ⟨b, s2, e2, g2⟩ := bind_ok g1
    obtain ⟨c, s3, e3, g3⟩ := bind_ok g2
    cases g3
    refine ⟨ρ, fr, st, F, S, a, s1, e1, fun ρ1 V1 H1 N1 S1 R1 => ⟨ρ1, fr, s1, F.stay N1.stay, S1, b, s2, e2, fun ρ2 V2 H2 N2 S2 R2 => ?_⟩⟩
    exact ⟨ρ2, s2, a, b, v, S2, R1.stay N2.stay, R2, R.stay (N1.trans N2).stay, c, _, e3, fun ρ3 H3 N3 S3 => kk ρ3 σ H3 ((N1.trans N2).trans N3) S3 (F.stay ((N1.trans N2).trans N3).stay)⟩
end
/-! ### op= -/
/-- on numbers and texts alone -/
def ipV (o : Bop) (a b : PV) (st : St) : R PV := match a with
  | .int _ => (match o with
    | .add => addV a b st
    | .sub => subV a b st
    | .mul => mulV a b st
    | _ => .stuck 104)
  | .str _ => (match o with | .add => addV a b st | _ => .stuck 104)
  | _ => .stuck 104
section
variable {X : Cx} {T : Tb}
theorem ip_P (o : Bop) : PIp X (bopM o) (r2 T X.K (ipV o)) := by
  intro pins s σ H x y v u Q I rx ry ⟨ρ, st, a, b, S, ra, rb, w, st', e, kk⟩
  cases ra with
  | int i =>
    cases o with
    | add =>
      rcases addV_inv (show addV (.int i) b st = .ok w st' from e) with ⟨i', j, h, rfl, rfl, rfl⟩ | ⟨_, _, h, _⟩ | ⟨_, _, h, _⟩ | ⟨_, _, _, _, _, _, h, _⟩
      · cases h
        cases rb
        exact iop_add pins s σ H _ _ v u Q I rx ry ⟨i, j, rfl, rfl, kk ρ _ H (.refl S) S (.int _)⟩
      · cases h
      · cases h
      · cases h
    | sub =>
      have e : subV (.int i) b st = .ok w st' := e
      cases b with
      | int j =>
        cases e
        cases rb
        exact iop_sub pins s σ H _ _ v u Q I rx ry ⟨i, j, rfl, rfl, kk ρ _ H (.refl S) S (.int _)⟩
      | _ => cases e
    | mul =>
      rcases mulV_inv (show mulV (.int i) b st = .ok w st' from e) with ⟨i', j, h, rfl, hc, rfl, rfl⟩ | ⟨_, h, _⟩ | ⟨_, _, h, _⟩ | ⟨_, _, _, _, h, _⟩
      · cases h
        cases rb
        exact iop_mul pins s σ H _ _ v u Q I rx ry ⟨i, j, rfl, rfl, hc, kk ρ _ H (.refl S) S (.int _)⟩
      · cases h
      · cases h
      · cases h
    | _ => cases e
  | str i =>
    cases o with
    | add =>
      rcases addV_inv (show addV (.str i) b st = .ok w st' from e) with ⟨_, _, h, _⟩ | ⟨i', j, h, rfl, hz, rfl, rfl⟩ | ⟨_, _, h, _⟩ | ⟨_, _, _, _, _, _, h, _⟩
      · cases h
      · cases h
        cases rb
        exact iop_add_str pins s σ H _ _ v u Q I rx ry ⟨i, j, rfl, rfl, hz, kk ρ _ H (.refl S) S (.str _)⟩
      · cases h
      · cases h
    | _ => cases e
  | _ => cases o <;> cases e
end
def s_augV (i : Nat) (o : Bop) (x : Y.X) : XS := fun r fr st => toS fr (match nth fr i with
  | some (some v) => (x r fr st).bind fun w st => (ipV o v w st).bind fun z st => .ok (setNth fr i (some z)) st
  | _ => .stuck 105)
/-- x.f op= e -/
def s_augA (f : Nat) (L : List Nat) (o : Bop) (x y : Y.X) : XS := fun r fr st => toS fr ((x r fr st).bind fun a st => (fldV f L a st).bind fun v st => (y r fr st).bind fun w st => (ipV o v w st).bind fun z st => (setFV f L a z st).bind fun _ st => .ok fr st)
/-- x[i] op= e -/
def s_augS (gt : PV → PV → St → R PV) (sf : PV → PV → PV → St → R PV) (o : Bop) (x y z : Y.X) : XS := fun r fr st => toS fr ((x r fr st).bind fun a st => (y r fr st).bind fun b st => (gt a b st).bind fun v st => (z r fr st).bind fun w st => (ipV o v w st).bind fun q st => (sf a b q st).bind fun _ st => .ok fr st)
section
variable {X : Cx} {T : Tb} {r : Ev} {pos tpos : Pos} {oe ie e : Expr} {x y z : Y.X} {i f : Nat} {nx : Str} {gt : PV → PV → St → R PV} {sf : PV → PV → PV → St → R PV}
theorem sS_augV (o : Bop) (hN : X.N.Nodup) (hi : X.N[i]? = some nx) (hx : Loc X.env.scope nx) (he : PE X e (tE T X.K r x)) (hf : X.fn nx = true ∨ X.env.scope.names.lookup nx = some .local := by first | exact .inl rfl | exact .inr rfl | assumption) :
    PS X (.AugAssign (.Name nx tpos) (bopM o) e pos) (tS T X.K r (s_augV i o x)) := PS.imp (ps_aug hN hi hx he (ip_P o) hf) fun D σ H ⟨ρ, fr, st, F, S, o'⟩ => by
  obtain ⟨fr2, st2, e2, kk⟩ := toS_ok o'
  cases g : nth fr i with
  | none => simp only [g] at e2; cases e2
  | some q =>
    cases q with
    | none => simp only [g] at e2; cases e2
    | some v =>
      simp only [g] at e2
      obtain ⟨w, s1, e1, e3⟩ := bind_ok e2
      obtain ⟨z, s2, e3, e4⟩ := bind_ok e3
      cases e4
      rw [nth_eq] at g
      obtain ⟨V, h1, h2⟩ := F.2 i v g
      refine ⟨V, h1, ρ, fr, st, F, S, w, s1, e1, fun ρ1 V1 H1 N1 S1 R1 => ?_⟩
      exact ⟨ρ1, s1, v, w, S1, h2.stay N1.stay, R1, z, _, e3, fun ρ2 V2 H2 N2 S2 R2 => kk ρ2 _ H2 (N1.trans N2) S2 ((F.stay (N1.trans N2).stay).set R2 i)⟩
theorem sS_augS (o : Bop) (hg : PGet X (r2 T X.K gt)) (hs : PSet X (rSet T X.K sf)) (ho : PE X oe (tE T X.K r x)) (hi : PE X ie (tE T X.K r y)) (he : PE X e (tE T X.K r z))
    (ha : ∀ ov iv new, augStore ie ov iv new = (do holding [new, ov, iv] (setItem ov iv new); release [new, ov, iv] []; pure .next) := by intros; rfl) :
    PS X (.AugAssign (.Subscript oe ie tpos) (bopM o) e pos) (tS T X.K r (s_augS gt sf o x y z)) := PS.imp (ps_augS ho hi hg he (ip_P o) hs ha) fun D σ H ⟨ρ, fr, st, F, S, o'⟩ => by
  obtain ⟨fr2, st2, e0, kk⟩ := toS_ok o'
  obtain ⟨a, s1, e1, g1⟩ := bind_ok e0
  obtain ⟨b, s2, e2, g2⟩ := bind_ok g1
  obtain ⟨v, s3, e3, g3⟩ := bind_ok g2
  obtain ⟨w, s4, e4, g4⟩ := bind_ok g3
  obtain ⟨q, s5, e5, g5⟩ := bind_ok g4
  obtain ⟨c, s6, e6, g6⟩ := bind_ok g5
  cases g6
  refine ⟨ρ, fr, st, F, S, a, s1, e1, fun ρ1 V1 H1 N1 S1 R1 => ⟨ρ1, fr, s1, F.stay N1.stay, S1, b, s2, e2, fun ρ2 V2 H2 N2 S2 R2 => ?_⟩⟩
  have Ra2 := R1.stay N2.stay
  refine ⟨ρ2, s2, a, b, S2, Ra2, R2, v, s3, e3, fun ρ3 V3 H3 N3 S3 R3 => ?_⟩
  have N13 := (N1.trans N2).trans N3
  refine ⟨ρ3, fr, s3, F.stay N13.stay, S3, w, s4, e4, fun ρ4 V4 H4 N4 S4 R4 => ?_⟩
  refine ⟨ρ4, s4, v, w, S4, R3.stay N4.stay, R4, q, s5, e5, fun ρ5 V5 H5 N5 S5 R5 => ?_⟩
  have N25 := (N3.trans N4).trans N5
  exact ⟨ρ5, s5, a, b, q, S5, Ra2.stay N25.stay, R2.stay N25.stay, R5, c, _, e6, fun ρ6 H6 N6 S6 => kk ρ6 σ H6 (((N1.trans N2).trans N25).trans N6) S6 (F.stay (((N1.trans N2).trans N25).trans N6).stay)⟩
end
end Y
end
section
set_option linter.all false
set_option maxRecDepth 100000
set_option maxHeartbeats 4000000
/-! Y18: dicts: keys, looks, stores. -/
namespace Y
open PySem PySem.Spec L2 PyProof.Rows
def deqK (k x : PV) : Option Bool := match k with
  | .int a => (match x with | .int b => some (intEq a b) | .str _ => some false | _ => none)
  | .str a => (match x with | .str b => some (strEq a b) | .int _ => some false | _ => none)
  | .tup a => (match x with | .tup b => all2 (deq 7) a b | _ => none)
  | _ => none
def keyOk (x : PV) : Bool := match x with
  | .int _ => true
  | .str _ => true
  | .tup xs => isKey 8 (.tup xs)
  | _ => false
def kget : List (PV × PV) → PV → Option (Option PV)
  | [], _ => some none
  | (k, v) :: r, x => match deqK k x with
    | some true => some (some v)
    | some false => kget r x
    | none => none
def kput : List (PV × PV) → PV → PV → Option (List (PV × PV))
  | [], x, v => some [(x, v)]
  | (k, w) :: r, x, v => match deqK k x with
    | some true => some ((k, v) :: r)
    | some false => (match kput r x v with | some r' => some ((k, w) :: r') | none => none)
    | none => none
def kdel : List (PV × PV) → PV → Option (List (PV × PV))
  | [], _ => some []
  | (k, w) :: r, x => match deqK k x with
    | some true => some r
    | some false => (match kdel r x with | some r' => some ((k, w) :: r') | none => none)
    | none => none
/-! ### equality of keys -/
theorem natsEq_iff : ∀ {xs ys : List Nat}, natsEq xs ys = true ↔ xs = ys
  | [], [] => by simp [natsEq]
  | [], y :: ys => by simp [natsEq]
  | x :: xs, [] => by simp [natsEq]
  | x :: xs, y :: ys => by
    unfold natsEq
    by_cases e : Nat.beq x y = true
    · rw [if_pos e, natsEq_iff]
      have := Nat.eq_of_beq_eq_true e
      simp [this]
    · rw [if_neg e]
      have : x ≠ y := fun z => e (by rw [z]; exact Nat.beq_refl y)
      simp [this]
theorem strEq_dec (x y : Str) : strEq x y = decide (x = y) := by
  have h : strEq x y = true ↔ x = y := by
    unfold strEq
    rw [natsEq_iff]
    constructor
    · intro h
      cases x; cases y
      congr
      exact Array.toList_inj.mp h
    · rintro rfl; rfl
  by_cases e : x = y
  · rw [decide_eq_true e]; exact h.mpr e
  · rw [decide_eq_false e]
    cases g : strEq x y with
    | false => rfl
    | true => exact absurd (h.mp g) e
theorem intEq_dec (x y : Int) : intEq x y = decide (x = y) := by
  by_cases e : x = y
  · rw [decide_eq_true e]; exact intEq_iff.mpr e
  · rw [decide_eq_false e]
    cases g : intEq x y with
    | false => rfl
    | true => exact absurd (intEq_iff.mp g) e
theorem deqK_A {k x : PV} {κ c : Key} {b : Bool} (hk : keyA k = some κ) (hx : keyA x = some c) (h : deqK k x = some b) : b = decide (κ = c) := by
  cases k with
  | int i =>
    cases hk
    cases x with
    | int j => cases hx; cases h; rw [intEq_dec]; exact decide_eq_decide.mpr ⟨fun e => by rw [e], fun e => by cases e; rfl⟩
    | str j => cases hx; cases h; rfl
    | _ => cases hx
  | str i =>
    cases hk
    cases x with
    | int j => cases hx; cases h; rfl
    | str j => cases hx; cases h; rw [strEq_dec]; exact decide_eq_decide.mpr ⟨fun e => by rw [e], fun e => by cases e; rfl⟩
    | _ => cases hx
  | _ => cases hk
theorem keyNL_cons {f : PV → Option NestedKey} {x : PV} {xs : List PV} {ks : List NestedKey} (h : keyNL f (x :: xs) = some ks) : ∃ k r, ks = k :: r ∧ f x = some k ∧ keyNL f xs = some r := by
  unfold keyNL at h
  cases g : f x with
  | none => rw [g] at h; cases h
  | some k =>
    rw [g] at h
    cases g2 : keyNL f xs with
    | none => rw [g2] at h; cases h
    | some r => rw [g2] at h; cases h; exact ⟨k, r, rfl, rfl, rfl⟩
theorem keyN_tup {n : Nat} {xs : List PV} {κ : NestedKey} (h : keyN (n + 1) (.tup xs) = some κ) : ∃ ks, κ = .tup ks ∧ keyNL (keyN n) xs = some ks := by
  have h : tupN (keyNL (keyN n) xs) = some κ := h
  cases g : keyNL (keyN n) xs with
  | none => rw [g] at h; cases h
  | some ks => rw [g] at h; cases h; exact ⟨ks, rfl, rfl⟩
theorem all2_beq {n m m' : Nat} (ih : ∀ {a b : PV} {κ c : NestedKey} {t : Bool}, deq n a b = some t → keyN m a = some κ → keyN m' b = some c → t = NestedKey.beq κ c) :
    ∀ {xs ys : List PV} {ks ls : List NestedKey} {t : Bool}, all2 (deq n) xs ys = some t → keyNL (keyN m) xs = some ks → keyNL (keyN m') ys = some ls → t = NestedKey.beqAll ks ls
  | [], [], ks, ls, t, h, hk, hl => by cases h; cases hk; cases hl; rfl
  | [], y :: ys, ks, ls, t, h, hk, hl => by
    cases h
    cases hk
    obtain ⟨k, r, rfl, _, _⟩ := keyNL_cons hl
    rfl
  | x :: xs, [], ks, ls, t, h, hk, hl => by
    cases h
    cases hl
    obtain ⟨k, r, rfl, _, _⟩ := keyNL_cons hk
    rfl
  | x :: xs, y :: ys, ks, ls, t, h, hk, hl => by
    obtain ⟨k, r, rfl, k1, k2⟩ := keyNL_cons hk
    obtain ⟨l, s, rfl, l1, l2⟩ := keyNL_cons hl
    unfold all2 at h
    cases g : deq n x y with
    | none => rw [g] at h; cases h
    | some c =>
      rw [g] at h
      have e := ih g k1 l1
      cases c with
      | false =>
        cases h
        simp [NestedKey.beqAll, ← e]
      | true =>
        have := all2_beq ih h k2 l2
        simp [NestedKey.beqAll, ← e, this]
theorem deq_beq : ∀ {n m m' : Nat} {a b : PV} {κ c : NestedKey} {t : Bool}, deq n a b = some t → keyN m a = some κ → keyN m' b = some c → t = NestedKey.beq κ c
  | 0, _, _, _, _, _, _, _, h, _, _ => by cases h
  | n + 1, 0, _, _, _, _, _, _, _, h, _ => by cases h
  | n + 1, m + 1, 0, _, _, _, _, _, _, _, h => by cases h
  | n + 1, m + 1, m' + 1, a, b, κ, c, t, h, hk, hc => by
    have ih := @deq_beq n m m'
    cases a with
    | int i =>
      cases hk
      have h : deqI i b = some t := h
      cases b with
      | int j => cases hc; cases h; exact intEq_dec i j
      | bl j => cases hc; cases h; exact intEq_dec i _
      | str j => cases hc; cases h; rfl
      | non => cases hc; cases h; rfl
      | tup ys => obtain ⟨ls, rfl, _⟩ := keyN_tup hc; cases h; rfl
      | _ => cases hc
    | bl i =>
      cases hk
      have h : deqI (b2i i) b = some t := h
      cases b with
      | int j => cases hc; cases h; exact intEq_dec _ j
      | bl j => cases hc; cases h; exact intEq_dec _ _
      | str j => cases hc; cases h; rfl
      | non => cases hc; cases h; rfl
      | tup ys => obtain ⟨ls, rfl, _⟩ := keyN_tup hc; cases h; rfl
      | _ => cases hc
    | str i =>
      cases hk
      have h : deqS i b = some t := h
      cases b with
      | int j => cases hc; cases h; rfl
      | bl j => cases hc; cases h; rfl
      | str j => cases hc; cases h; exact strEq_dec i j
      | non => cases hc; cases h; rfl
      | tup ys => obtain ⟨ls, rfl, _⟩ := keyN_tup hc; cases h; rfl
      | _ => cases hc
    | non =>
      cases hk
      have h : deqN b = some t := h
      cases b with
      | int j => cases hc; cases h; rfl
      | bl j => cases hc; cases h; rfl
      | str j => cases hc; cases h; rfl
      | non => cases hc; cases h; rfl
      | tup ys => obtain ⟨ls, rfl, _⟩ := keyN_tup hc; cases h; rfl
      | _ => cases hc
    | tup xs =>
      obtain ⟨ks, rfl, k1⟩ := keyN_tup hk
      have h : deqT (deq n) xs b = some t := h
      cases b with
      | int j => cases hc; cases h; rfl
      | bl j => cases hc; cases h; rfl
      | str j => cases hc; cases h; rfl
      | non => cases hc; cases h; rfl
      | tup ys =>
        obtain ⟨ls, rfl, l1⟩ := keyN_tup hc
        have := all2_beq (fun q r s => ih q r s) h k1 l1
        rw [this, NestedKey.beq]
      | _ => cases hc
    | _ => cases hk
theorem deqK_B {k x : PV} {κ c : NestedKey} {b : Bool} (hk : keyB k = some κ) (hx : keyB x = some c) (h : deqK k x = some b) : b = decide (κ = c) := by
  cases k with
  | tup xs =>
    cases x with
    | tup ys =>
      rw [NestedKey.decide_eq]
      have h : deq 8 (.tup xs) (.tup ys) = some b := h
      exact deq_beq h hk hx
    | _ => cases hx
  | _ => cases hk
theorem isKey_keyN : ∀ {n : Nat} {a : PV}, isKey n a = true → ∃ κ, keyN n a = some κ
  | 0, _, h => by cases h
  | n + 1, a, h => by
    cases a with
    | int i => exact ⟨_, rfl⟩
    | bl i => exact ⟨_, rfl⟩
    | str i => exact ⟨_, rfl⟩
    | non => exact ⟨_, rfl⟩
    | tup xs =>
      have h : allV (isKey n) xs = true := h
      have : ∀ xs : List PV, allV (isKey n) xs = true → ∃ ks, keyNL (keyN n) xs = some ks := by
        intro xs
        induction xs with
        | nil => intro _; exact ⟨[], rfl⟩
        | cons x r ih =>
          intro h
          unfold allV at h
          by_cases e : isKey n x = true
          · rw [if_pos e] at h
            obtain ⟨κ, hκ⟩ := isKey_keyN e
            obtain ⟨ks, hks⟩ := ih h
            exact ⟨κ :: ks, by unfold keyNL; rw [hκ]; simp only [hks]⟩
          · rw [if_neg e] at h; cases h
      obtain ⟨ks, hks⟩ := this xs h
      exact ⟨.tup ks, by show tupN (keyNL (keyN n) xs) = _; rw [hks]; rfl⟩
    | _ => cases h
theorem keyOk_or {x : PV} (h : keyOk x = true) : (∃ κ, keyA x = some κ) ∨ ∃ κ, keyB x = some κ := by
  cases x with
  | int i => exact .inl ⟨_, rfl⟩
  | str i => exact .inl ⟨_, rfl⟩
  | tup xs => exact .inr (isKey_keyN (n := 8) (a := .tup xs) h)
  | _ => cases h
/-- keys of one kind alone stand in one dict -/
theorem deqK_AB {k x : PV} {κ : Key} {c : NestedKey} (hk : keyA k = some κ) (hx : keyB x = some c) : deqK k x = none := by
  cases x with
  | tup ys =>
    cases k with
    | int i => rfl
    | str i => rfl
    | _ => cases hk
  | _ => cases hx
theorem deqK_BA {k x : PV} {κ : NestedKey} {c : Key} (hk : keyB k = some κ) (hx : keyA x = some c) : deqK k x = none := by
  cases k with
  | tup ys =>
    cases x with
    | int i => rfl
    | str i => rfl
    | _ => cases hx
  | _ => cases hk
section
variable {T : Tb} {K : PySem.W.Frag} {ρ : Nat → Addr} {n : Nat} {H : Hp}
theorem valueAt_cons_pos {κ : Type} [DecidableEq κ] {k c : κ} {u : Value} {r : List (κ × Value)} (e : k = c) : valueAt ((k, u) :: r) c = some u := by simp [valueAt, List.find?_cons, e]
theorem valueAt_cons_neg {κ : Type} [DecidableEq κ] {k c : κ} {u : Value} {r : List (κ × Value)} (e : ¬ k = c) : valueAt ((k, u) :: r) c = valueAt r c := by simp [valueAt, List.find?_cons, e]
theorem atKey_cons_pos {κ : Type} [DecidableEq κ] {k c : κ} {b : Addr} {u : Value} {r : List (κ × Addr × Value)} (e : k = c) : atKey ((k, b, u) :: r) c = some (b, u) := by simp [atKey, List.find?_cons, e]
theorem atKey_cons_neg {κ : Type} [DecidableEq κ] {k c : κ} {b : Addr} {u : Value} {r : List (κ × Addr × Value)} (e : ¬ k = c) : atKey ((k, b, u) :: r) c = atKey r c := by simp [atKey, List.find?_cons, e]
theorem EnA.get : ∀ {kvs : List (PV × PV)} {vs : List (Key × Value)} {x : PV} {c : Key} {o : Option PV}, EnA T K ρ n H kvs vs → keyA x = some c → kget kvs x = some o →
    (o = none ∧ valueAt vs c = none) ∨ ∃ v W u, o = some v ∧ valueAt vs c = some u ∧ Rep T K ρ n H v W ∧ RelV W u
  | _, _, x, c, o, .nil, hx, h => by cases h; exact .inl ⟨rfl, rfl⟩
  | _, _, x, c, o, .cons (k := k) (v := v) (W := W) (u := u) hk hv hu t, hx, h => by
    unfold kget at h
    cases g : deqK k x with
    | none => rw [g] at h; cases h
    | some b =>
      rw [g] at h
      have e := deqK_A hk hx g
      cases b with
      | true =>
        cases h
        exact .inr ⟨v, W, u, rfl, valueAt_cons_pos (of_decide_eq_true e.symm), hv, hu⟩
      | false =>
        rw [valueAt_cons_neg (of_decide_eq_false e.symm)]
        exact EnA.get t hx h
theorem EnB.get : ∀ {kvs : List (PV × PV)} {vs : List (NestedKey × Addr × Value)} {x : PV} {c : NestedKey} {o : Option PV}, EnB T K ρ n H kvs vs → keyB x = some c → kget kvs x = some o →
    (o = none ∧ atKey vs c = none) ∨ ∃ v W b u, o = some v ∧ atKey vs c = some (b, u) ∧ Rep T K ρ n H v W ∧ RelV W u
  | _, _, x, c, o, .nil, hx, h => by cases h; exact .inl ⟨rfl, rfl⟩
  | _, _, x, c, o, .cons (k := k) (v := v) (W := W) (u := u) (b := b) hk hb hv hu t, hx, h => by
    unfold kget at h
    cases g : deqK k x with
    | none => rw [g] at h; cases h
    | some d =>
      rw [g] at h
      have e := deqK_B hk hx g
      cases d with
      | true =>
        cases h
        exact .inr ⟨v, W, b, u, rfl, atKey_cons_pos (of_decide_eq_true e.symm), hv, hu⟩
      | false =>
        rw [atKey_cons_neg (of_decide_eq_false e.symm)]
        exact EnB.get t hx h
/-- a look finds keys of its kind alone -/
theorem EnA.kind {kvs : List (PV × PV)} {vs : List (Key × Value)} {x : PV} {c : NestedKey} {o : Option PV} (h : EnA T K ρ n H kvs vs) (hx : keyB x = some c) (hg : kget kvs x = some o) : kvs = [] ∧ vs = [] := by
  cases h with
  | nil => exact ⟨rfl, rfl⟩
  | cons hk hv hu t =>
    unfold kget at hg
    rw [deqK_AB hk hx] at hg
    cases hg
theorem EnB.kind {kvs : List (PV × PV)} {vs : List (NestedKey × Addr × Value)} {x : PV} {c : Key} {o : Option PV} (h : EnB T K ρ n H kvs vs) (hx : keyA x = some c) (hg : kget kvs x = some o) : kvs = [] ∧ vs = [] := by
  cases h with
  | nil => exact ⟨rfl, rfl⟩
  | cons hk hb hv hu t =>
    unfold kget at hg
    rw [deqK_BA hk hx] at hg
    cases hg
theorem RawB.toA {P : Program} {w : World} {o : Obj} (h : RawB P w o []) : RawA P w o [] := by
  obtain ⟨es, ep, h1, h2, h3, h4⟩ := h
  have e : es = #[] := Array.toList_inj.mp (by rw [h3]; rfl)
  subst e
  exact ⟨#[], ep, h1, h2, fun e he => by simp at he, .nil, List.nodup_nil⟩
theorem RawA.toB {P : Program} {w : World} {o : Obj} (h : RawA P w o []) : RawB P w o [] := by
  obtain ⟨es, ep, h1, h2, h3, h4, h5⟩ := h
  have e : es = #[] := Array.toList_inj.mp (by cases hh : es.toList with | nil => rfl | cons a b => rw [hh] at h4; cases h4)
  subst e
  exact ⟨#[], ep, h1, h2, rfl, List.nodup_nil⟩
end
end Y
end
section
set_option linter.all false
set_option maxRecDepth 100000
set_option maxHeartbeats 4000000
/-! Y19: dicts in the model. -/
namespace Y
open PySem PySem.Spec L2 PyProof.Rows
/-- the table's program is the context's -/
structure TbX (T : Tb) (X : Cx) : Prop where
  P : T.P = X.prog
  w : T.w = X.w
section
variable {X : Cx} {T : Tb} {pins : List (Addr × Obj)} {σ : L2.St} {H : Hp} {s : Shared} {ρ : Nat → Addr} {n : Nat} {st : St}
theorem nestedAll_of {m : Nat} (ih : ∀ {v : PV} {V : L2.V} {u : Value} {κ : NestedKey}, keyN m v = some κ → Rep T X.K ρ n H v V → RelV V u → NestedIs s.heap κ u ∧ κ.depth ≤ m) :
    ∀ {xs : List PV} {vs : List L2.V} {us : List Value} {ks : List NestedKey}, keyNL (keyN m) xs = some ks → Reps T X.K ρ n H xs vs → Vals vs us → NestedAll s.heap ks us ∧ NestedKey.depthAll ks ≤ m
  | [], _, _, ks, h, r, rv => by
    cases h
    cases r
    cases rv
    exact ⟨.nil, by simp [NestedKey.depthAll]⟩
  | x :: xs, _, _, ks, h, r, rv => by
    obtain ⟨k, rr, rfl, h1, h2⟩ := keyNL_cons h
    cases r with
    | cons ra rt =>
      cases rv with
      | cons va vt =>
        obtain ⟨a1, a2⟩ := ih h1 ra va
        obtain ⟨b1, b2⟩ := nestedAll_of ih h2 rt vt
        exact ⟨.cons a1 b1, by simp only [NestedKey.depthAll]; exact Nat.max_le.mpr ⟨a2, b2⟩⟩
theorem nested_of (I : L2.Inv X pins σ H s) : ∀ {m : Nat} {v : PV} {V : L2.V} {u : Value} {κ : NestedKey}, keyN m v = some κ → Rep T X.K ρ n H v V → RelV V u → NestedIs s.heap κ u ∧ κ.depth ≤ m
  | 0, _, _, _, _, h, _, _ => by cases h
  | m + 1, v, V, u, κ, h, r, rv => by
    cases r with
    | non => cases h; cases rv; exact ⟨.none, Nat.zero_le _⟩
    | bl b => cases h; cases rv; exact ⟨.bool rfl, Nat.zero_le _⟩
    | int i => cases h; obtain ⟨t, rfl⟩ := rv; exact ⟨.int i t, Nat.zero_le _⟩
    | str x => cases h; obtain ⟨t, rfl⟩ := rv; exact ⟨.text x t, Nat.zero_le _⟩
    | @tup xs p vs hp t =>
      obtain ⟨ks, rfl, h1⟩ := keyN_tup h
      cases rv
      obtain ⟨its, r2, ⟨o, ho, hc, k, hd⟩, hz⟩ := I.tuple hp
      obtain ⟨a1, a2⟩ := nestedAll_of (fun q r s => nested_of I q r s) h1 t r2
      exact ⟨.tup ho hc hd (by simpa using a1), by simp only [NestedKey.depth]; omega⟩
    | _ => cases h
/-- a dict as it stands in the heap -/
theorem dct_at (hT : TbX T X) (I : L2.Inv X pins σ H s) (S : StRep T X.K ρ st H) {a w : Nat} {kvs : List (PV × PV)} (g : st.get a = some (.dct w kvs)) :
    ∃ o, H (ρ a) = some (theO (ρ a) o) ∧ s.heap.get? (ρ a) = some o ∧ (ρ a == sysModules) = false ∧ kvs.length ≤ sizeLine ∧
      ((∃ vs, EnA T X.K ρ st.n H kvs vs ∧ RawA X.prog X.w o vs) ∨ (∃ xs, EnB T X.K ρ st.n H kvs xs ∧ RawB X.prog X.w o xs)) := by
  obtain ⟨_, o, h1, h2, h3, h4⟩ := S.cell a _ g
  obtain ⟨q, _, _⟩ : ObjOk X.prog X.w H s.heap (ρ a) (theO (ρ a) o) := I.hok _ _ h1
  rw [hT.P, hT.w] at h4
  exact ⟨o, h1, q, h2, h3, h4⟩
theorem RawA.dictOf {P : Program} {w : World} {o : Obj} {vs : List (Key × Value)} {h : Heap} {p : Addr} (r : RawA P w o vs) (e : h.get? p = some o) : h.DictOf (mixKind P w) p vs := by
  obtain ⟨es, ep, h1, h2, h3, h4, h5⟩ := r
  exact ⟨o, es, ep, e, h1, h2, h3, h4, h5⟩
theorem EnB.is (hT : TbX T X) (I : L2.Inv X pins σ H s) : ∀ {kvs : List (PV × PV)} {xs : List (NestedKey × Addr × Value)}, EnB T X.K ρ n H kvs xs → ∀ x ∈ xs, (nestedKind X.prog X.w).is s.heap x.1 x.2.1
  | _, _, .nil, x, hx => by cases hx
  | _, _, .cons (k := k) (κ := κ) (b := b) hk hb hv hu t, x, hx => by
    rcases List.mem_cons.mp hx with z | z
    · subst z
      cases k with
      | tup ys => exact nested_of I (m := 8) (v := .tup ys) hk hb rfl
      | _ => cases hk
    · exact EnB.is hT I t x z
theorem RawB.dictOf {kvs : List (PV × PV)} {o : Obj} {xs : List (NestedKey × Addr × Value)} {p : Addr} (hT : TbX T X) (I : L2.Inv X pins σ H s) (en : EnB T X.K ρ n H kvs xs) (r : RawB X.prog X.w o xs) (e : s.heap.get? p = some o) : s.heap.DictOfH (nestedKind X.prog X.w) p xs := by
  obtain ⟨es, ep, h1, h2, h3, h4⟩ := r
  exact ⟨o, es, ep, e, h1, h2, h3, en.is hT I, h4⟩
/-- the dict, its kind told by the key -/
theorem dct_for (hT : TbX T X) (I : L2.Inv X pins σ H s) (S : StRep T X.K ρ st H) {a w : Nat} {kvs : List (PV × PV)} (g : st.get a = some (.dct w kvs)) {x : PV} {Vx : L2.V} {ux : Value} (rx : Rep T X.K ρ st.n H x Vx) (ru : RelV Vx ux) (hk : keyOk x = true) {oo : Option PV} (hg : kget kvs x = some oo) :
    ∃ o, H (ρ a) = some (theO (ρ a) o) ∧ s.heap.get? (ρ a) = some o ∧ (ρ a == sysModules) = false ∧ kvs.length ≤ sizeLine ∧
      ((∃ vs κ, EnA T X.K ρ st.n H kvs vs ∧ RawA X.prog X.w o vs ∧ keyA x = some κ ∧ (mixKind X.prog X.w).is κ ux = true) ∨
       (∃ xs κ b, EnB T X.K ρ st.n H kvs xs ∧ RawB X.prog X.w o xs ∧ keyB x = some κ ∧ Vx = .ref b ∧ ux = .ref b ∧ (nestedKind X.prog X.w).is s.heap κ b)) := by
  obtain ⟨o, h1, h2, h3, h4, h5⟩ := dct_at hT I S g
  refine ⟨o, h1, h2, h3, h4, ?_⟩
  rcases keyOk_or hk with ⟨κ, hκ⟩ | ⟨κ, hκ⟩
  · have his : (mixKind X.prog X.w).is κ ux = true := by
      cases rx with
      | int i => cases hκ; obtain ⟨t, rfl⟩ := ru; exact keyIs_int i t
      | str i => cases hκ; obtain ⟨t, rfl⟩ := ru; exact keyIs_str i t
      | _ => cases hκ
    rcases h5 with ⟨vs, e, r⟩ | ⟨xs, e, r⟩
    · exact .inl ⟨vs, κ, e, r, hκ, his⟩
    · obtain ⟨rfl, rfl⟩ := e.kind hκ hg
      exact .inl ⟨[], κ, .nil, r.toA, hκ, his⟩
  · cases x with
    | tup ys =>
      have hn := nested_of (T := T) (ρ := ρ) (n := st.n) I (m := 8) (v := .tup ys) hκ rx ru
      cases rx with
      | @tup _ p vs hp t =>
        cases ru
        rcases h5 with ⟨vs, e, r⟩ | ⟨xs, e, r⟩
        · obtain ⟨rfl, rfl⟩ := e.kind hκ hg
          exact .inr ⟨[], κ, p, .nil, r.toB, hκ, rfl, rfl, hn⟩
        · exact .inr ⟨xs, κ, p, e, r, hκ, rfl, rfl, hn⟩
    | _ => cases hκ
theorem room_nest {k : Nat} (hr : Room k X.A) : (nestedKind X.prog X.w).room X.A.in1 := by
  have := hr.un
  show X.A.in1.units + 8 < cLine
  have e : X.A.in1.units = X.A.units + 1 := rfl
  omega
/-- d[k], there -/
theorem d_get {k : Nat} (hr : Room k X.A) (hT : TbX T X) (I : L2.Inv X pins σ H s) (S : StRep T X.K ρ st H) {a w : Nat} {kvs : List (PV × PV)} (g : st.get a = some (.dct w kvs)) {x v : PV} {Vx : L2.V} {ux : Value} (rx : Rep T X.K ρ st.n H x Vx) (ru : RelV Vx ux) (hk : keyOk x = true) (hg : kget kvs x = some (some v))
    {Q : VK} (h : ∀ V, Rep T X.K ρ st.n H v V → Q V H) : wpAny (model X.prog X.w) X.A (getItem (.ref (ρ a)) ux) (EP X pins σ Q) X.xe s := by
  obtain ⟨o, h1, h2, h3, h4, ⟨vs, κ, e, r, hκ, his⟩ | ⟨xs, κ, b, e, r, hκ, rfl, rfl, his⟩⟩ := dct_for hT I S g rx ru hk hg
  · rcases e.get hκ hg with ⟨z, _⟩ | ⟨v', W, u, z, hv, rv, rw_⟩
    · cases z
    · cases z
      exact wpAny_getItem_of his (r.dictOf h2).mapOf hv ⟨W, H, I.tok _, rw_, h W rv⟩
  · rcases e.get hκ hg with ⟨z, _⟩ | ⟨v', W, b', u, z, hv, rv, rw_⟩
    · cases z
    · cases z
      exact wpAny_getItem_heap (room_nest hr) his (r.dictOf hT I e h2) hv ⟨W, H, I.tok _, rw_, h W rv⟩
theorem d_in' {k : Nat} (hr : Room k X.A) (hT : TbX T X) (I : L2.Inv X pins σ H s) (S : StRep T X.K ρ st H) {a w : Nat} {kvs : List (PV × PV)} (g : st.get a = some (.dct w kvs)) {x : PV} {oo : Option PV} {Vx : L2.V} {ux : Value} (rx : Rep T X.K ρ st.n H x Vx) (ru : RelV Vx ux) (hk : keyOk x = true) (hg : kget kvs x = some oo)
    {Q : VK} (h : Q (.bl oo.isSome) H) : wpAny (model X.prog X.w) X.A (compareOp .In ux (.ref (ρ a))) (EP X pins σ Q) X.xe s := by
  obtain ⟨o, h1, h2, h3, h4, ⟨vs, κ, e, r, hκ, his⟩ | ⟨xs, κ, b, e, r, hκ, rfl, rfl, his⟩⟩ := dct_for hT I S g rx ru hk hg
  · refine wpAny_in_of his h3 (r.dictOf h2).mapOf ?_
    rcases e.get hκ hg with ⟨rfl, hv⟩ | ⟨v', W, u, rfl, hv, rv, rw_⟩
    · rw [hv]; exact ⟨.bl false, H, I.tok _, rfl, h⟩
    · rw [hv]; exact ⟨.bl true, H, I.tok _, rfl, h⟩
  · refine wpAny_in_heap (room_nest hr) his h3 (r.dictOf hT I e h2) ?_
    rcases e.get hκ hg with ⟨rfl, hv⟩ | ⟨v', W, b', u, rfl, hv, rv, rw_⟩
    · rw [hv]; exact ⟨.bl false, H, I.tok _, rfl, h⟩
    · rw [hv]; exact ⟨.bl true, H, I.tok _, rfl, h⟩
theorem d_notIn' {k : Nat} (hr : Room k X.A) (hT : TbX T X) (I : L2.Inv X pins σ H s) (S : StRep T X.K ρ st H) {a w : Nat} {kvs : List (PV × PV)} (g : st.get a = some (.dct w kvs)) {x : PV} {oo : Option PV} {Vx : L2.V} {ux : Value} (rx : Rep T X.K ρ st.n H x Vx) (ru : RelV Vx ux) (hk : keyOk x = true) (hg : kget kvs x = some oo)
    {Q : VK} (h : Q (.bl (!oo.isSome)) H) : wpAny (model X.prog X.w) X.A (compareOp .NotIn ux (.ref (ρ a))) (EP X pins σ Q) X.xe s := by
  obtain ⟨o, h1, h2, h3, h4, ⟨vs, κ, e, r, hκ, his⟩ | ⟨xs, κ, b, e, r, hκ, rfl, rfl, his⟩⟩ := dct_for hT I S g rx ru hk hg
  · refine wpAny_notIn_of his h3 (r.dictOf h2).mapOf ?_
    rcases e.get hκ hg with ⟨rfl, hv⟩ | ⟨v', W, u, rfl, hv, rv, rw_⟩
    · rw [hv]; exact ⟨.bl true, H, I.tok _, rfl, h⟩
    · rw [hv]; exact ⟨.bl false, H, I.tok _, rfl, h⟩
  · refine wpAny_notIn_heap (room_nest hr) his h3 (r.dictOf hT I e h2) ?_
    rcases e.get hκ hg with ⟨rfl, hv⟩ | ⟨v', W, b', u, rfl, hv, rv, rw_⟩
    · rw [hv]; exact ⟨.bl true, H, I.tok _, rfl, h⟩
    · rw [hv]; exact ⟨.bl false, H, I.tok _, rfl, h⟩
end
/-! ### stores -/
section
variable {T : Tb} {K : PySem.W.Frag} {ρ : Nat → Addr} {n : Nat} {H : Hp}
theorem stored_cons_pos {κ : Type} [DecidableEq κ] {k c : κ} {u v : Value} {r : List (κ × Value)} (e : k = c) (hn : c ∉ r.map (·.1)) : stored ((k, u) :: r) c v = (k, v) :: r := by
  subst e
  have h : ∀ r : List (κ × Value), k ∉ r.map (·.1) → r.map (fun kv => if kv.1 = k then (kv.1, v) else kv) = r := by
    intro r
    induction r with
    | nil => intro _; rfl
    | cons p r ih =>
      intro hn
      simp only [List.map_cons, List.mem_cons, not_or] at hn
      rw [List.map_cons, if_neg (Ne.symm hn.1), ih hn.2]
  simp [stored, h r hn]
theorem stored_cons_neg {κ : Type} [DecidableEq κ] {k c : κ} {u v : Value} {r : List (κ × Value)} (e : ¬ k = c) : stored ((k, u) :: r) c v = (k, u) :: stored r c v := by
  unfold stored
  by_cases h : (r.any fun kv => decide (kv.1 = c)) = true
  · rw [if_pos h, if_pos (by rw [List.any_cons, h, Bool.or_true]), List.map_cons, if_neg e]
  · rw [if_neg h, if_neg (by rw [List.any_cons, decide_eq_false e, Bool.false_or]; exact h), List.cons_append]
theorem storedH_cons_pos {κ : Type} [DecidableEq κ] {k c : κ} {b b2 : Addr} {u v : Value} {r : List (κ × Addr × Value)} (e : k = c) (hn : c ∉ r.map (·.1)) : storedH ((k, b, u) :: r) c b2 v = (k, b, v) :: r := by
  subst e
  have h : ∀ r : List (κ × Addr × Value), k ∉ r.map (·.1) → r.map (putAt k v) = r := by
    intro r
    induction r with
    | nil => intro _; rfl
    | cons p r ih =>
      intro hn
      simp only [List.map_cons, List.mem_cons, not_or] at hn
      rw [List.map_cons, ih hn.2]
      unfold putAt
      rw [if_neg (Ne.symm hn.1)]
  unfold storedH
  rw [atKey_cons_pos rfl]
  simp only [Option.isSome_some, if_true, List.map_cons, h r hn]
  simp [putAt]
theorem storedH_cons_neg {κ : Type} [DecidableEq κ] {k c : κ} {b b2 : Addr} {u v : Value} {r : List (κ × Addr × Value)} (e : ¬ k = c) : storedH ((k, b, u) :: r) c b2 v = (k, b, u) :: storedH r c b2 v := by
  unfold storedH
  rw [atKey_cons_neg e]
  by_cases h : (atKey r c).isSome = true
  · rw [if_pos h, if_pos h, List.map_cons]
    congr 1
    unfold putAt
    rw [if_neg e]
  · rw [if_neg h, if_neg h, List.cons_append]
theorem EnA.put : ∀ {kvs kvs' : List (PV × PV)} {vs : List (Key × Value)} {x v : PV} {c : Key} {W : L2.V} {u : Value}, EnA T K ρ n H kvs vs → (vs.map (·.1)).Nodup → keyA x = some c → Rep T K ρ n H v W → RelV W u → kput kvs x v = some kvs' → EnA T K ρ n H kvs' (stored vs c u) ∧ kvs'.length ≤ kvs.length + 1
  | _, _, _, x, v, c, W, u, .nil, _, hx, rv, ru, h => by
    cases h
    exact ⟨.cons hx rv ru .nil, Nat.le_refl _⟩
  | _, kvs', _, x, v, c, W, u, .cons (k := k) (κ := κ) (r := r) hk hv hu t, nd, hx, rv, ru, h => by
    rw [List.map_cons, List.nodup_cons] at nd
    unfold kput at h
    cases g : deqK k x with
    | none => rw [g] at h; cases h
    | some b =>
      rw [g] at h
      have e := deqK_A hk hx g
      cases b with
      | true =>
        cases h
        have e := of_decide_eq_true e.symm
        rw [stored_cons_pos e (by rw [← e]; exact nd.1)]
        exact ⟨.cons hk rv ru t, Nat.le_succ _⟩
      | false =>
        rw [stored_cons_neg (of_decide_eq_false e.symm)]
        cases g2 : kput r x v with
        | none => simp only [g2] at h; cases h
        | some r' =>
          simp only [g2] at h
          cases h
          obtain ⟨a1, a2⟩ := EnA.put t nd.2 hx rv ru g2
          exact ⟨.cons hk hv hu a1, Nat.succ_le_succ a2⟩
theorem EnB.put : ∀ {kvs kvs' : List (PV × PV)} {vs : List (NestedKey × Addr × Value)} {x v : PV} {c : NestedKey} {b : Addr} {W : L2.V} {u : Value}, EnB T K ρ n H kvs vs → (vs.map (·.1)).Nodup → keyB x = some c → Rep T K ρ n H x (.ref b) → Rep T K ρ n H v W → RelV W u → kput kvs x v = some kvs' → EnB T K ρ n H kvs' (storedH vs c b u) ∧ kvs'.length ≤ kvs.length + 1
  | _, _, _, x, v, c, b, W, u, .nil, _, hx, rx, rv, ru, h => by
    cases h
    exact ⟨.cons hx rx rv ru .nil, Nat.le_refl _⟩
  | _, kvs', _, x, v, c, b, W, u, .cons (k := k) (κ := κ) (r := r) hk hb hv hu t, nd, hx, rx, rv, ru, h => by
    rw [List.map_cons, List.nodup_cons] at nd
    unfold kput at h
    cases g : deqK k x with
    | none => rw [g] at h; cases h
    | some d =>
      rw [g] at h
      have e := deqK_B hk hx g
      cases d with
      | true =>
        cases h
        have e := of_decide_eq_true e.symm
        rw [storedH_cons_pos e (by rw [← e]; exact nd.1)]
        exact ⟨.cons hk hb rv ru t, Nat.le_succ _⟩
      | false =>
        rw [storedH_cons_neg (of_decide_eq_false e.symm)]
        cases g2 : kput r x v with
        | none => simp only [g2] at h; cases h
        | some r' =>
          simp only [g2] at h
          cases h
          obtain ⟨a1, a2⟩ := EnB.put t nd.2 hx rx rv ru g2
          exact ⟨.cons hk hb hv hu a1, Nat.succ_le_succ a2⟩
theorem kput_get : ∀ {kvs kvs' : List (PV × PV)} {x v : PV}, kput kvs x v = some kvs' → ∃ o, kget kvs x = some o
  | [], _, _, _, _ => ⟨none, rfl⟩
  | (k, w) :: r, kvs', x, v, h => by
    unfold kput at h
    unfold kget
    cases g : deqK k x with
    | none => rw [g] at h; cases h
    | some b =>
      rw [g] at h
      cases b with
      | true => exact ⟨_, rfl⟩
      | false =>
        cases g2 : kput r x v with
        | none => simp only [g2] at h; cases h
        | some r' => exact kput_get g2
end
end Y
end
section
set_option linter.all false
set_option maxRecDepth 100000
set_option maxHeartbeats 4000000
/-! Y20: dict stores; subscripts, membership, len of anything. -/
namespace Y
open PySem PySem.Spec L2 PyProof.Rows
section
variable {X : Cx} {T : Tb} {pins : List (Addr × Obj)} {σ : L2.St} {H : Hp} {s : Shared} {ρ : Nat → Addr} {n : Nat} {st : St}
theorem theO_ok {P : Program} {w : World} {H : Hp} {h : Heap} {p : Addr} {o : Obj} (e : h.get? p = some o) : ObjOk P w H h p (theO p o) := ⟨e, ⟨o, e⟩, fun h1 h2 q k => k _ q⟩
/-- the dict's object is another -/
theorem dct_write {a w : Nat} {kvs kvs' : List (PV × PV)} {o o' : Obj} (hT : TbX T X) (S : StRep T X.K ρ st H) (g : st.get a = some (.dct w kvs)) (h1 : H (ρ a) = some (theO (ρ a) o)) (hs : (ρ a == sysModules) = false) (hz : kvs'.length ≤ sizeLine)
    (en : (∃ vs, EnA T X.K ρ st.n H kvs' vs ∧ RawA X.prog X.w o' vs) ∨ (∃ xs, EnB T X.K ρ st.n H kvs' xs ∧ RawB X.prog X.w o' xs)) :
    StRep T X.K ρ (st.set a (.dct (w + 1) kvs')) (upd H (ρ a) (theO (ρ a) o')) ∧ Nxt ρ st H ρ (st.set a (.dct (w + 1) kvs')) (upd H (ρ a) (theO (ρ a) o')) := by
  have y : Stay X.K ρ st.n H ρ st.n (upd H (ρ a) (theO (ρ a) o')) := .write h1 rfl
  refine ⟨S.write g h1 rfl ⟨o', upd_same, hs, hz, ?_⟩, Nxt.write S g h1 rfl (Nat.le_succ w) fun z => Nat.succ_ne_self w z.symm⟩
  rw [hT.P, hT.w]
  rcases en with ⟨vs, e, r⟩ | ⟨xs, e, r⟩
  · exact .inl ⟨vs, e.stay y, r⟩
  · exact .inr ⟨xs, e.stay y, r⟩
/-- d[k] = v -/
theorem d_put {k : Nat} (hr : Room k X.A) (hT : TbX T X) (I : L2.Inv X pins σ H s) (S : StRep T X.K ρ st H) {a w : Nat} {kvs kvs' : List (PV × PV)} (g : st.get a = some (.dct w kvs)) {x v : PV} {Vx Vv : L2.V} {ux uv : Value} (rx : Rep T X.K ρ st.n H x Vx) (ru : RelV Vx ux) (rv : Rep T X.K ρ st.n H v Vv) (rw_ : RelV Vv uv)
    (hk : keyOk x = true) (hg : kput kvs x v = some kvs') (hz : kvs'.length ≤ sizeLine) {Q : Hp → Prop} (h : ∀ H', StRep T X.K ρ (st.set a (.dct (w + 1) kvs')) H' → Nxt ρ st H ρ (st.set a (.dct (w + 1) kvs')) H' → Q H') :
    wpAny (model X.prog X.w) X.A (setItem (.ref (ρ a)) ux uv) (fun _ s' => ∃ H', L2.Inv X pins σ H' s' ∧ Q H') X.xe s := by
  obtain ⟨oo, hgg⟩ := kput_get hg
  obtain ⟨o, h1, h2, h3, h4, ⟨vs, κ, e, r, hκ, his⟩ | ⟨xs, κ, b, e, r, hκ, rfl, rfl, his⟩⟩ := dct_for hT I S g rx ru hk hgg
  · have nd : (vs.map (·.1)).Nodup := by obtain ⟨_, _, _, _, _, _, h5⟩ := r; exact h5
    obtain ⟨en, _⟩ := e.put nd hκ rv rw_ hg
    refine wpAny_setItem_pairs (hsz := by rw [← e.length]; exact h4) his (r.dictOf h2) fun h' dd' hs => ?_
    obtain ⟨o', es, ep, q1, q2, q3, q4, q5, q6⟩ := dd'
    obtain ⟨S2, N2⟩ := dct_write hT S g h1 h3 hz (.inl ⟨_, en, es, ep, q2, q3, q4, q5, q6⟩)
    exact ⟨_, d_write I (by rw [h1]; exact True.intro) hs ⟨o', q1⟩ (theO_ok q1), h _ S2 N2⟩
  · have nd : (xs.map (·.1)).Nodup := by obtain ⟨_, _, _, _, _, h5⟩ := r; exact h5
    obtain ⟨en, _⟩ := e.put nd hκ rx rv rw_ hg
    refine wpAny_setItem_heap (hsz := by rw [← e.length]; exact h4) (room_nest hr) his (r.dictOf hT I e h2) fun h' dd' hs => ?_
    obtain ⟨o', es, ep, q1, q2, q3, q4, q5, q6⟩ := dd'
    obtain ⟨S2, N2⟩ := dct_write hT S g h1 h3 hz (.inr ⟨_, en, es, ep, q2, q3, q4, q6⟩)
    exact ⟨_, d_write I (by rw [h1]; exact True.intro) hs ⟨o', q1⟩ (theO_ok q1), h _ S2 N2⟩
end
/-! ### subscripts of anything -/
def dctV (st : St) (a : PV) : Option (Nat × Nat × List (PV × PV)) := match a with
  | .ref x => (match st.get x with | some (.dct w kvs) => some (x, w, kvs) | _ => none)
  | _ => none
def getK (kvs : List (PV × PV)) (b : PV) (st : St) : R PV := if keyOk b then (match kget kvs b with
  | some (some v) => .ok v st
  | _ => .stuck 110) else .stuck 110
def getV (a b : PV) (st : St) : R PV := match dctV st a with
  | some (_, _, kvs) => getK kvs b st
  | none => getS a b st
/-- d[k] of a dict alone -/
def getDV (a b : PV) (st : St) : R PV := match dctV st a with
  | some (_, _, kvs) => getK kvs b st
  | none => .stuck 113
def inK (neg : Bool) (kvs : List (PV × PV)) (b : PV) (st : St) : R PV := if keyOk b then (match kget kvs b with
  | some o => .ok (.bl (if neg then !o.isSome else o.isSome)) st
  | none => .stuck 111) else .stuck 111
def inV (neg : Bool) (a b : PV) (st : St) : R PV := match dctV st b with
  | some (_, _, kvs) => inK neg kvs a st
  | none => okB (inD a b st) neg st 31
def putK' (x w : Nat) (kvs : List (PV × PV)) (b v : PV) (st : St) : R PV := if keyOk b then (match kput kvs b v with
  | some kvs' => if okLen kvs' then .ok .non (st.set x (.dct (w + 1) kvs')) else .stuck 112
  | none => .stuck 112) else .stuck 112
def setV (a b v : PV) (st : St) : R PV := match dctV st a with
  | some (x, w, kvs) => putK' x w kvs b v st
  | none => setLV a b v st
section
variable {X : Cx} {T : Tb} {k : Nat} {r : Ev}
theorem dctV_ok {K : PySem.W.Frag} {ρ : Nat → Addr} {st : St} {H : Hp} {a : PV} {V : L2.V} {x w : Nat} {kvs : List (PV × PV)} (R : Rep T K ρ st.n H a V) (h : dctV st a = some (x, w, kvs)) : st.get x = some (.dct w kvs) ∧ V = .ref (ρ x) := by
  cases R with
  | @ref y hy =>
    cases g : st.get y with
    | none => simp only [dctV, g] at h; cases h
    | some c =>
      cases c with
      | dct w' kvs' => simp only [dctV, g] at h; cases h; exact ⟨g, rfl⟩
      | _ => simp only [dctV, g] at h; cases h
  | _ => cases h
theorem ix_getV (hr : Room k X.A) (hT : TbX T X) : IxR X (r2 T X.K getV) := by
  intro vl sl pins s σ H x y v u Q I rx ry ⟨ρ, st, a, b, S, ra, rb, w, st', e, kk⟩ hs
  unfold getV at e
  cases g : dctV st a with
  | none =>
    rw [g] at e
    exact ix_getS vl sl pins s σ H x y v u Q I rx ry ⟨ρ, st, a, b, S, ra, rb, w, st', e, kk⟩ hs
  | some p =>
    obtain ⟨z, ver, kvs⟩ := p
    rw [g] at e
    obtain ⟨g2, rfl⟩ := dctV_ok ra g
    cases rx
    have e : getK kvs b st = .ok w st' := e
    unfold getK at e
    by_cases hk : keyOk b = true
    · rw [if_pos hk] at e
      cases g3 : kget kvs b with
      | none => rw [g3] at e; cases e
      | some oo =>
        cases oo with
        | none => rw [g3] at e; cases e
        | some q =>
          rw [g3] at e
          cases e
          obtain ⟨o, h1, h2, h3, h4, h5⟩ := dct_at hT I S g2
          have hty : s.TypeIs (.ref (ρ z)) "dict" := by
            rcases h5 with ⟨vs, _, es, ep, hx, _⟩ | ⟨xs, _, es, ep, hx, _⟩
            · exact ⟨o, h2, hx.1⟩
            · exact ⟨o, h2, hx.1⟩
          exact tail_any hty PySem.F.slot_dict_getitem.lookup (d_get hr hT I S g2 rb ry hk g3 fun V rv => kk ρ V H (.refl S) S rv) hs
    · rw [if_neg hk] at e; cases e
theorem op_inV (hr : Room k X.A) (hT : TbX T X) : OpR X (compareOp .In) (r2 T X.K (inV false)) := by
  intro pins s σ H x y v u Q I rx ry ⟨ρ, st, a, b, S, ra, rb, w, st', e, kk⟩
  unfold inV at e
  cases g : dctV st b with
  | none =>
    rw [g] at e
    exact op_inP hr pins s σ H x y v u Q I rx ry ⟨ρ, st, a, b, S, ra, rb, w, st', e, kk⟩
  | some p =>
    obtain ⟨z, ver, kvs⟩ := p
    rw [g] at e
    obtain ⟨g2, rfl⟩ := dctV_ok rb g
    cases ry
    have e : inK false kvs a st = .ok w st' := e
    unfold inK at e
    by_cases hk : keyOk a = true
    · rw [if_pos hk] at e
      cases g3 : kget kvs a with
      | none => rw [g3] at e; cases e
      | some oo =>
        rw [g3] at e
        cases e
        exact d_in' hr hT I S g2 ra rx hk g3 (kk ρ _ H (.refl S) S (.bl _))
    · rw [if_neg hk] at e; cases e
theorem op_notInV (hr : Room k X.A) (hT : TbX T X) : OpR X (compareOp .NotIn) (r2 T X.K (inV true)) := by
  intro pins s σ H x y v u Q I rx ry ⟨ρ, st, a, b, S, ra, rb, w, st', e, kk⟩
  unfold inV at e
  cases g : dctV st b with
  | none =>
    rw [g] at e
    exact op_ninP hr pins s σ H x y v u Q I rx ry ⟨ρ, st, a, b, S, ra, rb, w, st', e, kk⟩
  | some p =>
    obtain ⟨z, ver, kvs⟩ := p
    rw [g] at e
    obtain ⟨g2, rfl⟩ := dctV_ok rb g
    cases ry
    have e : inK true kvs a st = .ok w st' := e
    unfold inK at e
    by_cases hk : keyOk a = true
    · rw [if_pos hk] at e
      cases g3 : kget kvs a with
      | none => rw [g3] at e; cases e
      | some oo =>
        rw [g3] at e
        cases e
        exact d_notIn' hr hT I S g2 ra rx hk g3 (kk ρ _ H (.refl S) S (.bl _))
    · rw [if_neg hk] at e; cases e
theorem set_V (hr : Room k X.A) (hT : TbX T X) : PSet X (rSet T X.K setV) := by
  intro pins s σ H o i v ov iv u Q I ro ri rv ⟨ρ, st, a, b, c, S, ra, rb, rc, z, st', e, kk⟩
  unfold setV at e
  cases g : dctV st a with
  | none =>
    rw [g] at e
    exact set_lst pins s σ H o i v ov iv u Q I ro ri rv ⟨ρ, st, a, b, c, S, ra, rb, rc, z, st', e, kk⟩
  | some p =>
    obtain ⟨y, ver, kvs⟩ := p
    rw [g] at e
    obtain ⟨g2, rfl⟩ := dctV_ok ra g
    cases ro
    have e : putK' y ver kvs b c st = .ok z st' := e
    unfold putK' at e
    by_cases hk : keyOk b = true
    · rw [if_pos hk] at e
      cases g3 : kput kvs b c with
      | none => rw [g3] at e; cases e
      | some kvs' =>
        rw [g3] at e
        have e : (if okLen kvs' = true then R.ok PV.non (st.set y (.dct (ver + 1) kvs')) else .stuck 112) = .ok z st' := e
        by_cases hz : okLen kvs' = true
        · rw [if_pos hz] at e
          cases e
          exact d_put hr hT I S g2 rb ri rc rv hk g3 (okLen_iff.mp hz) fun H' S' N' => kk ρ H' N' S'
        · rw [if_neg hz] at e; cases e
    · rw [if_neg hk] at e; cases e
theorem get_V (hr : Room k X.A) (hT : TbX T X) : PGet X (r2 T X.K getDV) := by
  intro pins s σ H x y v u Q I rx ry ⟨ρ, st, a, b, S, ra, rb, w, st', e, kk⟩
  unfold getDV at e
  cases g : dctV st a with
  | none => rw [g] at e; cases e
  | some p =>
    obtain ⟨z, ver, kvs⟩ := p
    rw [g] at e
    obtain ⟨g2, rfl⟩ := dctV_ok ra g
    cases rx
    have e : getK kvs b st = .ok w st' := e
    unfold getK at e
    by_cases hk : keyOk b = true
    · rw [if_pos hk] at e
      cases g3 : kget kvs b with
      | none => rw [g3] at e; cases e
      | some oo =>
        cases oo with
        | none => rw [g3] at e; cases e
        | some q =>
          rw [g3] at e
          cases e
          exact d_get hr hT I S g2 rb ry hk g3 fun V rv => kk ρ V H (.refl S) S rv
    · rw [if_neg hk] at e; cases e
def e_sub (x y : Y.X) : Y.X := fun r fr st => (x r fr st).bind fun a st => (y r fr st).bind fun b st => getV a b st
variable {pos : Pos} {a b : Expr} {x y : Y.X}
theorem sE_sub (hr : Room k X.A) (hT : TbX T X) (ha : PE X a (tE T X.K r x)) (hb : PE X b (tE T X.K r y)) (hs : PlainIx b := by intro _ _; rfl) : PE X (.Subscript a b pos) (tE T X.K r (e_sub x y)) :=
  PE.imp (pe_ix (ix_getV hr hT) ha hb hs) (i_cmp (fun _ _ _ z => z) (fun _ _ _ z => z) fun _ _ _ _ z => z)
end
end Y
end
section
set_option linter.all false
set_option maxRecDepth 100000
set_option maxHeartbeats 4000000
/-! Y21: in, len of dicts; dict methods. -/
namespace Y
open PySem PySem.Spec L2 PyProof.Rows
/-! ### in -/
def e_in (neg : Bool) (x y : Y.X) : Y.X := fun r fr st => (x r fr st).bind fun a st => (y r fr st).bind fun b st => inV neg a b st
def b_in (neg : Bool) (x y : Y.X) : XB := fun r fr st => (e_in neg x y r fr st).bind isBl
def inM : Bool → CmpOp
  | false => .In
  | true => .NotIn
section
variable {X : Cx} {T : Tb} {k : Nat} {r : Ev} {pos : Pos} {a b : Expr} {x y : Y.X}
theorem op_inM (hr : Room k X.A) (hT : TbX T X) : ∀ neg : Bool, OpR X (compareOp (inM neg)) (r2 T X.K (inV neg))
  | false => op_inV hr hT
  | true => op_notInV hr hT
theorem sE_in (neg : Bool) (hr : Room k X.A) (hT : TbX T X) (ha : PE X a (tE T X.K r x)) (hb : PE X b (tE T X.K r y)) (hm : behindInMarks (inM neg) b = false) : PE X (.Compare a [inM neg] [b] pos) (tE T X.K r (e_in neg x y)) :=
  PE.imp (pe_cmpR (op_inM hr hT neg) ha hb hm) (i_cmp (fun _ _ _ z => z) (fun _ _ _ z => z) fun _ _ _ _ z => z)
theorem sT_in (neg : Bool) (hr : Room k X.A) (hT : TbX T X) (ha : PE X a (tE T X.K r x)) (hb : PE X b (tE T X.K r y)) (hm : behindInMarks (inM neg) b = false) : PT X (.Compare a [inM neg] [b] pos) (tT T X.K r (b_in neg x y)) :=
  PT.imp (pt_cmpR (op_inM hr hT neg) ha hb hm) fun σ H Q h => tB_of (i_cmp (fun _ _ _ z => z) (fun _ _ _ z => z) (fun _ _ _ _ z => z) σ H) h
end
/-! ### len -/
def lenV (LL : List (Nat × Nat)) (r : Ev) (a : PV) (st : St) : R PV := match dctV st a with
  | some (_, _, kvs) => .ok (.int (len kvs)) st
  | none => len1 LL r a st
def lenB' (LL : List (Nat × Nat)) (r : Ev) (vs : List PV) (st : St) : R PV := on1 (lenV LL r) vs st
theorem cr_lenV {X : Cx} {T : Tb} {k : Nat} {r : Ev} {LL : List (Nat × Nat)} (hr : Room (k + 1) X.A) (hT : TbX T X) (C : LenC X.prog X.w X.K X.mg X.base T k r LL) : CallR X (.builtin "len") (rA T X.K (lenB' LL r)) := by
  intro pins s σ H xs us Q I rv ⟨ρ, st, as, S, R, v, st', e, kk⟩
  obtain ⟨a, ea, e'⟩ := on1_ok e
  subst ea
  clear e
  have e : lenV LL r a st = .ok v st' := e'
  obtain ⟨V, rfl, ra⟩ := R.one
  unfold lenV at e
  cases g : dctV st a with
  | none =>
    rw [g] at e
    exact cr_len hr C pins s σ H _ us Q I rv ⟨ρ, st, [a], S, .cons ra .nil, v, st', e, kk⟩
  | some p =>
    obtain ⟨z, ver, kvs⟩ := p
    rw [g] at e
    cases e
    obtain ⟨g2, rfl⟩ := dctV_ok ra g
    obtain ⟨u, rfl, ru⟩ := vals1 rv
    cases ru
    obtain ⟨o, h1, h2, h3, h4, h5⟩ := dct_at hT I S g2
    rw [sizeLine_eq] at h4
    rw [len_eq] at kk
    have q := kk ρ _ H (.refl S) S (.int _)
    rcases h5 with ⟨vs, e, r⟩ | ⟨vs, e, r⟩
    · refine call_len_dict h3 (r.dictOf h2) (by rw [← e.length]; omega) ?_
      rw [← e.length]
      exact ⟨.int (kvs.length : Nat), H, I.tok _, ⟨_, rfl⟩, q⟩
    · refine call_len_dictH h3 (r.dictOf hT I e h2) (by rw [← e.length]; omega) ?_
      rw [← e.length]
      exact ⟨.int (kvs.length : Nat), H, I.tok _, ⟨_, rfl⟩, q⟩
/-! ### a method of a built-in type, the type told by a word of one's own -/
def TyG (X : Cx) (T : String) (C : V → Hp → Prop) : Prop := ∀ (pins : List (Addr × Obj)) (s : Shared) (σ : L2.St) (H : Hp) (x : V) (v : Value), L2.Inv X pins σ H s → RelV x v → C x H → s.TypeIs v T ∧ ∀ a, v = .ref a → ∃ ob, s.heap.get? a = some ob ∧ ob.dict = none
section
variable {X : Cx} {o e : Expr} {es : List Expr} {to : TE} {t : TA} {name : Str} {apos cpos : Pos} {TT id : String} {rr : V → List V → Hp → VK → Prop} {C : V → Hp → Prop}
theorem pe_bmG (hC : TyG X TT C) (pa : PlainAttrs TT) (slot : Slot TT name id) (hty : typeOf (.builtin id) = pure (.type "method_descriptor")) (hm : MtR X id rr) (ho : PE X o to) (ha : PA X (e :: es) t)
    (hbase : attributeBase o name X.env (eval o X.env) = eval o X.env := by rfl)
    (hfew : ((backTo cpos (starEach (e :: es) X.env)).all (fun x => !x.1) && (backToKw cpos (keywordEach [] X.env)).all (fun x => x.1.isSome)
      && decide ((e :: es).length + ([] : List Keyword).length + (if ([] : List Keyword).isEmpty then 0 else 1) < 30)) = true := by rfl)
    (hline : (apos.endLine == cpos.line) = true := by rfl) (hs : starEach (e :: es) X.env = (false, eval e X.env) :: starEach es X.env := by rfl) (hplain : (backTo cpos (starEach es X.env)).any (·.1) = false := by rfl) :
    PE X (.Call (.Attribute o name apos) (e :: es) [] cpos) (fun σ H Q => to σ H fun x H1 => C x H1 ∧ t σ H1 fun xs H2 => rr x xs H2 Q) := by
  refine ⟨fun pins s σ H Q I h => ?_⟩
  refine wpAny_Call_method_late hbase hfew hline rfl (thn (ho.run pins s σ H _ I h) fun v s1 ⟨x, H1, I1, r1, ty, q1⟩ => ?_)
  obtain ⟨h1, h2⟩ := hC pins s1 σ H1 x v I1 r1 ty
  refine ⟨TT, id, pa, slot, hty, h1, h2, ?_⟩
  have hA := ha.run cpos pins s1 σ H1 _ I1 q1
  rw [hs] at hA ⊢
  refine Calls.callWith_builtin (by show (false || (backTo cpos (starEach es X.env)).any (·.1)) = false; rw [hplain] <;> rfl) (Calls.evalArgs_plain ?_)
  exact thn hA fun us s2 ⟨vs, H2, I2, r2, q2⟩ => hm pins s2 σ H2 x vs v us Q I2 r1 r2 q2
end
def isDctAt (x : V) (H : Hp) : Prop := ∃ p o es ep, x = .ref p ∧ H p = some (theO p o) ∧ Obj.ExactDict o ∧ o.data = .dict es ep
theorem ty_dict {X : Cx} : TyG X "dict" isDctAt := by
  intro pins s σ H x v I rx ⟨p, o, es, ep, e, h, hx, hd⟩
  subst e
  cases rx
  obtain ⟨q, _, _⟩ : ObjOk X.prog X.w H s.heap p (theO p o) := I.hok _ _ h
  exact ⟨⟨o, q, hx.1⟩, fun a z => by cases z; exact ⟨o, q, hx.2.1⟩⟩
/-- v.m(..), v a dict -/
def e_dm (g : PV → List PV → St → R PV) (x : Y.X) (a : XA) : Y.X := fun r fr st => (x r fr st).bind fun v st => match dctV st v with
  | some _ => (a r fr st).bind fun vs st => g v vs st
  | none => .stuck 114
def getOr (kvs : List (PV × PV)) (k d : PV) (st : St) : R PV := if keyOk k then (match kget kvs k with
  | some (some v) => .ok v st
  | some none => .ok d st
  | none => .stuck 115) else .stuck 115
def m_get (a : PV) (vs : List PV) (st : St) : R PV := match dctV st a with
  | some (_, _, kvs) => (match vs with
    | [k] => getOr kvs k .non st
    | [k, d] => getOr kvs k d st
    | _ => .stuck 115)
  | none => .stuck 115
def setDef (x w : Nat) (kvs : List (PV × PV)) (k d : PV) (st : St) : R PV := if keyOk k then (match kget kvs k with
  | some (some v) => .ok v st
  | some none => (match kput kvs k d with
    | some kvs' => if okLen kvs' then .ok d (st.set x (.dct (w + 1) kvs')) else .stuck 116
    | none => .stuck 116)
  | none => .stuck 116) else .stuck 116
def m_setdefault (a : PV) (vs : List PV) (st : St) : R PV := match dctV st a with
  | some (x, w, kvs) => (match vs with
    | [k, d] => setDef x w kvs k d st
    | _ => .stuck 116)
  | none => .stuck 116
section
variable {X : Cx} {T : Tb} {k : Nat} {r : Ev} {o e : Expr} {es : List Expr} {name : Str} {apos cpos : Pos} {id : String} {g : PV → List PV → St → R PV} {x : Y.X} {a : XA}
theorem dctAt_of {K : PySem.W.Frag} {ρ : Nat → Addr} {st : St} {H : Hp} {v : PV} {V : L2.V} {q : Nat × Nat × List (PV × PV)} (S : StRep T K ρ st H) (R : Rep T K ρ st.n H v V) (h : dctV st v = some q) : isDctAt V H := by
  obtain ⟨x, w, kvs⟩ := q
  obtain ⟨g, rfl⟩ := dctV_ok R h
  obtain ⟨_, o, h1, _, _, ⟨vs, _, es, ep, hx, hd, _⟩ | ⟨vs, _, es, ep, hx, hd, _⟩⟩ := S.cell x _ g
  · exact ⟨_, o, es, ep, rfl, h1, hx, hd⟩
  · exact ⟨_, o, es, ep, rfl, h1, hx, hd⟩
theorem sE_dm (slot : Slot "dict" name id) (hty : typeOf (.builtin id) = pure (.type "method_descriptor")) (hm : MtR X id (rM T X.K g)) (ho : PE X o (tE T X.K r x)) (ha : PA X (e :: es) (tA T X.K r a))
    (hbase : attributeBase o name X.env (eval o X.env) = eval o X.env := by rfl)
    (hfew : ((backTo cpos (starEach (e :: es) X.env)).all (fun x => !x.1) && (backToKw cpos (keywordEach [] X.env)).all (fun x => x.1.isSome)
      && decide ((e :: es).length + ([] : List Keyword).length + (if ([] : List Keyword).isEmpty then 0 else 1) < 30)) = true := by rfl)
    (hline : (apos.endLine == cpos.line) = true := by rfl) (hs : starEach (e :: es) X.env = (false, eval e X.env) :: starEach es X.env := by rfl) (hplain : (backTo cpos (starEach es X.env)).any (·.1) = false := by rfl) :
    PE X (.Call (.Attribute o name apos) (e :: es) [] cpos) (tE T X.K r (e_dm g x a)) :=
  PE.imp (pe_bmG ty_dict PySem.F.plainAttrs_dict slot hty hm ho ha hbase hfew hline hs hplain) fun σ H Q ⟨ρ, fr, st, F, S, v, st', e0, kk⟩ => by
    obtain ⟨v1, s1, e1, g1⟩ := bind_ok e0
    cases hl : dctV s1 v1 with
    | none => rw [hl] at g1; cases g1
    | some q =>
      rw [hl] at g1
      obtain ⟨vs, s2, e2, e3⟩ := bind_ok g1
      refine ⟨ρ, fr, st, F, S, v1, s1, e1, fun ρ1 V1 H1 N1 S1 R1 => ⟨dctAt_of S1 R1 hl, ρ1, fr, s1, F.stay N1.stay, S1, vs, s2, e2, fun ρ2 V2 H2 N2 S2 R2 => ?_⟩⟩
      exact ⟨ρ2, s2, v1, vs, S2, R1.stay N2.stay, R2, v, st', e3, fun ρ3 V3 H3 N3 S3 R3 => kk ρ3 V3 H3 ((N1.trans N2).trans N3) S3 R3⟩
theorem getOr_ok {kvs : List (PV × PV)} {x d v : PV} {st st' : St} (h : getOr kvs x d st = .ok v st') : keyOk x = true ∧ st' = st ∧ ∃ oo, kget kvs x = some oo ∧ v = oo.getD d := by
  unfold getOr at h
  by_cases hk : keyOk x = true
  · rw [if_pos hk] at h
    cases g : kget kvs x with
    | none => rw [g] at h; cases h
    | some oo =>
      rw [g] at h
      cases oo with
      | none => cases h; exact ⟨hk, rfl, _, rfl, rfl⟩
      | some q => cases h; exact ⟨hk, rfl, _, rfl, rfl⟩
  · rw [if_neg hk] at h; cases h
theorem mt_getP (hr : Room k X.A) (hT : TbX T X) : MtR X "dict.get" (rM T X.K m_get) := by
  intro pins s σ H x xs v us Q I rx rv ⟨ρ, st, a, as, S, ra, rs, w, st', e, kk⟩
  unfold m_get at e
  cases g : dctV st a with
  | none => rw [g] at e; cases e
  | some p =>
    obtain ⟨y, ver, kvs⟩ := p
    rw [g] at e
    obtain ⟨g2, rfl⟩ := dctV_ok ra g
    cases rx
    cases rs with
    | nil => cases e
    | cons r1 t1 =>
      rename_i key Vk _ _
      cases rv with
      | cons q1 u1 =>
        rename_i uk _
        cases t1 with
        | nil =>
          cases u1
          obtain ⟨hk, rfl, oo, hg, rfl⟩ := getOr_ok e
          obtain ⟨o, h1, h2, h3, h4, ⟨vs, κ, en, r, hκ, his⟩ | ⟨ys, κ, b, en, r, hκ, rfl, rfl, his⟩⟩ := dct_for hT I S g2 r1 q1 hk hg
          · have dd := r.dictOf h2
            refine call_meetsIn PySem.F.slot_dict_get dd.typeIs PySem.F.entry_dict_get (PySem.F.args_dict_get_2 _ _) (meets_dict_get (mixKind X.prog X.w) _ his h3) ⟨_, dd.mapOf, ?_⟩
            rcases en.get hκ hg with ⟨rfl, hv⟩ | ⟨v', W, u, rfl, hv, rv', rw_⟩
            · rw [hv]; exact ⟨.non, H, I.tok _, rfl, kk ρ _ H (.refl S) S .non⟩
            · rw [hv]; exact ⟨W, H, I.tok _, rw_, kk ρ W H (.refl S) S rv'⟩
          · have dd := r.dictOf hT I en h2
            refine call_meetsIn PySem.F.slot_dict_get dd.typeIs PySem.F.entry_dict_get (PySem.F.args_dict_get_2 _ _) (meetsH_dict_get (nestedKind X.prog X.w) _ b h3) ⟨room_nest hr, κ, ys, his, dd, ?_⟩
            rcases en.get hκ hg with ⟨rfl, hv⟩ | ⟨v', W, b', u, rfl, hv, rv', rw_⟩
            · rw [hv]; exact ⟨.non, H, I.tok _, rfl, kk ρ _ H (.refl S) S .non⟩
            · rw [hv]; exact ⟨W, H, I.tok _, rw_, kk ρ W H (.refl S) S rv'⟩
        | cons r2 t2 =>
          rename_i dflt Vd _ _
          cases u1 with
          | cons q2 u2 =>
            cases t2 with
            | cons _ _ => cases e
            | nil =>
              cases u2
              obtain ⟨hk, rfl, oo, hg, rfl⟩ := getOr_ok e
              obtain ⟨o, h1, h2, h3, h4, ⟨vs, κ, en, r, hκ, his⟩ | ⟨ys, κ, b, en, r, hκ, rfl, rfl, his⟩⟩ := dct_for hT I S g2 r1 q1 hk hg
              · have dd := r.dictOf h2
                refine call_meetsIn PySem.F.slot_dict_get dd.typeIs PySem.F.entry_dict_get (PySem.F.args_dict_get_3 _ _ _) (meets_dict_get_default (mixKind X.prog X.w) _ his h3 _) ⟨_, dd.mapOf, ?_⟩
                rcases en.get hκ hg with ⟨rfl, hv⟩ | ⟨v', W, u, rfl, hv, rv', rw_⟩
                · rw [hv]; exact ⟨Vd, H, I.tok _, q2, kk ρ _ H (.refl S) S r2⟩
                · rw [hv]; exact ⟨W, H, I.tok _, rw_, kk ρ W H (.refl S) S rv'⟩
              · have dd := r.dictOf hT I en h2
                refine call_meetsIn PySem.F.slot_dict_get dd.typeIs PySem.F.entry_dict_get (PySem.F.args_dict_get_3 _ _ _) (meetsH_dict_get_default (nestedKind X.prog X.w) _ b h3 _) ⟨room_nest hr, κ, ys, his, dd, ?_⟩
                rcases en.get hκ hg with ⟨rfl, hv⟩ | ⟨v', W, b', u, rfl, hv, rv', rw_⟩
                · rw [hv]; exact ⟨Vd, H, I.tok _, q2, kk ρ _ H (.refl S) S r2⟩
                · rw [hv]; exact ⟨W, H, I.tok _, rw_, kk ρ W H (.refl S) S rv'⟩
end
end Y
end
section
set_option linter.all false
set_option maxRecDepth 100000
set_option maxHeartbeats 4000000
/-! Y22: walks over dicts. -/
namespace Y
open PySem PySem.Spec L2 PyProof.Rows
/-- the dict o at d walked: the things ks -/
def ItR (d : Addr) (o : Obj) (ks : List L2.V) : It :=
  ⟨fun i H => H d = some (theO d o) ∧ i < ks.length, fun i H x H' => H' = H ∧ ks[i]? = some x, fun i H => H d = some (theO d o) ∧ ks.length ≤ i⟩
theorem raw_of {X : Cx} {pins : List (Addr × Obj)} {σ : L2.St} {H : Hp} {s : Shared} {d : Addr} {o : Obj} (I : L2.Inv X pins σ H s) (h : H d = some (theO d o)) : s.heap.get? d = some o := by
  obtain ⟨q, _, _⟩ : ObjOk X.prog X.w H s.heap d (theO d o) := I.hok _ _ h
  exact q
section
variable {P : Program} {w : World} {K : PySem.W.Frag} {tg : Expr} {d : Addr} {o : Obj} {es : Array DictEntry} {ep : Nat} {ks : List L2.V}
theorem turn_keysR (it : Addr) (hx : o.ExactDict) (hod : o.data = .dict es ep) (hk : Vals ks (es.toList.map (·.key))) : Turn P w K tg (ItR d o ks) [it] it (fun i h => h.IsKeyIter it d i es.size ep) where
  mem := by simp
  obj := fun i h st b hb => by
    have e : b = it := by simpa using hb
    subst e
    obtain ⟨oi, e, c, dd⟩ := st
    exact ⟨oi, e, fun v z => by rw [dd] at z; cases z⟩
  keep := fun i h h' st k => st.at fun oi e => k it (by simp) oi e
  item := by
    intro X hP hw hK hc i pins s σ H E I hf st hg
    subst hP hw hK
    obtain ⟨hd, hi⟩ := hg
    obtain ⟨f0, f1, f2, f3, f4, f5⟩ := hf it (by simp)
    have hl : ks.length = es.size := by rw [hk.length, List.length_map, Array.length_toList]
    have hlt : i < es.size := by omega
    refine wpAny_pyNext_keys_item_raw st ⟨o, raw_of I hd, hx, hod⟩ hlt fun h' st' sb => ?_
    have I1 : L2.Inv X pins σ H { s with heap := h' } := I.turned (t' := s.toks) (fun b ob hb e => (sb.2 b hb).trans e) f0 f1 f3 f4 f5
    obtain ⟨oi, e, c, dd⟩ := id st'
    obtain ⟨u, hu, ru⟩ := hk.get (List.getElem?_eq_getElem hi)
    have hu' : u = es[i].key := by
      rw [List.getElem?_map, Array.getElem?_toList, Array.getElem?_eq_getElem hlt] at hu
      simpa using hu.symm
    subst hu'
    exact ⟨_, rfl, go_of (s := { s with heap := h' }) e c dd (by decide) ⟨ks[i], H, I1, ru, ⟨rfl, List.getElem?_eq_getElem hi⟩, st', fun b hb => (hf b hb).1⟩⟩
  done := by
    intro X hP hw hK hc i pins s σ H E I hf st hg
    subst hP hw hK
    obtain ⟨hd, hi⟩ := hg
    obtain ⟨f0, f1, f2, f3, f4, f5⟩ := hf it (by simp)
    have hl : ks.length = es.size := by rw [hk.length, List.length_map, Array.length_toList]
    exact wpAny_pyNext_keys_end_raw (I.ok.hd hc) st ⟨o, raw_of I hd, hx, hod⟩ (by omega) fun h' eb => ⟨rfl, I.turned (t' := s.toks) (fun b ob hb e => eb b ob hb e) f0 f1 f3 f4 f5⟩
  self := fun A i s Q E st h => wpAny_pyIter_keyiter st h
theorem turn_valsR (it : Addr) (hx : o.ExactDict) (hod : o.data = .dict es ep) (hk : Vals ks (es.toList.map (·.val))) : Turn P w K tg (ItR d o ks) [it] it (fun i h => h.IsValIter it d i es.size ep) where
  mem := by simp
  obj := fun i h st b hb => by
    have e : b = it := by simpa using hb
    subst e
    obtain ⟨oi, e, c, dd⟩ := st
    exact ⟨oi, e, fun v z => by rw [dd] at z; cases z⟩
  keep := fun i h h' st k => st.at fun oi e => k it (by simp) oi e
  item := by
    intro X hP hw hK hc i pins s σ H E I hf st hg
    subst hP hw hK
    obtain ⟨hd, hi⟩ := hg
    obtain ⟨f0, f1, f2, f3, f4, f5⟩ := hf it (by simp)
    have hl : ks.length = es.size := by rw [hk.length, List.length_map, Array.length_toList]
    have hlt : i < es.size := by omega
    refine wpAny_pyNext_values_item_raw st ⟨o, raw_of I hd, hx, hod⟩ hlt fun h' st' sb => ?_
    have I1 : L2.Inv X pins σ H { s with heap := h' } := I.turned (t' := s.toks) (fun b ob hb e => (sb.2 b hb).trans e) f0 f1 f3 f4 f5
    obtain ⟨oi, e, c, dd⟩ := id st'
    obtain ⟨u, hu, ru⟩ := hk.get (List.getElem?_eq_getElem hi)
    have hu' : u = es[i].val := by
      rw [List.getElem?_map, Array.getElem?_toList, Array.getElem?_eq_getElem hlt] at hu
      simpa using hu.symm
    subst hu'
    exact ⟨_, rfl, go_of (s := { s with heap := h' }) e c dd (by decide) ⟨ks[i], H, I1, ru, ⟨rfl, List.getElem?_eq_getElem hi⟩, st', fun b hb => (hf b hb).1⟩⟩
  done := by
    intro X hP hw hK hc i pins s σ H E I hf st hg
    subst hP hw hK
    obtain ⟨hd, hi⟩ := hg
    obtain ⟨f0, f1, f2, f3, f4, f5⟩ := hf it (by simp)
    have hl : ks.length = es.size := by rw [hk.length, List.length_map, Array.length_toList]
    exact wpAny_pyNext_values_end_raw (I.ok.hd hc) st ⟨o, raw_of I hd, hx, hod⟩ (by omega) fun h' eb => ⟨rfl, I.turned (t' := s.toks) (fun b ob hb e => eb b ob hb e) f0 f1 f3 f4 f5⟩
  self := fun A i s Q E st h => wpAny_pyIter_valiter st h
end
/-! ### the entries as values -/
def fstL : List (PV × PV) → List PV
  | [] => []
  | (k, _) :: r => k :: fstL r
def sndL : List (PV × PV) → List PV
  | [] => []
  | (_, v) :: r => v :: sndL r
section
variable {T : Tb} {K : PySem.W.Frag} {ρ : Nat → Addr} {n : Nat} {H : Hp} {P : Program} {w : World}
theorem ents_A : ∀ {kvs : List (PV × PV)} {vs : List (Key × Value)} {es : List DictEntry}, EnA T K ρ n H kvs vs → Pairs (mixKind P w) es vs →
    ∃ ks ws, Vals ks (es.map (·.key)) ∧ Vals ws (es.map (·.val)) ∧ Reps T K ρ n H (fstL kvs) ks ∧ Reps T K ρ n H (sndL kvs) ws
  | _, _, _, .nil, .nil => ⟨[], [], .nil, .nil, .nil, .nil⟩
  | _, _, _, .cons (k := k) (W := W) (κ := κ) hk hv hu t, .cons h1 h2 tp => by
    obtain ⟨ks, ws, a, b, c, d⟩ := ents_A t tp
    have rk : RelV (kV κ) _ := keyIs_rel h1
    have rr : Rep T K ρ n H k (kV κ) := by
      cases k with
      | int i => cases hk; exact .int i
      | str i => cases hk; exact .str i
      | _ => cases hk
    exact ⟨kV κ :: ks, W :: ws, .cons rk a, .cons (show RelV W _ by dsimp only; rw [h2]; exact hu) b, .cons rr c, .cons hv d⟩
theorem ents_B : ∀ {kvs : List (PV × PV)} {xs : List (NestedKey × Addr × Value)} {es : List DictEntry}, EnB T K ρ n H kvs xs → es = xs.map (entryOfKey (nestedKind P w)) →
    ∃ ks ws, Vals ks (es.map (·.key)) ∧ Vals ws (es.map (·.val)) ∧ Reps T K ρ n H (fstL kvs) ks ∧ Reps T K ρ n H (sndL kvs) ws
  | _, _, _, .nil, e => by subst e; exact ⟨[], [], .nil, .nil, .nil, .nil⟩
  | _, _, _, .cons (k := k) (W := W) (κ := κ) (b := b) hk hb hv hu t, e => by
    subst e
    obtain ⟨ks, ws, a, c, d, e⟩ := ents_B t rfl
    exact ⟨.ref b :: ks, W :: ws, .cons rfl a, .cons hu c, .cons hb d, .cons hv e⟩
end
section
variable {X : Cx} {T : Tb} {ρ1 : Nat → Addr} {st1 : St} {H1 : Hp}
/-- what a dict's walk rests on -/
theorem dct_walk (hT : TbX T X) {pins : List (Addr × Obj)} {σ : L2.St} {s : Shared} (I : L2.Inv X pins σ H1 s) (S : StRep T X.K ρ1 st1 H1) {a w : Nat} {kvs : List (PV × PV)} (g : st1.get a = some (.dct w kvs)) :
    ∃ o es ep ks ws, H1 (ρ1 a) = some (theO (ρ1 a) o) ∧ s.heap.get? (ρ1 a) = some o ∧ o.ExactDict ∧ o.data = .dict es ep ∧ (ρ1 a == sysModules) = false ∧ Vals ks (es.toList.map (·.key)) ∧ Vals ws (es.toList.map (·.val)) ∧ Reps T X.K ρ1 st1.n H1 (fstL kvs) ks ∧ Reps T X.K ρ1 st1.n H1 (sndL kvs) ws := by
  obtain ⟨o, h1, h2, h3, h4, ⟨vs, e, es, ep, r1, r2, r3, r4, r5⟩ | ⟨xs, e, es, ep, r1, r2, r3, r4⟩⟩ := dct_at hT I S g
  · obtain ⟨ks, ws, q⟩ := ents_A e r4
    exact ⟨o, es, ep, ks, ws, h1, h2, r1, r2, h3, q⟩
  · obtain ⟨ks, ws, q⟩ := ents_B e r3
    exact ⟨o, es, ep, ks, ws, h1, h2, r1, r2, h3, q⟩
theorem Nxt.dctStill {ρ : Nat → Addr} {st : St} {H : Hp} {a w : Nat} {kvs : List (PV × PV)} {u : HO} {gd : Gd} (N : Nxt ρ1 st1 H1 ρ st H) (g : st1.get a = some (.dct w kvs)) (ha : a < st1.n) (h : H1 (ρ1 a) = some u) (hm : (a, w) ∈ gd) (hg : gdOk gd st = true) : H (ρ1 a) = some u := by
  rw [N.same a ha (verOk_eq (v := w) (by rw [g]; exact Nat.beq_refl _) (gdOk_mem hg _ hm) (N.ver a ha))]
  exact h
theorem wk_R {K : PySem.W.Frag} {a w : Nat} {kvs : List (PV × PV)} {o : Obj} {items : List PV} {ks : List L2.V} (g : st1.get a = some (.dct w kvs)) (ha : a < st1.n) (h : H1 (ρ1 a) = some (theO (ρ1 a) o)) (t : Reps T K ρ1 st1.n H1 items ks) : Wk T K (ItR (ρ1 a) o ks) items [(a, w)] ρ1 st1 H1 where
  goes := fun i ρ st H N S hg hi => ⟨N.dctStill g ha h (List.mem_singleton.mpr rfl) hg, by rw [← t.length]; exact hi⟩
  stops := fun ρ st H N S hg => ⟨N.dctStill g ha h (List.mem_singleton.mpr rfl) hg, by rw [t.length]; exact Nat.le_refl _⟩
  yields := fun i x H' ρ st H N S hg hi hz => by
    obtain ⟨rfl, hz⟩ := hz
    obtain ⟨V, e1, rv⟩ := (t.stay N.stay).get (List.getElem?_eq_getElem hi)
    rw [hz] at e1
    cases e1
    exact ⟨S, .refl S, _, List.getElem?_eq_getElem hi, rv⟩
end
/-! ### the walks as expressions -/
def keysI (a : PV) (st : St) : R (List PV × Gd) := match dctV st a with
  | some (x, w, kvs) => .ok (fstL kvs, [(x, w)]) st
  | none => .stuck 117
def valsI (a : PV) (st : St) : R (List PV × Gd) := match dctV st a with
  | some (x, w, kvs) => .ok (sndL kvs, [(x, w)]) st
  | none => .stuck 117
/-- any value that is walked: sequences, the keys of dicts -/
def anyI (a : PV) (st : St) : R (List PV × Gd) := match dctV st a with
  | some (x, w, kvs) => .ok (fstL kvs, [(x, w)]) st
  | none => itemsI st a
def i_any (x : Y.X) : XI := fun r fr st => (x r fr st).bind fun v st => anyI v st
def i_vals (x : Y.X) : XI := fun r fr st => (x r fr st).bind fun v st => valsI v st
section
variable {X : Cx} {T : Tb} {k : Nat} {r : Ev} {apos cpos : Pos} {tg e : Expr} {x : Y.X}
theorem sI_any (hT : TbX T X) (he : PE X e (tE T X.K r x)) : PI X tg e (tI T X.K r (i_any x)) := by
  refine ⟨fun pins s σ H R I ⟨ρ, fr, st, F, S, items, gd, st2, e0, kk⟩ => ?_⟩
  obtain ⟨v1, s1, e1, e2⟩ := bind_ok e0
  unfold anyI at e2
  cases g : dctV s1 v1 with
  | none =>
    rw [g] at e2
    have hst := itemsI_st e2
    subst hst
    exact thn (he.run pins s σ H (fun V H1 => ∃ ρ1, StRep T X.K ρ1 st2 H1 ∧ Nxt ρ st H ρ1 st2 H1 ∧ Rep T X.K ρ1 st2.n H1 v1 V) I ⟨ρ, fr, st, F, S, v1, _, e1, fun ρ1 V1 H1 N1 S1 R1 => ⟨ρ1, S1, N1, R1⟩⟩) fun u t1 ⟨V, H1, I1, rV, ρ1, S1, N1, R1⟩ => pyIter_val I1 rV S1 R1 e2 fun _ J wk => kk ρ1 H1 N1 S1 J wk
  | some q =>
    obtain ⟨y, w, kvs⟩ := q
    rw [g] at e2
    cases e2
    refine thn (he.run pins s σ H (fun V H1 => ∃ ρ1, StRep T X.K ρ1 st2 H1 ∧ Nxt ρ st H ρ1 st2 H1 ∧ Rep T X.K ρ1 st2.n H1 v1 V) I ⟨ρ, fr, st, F, S, v1, _, e1, fun ρ1 V1 H1 N1 S1 R1 => ⟨ρ1, S1, N1, R1⟩⟩) fun u t1 ⟨V, H1, I1, rV, ρ1, S1, N1, R1⟩ => ?_
    obtain ⟨g2, rfl⟩ := dctV_ok R1 g
    obtain rfl : u = Value.ref (ρ1 y) := rV
    obtain ⟨o, es, ep, ks, ws, h1, h2, h3, h4, h5, h6, h7, h8, h9⟩ := dct_walk hT I1 S1 g2
    exact iter_keys h5 h2 h3 h4 (pi_one (tk := t1.toks) I1 _ (turn_keysR _ h3 h4 h6) ⟨_, Heap.get?_push_size _ rfl, rfl, rfl⟩ (kk ρ1 H1 N1 S1 _ (wk_R g2 (S1.cell y _ g2).1 h1 h8)))
end
end Y
end
section
set_option linter.all false
set_option maxRecDepth 100000
set_option maxHeartbeats 4000000
/-! Y23: dict displays. -/
namespace Y
open PySem PySem.Spec L2 PyProof.Rows
section
variable {prog : Program} {w : World} {K : Type} [DecidableEq K] {knd : HeapKind prog w K} {A : Around} {E : Value → Shared → Prop} {s : Shared}
theorem dict_pairsH {env : Env} {keys : List (Option Expr)} {values : List Expr} {pos : Pos} {pairs : List (Sem Value × Sem Value)} {Q : Value → Shared → Prop} (hu : knd.room A)
    (hshape : (evalEachOpt keys env).zip ((evalEach values env).map fun v => do let x ← v; standAt pos; pure x) = pairs.map fun p => (some p.1, p.2)) (h0 : pairs ≠ []) (hlen : pairs.length ≤ 15)
    (h : wpAny (model prog w) A (evalPairs pairs) (fun vs s₁ => ∃ ps, CarriesH knd s₁.heap vs ps ∧ s₁.heap.DictOfH knd s.heap.objs.size [] ∧
      ∀ h' tk, h'.DictOfH knd s.heap.objs.size (storedAllH [] ps) → Heap.SameBut s.heap.objs.size s₁.heap h' → Q (.ref s.heap.objs.size) { s₁ with heap := h', toks := tk }) E
      { s with heap := s.heap.push { cls := .type "dict", data := .dict #[] } }) :
    wpAny (model prog w) A (eval (.Dict keys values pos) env) Q E s := by
  rw [arm_eval_Dict, hshape, dictDisplay_pairs pairs h0 (by omega)]
  exact wpAny_bind (wpAny_standAt (wpAny_bind (wpAny_subDictH (knd := knd) (Q := fun d s' => wpAny (model prog w) A (pure (Value.ref d)) Q E s') hu hlen
    (wpAny_mono h (fun vs s₁ h₁ => by obtain ⟨ps, hc, hm, hq⟩ := h₁; exact ⟨ps, hc, hm, fun h' tk a b => wpAny_pure (hq h' tk a b)⟩) fun _ _ e => e))))
end
theorem vv_one {Vk Vv : L2.V} {ws : List (Value × Value)} (h : VV [(Vk, Vv)] ws) : ∃ uk uv, ws = [(uk, uv)] ∧ RelV Vk uk ∧ RelV Vv uv := by
  cases h with
  | @cons _ b _ _ h t =>
    cases t
    exact ⟨b.1, b.2, rfl, h.1, h.2⟩
def emptyO : Obj := { cls := .type "dict", data := .dict #[] }
theorem empty_A {P : Program} {w : World} : RawA P w emptyO [] := ⟨#[], 0, ⟨rfl, rfl, rfl⟩, rfl, fun e he => by simp at he, .nil, List.nodup_nil⟩
theorem empty_B {P : Program} {w : World} : RawB P w emptyO [] := ⟨#[], 0, ⟨rfl, rfl, rfl⟩, rfl, rfl, List.nodup_nil⟩
def e_dct0 : Y.X := fun _ _ st => newC (.dct 0 []) st
def e_dct1 (x y : Y.X) : Y.X := fun r fr st => (x r fr st).bind fun k st => (y r fr st).bind fun v st => if keyOk k then newC (.dct 0 [(k, v)]) st else .stuck 118
section
variable {X : Cx} {T : Tb} {k : Nat} {r : Ev} {pos : Pos} {a b : Expr} {x y : Y.X}
theorem sys_ne {pins : List (Addr × Obj)} {σ : L2.St} {H : Hp} {s : Shared} (I : L2.Inv X pins σ H s) : (s.heap.objs.size == sysModules) = false := beq_eq_false_iff_ne.mpr (Ne.symm (Nat.ne_of_lt I.big))
theorem sE_dct0 (hT : TbX T X) : PE X (.Dict [] [] pos) (tE T X.K r e_dct0) := by
  refine ⟨fun pins s σ H Q I ⟨ρ, fr, st, F, S, v, st', e0, kk⟩ => ?_⟩
  cases e0
  have hn := I.hok.fresh (Nat.le_refl s.heap.objs.size)
  refine wpAny_Dict_empty ⟨.ref s.heap.objs.size, _, I.laid (a := s.heap.objs.size) (o := theO s.heap.objs.size emptyO) (t' := s.toks) (fun _ _ q => Heap.get?_push_of_some _ q) (Nat.le_refl _) (theO_ok (Heap.get?_push_size _ rfl)), rfl, ?_⟩
  refine kk (ρput ρ st.n s.heap.objs.size) _ _ (.grow S hn) (S.grow hn ⟨emptyO, upd_same, sys_ne I, Nat.zero_le _, .inl ⟨[], .nil, empty_A⟩⟩) ?_
  have q : Rep T X.K (ρput ρ st.n s.heap.objs.size) (st.n + 1) (upd H s.heap.objs.size (theO s.heap.objs.size emptyO)) (.ref st.n) (.ref (ρput ρ st.n s.heap.objs.size st.n)) := .ref (Nat.lt_succ_self _)
  rw [ρput_at] at q
  exact q
/-- the end of a display: the dict that was made beside the store becomes a cell -/
theorem dct_adopt (hT : TbX T X) {ρ ρ2 : Nat → Addr} {st st2 : St} {H H2 : Hp} {D : Addr} {kvs : List (PV × PV)} {o' : Obj} (N : Nxt ρ st H ρ2 st2 H2) (S2 : StRep T X.K ρ2 st2 H2) (hD : H D = none) (hD2 : ∀ c, c < st2.n → D ≠ ρ2 c) {o0 : HO} (h2 : H2 D = some o0) (hf : fixO o0 = false) (hs : (D == sysModules) = false) (hz : kvs.length ≤ sizeLine)
    (en : (∃ vs, EnA T X.K ρ2 st2.n H2 kvs vs ∧ RawA X.prog X.w o' vs) ∨ (∃ xs, EnB T X.K ρ2 st2.n H2 kvs xs ∧ RawB X.prog X.w o' xs)) :
    ∃ ρ3, Nxt ρ st H ρ3 (st2.new (.dct 0 kvs)) (upd H2 D (theO D o')) ∧ StRep T X.K ρ3 (st2.new (.dct 0 kvs)) (upd H2 D (theO D o')) ∧ Rep T X.K ρ3 (st2.n + 1) (upd H2 D (theO D o')) (.ref st2.n) (.ref D) := by
  have y : Stay X.K ρ2 st2.n H2 ρ2 st2.n (upd H2 D (theO D o')) := .write h2 hf
  have S3 : StRep T X.K ρ2 st2 (upd H2 D (theO D o')) := S2.aside h2 hf hD2
  have N3 : Nxt ρ st H ρ2 st2 (upd H2 D (theO D o')) := N.aside hD hD2
  refine ⟨ρput ρ2 st2.n D, N3.adopt S3 hD, S3.adopt hD2 ⟨o', upd_same, hs, hz, ?_⟩, ?_⟩
  · rw [hT.P, hT.w]
    rcases en with ⟨vs, e, r⟩ | ⟨xs, e, r⟩
    · exact .inl ⟨vs, (e.stay y).stay .put, r⟩
    · exact .inr ⟨xs, (e.stay y).stay .put, r⟩
  · have q : Rep T X.K (ρput ρ2 st2.n D) (st2.n + 1) (upd H2 D (theO D o')) (.ref st2.n) (.ref (ρput ρ2 st2.n D st2.n)) := .ref (Nat.lt_succ_self _)
    rw [ρput_at] at q
    exact q
theorem sE_dct1 (hr : Room k X.A) (hT : TbX T X) (ha : PE X a (tE T X.K r x)) (hb : PE X b (tE T X.K r y)) : PE X (.Dict [some a] [b] pos) (tE T X.K r (e_dct1 x y)) := by
  refine ⟨fun pins s σ H Q I ⟨ρ, fr, st, F, S, v, st', e0, kk⟩ => ?_⟩
  obtain ⟨kv, s1, e1, g1⟩ := bind_ok e0
  obtain ⟨vv, s2, e2, g2⟩ := bind_ok g1
  by_cases hk : keyOk kv = true
  · rw [if_pos hk] at g2
    cases g2
    have hn := I.hok.fresh (Nat.le_refl s.heap.objs.size)
    have hsys := sys_ne I
    generalize hD : s.heap.objs.size = D at hn hsys
    have I1 : L2.Inv X pins σ (upd H D (theO D emptyO)) { s with heap := s.heap.push emptyO } := I.laid (a := D) (o := theO D emptyO) (h' := s.heap.push emptyO) (t' := s.toks) (fun _ _ q => Heap.get?_push_of_some _ q) (Nat.le_of_eq hD) (theO_ok (by rw [← hD]; exact Heap.get?_push_size _ rfl))
    have S1 : StRep T X.K ρ st (upd H D (theO D emptyO)) := S.laid hn
    have N1 : Nxt ρ st H ρ st (upd H D (theO D emptyO)) := .laid S hn
    have hD1 : ∀ c, c < st.n → D ≠ ρ c := S.here hn
    have pairs := (pps_cons (pos := pos) ha hb (pps_nil (X := X))).run pins _ σ _ (fun ps H2 => ∃ ρ2 Vk Vv, ps = [(Vk, Vv)] ∧ StRep T X.K ρ2 s2 H2 ∧ Nxt ρ st H ρ2 s2 H2 ∧ (∀ c, c < s2.n → D ≠ ρ2 c) ∧ H2 D = some (theO D emptyO) ∧ Rep T X.K ρ2 s2.n H2 kv Vk ∧ Rep T X.K ρ2 s2.n H2 vv Vv) I1
      ⟨ρ, fr, st, F.stay N1.stay, S1, kv, s1, e1, fun ρ1 V1 H1 N2 S2 R1 => ⟨ρ1, fr, s1, (F.stay N1.stay).stay N2.stay, S2, vv, s2, e2, fun ρ2 V2 H2 N3 S3 R2 => by
        have h1 := N2.keep D _ upd_same hD1
        have d1 := N2.apart upd_same hD1
        exact ⟨ρ2, V1, V2, rfl, S3, (N1.trans N2).trans N3, N3.apart h1 d1, N3.keep D _ h1 d1, R1.stay N3.stay, R2⟩⟩⟩
    rcases keyOk_or hk with ⟨κ, hκ⟩ | ⟨κ, hκ⟩
    · refine wpAny_Dict_walk (knd := mixKind X.prog X.w) rfl rfl (by simp) (by simp) (thn pairs fun ws t2 ⟨ps, H2, I2, rel, ρ2, Vk, Vv, e, S2, N2, hD2, h2, rk, rv⟩ => ?_)
      subst e
      obtain ⟨uk, uv, rfl, ruk, ruv⟩ := vv_one rel
      · have his : (mixKind X.prog X.w).is κ uk = true := by
          cases rk with
          | int i => cases hκ; obtain ⟨t, rfl⟩ := ruk; exact keyIs_int i t
          | str i => cases hκ; obtain ⟨t, rfl⟩ := ruk; exact keyIs_str i t
          | _ => cases hκ
        rw [hD]
        refine ⟨[(κ, uv)], ⟨his, rfl, trivial⟩, empty_A.dictOf (raw_of I2 h2), fun h' dd' hs => ?_⟩
        obtain ⟨o', es, ep, p1, p2, p3, p4, p5, p6⟩ := dd'
        obtain ⟨ρ3, N3, S3, R3⟩ := dct_adopt hT (o' := o') (kvs := [(kv, vv)]) N2 S2 hn hD2 h2 rfl hsys (by rw [sizeLine_eq]; simp) (.inl ⟨[(κ, uv)], .cons hκ rv ruv .nil, es, ep, p2, p3, p4, p5, p6⟩)
        exact ⟨.ref D, _, d_write I2 (by rw [h2]; exact True.intro) hs ⟨o', p1⟩ (theO_ok p1), rfl, kk ρ3 _ _ N3 S3 R3⟩
    · refine dict_pairsH (knd := nestedKind X.prog X.w) (pairs := pairTrees [some a] [b] X.env pos) (by have := hr.un; show X.A.units + 8 < cLine; omega) (zip_pairTrees [some a] [b] X.env pos rfl rfl) (by intro z; have := pairTrees_length [some a] [b] X.env pos rfl rfl; rw [z] at this; cases this) (by rw [pairTrees_length [some a] [b] X.env pos rfl rfl]; simp) (thn pairs fun ws t2 ⟨ps, H2, I2, rel, ρ2, Vk, Vv, e, S2, N2, hD2, h2, rk, rv⟩ => ?_)
      subst e
      obtain ⟨uk, uv, rfl, ruk, ruv⟩ := vv_one rel
      · cases kv with
        | tup ys =>
          have his := nested_of (T := T) (ρ := ρ2) (n := s2.n) I2 (m := 8) (v := .tup ys) hκ rk ruk
          cases rk with
          | @tup _ p vs hp t =>
            cases ruk
            rw [hD]
            refine ⟨[(κ, p, uv)], ⟨rfl, rfl, his, trivial⟩, empty_B.dictOf hT I2 (.nil (T := T) (ρ := ρ2) (n := s2.n)) (raw_of I2 h2), fun h' tk dd' hs => ?_⟩
            obtain ⟨o', es, ep, p1, p2, p3, p4, p5, p6⟩ := dd'
            have hx : storedAllH [] [(κ, p, uv)] = [(κ, p, uv)] := rfl
            rw [hx] at p4 p6
            obtain ⟨ρ3, N3, S3, R3⟩ := dct_adopt hT (o' := o') (kvs := [(.tup ys, vv)]) N2 S2 hn hD2 h2 rfl hsys (by rw [sizeLine_eq]; simp) (.inr ⟨[(κ, p, uv)], .cons hκ (.tup hp t) rv ruv .nil, es, ep, p2, p3, p4, p6⟩)
            exact ⟨.ref D, _, d_write I2 (by rw [h2]; exact True.intro) hs ⟨o', p1⟩ (theO_ok p1), rfl, kk ρ3 _ _ N3 S3 R3⟩
        | _ => cases hκ
  · rw [if_neg hk] at g2; cases g2
end
end Y
end
section
set_option linter.all false
set_option maxRecDepth 100000
set_option maxHeartbeats 4000000
/-! Y24: isinstance. -/
namespace Y
open PySem PySem.Spec L2 PyProof.Rows
def tyO (L : List Nat) (o : Option Cell) : Option Nat := match o with
  | some (.lst _ _) => some 3
  | some (.ins c _) => if memN c L then some (100 + c) else none
  | _ => none
def tyCode (L : List Nat) (st : St) (v : PV) : Option Nat := match v with
  | .int _ => some 0
  | .bl _ => some 1
  | .str _ => some 2
  | .tup _ => some 4
  | .cl _ => some 3
  | .non => some 6
  | .ref a => tyO L (st.get a)
  | _ => none
def tyVal (T : Tb) (c : Nat) : Value := if c < 6 then .type (tyName c) else if c < 100 then .type "NoneType" else .ref (T.ca (c - 100))
/-- the class c as a value -/
def tyV' (T : Tb) (c : Nat) : L2.V := if c < 6 then .ty (tyName c) else .ref (T.ca (c - 100))
def isiAny (f : Nat → Nat → Option Bool) (t : Nat) : List Nat → Option Bool
  | [] => some false
  | c :: r => match f t c with
    | some true => some true
    | some false => isiAny f t r
    | none => none
def isiV (f : Nat → Nat → Option Bool) (L : List Nat) (cs : List Nat) (v : PV) (st : St) : R PV := match tyCode L st v with
  | some t => (match isiAny f t cs with
    | some b => .ok (.bl b) st
    | none => .stuck 120)
  | none => .stuck 120
def e_isi (f : Nat → Nat → Option Bool) (L : List Nat) (cs : List Nat) (x : Y.X) : Y.X := fun r fr st => (x r fr st).bind fun v st => isiV f L cs v st
structure IsiC (K : PySem.W.Frag) (T : Tb) (f : Nat → Nat → Option Bool) (L : List Nat) : Prop where
  rel : ∀ a b c, f a b = some c → PySem.W.kitOne K (tyVal T a) (tyVal T b) = some c
  own : ∀ c ∈ L, C8.InsC K (T.ca c)
section
variable {T : Tb} {K : PySem.W.Frag} {ρ : Nat → Addr} {st : St} {H : Hp} {f : Nat → Nat → Option Bool} {L : List Nat}
theorem tyCode_ok (C : IsiC K T f L) (S : StRep T K ρ st H) {v : PV} {V : L2.V} {t : Nat} (R : Rep T K ρ st.n H v V) (h : tyCode L st v = some t) : TyX K H V (tyVal T t) := by
  cases R with
  | non => cases h; exact .base .non
  | bl b => cases h; exact .base (.bl b)
  | int i => cases h; exact .base (.int i)
  | str i => cases h; exact .base (.str i)
  | @tup xs p vs hp tt =>
    cases h
    rcases hp with (hp | ⟨o, hp⟩) | ⟨o, its, n, h1, h2, _⟩
    · exact .base (.tup hp)
    · exact .fTuple hp
    · exact .kTuple h1 h2
  | @cl xs p vs hp tt =>
    cases h
    rcases hp with ⟨o, hp⟩ | (hp | ⟨o, hp⟩) | ⟨o, its, n, h1, h2, _⟩
    · exact .base (.frz hp)
    · cases hp
    · cases hp
    · exact .kList h1 h2
  | @ref a ha =>
    have h : tyO L (st.get a) = some t := h
    cases g : st.get a with
    | none => rw [g] at h; cases h
    | some c =>
      rw [g] at h
      cases c with
      | lst w xs =>
        cases h
        obtain ⟨_, vs, hp, _⟩ := lst_at S g
        exact .base (.lst hp)
      | dct w kvs => cases h
      | ins c fs =>
        have h : (if memN c L = true then some (100 + c) else none) = some t := h
        by_cases hm : memN c L = true
        · rw [if_pos hm] at h
          cases h
          obtain ⟨_, dx, gs, hp, _⟩ := S.cell a _ g
          have q := C.own c (memN_mem hm)
          have e : tyVal T (100 + c) = .ref (T.ca c) := by
            unfold tyVal
            rw [if_neg (by omega), if_neg (by omega), Nat.add_sub_cancel_left]
          rw [e]
          exact .base (.ins hp q.cl q.ha q.hn q.htk q.hm)
        · rw [if_neg hm] at h; cases h
  | _ => cases h
theorem isiAny_ok (C : IsiC K T f L) {t : Nat} : ∀ {cs : List Nat} {b : Bool}, isiAny f t cs = some b → PySem.W.kitAny K (tyVal T t) (cs.map (tyVal T)) = some b
  | [], b, h => by cases h; exact kitAny_nil
  | c :: r, b, h => by
    unfold isiAny at h
    cases g : f t c with
    | none => rw [g] at h; cases h
    | some d =>
      rw [g] at h
      rw [List.map_cons]
      refine kitAny_cons (C.rel t c d g) (fun e => ?_) fun e => ?_
      · subst e; exact isiAny_ok C h
      · subst e; cases h; rfl
end
section
variable {X : Cx} {T : Tb} {k : Nat} {r : Ev} {pos p ppos : Pos} {a c : Expr} {es : List Expr} {x : Y.X} {f : Nat → Nat → Option Bool} {L : List Nat}
theorem isiV_ok {cs : List Nat} {v w : PV} {st st' : St} (h : isiV f L cs v st = .ok w st') : ∃ t b, tyCode L st v = some t ∧ isiAny f t cs = some b ∧ w = .bl b ∧ st' = st := by
  unfold isiV at h
  cases g : tyCode L st v with
  | none => rw [g] at h; cases h
  | some t =>
    rw [g] at h
    cases g2 : isiAny f t cs with
    | none => simp only [g2] at h; cases h
    | some b => simp only [g2] at h; cases h; exact ⟨t, b, rfl, g2, rfl, rfl⟩
/-- isinstance(x, C) -/
theorem sE_isi1 {cc : Nat} (C : IsiC X.K T f L) (hg : Gl X "isinstance") (hm : X.mg "isinstance" = none) (hv : bootBuiltins "isinstance" = some (.builtin "isinstance")) (ha : PE X a (tE T X.K r x)) (hc : PE X c (tC (tyV' T cc))) (hcv : ClsV (tyV' T cc) (tyVal T cc))
    (he : starEach [a, c] X.env = (false, eval a X.env) :: starEach [c] X.env := by rfl) (he2 : starEach [c] X.env = (false, eval c X.env) :: starEach [] X.env := by rfl) (hpl : (backTo pos (starEach [c] X.env)).any (·.1) = false := by rfl) : PE X (.Call (.Name "isinstance" p) [a, c] [] pos) (tE T X.K r (e_isi f L [cc] x)) :=
  PE.imp (pe_callB call_isi hg hm hv (pa_cons ha (pa_cons hc pa_nil he2) he) (by decide) (by decide) he hpl) fun σ H Q ⟨ρ, fr, st, F, S, v, st', e0, kk⟩ => by
    obtain ⟨v1, s1, e1, g1⟩ := bind_ok e0
    obtain ⟨t, b, h1, h2, rfl, rfl⟩ := isiV_ok g1
    refine ⟨ρ, fr, st, F, S, v1, _, e1, fun ρ1 V1 H1 N1 S1 R1 => ?_⟩
    have q := isiAny_ok C h2
    refine ⟨V1, tyV' T cc, tyVal T t, tyVal T cc, b, rfl, hcv, tyCode_ok C S1 R1 h1, ?_, kk ρ1 _ H1 N1 S1 (.bl b)⟩
    rw [List.map_cons, List.map_nil] at q
    unfold PySem.W.kitAny at q
    cases g : PySem.W.kitOne X.K (tyVal T t) (tyVal T cc) with
    | none => rw [g] at q; cases q
    | some d => rw [g] at q; cases d <;> exact q
theorem clsV_all : ∀ {cs : List Nat}, (∀ c ∈ cs, ClsV (tyV' T c) (tyVal T c)) → Paired ClsV (cs.map (tyV' T)) (cs.map (tyVal T))
  | [], _ => .nil
  | c :: r, h => .cons (h c List.mem_cons_self) (clsV_all fun d hd => h d (List.mem_cons_of_mem _ hd))
/-- isinstance(x, (C, D)) -/
theorem sE_isiT {cs : List Nat} {x1 : Nat} (C : IsiC X.K T f L) (hg : Gl X "isinstance") (hm : X.mg "isinstance" = none) (hv : bootBuiltins "isinstance" = some (.builtin "isinstance")) (ha : PE X a (tE T X.K r x)) (hc : PA X es (fun σ H Q => Q (cs.map (tyV' T)) H)) (hcv : ∀ c ∈ cs, ClsV (tyV' T c) (tyVal T c)) (hz : cs.length ≤ sizeLine)
    (he : starEach [a, .Tuple es x1 ppos] X.env = (false, eval a X.env) :: starEach [.Tuple es x1 ppos] X.env := by rfl) (he2 : starEach [.Tuple es x1 ppos] X.env = (false, eval (.Tuple es x1 ppos) X.env) :: starEach [] X.env := by rfl) (hpl : (backTo pos (starEach [.Tuple es x1 ppos] X.env)).any (·.1) = false := by rfl) :
    PE X (.Call (.Name "isinstance" p) [a, .Tuple es x1 ppos] [] pos) (tE T X.K r (e_isi f L cs x)) :=
  PE.imp (pe_callB call_isiT hg hm hv (pa_cons ha (pa_cons (pe_tup hc) pa_nil he2) he) (by decide) (by decide) he hpl) fun σ H Q ⟨ρ, fr, st, F, S, v, st', e0, kk⟩ => by
    obtain ⟨v1, s1, e1, g1⟩ := bind_ok e0
    obtain ⟨t, b, h1, h2, rfl, rfl⟩ := isiV_ok g1
    refine ⟨ρ, fr, st, F, S, v1, _, e1, fun ρ1 V1 H1 N1 S1 R1 => ⟨by rw [List.length_map]; exact hz, fun q hq => ?_⟩⟩
    have S2 := S1.laid (o := .tup (cs.map (tyV' T))) hq
    exact ⟨V1, q, cs.map (tyV' T), tyVal T t, cs.map (tyVal T), b, rfl, upd_same, clsV_all hcv, tyCode_ok C S2 (R1.stay (.new hq)) h1, isiAny_ok C h2, kk ρ1 _ _ (N1.trans (.laid S1 hq)) S2 (.bl b)⟩
end
end Y
end
section
set_option linter.all false
set_option maxRecDepth 100000
set_option maxHeartbeats 4000000
/-! Y25: defs. -/
namespace Y
open PySem PySem.Spec L2 PyProof.Rows
/-- a def: its parameters, whether the last takes the rest, its slots, its defaults, its body -/
structure Df where
  np : Nat
  va : Bool
  ns : Nat
  ds : List PV
  body : XS
def nones : Nat → Fr
  | 0 => []
  | n + 1 => none :: nones n
def frame : List PV → Nat → Fr
  | [], n => nones n
  | a :: r, n => some a :: frame r (n - 1)
def endV (x : RS) : R PV := match x with
  | .next _ st => .ok .non st
  | .ret v st => .ok v st
  | .exc c a _ st => .exc c a st
  | .stuck w => .stuck w
def fillD (np : Nat) (ds as : List PV) : Option (List PV) :=
  if Nat.beq (len as) np then some as
  else if Nat.ble (len as) np && Nat.ble np (len as + len ds) then some (as ++ dropN (len as + len ds - np) ds) else none
def fillR (np : Nat) (as : List PV) : Option (List PV) :=
  if Nat.ble np (len as) && okLen (dropN np as) then some (takeN np as ++ [.tup (dropN np as)]) else none
def fill (d : Df) (as : List PV) : Option (List PV) := match d.va with
  | true => fillR d.np as
  | false => fillD d.np d.ds as
def runD (d : Df) (r : Ev) (as : List PV) (st : St) : R PV := match fill d as with
  | some vs => endV (d.body r (frame vs d.ns) st)
  | none => .stuck 130
def ev (fns : Nat → Option Df) : Nat → Ev
  | 0 => fun _ _ _ => .stuck 131
  | n + 1 => fun f as st => match f with
    | .fn i => (match fns i with
      | some d => runD d (ev fns n) as st
      | none => .stuck 132)
    | _ => .stuck 132
theorem nones_eq : ∀ n, nones n = List.replicate n none
  | 0 => rfl
  | n + 1 => by rw [nones, nones_eq n, List.replicate_succ]
theorem frame_eq : ∀ (as : List PV) (n : Nat), frame as n = as.map some ++ List.replicate (n - as.length) none
  | [], n => by simp [frame, nones_eq]
  | a :: r, n => by
    rw [frame, frame_eq r (n - 1), List.map_cons, List.length_cons, List.cons_append]
    congr 2
    congr 1
    omega
section
variable {T : Tb} {K : PySem.W.Frag} {ρ : Nat → Addr} {n : Nat} {H : Hp}
theorem FrRep.begins {as : List PV} {vs : List L2.V} {N : List Str} (h : Reps T K ρ n H as vs) : FrRep T K ρ n H (frame as N.length) (L2.start N vs) := by
  rw [frame_eq]
  unfold L2.start
  refine ⟨by simp [h.length], fun i v e => ?_⟩
  by_cases hi : i < as.length
  · rw [List.getElem?_append_left (by simpa using hi)] at e
    rw [List.getElem?_map] at e
    cases g : as[i]? with
    | none => rw [g] at e; cases e
    | some a =>
      rw [g] at e
      cases e
      obtain ⟨V, h1, h2⟩ := h.get g
      refine ⟨V, ?_, h2⟩
      rw [List.getElem?_append_left (by simp [← h.length]; exact hi), List.getElem?_map, h1]
      rfl
  · rw [List.getElem?_append_right (by simpa using hi)] at e
    rw [List.getElem?_replicate] at e
    split at e <;> cases e
end
section
variable {P : Program} {w : World} {K : PySem.W.Frag} {mg : Str → Option Value} {base : Heap} {T : Tb} {fns : Nat → Option Df}
/-- what the body does, the parameters given -/
def spB (T : Tb) (K : PySem.W.Frag) (r : Ev) (d : Df) (m : Nat) : Sp := fun vs H Q _ => ∃ ρ st as, StRep T K ρ st H ∧ Reps T K ρ st.n H as vs ∧ as.length = m ∧ Out T K ρ st H (endV (d.body r (frame as d.ns) st)) Q
theorem body_reads {X : Cx} {r : Ev} {d : Df} {body : List Stmt} {m : Nat} {vs : List L2.V} {H : Hp} {Q : VK} {E : XK} (hN : X.N.length = d.ns) (hb : PSs X body (tS T X.K r d.body)) (h : spB T X.K r d m vs H Q E) :
    ∃ t, PSs X body t ∧ t { nx := fun _ H' => Q .non H', rt := Q } (L2.start X.N vs) H := by
  obtain ⟨ρ, st, as, S, R, hl, v, st', e, kk⟩ := h
  refine ⟨_, hb, ρ, frame as d.ns, st, by rw [← hN]; exact .begins R, S, ?_⟩
  cases g : d.body r (frame as d.ns) st with
  | next fr st2 =>
    rw [g] at e
    cases e
    exact fun ρ' σ' H' N' S' F' => kk ρ' .non H' N' S' .non
  | ret v2 st2 =>
    rw [g] at e
    cases e
    exact fun ρ' V H' N' S' R' => kk ρ' V H' N' S' R'
  | exc _ _ _ _ => rw [g] at e; cases e
  | stuck _ => rw [g] at e; cases e
/-- a def with parameters and defaults alone: its promise from its body's -/
theorem def_ok {n i m : Nat} {d : Df} {x qual : Str} {st : Stmt} {fd : FuncData} {N ps : List Str} (hi : fns i = some d) (hva : d.va = false) (F : C8.Fun K x qual st (T.fa i) fd) (kp : PySem.W.keepIn K (.ref (T.fa i)) = true) (isf : PySem.W.isFn K (.ref (T.fa i)) = true) (S : FnScope N ps (C8.fnScope st))
    (hN : N.length = d.ns) (hp : ps.length = d.np)
    (hbind : ∀ j, j ≤ d.ds.length → ∃ us dvs, Binds K fd ps us ∧ Vals dvs us ∧ ∀ ρ n H, Reps T K ρ n H (d.ds.drop j) dvs)
    (hbody : ∀ (cdv : Value) (A : Around) (outer : List Env) (s : Shared) (H : Hp) (E : XK), Room m (A.deeper (envOfC qual (C8.fnScope st) s.heap.objs.size (T.fa i) cdv)) →
      PSs (cxOf C8.CX0 P w K mg base N qual (C8.fnScope st) (T.fa i) cdv A outer s H E).nox (C8.fnBody st) (tS T K (ev fns n) d.body)) :
    EvC P w K mg base T (m + 1) (ev fns (n + 1)) i := by
  have ok : FnOk P w K mg base C8.CX0 (m + 1) (T.fa i) fd ps (spB T K (ev fns n) d d.np) := C8.fn0 F S
    (fun vs H Q E ⟨ρ, st, as, S, R, hl, _⟩ => by rw [← R.length, hl, hp])
    (fun cdv A outer s H vs Q E hr hs => body_reads (X := (cxOf C8.CX0 P w K mg base N qual (C8.fnScope st) (T.fa i) cdv A outer s H E).nox) hN (hbody cdv A outer s H E hr) hs)
  refine ⟨fun A outer s H us vs Q E hr e0 rv hs => ?_, kp, isf⟩
  obtain ⟨ρ, st0, as, S0, R, v, st', e, kk⟩ := hs
  have e : (match fns i with | some d => runD d (ev fns n) as st0 | none => .stuck 132) = Y.R.ok v st' := e
  rw [hi] at e
  have e : (match fill d as with | some vs => endV (d.body (ev fns n) (frame vs d.ns) st0) | none => .stuck 130) = Y.R.ok v st' := e
  unfold fill at e
  rw [hva] at e
  have e : (match fillD d.np d.ds as with | some vs => endV (d.body (ev fns n) (frame vs d.ns) st0) | none => .stuck 130) = Y.R.ok v st' := e
  unfold fillD at e
  by_cases h1 : Nat.beq (len as) d.np = true
  · rw [if_pos h1] at e
    have h1 := Nat.eq_of_beq_eq_true h1
    rw [len_eq] at h1
    obtain ⟨us0, dvs, b1, b2, b3⟩ := hbind d.ds.length (Nat.le_refl _)
    have b4 := b3 ρ st0.n H
    rw [List.drop_length] at b4
    cases b4
    have z := ok.raw b1 b2 A outer s H us vs Q E hr e0 rv
    have z : spB T K (ev fns n) d d.np (vs ++ []) H Q E → _ := z
    rw [List.append_nil] at z
    exact z ⟨ρ, st0, as, S0, R, h1, v, st', e, kk⟩
  · rw [if_neg h1] at e
    by_cases h2 : (Nat.ble (len as) d.np && Nat.ble d.np (len as + len d.ds)) = true
    · rw [if_pos h2] at e
      rw [Bool.and_eq_true, Nat.ble_eq, Nat.ble_eq, len_eq, len_eq] at h2
      rw [dropN_eq, len_eq, len_eq] at e
      obtain ⟨us0, dvs, b1, b2, b3⟩ := hbind (as.length + d.ds.length - d.np) (by omega)
      have z := ok.raw b1 b2 A outer s H us vs Q E hr e0 rv
      exact z ⟨ρ, st0, as ++ d.ds.drop (as.length + d.ds.length - d.np), S0, R.append (b3 ρ st0.n H), by rw [List.length_append, List.length_drop]; omega, v, st', e, kk⟩
    · rw [if_neg h2] at e; cases e
end
end Y
end
section
set_option linter.all false
set_option maxRecDepth 100000
set_option maxHeartbeats 4000000
/-! Y26: the end: a law from its def. -/
namespace Y
open PySem PySem.Spec L2 PyProof.Rows
theorem stRep_nil {T : Tb} {K : PySem.W.Frag} {ρ : Nat → Addr} {H : Hp} : StRep T K ρ ⟨0, .nil⟩ H :=
  ⟨fun a c e => (by have e : (none : Option Cell) = some c := e; cases e), fun a h => absurd h (Nat.not_lt_zero a), fun a b h => absurd h (Nat.not_lt_zero a)⟩
theorem reps_ints {T : Tb} {K : PySem.W.Frag} {ρ : Nat → Addr} {n : Nat} {H : Hp} : ∀ ns : List Int, Reps T K ρ n H (ns.map PV.int) (ns.map L2.V.int)
  | [] => .nil
  | i :: r => .cons (.int i) (reps_ints r)
/-- the law's promise is kept where the plain law holds -/
theorem law_sp {T : Tb} {K : PySem.W.Frag} {r : Ev} {d : Df} {H : Hp} {a : Addr} {ns : List Int} {E : XK} (h : SqC K H a (ns.map L2.V.int)) {st' : St} (e : endV (d.body r (frame [.cl (ns.map PV.int)] d.ns) ⟨0, .nil⟩) = .ok (.bl true) st') :
    spB T K r d 1 [.ref a] H (fun v _ => v = .bl true) E :=
  ⟨fun _ => 0, ⟨0, .nil⟩, [.cl (ns.map PV.int)], stRep_nil, .cons (.cl h (reps_ints ns)) .nil, rfl, .bl true, st', e, fun ρ' V H' N S R => by cases R; rfl⟩
theorem sqC_only {K : PySem.W.Frag} {H : Hp} {a : Addr} {vs : List L2.V} (o : Only H) (h : SqL K H a vs) : SqC K H a vs := by
  rcases h with (h | ⟨x, h⟩) | h
  · rcases o a with e | ⟨_, _, e⟩
    · rw [h] at e; cases e
    · rw [h] at e; cases e
  · exact .inl ⟨x, h⟩
  · exact .inr (.inr h)
end Y
end
section
set_option linter.all false
set_option maxRecDepth 100000
set_option maxHeartbeats 4000000
/-! Y27: defs by the head's facts. -/
namespace Y
open PySem PySem.Spec L2 PyProof.Rows
section
variable {P : Program} {w : World} {K : PySem.W.Frag} {mg : Str → Option Value} {base : Heap} {T : Tb} {fns : Nat → Option Df}
/-- the context of a def's body -/
abbrev cxD (P : Program) (w : World) (K : PySem.W.Frag) (mg : Str → Option Value) (base : Heap) (N : List Str) (qual : Str) (scope : Scope) (f : Addr) (cdv : Value) (A : Around) (outer : List Env) (s : Shared) (H : Hp) (E : XK) : Cx := (cxOf C8.CX0 P w K mg base N qual scope f cdv A outer s H E).nox
/-- what a def's body does -/
def BodyR (P : Program) (w : World) (K : PySem.W.Frag) (mg : Str → Option Value) (base : Heap) (T : Tb) (m : Nat) (r : Ev) (N : List Str) (qual : Str) (scope : Scope) (f : Addr) (body : List Stmt) (x : XS) : Prop :=
  ∀ (cdv : Value) (A : Around) (outer : List Env) (s : Shared) (H : Hp) (E : XK), Room m (A.deeper (envOfC qual scope s.heap.objs.size f cdv)) →
    PSs (cxD P w K mg base N qual scope f cdv A outer s H E) body (tS T K r x)
theorem def_okF {n i m : Nat} {d : Df} {x qual : Str} {params : Arguments} {body : List Stmt} {scope : Scope} {dvs0 : List L2.V} {kws : List (Str × L2.V)} {fd : FuncData} {N ps : List Str} (hi : fns i = some d) (F : FunD K x qual params body scope dvs0 kws (T.fa i) fd) (S : FnScope N ps scope)
    (hN : N.length = d.ns) (hp : ps.length = d.np) (hb : BodyR P w K mg base T m (ev fns n) N qual scope (T.fa i) body d.body) : FnOk P w K mg base C8.CX0 (m + 1) (T.fa i) fd ps (spB T K (ev fns n) d d.np) := F.ok S
    (fun vs H Q E ⟨ρ, st, as, S, R, hl, _⟩ => by rw [← R.length, hl, hp])
    (fun cdv A outer s H vs Q E hr hs => by
      obtain ⟨t, q1, q2⟩ := body_reads (X := cxD P w K mg base N qual scope (T.fa i) cdv A outer s H E) hN (hb cdv A outer s H E hr) hs
      exact ⟨t, q1.nox, q2⟩)
/-- a def without defaults -/
theorem def_ok0 {n i m : Nat} {d : Df} {x qual : Str} {params : Arguments} {body : List Stmt} {scope : Scope} {dvs0 : List L2.V} {kws : List (Str × L2.V)} {fd : FuncData} {N ps : List Str} (hi : fns i = some d) (hva : d.va = false) (hds : d.ds = []) (F : FunD K x qual params body scope dvs0 kws (T.fa i) fd) (isf : PySem.W.isFn K (.ref (T.fa i)) = true) (S : FnScope N ps scope)
    (hN : N.length = d.ns) (hp : ps.length = d.np) (hbind : Binds K fd ps []) (hb : BodyR P w K mg base T m (ev fns n) N qual scope (T.fa i) body d.body) : EvC P w K mg base T (m + 1) (ev fns (n + 1)) i := by
  have ok := def_okF hi F S hN hp hb
  refine ⟨fun A outer s H us vs Q E hr e0 rv hs => ?_, F.kp, isf⟩
  obtain ⟨ρ, st0, as, S0, R, v, st', e, kk⟩ := hs
  have e : (match fns i with | some d => runD d (ev fns n) as st0 | none => .stuck 132) = Y.R.ok v st' := e
  rw [hi] at e
  have e : (match fill d as with | some vs => endV (d.body (ev fns n) (frame vs d.ns) st0) | none => .stuck 130) = Y.R.ok v st' := e
  unfold fill at e
  rw [hva] at e
  have e : (match fillD d.np d.ds as with | some vs => endV (d.body (ev fns n) (frame vs d.ns) st0) | none => .stuck 130) = Y.R.ok v st' := e
  rw [hds] at e
  unfold fillD at e
  have z := ok.raw hbind .nil A outer s H us vs Q E hr e0 rv
  have z : spB T K (ev fns n) d d.np (vs ++ []) H Q E → _ := z
  rw [List.append_nil] at z
  by_cases h1 : Nat.beq (len as) d.np = true
  · rw [if_pos h1] at e
    have h1 := Nat.eq_of_beq_eq_true h1
    rw [len_eq] at h1
    exact z ⟨ρ, st0, as, S0, R, h1, v, st', e, kk⟩
  · rw [if_neg h1] at e
    by_cases h2 : (Nat.ble (len as) d.np && Nat.ble d.np (len as + len ([] : List PV))) = true
    · rw [if_pos h2] at e
      rw [Bool.and_eq_true, Nat.ble_eq, Nat.ble_eq] at h2
      have : len as = d.np := Nat.le_antisymm h2.1 h2.2
      exact absurd (by rw [this]; exact Nat.beq_refl _) h1
    · rw [if_neg h2] at e; cases e
end
end Y
end
section
set_option linter.all false
set_option maxRecDepth 100000
set_option maxHeartbeats 4000000
/-! Y28: small words for the printer. -/
namespace Y
open PySem PySem.Spec L2 PyProof.Rows
def visB (sc : Scope) (x : Str) : Bool := match sc.names.lookup x with
  | some .local => true
  | some .cell => true
  | some .free => true
  | _ => false
theorem vis {sc : Scope} {x : Str} (h : visB sc x = true) : Vis sc x := by
  unfold visB at h
  unfold Vis
  split at h
  · rename_i e; exact .inl e
  · rename_i e; exact .inr (.inl e)
  · rename_i e; exact .inr (.inr e)
  · cases h
def locB (sc : Scope) (x : Str) : Bool := match sc.names.lookup x with
  | some .local => true
  | some .cell => true
  | _ => false
theorem loc {sc : Scope} {x : Str} (h : locB sc x = true) : L2.Loc sc x := by
  unfold locB at h
  unfold L2.Loc
  split at h
  · rename_i e; exact .inl e
  · rename_i e; exact .inr e
  · cases h
section
variable {X : Cx} {T : Tb} {r : Ev} {pos : Pos} {x : Str} {a : Expr} {c : Y.X}
theorem sE_gint {i : Int} (h : ∃ t, X.mg x = some (.int i t)) (hg : Gl X x := by rfl) (hd : (x == ("__debug__" : Str)) = false := by decide) : PE X (.Name x pos) (tE T X.K r (e_cst (.int i))) := by
  obtain ⟨t, h⟩ := h
  exact sE_cst (pe_glob (v := .int i) hg h ⟨t, rfl⟩ hd) fun _ _ _ => .int i
def negV (a : PV) (st : St) : R PV := match a with
  | .int i => .ok (.int (-i)) st
  | _ => .stuck 140
def e_neg (x : Y.X) : Y.X := fun r fr st => (x r fr st).bind fun v st => negV v st
theorem sE_neg (he : PE X a (tE T X.K r c)) : PE X (.UnaryOp .USub a pos) (tE T X.K r (e_neg c)) := PE.imp (pe_un un_neg he) fun σ H Q ⟨ρ, fr, st, F, S, v, st', e0, kk⟩ => by
  obtain ⟨v1, s1, e1, g1⟩ := bind_ok e0
  refine ⟨ρ, fr, st, F, S, v1, s1, e1, fun ρ1 V1 H1 N1 S1 R1 => ?_⟩
  cases R1 with
  | int i => cases g1; exact ⟨i, rfl, kk ρ1 _ H1 N1 S1 (.int _)⟩
  | _ => cases g1
end
theorem clsV_c {T : Tb} {c : Nat} (h : (Nat.blt c 6 || Nat.ble 100 c) = true) : ClsV (tyV' T c) (tyVal T c) := by
  unfold tyV' tyVal
  by_cases h6 : c < 6
  · rw [if_pos h6, if_pos h6]; exact .ty _
  · rw [Bool.or_eq_true, Nat.ble_eq] at h
    have h1 : 100 ≤ c := by
      rcases h with h | h
      · have h := h; simp [Nat.blt] at h; omega
      · exact h
    rw [if_neg h6, if_neg h6, if_neg (by omega)]; exact .own _
theorem clsV_l {T : Tb} {cs : List Nat} (h : ∀ c ∈ cs, (Nat.blt c 6 || Nat.ble 100 c) = true) : ∀ c ∈ cs, ClsV (tyV' T c) (tyVal T c) := fun c hc => clsV_c (h c hc)
end Y
end
section
set_option linter.all false
set_option maxRecDepth 100000
set_option maxHeartbeats 4000000
/-! Y29: d.values(). -/
namespace Y
open PySem PySem.Spec L2 PyProof.Rows
section
variable {X : Cx} {T : Tb} {k : Nat} {r : Ev} {apos cpos : Pos} {tg e : Expr} {x : Y.X}
theorem sI_vals (hT : TbX T X) (he : PE X e (tE T X.K r x)) (hbase : attributeBase e "values" X.env (eval e X.env) = eval e X.env := by rfl) (hline : (apos.endLine == cpos.line) = true := by rfl) :
    PI X tg (.Call (.Attribute e "values" apos) [] [] cpos) (tI T X.K r (i_vals x)) := by
  refine ⟨fun pins s σ H R I ⟨ρ, fr, st, F, S, items, gd, st2, e0, kk⟩ => ?_⟩
  obtain ⟨v1, s1, e1, e2⟩ := bind_ok e0
  unfold valsI at e2
  cases g : dctV s1 v1 with
  | none => rw [g] at e2; cases e2
  | some q =>
    obtain ⟨y, w, kvs⟩ := q
    rw [g] at e2
    cases e2
    refine wpAny_Call_method (T := "dict") (id := "dict.values") hbase rfl hline PySem.F.plainAttrs_dict PySem.F.slot_dict_values PySem.F.type_dict_values (thn (he.run pins s σ H (fun V H1 => ∃ ρ1, StRep T X.K ρ1 st2 H1 ∧ Nxt ρ st H ρ1 st2 H1 ∧ Rep T X.K ρ1 st2.n H1 v1 V) I ⟨ρ, fr, st, F, S, v1, _, e1, fun ρ1 V1 H1 N1 S1 R1 => ⟨ρ1, S1, N1, R1⟩⟩) fun u t1 ⟨V, H1, I1, rV, ρ1, S1, N1, R1⟩ => ?_)
    obtain ⟨g2, rfl⟩ := dctV_ok R1 g
    obtain rfl : u = Value.ref (ρ1 y) := rV
    obtain ⟨o, es, ep, ks, ws, h1, h2, h3, h4, h5, h6, h7, h8, h9⟩ := dct_walk hT I1 S1 g2
    have hr : t1.heap.DictRaw (ρ1 y) es ep := ⟨o, h2, h3, h4⟩
    refine ⟨⟨o, h2, h3.1⟩, fun b z => by cases z; exact ⟨o, h2, h3.2.1⟩, ?_⟩
    have I2 : L2.Inv X pins σ H1 { t1 with heap := t1.heap.push { cls := .type "dict_values", data := .fields #[.ref (ρ1 y)] } } := I1.kept (t' := t1.toks) fun b ob q => Heap.get?_push_of_some _ q
    have fin : wpAny (model X.prog X.w) X.A (pyIter (.ref t1.heap.objs.size)) (PIE X pins σ tg R) X.xe { t1 with heap := t1.heap.push { cls := .type "dict_values", data := .fields #[.ref (ρ1 y)] } } :=
      wpAny_pyIter_values_raw (d := ρ1 y) ⟨_, Heap.get?_push_size _ rfl, rfl, rfl⟩ (hr.at fun o e => Heap.get?_push_of_some _ e) (pi_one (tk := t1.toks) I2 _ (turn_valsR _ h3 h4 h7) ⟨_, Heap.get?_push_size _ rfl, rfl, rfl⟩ (kk ρ1 H1 N1 S1 _ (wk_R g2 (S1.cell y _ g2).1 h1 h9)))
    show wpAny _ _ (callWith cpos (.builtin "dict.values") [.ref (ρ1 y)] [] []) _ X.xe t1
    exact method_meetsIn PySem.F.slot_dict_values PySem.F.entry_dict_values rfl (PySem.evalArgs_none ⟨rfl, hr.typeIs, PySem.F.args_dict_values_1 _, _, meets_dict_values_raw (ρ1 y) h5, ⟨⟨es, ep, hr⟩, fin⟩⟩)
end
end Y
end
section
set_option linter.all false
set_option maxRecDepth 100000
set_option maxHeartbeats 4000000
/-! Y30: list(range(..)). -/
namespace Y
open PySem PySem.Spec L2 PyProof.Rows
theorem reps_upTo {T : Tb} {K : PySem.W.Frag} {ρ : Nat → Addr} {m : Nat} {H : Hp} : ∀ (n : Nat) (a : Int), Reps T K ρ m H (upTo a n) ((List.range n).map fun i => L2.V.int (a + (i : Nat)))
  | 0, a => .nil
  | n + 1, a => by
    rw [List.range_succ_eq_map, List.map_cons, List.map_map, upTo]
    have e : a + ((0 : Nat) : Int) = a := by simp
    rw [e]
    refine .cons (.int a) ?_
    have := reps_upTo (T := T) (K := K) (ρ := ρ) (m := m) (H := H) n (a + 1)
    have q : ((List.range n).map fun i => L2.V.int (a + 1 + (i : Nat))) = (List.range n).map ((fun i : Nat => L2.V.int (a + (i : Nat))) ∘ Nat.succ) := by
      apply List.map_congr_left
      intro i _
      show L2.V.int (a + 1 + (i : Nat)) = L2.V.int (a + ((i + 1 : Nat) : Int))
      congr 1
      omega
    rw [← q]
    exact this
def lstRg (a b : Int) (st : St) : R PV := if okR a && (okR b && Nat.ble (b - a).toNat lim) then newC (.lst 0 (upTo a (b - a).toNat)) st else .stuck 150
def e_lstRg1 (x : Y.X) : Y.X := fun r fr st => (x r fr st).bind fun v st => match v with
  | .int b => lstRg 0 b st
  | _ => .stuck 150
theorem lstRg_ok {a b : Int} {st st' : St} {v : PV} (h : lstRg a b st = .ok v st') : RgOk a b ∧ v = .ref st.n ∧ st' = st.new (.lst 0 (upTo a (b - a).toNat)) := by
  unfold lstRg at h
  by_cases g : (okR a && (okR b && Nat.ble (b - a).toNat lim)) = true
  · rw [if_pos g] at h
    cases h
    rw [Bool.and_eq_true, Bool.and_eq_true, Nat.ble_eq] at g
    unfold okR lim at g
    rw [natLt_iff, natLt_iff] at g
    exact ⟨⟨by omega, by omega, by omega, by omega, by omega⟩, rfl, rfl⟩
  · rw [if_neg g] at h; cases h
section
variable {X : Cx} {T : Tb} {k : Nat} {r : Ev} {p p2 pos pos2 : Pos} {e : Expr} {x : Y.X}
theorem sE_lstRg1 (hg : Gl X "list") (hm : X.mg "list" = none) (hg2 : Gl X "range") (hm2 : X.mg "range" = none) (he : PE X e (tE T X.K r x)) (hc : X.calm = true := by rfl)
    (na : starEach [.Call (.Name "range" p2) [e] [] pos2] X.env = (false, eval (.Call (.Name "range" p2) [e] [] pos2) X.env) :: starEach [] X.env := by rfl) (na2 : starEach [e] X.env = (false, eval e X.env) :: starEach [] X.env := by rfl) :
    PE X (.Call (.Name "list" p) [.Call (.Name "range" p2) [e] [] pos2] [] pos) (tE T X.K r (e_lstRg1 x)) :=
  PE.imp (pe_listRg hc hg hm (prg_1 hg2 hm2 he na2) na) fun σ H Q ⟨ρ, fr, st, F, S, v, st', e0, kk⟩ => by
    obtain ⟨v1, s1, e1, g1⟩ := bind_ok e0
    cases v1 with
    | int b =>
      obtain ⟨ok, rfl, rfl⟩ := lstRg_ok g1
      refine ⟨ρ, fr, st, F, S, .int b, s1, e1, fun ρ1 V1 H1 N1 S1 R1 => ?_⟩
      cases R1
      refine ⟨b, rfl, ok, fun q hq => ?_⟩
      obtain ⟨S2, N2, R2⟩ := new_lst S1 (reps_upTo (b - 0).toNat 0) hq
      exact kk _ _ _ (N1.trans N2) S2 R2
    | _ => cases g1
end
end Y
end
section
set_option linter.all false
set_option maxRecDepth 100000
set_option maxHeartbeats 4000000
namespace Y
open PySem PySem.Spec L2 PyProof.Rows
theorem zip_lookup_some {ps : List Str} {us : List Value} (h : us.length = ps.length) : ∀ x ∈ ps, ((ps.zip us).lookup x).isSome = true := by
  induction ps generalizing us with
  | nil => intro x hx; cases hx
  | cons p ps ih =>
    intro x hx
    cases us with
    | nil => simp at h
    | cons u us =>
      rw [List.zip_cons_cons, List.lookup_cons]
      by_cases e : x = p
      · subst e; simp
      · have : (x == p) = false := beq_eq_false_iff_ne.mpr e
        rw [this]
        exact ih (by simpa using h) x (by rcases List.mem_cons.mp hx with z | z; exact absurd z e; exact z)
theorem fm_congr {α β : Type} {f g : α → Option β} : ∀ {l : List α}, (∀ x ∈ l, f x = g x) → l.filterMap f = l.filterMap g
  | [], _ => rfl
  | x :: l, h => by
    rw [List.filterMap_cons, List.filterMap_cons, h x List.mem_cons_self, fm_congr fun y hy => h y (List.mem_cons_of_mem _ hy)]
theorem zip_filterMap {ps : List Str} {us : List Value} (h : us.length = ps.length) (hn : ps.Nodup) : ps.filterMap (fun n => ((ps.zip us).lookup n).map fun v => (n, v)) = ps.zip us := by
  induction ps generalizing us with
  | nil => simp
  | cons p ps ih =>
    cases us with
    | nil => simp at h
    | cons u us =>
      rw [List.nodup_cons] at hn
      rw [List.zip_cons_cons, List.filterMap_cons]
      simp only [List.lookup_cons, beq_self_eq_true, Option.map_some]
      congr 1
      refine (fm_congr fun x hx => ?_).trans (ih (by simpa using h) hn.2)
      have : (x == p) = false := beq_eq_false_iff_ne.mpr fun e => hn.1 (e ▸ hx)
      rw [this]
theorem bind_alld {x qual : Str} {args : List Arg} {dfs : List Expr} {body : List Stmt} {scope : Scope} {kV doc pm : Value} {an : Option Addr} {cdv ct : Value} {us : List Value} (hn : (args.map (·.arg)).Nodup) (hl : us.length = (args.map (·.arg)).length) :
    bindArgs (PySem.W.fnOf x qual ⟨[], args, none, [], [], none, dfs⟩ body scope .none kV doc pm an cdv ct) ⟨us, []⟩ = pure ((args.map (·.arg)).zip us) := by
  unfold bindArgs
  generalize hps : args.map (·.arg) = ps at *
  have h1 : ps.filter (fun n => ((ps.zip us).lookup n).isNone) = [] := by
    rw [List.filter_eq_nil_iff]
    intro y hy
    have := zip_lookup_some hl y hy
    cases g : (ps.zip us).lookup y with
    | none => rw [g] at this; cases this
    | some _ => simp
  have q1 : (PySem.W.fnOf x qual ⟨[], args, none, [], [], none, dfs⟩ body scope .none kV doc pm an cdv ct).params = ⟨[], args, none, [], [], none, dfs⟩ := rfl
  have q2 : (PySem.W.fnOf x qual ⟨[], args, none, [], [], none, dfs⟩ body scope .none kV doc pm an cdv ct).defaults = .none := rfl
  simp only [q1, q2, hps, List.map_nil, List.nil_append, List.append_nil]
  have hz := zip_filterMap hl hn
  have lt : ¬ (us.length > ps.length) := by omega
  simp [seqItems?, lt, h1, hz]
  rfl
theorem bind_all {x qual : Str} {args : List Arg} {body : List Stmt} {scope : Scope} {kV doc pm : Value} {an : Option Addr} {cdv ct : Value} {us : List Value} (hn : (args.map (·.arg)).Nodup) (hl : us.length = (args.map (·.arg)).length) :
    bindArgs (PySem.W.fnOf x qual ⟨[], args, none, [], [], none, []⟩ body scope .none kV doc pm an cdv ct) ⟨us, []⟩ = pure ((args.map (·.arg)).zip us) := by
  unfold bindArgs
  generalize hps : args.map (·.arg) = ps at *
  have h1 : ps.filter (fun n => ((ps.zip us).lookup n).isNone) = [] := by
    rw [List.filter_eq_nil_iff]
    intro y hy
    have := zip_lookup_some hl y hy
    cases g : (ps.zip us).lookup y with
    | none => rw [g] at this; cases this
    | some _ => simp
  have q1 : (PySem.W.fnOf x qual ⟨[], args, none, [], [], none, []⟩ body scope .none kV doc pm an cdv ct).params = ⟨[], args, none, [], [], none, []⟩ := rfl
  have q2 : (PySem.W.fnOf x qual ⟨[], args, none, [], [], none, []⟩ body scope .none kV doc pm an cdv ct).defaults = .none := rfl
  simp only [q1, q2, hps, List.map_nil, List.nil_append, List.append_nil]
  have hz := zip_filterMap hl hn
  have lt : ¬ (us.length > ps.length) := by omega
  simp [seqItems?, lt, h1, hz]
  rfl
theorem zip_look : ∀ {ps : List Str} {vs : List Value} {i : Nat} {x : Str}, ps.Nodup → ps[i]? = some x → ((ps.zip vs).lookup x).isSome = decide (i < vs.length)
  | [], _, _, _, _, h => by simp at h
  | p :: ps, [], i, x, _, h => by simp
  | p :: ps, v :: vs, i, x, hn, h => by
    rw [List.nodup_cons] at hn
    rw [List.zip_cons_cons, List.lookup_cons]
    cases i with
    | zero => simp at h; subst h; simp
    | succ i =>
      rw [List.getElem?_cons_succ] at h
      have ne : (x == p) = false := beq_eq_false_iff_ne.mpr fun e => hn.1 (e ▸ List.mem_of_getElem? h)
      rw [ne]
      have := zip_look (vs := vs) hn.2 h
      simp only [this, List.length_cons]
      congr 1
      exact propext ⟨fun h => by omega, fun h => by omega⟩
theorem zip_snoc : ∀ {ps : List Str} {vs : List Value} {x : Str} {d : Value}, ps[vs.length]? = some x → ps.zip vs ++ [(x, d)] = ps.zip (vs ++ [d])
  | [], _, _, _, h => by simp at h
  | p :: ps, [], x, d, h => by simp at h; subst h; simp
  | p :: ps, v :: vs, x, d, h => by
    rw [List.length_cons, List.getElem?_cons_succ] at h
    rw [List.zip_cons_cons, List.cons_append, List.cons_append, List.zip_cons_cons, zip_snoc h]
theorem dfl_loop {ps : List Str} (hn : ps.Nodup) : ∀ (its : List Value) (a : Nat) (vs : List Value), a ≤ vs.length → a + its.length ≤ ps.length → vs.length ≤ a + its.length →
    (forIn ((ps.drop a).zip its) (ps.zip vs) fun (x : Str × Value) s => if (List.lookup x.1 s).isNone = true then (pure (ForInStep.yield (s ++ [(x.1, x.2)])) : Sem _) else pure (ForInStep.yield s)) = pure (ps.zip (vs ++ its.drop (vs.length - a)))
  | [], a, vs, h1, h2, h3 => by simp
  | d :: its, a, vs, h1, h2, h3 => by
    rw [List.length_cons] at h2 h3
    have ha : a < ps.length := by omega
    have e : ps[a]? = some ps[a] := List.getElem?_eq_getElem ha
    rw [List.drop_eq_getElem_cons ha, List.zip_cons_cons, List.forIn_cons]
    have hl := zip_look (vs := vs) hn e
    by_cases c : a < vs.length
    · rw [show decide (a < vs.length) = true by simp [c]] at hl
      have : (List.lookup ps[a] (ps.zip vs)).isNone = false := by
        cases g : List.lookup ps[a] (ps.zip vs) with
        | none => rw [g] at hl; cases hl
        | some _ => rfl
      simp only [this, Bool.false_eq_true, if_false, pure_bind]
      rw [dfl_loop hn its (a + 1) vs (by omega) (by omega) (by omega), show vs.length - a = (vs.length - (a + 1)) + 1 by omega, List.drop_succ_cons]
    · have ea : a = vs.length := by omega
      rw [show decide (a < vs.length) = false by simp [c]] at hl
      have : (List.lookup ps[a] (ps.zip vs)).isNone = true := by
        cases g : List.lookup ps[a] (ps.zip vs) with
        | none => rfl
        | some _ => rw [g] at hl; cases hl
      simp only [this, if_true, pure_bind]
      rw [zip_snoc (by rw [← ea]; exact e), dfl_loop hn its (a + 1) (vs ++ [d]) (by simp; omega) (by omega) (by simp; omega)]
      rw [ea]
      simp
theorem bind_dfl {x qual : Str} {args : List Arg} {dfs : List Expr} {body : List Stmt} {scope : Scope} {kV doc pm : Value} {an : Option Addr} {cdv ct : Value} {us its : List Value} {T : Addr} {ps : List Str} (hps : args.map (·.arg) = ps) (hn : ps.Nodup) (hu : us.length ≤ ps.length) (hm : its.length ≤ ps.length) (hl : ps.length ≤ us.length + its.length) :
    ∃ k, bindArgs (PySem.W.fnOf x qual ⟨[], args, none, [], [], none, dfs⟩ body scope (.ref T) kV doc pm an cdv ct) ⟨us, []⟩ = seqItems? (.ref T) >>= k ∧ k (some its.toArray) = pure (ps.zip (us ++ its.drop (us.length + its.length - ps.length))) := by
  unfold bindArgs
  have q1 : (PySem.W.fnOf x qual ⟨[], args, none, [], [], none, dfs⟩ body scope (.ref T) kV doc pm an cdv ct).params = ⟨[], args, none, [], [], none, dfs⟩ := rfl
  have q2 : (PySem.W.fnOf x qual ⟨[], args, none, [], [], none, dfs⟩ body scope (.ref T) kV doc pm an cdv ct).defaults = .ref T := rfl
  simp only [q1, q2, hps, List.map_nil, List.nil_append, List.append_nil, List.forIn_nil, pure_bind]
  refine ⟨_, rfl, ?_⟩
  have lt : ¬ (us.length > ps.length) := by omega
  have dr : its.drop (its.length - ps.length) = its := by rw [show its.length - ps.length = 0 by omega]; rfl
  have h1 : (ps.take (ps.length - its.length)).filter (fun n => ((ps.zip us).lookup n).isNone) = [] := by
    rw [List.filter_eq_nil_iff]
    intro y hy
    obtain ⟨i, hi, e⟩ := List.mem_iff_getElem.mp hy
    rw [List.length_take] at hi
    have e' : ps[i]? = some y := by
      rw [List.getElem_take] at e
      rw [List.getElem?_eq_getElem (by omega), e]
    have := zip_look (vs := us) hn e'
    rw [show decide (i < us.length) = true by simp; omega] at this
    cases g : (ps.zip us).lookup y with
    | none => rw [g] at this; cases this
    | some _ => simp
  have h2 := dfl_loop hn its (ps.length - its.length) us (by omega) (by omega) (by omega)
  rw [show us.length - (ps.length - its.length) = us.length + its.length - ps.length by omega] at h2
  have h3 := zip_filterMap (ps := ps) (us := us ++ its.drop (us.length + its.length - ps.length)) (by simp; omega) hn
  simp [lt, dr, h1]
  rw [h2]
  exact congrArg (pure : _ → Sem _) h3
end Y
end
section
set_option linter.all false
set_option maxRecDepth 100000
set_option maxHeartbeats 4000000
/-! Z6: dict comprehensions. -/
namespace Y
open PySem PySem.Spec L2 PyProof.Rows
/-- what d[k] = v does to a dict at D, in any context of this program and this room -/
def PutR (P : Program) (w : World) (K : PySem.W.Frag) (A : Around) (D : Addr) (y z : L2.V) (H : Hp) (Nx : Hp → Prop) : Prop :=
  ∀ (X : Cx) (pins : List (Addr × Obj)) (σ : L2.St) (s : Shared) (u r : Value) (E : Value → Shared → Prop), X.prog = P → X.w = w → X.K = K → X.A = A → L2.Inv X pins σ H s → RelV y u → RelV z r →
    wpAny (model P w) A (dictSet D u r) (fun _ s' => ∃ H', L2.Inv X pins σ H' s' ∧ Nx H') E s
def tDx (P : Program) (w : World) (K : PySem.W.Frag) (A : Around) (wi : TI) (g : TG) (tt : TT) (tk tv : TE) (vs : List Nat) : TE := fun σ H Q => wi σ H fun J H1 => ∀ D, H1 D = none → (D == sysModules) = false → ∃ W : Nat → Nat → Hp → Prop, (∃ m, W 0 m (upd H1 D (theO D emptyO))) ∧ ∀ i m H, W i m H →
  (J.stop i H ∧ Q (.ref D) H) ∨
  (J.go i H ∧ ∃ Nx : Hp → Prop, (∀ H', Nx H' → ∃ m', m' < m ∧ W (i + 1) m' H') ∧ ∀ x H', J.yld i H x H' → g x (wipe σ vs) H' fun σ2 H2 => wipe σ2 vs = wipe σ vs ∧ tt σ2 H2 fun b H3 =>
    if b = true then tk σ2 H3 fun y H4 => tv σ2 H4 fun z H5 => PutR P w K A D y z H5 Nx else Nx H3)
section
variable {X : Cx}
theorem dcx_core {pins : List (Addr × Obj)} {s : Shared} {σ : L2.St} {H : Hp} {Q : VK} {kx vx tg iter : Expr} {ifs : List Expr} {scope : Scope} {own : List (Str × Nat)} {pos pos' : Pos} {wi : TI} {g : TG} {tt : TT} {tk tv : TE} {use : Option (Value → Sem Unit)} {Qf : Value → Shared → Prop}
    (calm : X.calm = true) (hN : X.N.Nodup) (I : L2.Inv X pins σ H s) (walk : PI X tg iter wi) (ok : BlkOk X.N X.env.scope scope own)
    (hg : ∀ s H C cl fp, PG (X.blk s H scope (compEnvC scope cl C X.env) fp) tg g) (ht : ∀ s H C cl fp, PTs (X.blk s H scope (compEnvC scope cl C X.env) fp) ifs tt)
    (hk : ∀ s H C cl fp, PE (X.blk s H scope (compEnvC scope cl C X.env) fp) kx tk) (he : ∀ s H C cl fp, PE (X.blk s H scope (compEnvC scope cl C X.env) fp) vx tv)
    (fold : ∀ x, foldedSetIterable iter X.env x = pure x) (want : tDx X.prog X.w X.K X.A wi g tt tk tv (own.map (·.2)) σ H Q)
    (post : ∀ D C s' m H', L2.Inv X pins σ H' s' → Q (.ref D) H' → s'.heap.Ns C m → FpOk X pins H' C → compPost (model X.prog X.w) X.A X.xe use Qf (.ref D) C (.ok .next) s') :
    wpAny (model X.prog X.w) X.A (comprehension (.DictComp kx vx [⟨tg, iter, ifs, 0⟩] scope pos) scope X.env pos' newDict false (eval iter X.env) use) Qf X.xe s := by
  have free : ∀ y ∈ scope.names, y.2 = .free → ∃ c, X.env.cells.lookup y.1 = some c := fun y hy e => (ok.free y hy e).elim (fun q => I.ok.has _ (.inl q)) fun q => I.ok.has _ (.inr q)
  refine wpAny_comprehension_free (use := use) rfl fold (closure_ok free) ok.kind (fun y hy e => (ok.uniq y hy).trans (congrArg some e)) (thn (walk.run pins s σ H _ I want) fun itv0 s1 w1 => thn w1 fun itv s2 w2 => ?_)
  obtain ⟨it, fp, tn, J, H2, rfl, I2, T, at2, fresh2, plan⟩ := w2
  refine wpAny_newObj_type (newEnv_comp ?_)
  have big := I2.big
  generalize hD : s2.heap.objs.size = D at big
  have nD : H2 D = none := I2.hok.fresh (Nat.le_of_eq hD)
  obtain ⟨W, ⟨m0, start⟩, turn⟩ := plan D nD (beq_eq_false_iff_ne.mpr (Ne.symm (Nat.ne_of_lt big)))
  generalize e3 : ({ s2 with heap := s2.heap.push { cls := .type "dict", data := .dict #[] } } : Shared) = s3
  have hp3 : s3.heap = s2.heap.push { cls := .type "dict", data := .dict #[] } := by rw [← e3]
  have I3 : L2.Inv X pins σ (upd H2 D (theO D emptyO)) s3 := by
    subst e3
    exact I2.laid (a := D) (o := theO D emptyO) (t' := s2.toks) (fun b o e => Heap.get?_push_of_some _ e) (Nat.le_of_eq hD) (theO_ok (by rw [← hD]; exact Heap.get?_push_size _ rfl))
  have below : ∀ b ∈ fp, b < D := fun b hb => by
    obtain ⟨o, e, _⟩ := T.obj _ _ at2 b hb
    exact hD ▸ Heap.lt_size e
  have fresh3 : ∀ b ∈ fp, FpOk X pins (upd H2 D (theO D emptyO)) b ∧ b < s3.heap.objs.size := fun b hb => by
    have lt := below b hb
    refine ⟨⟨(upd_ne (Nat.ne_of_lt lt)).trans (fresh2 b hb).1, (fresh2 b hb).2⟩, ?_⟩
    rw [hp3, Heap.size_push, hD]
    exact Nat.lt_succ_of_lt lt
  have at3 : tn 0 s3.heap := T.keep _ _ _ at2 fun b _ o e => by rw [hp3]; exact Heap.get?_push_of_some _ e
  have none3 : ∀ b ∈ fp, (upd H2 D (theO D emptyO)) b = none := fun b hb => (fresh3 b hb).1.1
  have I4 := block_start I3 ok hN fresh3
  let cs := cellsFrom (s3.heap.objs.size + 1) scope.names (cloFrom X.env.cells scope.names [])
  have pg := hg s3 (upd H2 D (theO D emptyO)) s3.heap.objs.size cs fp
  have pt := ht s3 (upd H2 D (theO D emptyO)) s3.heap.objs.size cs fp
  have pk := hk s3 (upd H2 D (theO D emptyO)) s3.heap.objs.size cs fp
  have pv := he s3 (upd H2 D (theO D emptyO)) s3.heap.objs.size cs fp
  have goal' : codeAny (model X.prog X.w) X.A (.compStart (.DictComp kx vx [⟨tg, iter, ifs, 0⟩] scope pos) 0 (.ref it) (.ref D) (compEnvC scope cs s3.heap.objs.size X.env)) (compPost (model X.prog X.w) X.A X.xe use Qf (.ref D) s3.heap.objs.size) { s3 with heap := pushCells (s3.heap.push { cls := .type "dict", data := .dict #[] }) scope.names } := by
    have I4 : L2.Inv (X.blk s3 (upd H2 D (theO D emptyO)) scope (compEnvC scope cs s3.heap.objs.size X.env) fp) [] (wipe σ (own.map (·.2))) (upd H2 D (theO D emptyO)) { s3 with heap := pushCells (s3.heap.push { cls := .type "dict", data := .dict #[] }) scope.names } := I4
    generalize hce : compEnvC scope cs s3.heap.objs.size X.env = ce at I4 pg pt pk pv ⊢
    have loc : ce.locals = s3.heap.objs.size := by rw [← hce]; rfl
    generalize e3H : upd H2 D (theO D emptyO) = H3 at I3 I4 pg pt pk pv start none3 fresh3
    generalize e4 : ({ s3 with heap := pushCells (s3.heap.push { cls := .type "dict", data := .dict #[] }) scope.names } : Shared) = s4 at I4 ⊢
    have at4 : tn 0 s4.heap := T.keep _ _ _ at3 fun b _ o e => by rw [← e4]; exact pushCells_keeps _ _ _ _ (Heap.get?_push_of_some _ e)
    have still : ∀ {σ' : L2.St} {H' : Hp} {s' : Shared}, L2.Inv (X.blk s3 H3 scope ce fp) [] σ' H' s' → (∀ b ∈ fp, H' b = none) → ∀ b ∈ fp, FpOk (X.blk s3 H3 scope ce fp) [] H' b := fun {_ _ _} I' n b hb =>
      ⟨n b hb, (I'.ok.exf b hb).1, I'.ok.exfs b hb, .inl hb, fun x c e => (I'.ok.exf b hb).2 x c e, fun p q => by cases q⟩
    have loop : codeAny (model X.prog X.w) X.A (.compLoop (.DictComp kx vx [⟨tg, iter, ifs, 0⟩] scope pos) 0 (.ref it) (.ref D) ce) (compPost (model X.prog X.w) X.A X.xe use Qf (.ref D) s3.heap.objs.size) s4 := by
      refine compLoop_anyD (fun n s' => ∃ i H', L2.Inv (X.blk s3 H3 scope ce fp) [] (wipe σ (own.map (·.2))) H' s' ∧ tn i s'.heap ∧ (∀ b ∈ fp, H' b = none) ∧ W i n H') ?_ m0 ⟨0, H3, I4, at4, none3, start⟩
      rintro n s5 ⟨i, H5, I5, at5, n5, w5⟩
      rcases turn i n H5 w5 with ⟨stop, q⟩ | ⟨go, Nx, back, step⟩
      · refine thnF (T.done (X.blk s3 H3 scope ce fp) rfl rfl rfl calm i [] s5 _ H5 (fun _ _ => False) I5 (still I5 n5) at5 stop) fun res s6 ⟨hr, I6⟩ => ?_
        subst hr
        have I7 : L2.Inv X pins σ H5 s6 := I3.call' (ch := fp) I6.os I6.base I6.hok I6.bare fun b hb => by
          obtain ⟨_, q1, q2, q3, q4, q5⟩ := (fresh3 b hb).1
          exact ⟨q3, q1, q4, q5⟩
        have nC : H5 s3.heap.objs.size = none := by
          have z : H5 ce.locals = none := I6.free
          rwa [loc] at z
        obtain ⟨mm, ns, _⟩ := I6.loc
        have ns : s6.heap.Ns ce.locals mm := ns
        rw [loc] at ns
        exact post D s3.heap.objs.size s6 mm H5 I7 q ns (I3.fpOk (Nat.le_refl _) nC)
      · refine thnF (T.item (X.blk s3 H3 scope ce fp) rfl rfl rfl calm i [] s5 _ H5 (fun _ _ => False) I5 (still I5 n5) at5 go) fun res s6 ⟨u, hr, h6⟩ => ?_
        subst hr
        refine thnF h6 fun _ s7 ⟨x, H7, I7, r7, y7, at7, n7⟩ => ?_
        refine thnF (pg.run _ s7 _ H7 x u _ (I7.pinned (still I7 n7) (T.obj _ _ at7)) r7 (step x H7 y7)) fun _ s8 ⟨σ8, H8, I8, wiped, q8⟩ => ?_
        refine thnF (pt.run _ s8 σ8 H8 _ I8 q8) fun b s9 ⟨H9, I9, q9⟩ => ?_
        have next : ∀ {s' : Shared} {H' : Hp}, L2.Inv (X.blk s3 H3 scope ce fp) ([] ++ pinsAt fp s7.heap) σ8 H' s' → Nx H' → ∃ m, m < n ∧ ∃ i H', L2.Inv (X.blk s3 H3 scope ce fp) [] (wipe σ (own.map (·.2))) H' s' ∧ tn i s'.heap ∧ (∀ b ∈ fp, H' b = none) ∧ W i m H' := fun {s' H'} I' nx => by
          obtain ⟨m', lt, w'⟩ := back H' nx
          have pin : ∀ b ∈ fp, ∀ o, s7.heap.get? b = some o → s'.heap.get? b = some o ∧ H' b = none := fun b hb o e => by
            have z := I'.pin (b, o) (List.mem_append_right _ (List.mem_append_right _ (mem_pinsAt hb e)))
            exact ⟨z.1, z.2.1⟩
          refine ⟨m', lt, i + 1, H', (I'.unpinned (pins := [])).weak (by rw [← wiped, wipe_length]) fun j v e => ?_, T.keep _ _ _ at7 fun b hb o e => (pin b hb o e).1, fun b hb => ?_, w'⟩
          · rw [← wiped] at e
            exact (wipe_some e).1
          · obtain ⟨o, e, _⟩ := T.obj _ _ at7 b hb
            exact (pin b hb o e).2
        cases b with
        | false =>
          simp only [Bool.false_eq_true, if_false] at q9 ⊢
          exact next I9 q9
        | true =>
          simp only [if_true] at q9 ⊢
          refine thnF (pk.run _ s9 σ8 H9 _ I9 q9) fun z s10 ⟨yk, H10, I10, r10, q10⟩ => ?_
          refine thnF (pv.run _ s10 σ8 H10 _ I10 q10) fun z2 s11 ⟨yv, H11, I11, r11, q11⟩ => ?_
          exact thn (q11 (X.blk s3 H3 scope ce fp) _ σ8 s11 z z2 _ rfl rfl rfl rfl I11 r10 r11) fun _ s12 ⟨H12, I12, nx⟩ => next I12 nx
    exact codeAny_compStart_dict loop (T.self X.A 0 _ _ _ at4 loop)
  exact goal'
/-- as a value -/
theorem pe_dcx {kx vx tg iter : Expr} {ifs : List Expr} {scope : Scope} {own : List (Str × Nat)} {pos : Pos} {wi : TI} {g : TG} {tt : TT} {tk tv : TE} (calm : X.calm = true) (hN : X.N.Nodup) (walk : PI X tg iter wi) (ok : BlkOk X.N X.env.scope scope own)
    (hg : ∀ s H C cl fp, PG (X.blk s H scope (compEnvC scope cl C X.env) fp) tg g) (ht : ∀ s H C cl fp, PTs (X.blk s H scope (compEnvC scope cl C X.env) fp) ifs tt)
    (hk : ∀ s H C cl fp, PE (X.blk s H scope (compEnvC scope cl C X.env) fp) kx tk) (he : ∀ s H C cl fp, PE (X.blk s H scope (compEnvC scope cl C X.env) fp) vx tv)
    (fold : ∀ x, foldedSetIterable iter X.env x = pure x) : PE X (.DictComp kx vx [⟨tg, iter, ifs, 0⟩] scope pos) (tDx X.prog X.w X.K X.A wi g tt tk tv (own.map (·.2))) := by
  refine ⟨fun pins s σ H Q I h => ?_⟩
  rw [arm_eval_DictComp]
  refine dcx_core calm hN I walk ok hg ht hk he fold h fun D C s' m H' I' q ns f => ⟨m, ns, fun h'' sb => ?_⟩
  obtain ⟨f0, f1, f2, f3, f4, f5⟩ := f
  exact ⟨.ref D, H', I'.turned (t' := s'.toks) (fun b o hb e => (sb.2 b hb).trans e) f0 f1 f3 f4 f5, rfl, q⟩
end
end Y
end
section
set_option linter.all false
set_option maxRecDepth 100000
set_option maxHeartbeats 4000000
/-! Z7: dict comprehensions, read by a combinator. -/
namespace Y
open PySem PySem.Spec L2 PyProof.Rows
section
variable {X : Cx}
/-- name = {k: v ..}, the name a local one -/
theorem ps_setDcx {i : Nat} {y : Str} {py : Pos} {kx vx tg iter : Expr} {ifs : List Expr} {scope : Scope} {own : List (Str × Nat)} {pos spos : Pos} {wi : TI} {g : TG} {tt : TT} {tk tv : TE} (calm : X.calm = true) (hN : X.N.Nodup) (hy : X.N[i]? = some y) (plain : X.env.scope.names.lookup y = some .local)
    (sw : swapsWith (.DictComp kx vx [⟨tg, iter, ifs, 0⟩] scope pos) (some (.Name y py)) spos.line X.env = pure true) (walk : PI X tg iter wi) (ok : BlkOk X.N X.env.scope scope own)
    (hg : ∀ s H C cl fp, PG (X.blk s H scope (compEnvC scope cl C X.env) fp) tg g) (ht : ∀ s H C cl fp, PTs (X.blk s H scope (compEnvC scope cl C X.env) fp) ifs tt)
    (hk : ∀ s H C cl fp, PE (X.blk s H scope (compEnvC scope cl C X.env) fp) kx tk) (he : ∀ s H C cl fp, PE (X.blk s H scope (compEnvC scope cl C X.env) fp) vx tv)
    (fold : ∀ x, foldedSetIterable iter X.env x = pure x) :
    PS X (.Assign [.Name y py] (.DictComp kx vx [⟨tg, iter, ifs, 0⟩] scope pos) spos) (tAsg (tDx X.prog X.w X.K X.A wi g tt tk tv (own.map (·.2))) (gName i)) := by
  refine ⟨fun pins s σ H D I h => ?_⟩
  rw [exec_Assign_Name_used _ _ _ _ sw]
  refine wpAny_bind (wpAny_standAt (wpAny_bind ?_))
  show wpAny _ X.A (do let _ ← comprehension (.DictComp kx vx [⟨tg, iter, ifs, 0⟩] scope pos) scope X.env (firstIterPos [⟨tg, iter, ifs, 0⟩] pos) newDict false (eval iter X.env) (some (assign (.Name y py) X.env))) _ _ s
  have want : tDx X.prog X.w X.K X.A wi g tt tk tv (own.map (·.2)) σ H (fun x H1 => gName i x σ H1 D.nx) := h
  refine wpAny_bind (thn (dcx_core (Qf := fun _ s' => SP X pins D .next s') calm hN I walk ok hg ht hk he fold want fun d C s' m H' I' q ns f => ?_) fun _ s' hq => wpAny_pure (wpAny_pure hq))
  show wpAny _ _ (assign (.Name y py) X.env (.ref d)) _ _ _
  obtain ⟨f0, f1, f2, f3, f4, f5⟩ := f
  refine wpAny_assign_Name (store_ok2 (v := V.ref d) I' hN hy (.inl plain) rfl (fun s2 I2 ⟨a, same, ha⟩ => ?_) (.inr plain))
  have apart : C ≠ a := ha.elim (fun z => z ▸ f1) fun z e => f4 y a z e.symm
  exact ⟨m, ns.sameBut same apart, fun h3 sb3 => ⟨_, H', I2.turned (t' := s2.toks) (fun b o hb e => (sb3.2 b hb).trans e) f0 f1 f3 f4 f5, q⟩⟩
end
/-! ### the combinator -/
def dcL (kx vx : Y.X) (t : XT) (tt : XB) (gd : Gd) (r : Ev) (fr : Fr) : List PV → List (PV × PV) → St → R (List (PV × PV))
  | [], kvs, st => if gdOk gd st then .ok kvs st else .stuck 64
  | v :: vs, kvs, st => if gdOk gd st then ((t v r fr st).bind fun fr2 st => (tt r fr2 st).bind fun c st => match c with
    | true => (kx r fr2 st).bind fun k st => (vx r fr2 st).bind fun w st => if keyOk k then (match kput kvs k w with
      | some kvs' => if okLen kvs' then dcL kx vx t tt gd r fr vs kvs' st else .stuck 66
      | none => .stuck 66) else .stuck 66
    | false => dcL kx vx t tt gd r fr vs kvs st) else .stuck 64
def e_dc (kx vx : Y.X) (vs : List Nat) (t : XT) (it : XI) (tt : XB) : Y.X := fun r fr st => (it r fr st).bind fun p st => (dcL kx vx t tt p.2 r (wipeF fr vs) p.1 [] st).bind fun kvs st => newC (.dct 0 kvs) st
section
variable {T : Tb} {r : Ev}
/-- the dict beside the store, its entries -/
def AsD (P : Program) (w : World) (T : Tb) (K : PySem.W.Frag) (ρ : Nat → Addr) (n : Nat) (H : Hp) (kvs : List (PV × PV)) (D : Addr) : Prop :=
  ∃ o, H D = some (theO D o) ∧ kvs.length ≤ sizeLine ∧ ((∃ vs, EnA T K ρ n H kvs vs ∧ RawA P w o vs) ∨ (∃ xs, EnB T K ρ n H kvs xs ∧ RawB P w o xs))
theorem AsD.stay {P : Program} {w : World} {K : PySem.W.Frag} {ρ ρ' : Nat → Addr} {n n' : Nat} {H H' : Hp} {kvs : List (PV × PV)} {D : Addr} (s : Stay K ρ n H ρ' n' H') (hD : H' D = H D) (h : AsD P w T K ρ n H kvs D) : AsD P w T K ρ' n' H' kvs D := by
  obtain ⟨o, h1, h2, h3⟩ := h
  refine ⟨o, by rw [hD]; exact h1, h2, ?_⟩
  rcases h3 with ⟨vs, e, q⟩ | ⟨vs, e, q⟩
  · exact .inl ⟨vs, e.stay s, q⟩
  · exact .inr ⟨vs, e.stay s, q⟩
theorem room_nest0 {X : Cx} {k : Nat} (hr : Room k X.A) : (nestedKind X.prog X.w).room X.A := by
  have := hr.un
  show X.A.units + 8 < cLine
  omega
/-- a key and a value come to it -/
theorem asD_put {X : Cx} {k : Nat} (hr : Room k X.A) (hT : TbX T X) {ρ : Nat → Addr} {st : St} {H : Hp} {D : Addr} {kvs kvs' : List (PV × PV)} {x v : PV} {Vx Vv : L2.V} (S : StRep T X.K ρ st H) (hD : ∀ a, a < st.n → D ≠ ρ a) (h : AsD X.prog X.w T X.K ρ st.n H kvs D)
    (rx : Rep T X.K ρ st.n H x Vx) (rv : Rep T X.K ρ st.n H v Vv) (hk : keyOk x = true) (hg : kput kvs x v = some kvs') (hz : okLen kvs' = true) {Nx : Hp → Prop}
    (nx : ∀ o', StRep T X.K ρ st (upd H D (theO D o')) → AsD X.prog X.w T X.K ρ st.n (upd H D (theO D o')) kvs' D → (∀ q, q ≠ D → upd H D (theO D o') q = H q) → Nx (upd H D (theO D o'))) : PutR X.prog X.w X.K X.A D Vx Vv H Nx := by
  intro X' pins σ s u q E e1 e2 e3 e4 I ru rw_
  obtain ⟨o, h1, h2, h3⟩ := h
  obtain ⟨oo, hgg⟩ := kput_get hg
  have hT' : TbX T X' := ⟨by rw [e1]; exact hT.P, by rw [e2]; exact hT.w⟩
  rw [← e1, ← e2, ← e4]
  rw [← e1, ← e2] at h3
  rw [← e3] at h3 rx rv S
  have ho : s.heap.get? D = some o := raw_of I h1
  have fin : ∀ (o' : Obj) (h' : Heap) (t : Nat), h'.get? D = some o' → Heap.SameBut D s.heap h' → ((∃ vs, EnA T X'.K ρ st.n H kvs' vs ∧ RawA X'.prog X'.w o' vs) ∨ (∃ xs, EnB T X'.K ρ st.n H kvs' xs ∧ RawB X'.prog X'.w o' xs)) → ∃ H', L2.Inv X' pins σ H' { s with heap := h', toks := t } ∧ Nx H' := fun o' h' t q1 hs en => by
    have y : Stay X'.K ρ st.n H ρ st.n (upd H D (theO D o')) := .write h1 rfl
    have S2 : StRep T X'.K ρ st (upd H D (theO D o')) := S.aside h1 rfl hD
    refine ⟨_, d_write I (by rw [h1]; exact True.intro) hs ⟨o', q1⟩ (theO_ok q1), nx o' (e3 ▸ S2) ⟨o', upd_same, okLen_iff.mp hz, ?_⟩ fun q hq => upd_ne hq⟩
    rw [← e1, ← e2, ← e3]
    rcases en with ⟨vs, e, r⟩ | ⟨xs, e, r⟩
    · exact .inl ⟨vs, e.stay y, r⟩
    · exact .inr ⟨xs, e.stay y, r⟩
  rcases keyOk_or hk with ⟨κ, hκ⟩ | ⟨κ, hκ⟩
  · have his : (mixKind X'.prog X'.w).is κ u = true := by
      cases rx with
      | int i => cases hκ; obtain ⟨t, rfl⟩ := ru; exact keyIs_int i t
      | str i => cases hκ; obtain ⟨t, rfl⟩ := ru; exact keyIs_str i t
      | _ => cases hκ
    have z : ∃ vs, EnA T X'.K ρ st.n H kvs vs ∧ RawA X'.prog X'.w o vs := by
      rcases h3 with z | ⟨xs, e, q⟩
      · exact z
      · obtain ⟨rfl, rfl⟩ := e.kind hκ hgg
        exact ⟨[], .nil, q.toA⟩
    obtain ⟨vs, e, q⟩ := z
    have nd : (vs.map (·.1)).Nodup := by obtain ⟨_, _, _, _, _, _, h5⟩ := q; exact h5
    obtain ⟨en, _⟩ := e.put nd hκ rv rw_ hg
    refine wpAny_dictSet_pairs (hsz := by rw [← e.length]; exact h2) his (q.dictOf ho) fun h' dd' hs => ?_
    obtain ⟨o', es, ep, q1, q2, q3, q4, q5, q6⟩ := dd'
    exact fin o' h' _ q1 hs (.inl ⟨_, en, es, ep, q2, q3, q4, q5, q6⟩)
  · cases x with
    | tup ys =>
      have hn := nested_of (T := T) (ρ := ρ) (n := st.n) I (m := 8) (v := .tup ys) hκ rx ru
      cases rx with
      | @tup _ p vs hp t =>
        cases ru
        have z : ∃ xs, EnB T X'.K ρ st.n H kvs xs ∧ RawB X'.prog X'.w o xs := by
          rcases h3 with ⟨xs, e, q⟩ | z
          · obtain ⟨rfl, rfl⟩ := e.kind hκ hgg
            exact ⟨[], .nil, q.toB⟩
          · exact z
        obtain ⟨xs, e, q⟩ := z
        have nd : (xs.map (·.1)).Nodup := by obtain ⟨_, _, _, _, _, h5⟩ := q; exact h5
        obtain ⟨en, _⟩ := e.put nd hκ (.tup hp t) rv rw_ hg
        refine wpAny_dictSet_heap (hsz := by rw [← e.length]; exact h2) (room_nest0 (k := k) (X := X') (by rw [e4]; exact hr)) hn (q.dictOf hT' I e ho) fun h' dd' hs => ?_
        obtain ⟨o', es, ep, q1, q2, q3, q4, q5, q6⟩ := dd'
        exact fin o' h' _ q1 hs (.inr ⟨_, en, es, ep, q2, q3, q4, q6⟩)
    | _ => cases hκ
theorem i_dc {X : Cx} {k : Nat} (hr : Room k X.A) (hT : TbX T X) {kx vx : Y.X} {vs : List Nat} {t : XT} {it : XI} {tt : XB} {σ : L2.St} {H : Hp} {Q : VK} (h : tE T X.K r (e_dc kx vx vs t it tt) σ H Q) : tDx X.prog X.w X.K X.A (tI T X.K r it) (tW T X.K vs r t) (tT T X.K r tt) (tE T X.K r kx) (tE T X.K r vx) vs σ H Q := by
  obtain ⟨ρ, fr, st, F, S, v, st', e0, kk⟩ := h
  obtain ⟨⟨items, gd⟩, s0, e1, e2⟩ := bind_ok e0
  obtain ⟨ys, s1, e4, e5⟩ := bind_ok e2
  cases e5
  refine ⟨ρ, fr, st, F, S, items, gd, s0, e1, fun ρ1 H1 N1 S1 J wk D hD hsys => ?_⟩
  have hD1 : ∀ a, a < s0.n → D ≠ ρ1 a := S1.here hD
  refine ⟨fun i m H => m = items.length - i ∧ i ≤ items.length ∧ ∃ ρ2 st2 kvs, StRep T X.K ρ2 st2 H ∧ Nxt ρ1 s0 H1 ρ2 st2 H ∧ (∀ a, a < st2.n → D ≠ ρ2 a) ∧ AsD X.prog X.w T X.K ρ2 st2.n H kvs D ∧ dcL kx vx t tt gd r (wipeF fr vs) (items.drop i) kvs st2 = .ok ys s1,
    ⟨_, rfl, Nat.zero_le _, ρ1, s0, [], S1.laid hD, Nxt.laid S1 hD, hD1, ⟨emptyO, upd_same, Nat.zero_le _, .inl ⟨[], .nil, empty_A⟩⟩, e4⟩, ?_⟩
  rintro i m H2 ⟨rfl, hi, ρ2, st2, kvs, S2, N2, hD2, as2, ee⟩
  obtain ⟨o2, hH2, _, _⟩ := id as2
  by_cases hlt : i < items.length
  · have hyi : items[i]? = some items[i] := List.getElem?_eq_getElem hlt
    rw [drop_cons hyi] at ee
    unfold dcL at ee
    by_cases hg : gdOk gd st2 = true
    · rw [if_pos hg] at ee
      refine .inr ⟨wk.goes i ρ2 st2 H2 N2 S2 hg hlt, fun H => ∃ ρ2 st2 kvs, StRep T X.K ρ2 st2 H ∧ Nxt ρ1 s0 H1 ρ2 st2 H ∧ (∀ a, a < st2.n → D ≠ ρ2 a) ∧ AsD X.prog X.w T X.K ρ2 st2.n H kvs D ∧ dcL kx vx t tt gd r (wipeF fr vs) (items.drop (i + 1)) kvs st2 = .ok ys s1, fun H' h => ⟨_, by omega, rfl, hlt, h⟩, fun z H' hz' => ?_⟩
      obtain ⟨S3, N3, y, hy', R3⟩ := wk.yields i z H' ρ2 st2 H2 N2 S2 hg hlt hz'
      rw [hyi] at hy'
      cases hy'
      obtain ⟨fr4, st4, g4, ee⟩ := bind_ok ee
      obtain ⟨c, st5, g5, ee⟩ := bind_ok ee
      have hH3 : H' D = some (theO D o2) := N3.keep D _ hH2 hD2
      refine ⟨ρ2, wipeF fr vs, st2, items[i], ((F.stay N1.stay).wipe vs).stay (N2.trans N3).stay, S3, R3, fr4, st4, g4, fun ρ4 σ4 H4 N4 S4 F4 w4 => ⟨?_, ρ4, fr4, st4, F4, S4, c, st5, g5, fun ρ5 H5 N5 S5 => ?_⟩⟩
      · rw [w4]; exact wipe_again σ vs vs fun _ h => h
      · have hD4 := N4.apart hH3 hD2
        have hH4 : H4 D = some (theO D o2) := N4.keep D _ hH3 hD2
        have hD5 := N5.apart hH4 hD4
        have hH5 : H5 D = some (theO D o2) := N5.keep D _ hH4 hD4
        have N25 := ((N2.trans N3).trans N4).trans N5
        have as5 := as2.stay ((N3.trans N4).trans N5).stay (hH5.trans hH2.symm)
        cases c with
        | false => exact ⟨ρ5, st5, kvs, S5, N25, hD5, as5, ee⟩
        | true =>
          obtain ⟨ky, st6, g6, ee⟩ := bind_ok ee
          obtain ⟨vy, st7, g7, ee⟩ := bind_ok ee
          show tE T X.K r kx σ4 H5 _
          refine ⟨ρ5, fr4, st5, F4.stay N5.stay, S5, ky, st6, g6, fun ρ6 V6 H6 N6 S6 R6 => ⟨ρ6, fr4, st6, (F4.stay N5.stay).stay N6.stay, S6, vy, st7, g7, fun ρ7 V7 H7 N7 S7 R7 => ?_⟩⟩
          have hD6 := N6.apart hH5 hD5
          have hH6 : H6 D = some (theO D o2) := N6.keep D _ hH5 hD5
          have hD7 := N7.apart hH6 hD6
          have hH7 : H7 D = some (theO D o2) := N7.keep D _ hH6 hD6
          have as7 := as5.stay (N6.trans N7).stay (hH7.trans hH5.symm)
          by_cases hk : keyOk ky = true
          · rw [if_pos hk] at ee
            cases gp : kput kvs ky vy with
            | none => rw [gp] at ee; cases ee
            | some kvs' =>
              rw [gp] at ee
              dsimp only at ee
              by_cases hz : okLen kvs' = true
              · rw [if_pos hz] at ee
                exact asD_put hr hT S7 hD7 as7 (R6.stay N7.stay) R7 hk gp hz fun o' S8 as8 same => ⟨ρ7, st7, kvs', S8, ((N25.trans N6).trans N7).aside hD hD7, hD7, as8, ee⟩
              · rw [if_neg hz] at ee; cases ee
          · rw [if_neg hk] at ee; cases ee
    · rw [if_neg hg] at ee; cases ee
  · have e : i = items.length := by omega
    subst e
    rw [List.drop_length] at ee
    unfold dcL at ee
    by_cases hg : gdOk gd st2 = true
    · rw [if_pos hg] at ee
      cases ee
      obtain ⟨o, h1, h2, h3⟩ := as2
      refine .inl ⟨wk.stops ρ2 _ H2 N2 S2 hg, ?_⟩
      have q : Rep T X.K (ρput ρ2 s1.n D) (s1.n + 1) H2 (.ref s1.n) (.ref (ρput ρ2 s1.n D s1.n)) := .ref (Nat.lt_succ_self _)
      rw [ρput_at] at q
      refine kk _ _ H2 (N1.trans (N2.adopt S2 hD)) (S2.adopt hD2 ⟨o, h1, hsys, h2, ?_⟩) q
      rw [hT.P, hT.w]
      rcases h3 with ⟨vs, e, r⟩ | ⟨xs, e, r⟩
      · exact .inl ⟨vs, e.stay .put, r⟩
      · exact .inr ⟨xs, e.stay .put, r⟩
    · rw [if_neg hg] at ee; cases ee
end
end Y
end
section
set_option linter.all false
set_option maxRecDepth 100000
set_option maxHeartbeats 4000000
/-! Z8: zip of two, three or four sequences, lists or tuples. -/
namespace Y
open PySem PySem.Spec L2 PyProof.Rows
/-- a sequence that is walked: the iterator, the sequence, whether it is a list -/
structure Sr where
  it : Addr
  l : Addr
  lst : Bool
def Sr.At (x : Sr) (h : Heap) (i : Nat) : Prop := if x.lst = true then h.IsListIter x.it x.l i else h.IsTupleIter x.it x.l i
def Sr.Is (x : Sr) (h : Heap) (xs : Array Value) : Prop := if x.lst = true then h.IsList x.l xs else h.IsTuple x.l xs
theorem Sr.At.at {x : Sr} {h h' : Heap} {i : Nat} (a : x.At h i) (e : ∀ o, h.get? x.it = some o → h'.get? x.it = some o) : x.At h' i := by
  unfold Sr.At at *
  split at a
  · rename_i q; rw [if_pos q]; exact Heap.IsListIter.at a e
  · rename_i q; rw [if_neg q]; exact Heap.IsTupleIter.at a e
theorem Sr.Is.at {x : Sr} {h h' : Heap} {xs : Array Value} (a : x.Is h xs) (e : ∀ o, h.get? x.l = some o → h'.get? x.l = some o) : x.Is h' xs := by
  unfold Sr.Is at *
  split at a
  · rename_i q; rw [if_pos q]; exact Heap.IsList.at a e
  · rename_i q; rw [if_neg q]; exact Heap.IsTuple.at a e
theorem Sr.At.obj {x : Sr} {h : Heap} {i : Nat} (a : x.At h i) : ∃ o, h.get? x.it = some o ∧ ∀ v, o.data ≠ .cell v := by
  unfold Sr.At at a
  split at a
  · obtain ⟨o, e, _, d⟩ := a; exact ⟨o, e, fun v q => by rw [d] at q; cases q⟩
  · obtain ⟨o, e, _, d⟩ := a; exact ⟨o, e, fun v q => by rw [d] at q; cases q⟩
section
variable {prog : Program} {w : World} {A : Around} {E : Value → Shared → Prop} {s : Shared}
theorem sr_item {x : Sr} {i : Nat} {xs : Array Value} {v : Value} {Q : Value → Shared → Prop} (a : x.At s.heap i) (b : x.Is s.heap xs) (e : xs[i]? = some v)
    (q : ∀ h', x.At h' (i + 1) → Heap.SameBut x.it s.heap h' → Q v { s with heap := h' }) : wpAny (model prog w) A (Builtin.SmallTypes.nextOf (.ref x.it)) Q E s := by
  unfold Sr.At Sr.Is at *
  by_cases h : x.lst = true
  · simp only [if_pos h] at a b q
    exact wpAny_nextOf_list_item a b e q
  · simp only [if_neg h] at a b q
    exact RZ.nextOf_tuple_item a b e q
theorem sr_end {x : Sr} {i : Nat} {xs : Array Value} {Q : Value → Shared → Prop} (hh : A.handled = none) (a : x.At s.heap i) (b : x.Is s.heap xs) (e : xs[i]? = none)
    (q : ∀ h' e, Heap.ExtBut x.it s.heap h' → (∃ o, h'.get? e = some o ∧ o.cls = .type "StopIteration") → E (.ref e) { s with heap := h' }) : wpAny (model prog w) A (Builtin.SmallTypes.nextOf (.ref x.it)) Q E s := by
  unfold Sr.At Sr.Is at *
  by_cases h : x.lst = true
  · rw [if_pos h] at a b
    exact wpAny_nextOf_list_end hh a b e q
  · rw [if_neg h] at a b
    exact RZ.nextOf_tuple_end hh a b e q
end
def tupO (vs : Array Value) : Obj := { cls := .type "tuple", data := .seq vs }
def setAll (acc : Array Value) (j : Nat) : List Value → Array Value
  | [] => acc
  | v :: vs => setAll (acc.setIfInBounds j v) (j + 1) vs
theorem setAll_size : ∀ (vs : List Value) (acc : Array Value) (j : Nat), (setAll acc j vs).size = acc.size
  | [], acc, j => rfl
  | v :: vs, acc, j => by rw [setAll, setAll_size vs, Array.size_setIfInBounds]
theorem setAll_get : ∀ (vs : List Value) (acc : Array Value) (j i : Nat), j + vs.length ≤ acc.size → (setAll acc j vs)[i]? = if j ≤ i ∧ i < j + vs.length then vs[i - j]? else acc[i]?
  | [], acc, j, i, h => by
    rw [setAll, if_neg]
    simp
    try omega
  | v :: vs, acc, j, i, h => by
    rw [List.length_cons] at h
    rw [setAll, setAll_get vs _ _ _ (by rw [Array.size_setIfInBounds]; omega)]
    by_cases e : i = j
    · subst e
      rw [if_neg (by omega), if_pos (by simp), Nat.sub_self, List.getElem?_cons_zero, Array.getElem?_setIfInBounds_self_of_lt (by omega)]
    · by_cases c : j + 1 ≤ i ∧ i < j + 1 + vs.length
      · rw [if_pos c, if_pos (by rw [List.length_cons]; omega), show i - j = (i - (j + 1)) + 1 by omega, List.getElem?_cons_succ]
      · rw [if_neg c, if_neg (by rw [List.length_cons]; omega), Array.getElem?_setIfInBounds_ne (by omega)]
theorem setAll_all (vs : List Value) (acc : Array Value) (h : acc.size = vs.length) : setAll acc 0 vs = vs.toArray := by
  apply Array.ext_getElem?
  intro i
  rw [setAll_get vs acc 0 i (by omega)]
  by_cases c : i < vs.length
  · rw [if_pos (by omega)]; simp
  · rw [if_neg (by omega), Array.getElem?_eq_none (by omega)]
    simp; omega
/-- the objects of a zip lie apart -/
structure Apart (z TI TO : Addr) (xs : List Sr) : Prop where
  TIz : TI ≠ z
  TOz : TO ≠ z
  TITO : TI ≠ TO
  nd : (xs.map (·.it)).Nodup
  az : ∀ x ∈ xs, x.it ≠ z
  aTI : ∀ x ∈ xs, x.it ≠ TI
  aTO : ∀ x ∈ xs, x.it ≠ TO
  lz : ∀ x ∈ xs, x.l ≠ z
  lTO : ∀ x ∈ xs, x.l ≠ TO
  l : ∀ x ∈ xs, ∀ y ∈ xs, x.l ≠ y.it
/-- a step of the loop over the iterators -/
def zstep (z TO : Addr) (its : List Value) (f : List Value → Nat → Sem Fin) (v : Value) (k : Nat) : Sem (ForInStep (Option Fin × Unit)) := do
  let o ← (do let y ← Builtin.SmallTypes.nextOf v; pure (some y) : Sem (Option Value)).onRaise fun _ => setField (.ref z) 0 .none
  match o with
  | some x => do
    let q ← seqItems? (.ref TO)
    match q with
    | some kept => do
      updateSeq TO fun a => a.setIfInBounds k x
      letGo [kept.getD k .none]
      pure (.yield (none, ()))
    | _ => do
      let _ : PUnit ← unsupported "internal:zip.__next__"
      pure (.yield (none, ()))
  | none => do
    setField (.ref z) 0 .none
    let r ← f its k
    pure (.done (some r, ()))
section
variable {prog : Program} {w : World} {A : Around} {E : Value → Shared → Prop}
/-- a source, its things, its next one -/
abbrev Sd := Sr × Array Value × Value
theorem zloop_item {z TO : Addr} {its : List Value} {g : List Value → Nat → Sem Fin} {i : Nat} {f : Value × Nat → Option Fin × Unit → Sem (ForInStep (Option Fin × Unit))} (hf : ∀ v k, f (v, k) (none, ()) = zstep z TO its g v k) :
    ∀ (ds : List Sd) (j : Nat) (acc : Array Value) (s : Shared) (Q : Option Fin × Unit → Shared → Prop), acc.size ≤ 1000 → (ds.map (·.1.it)).Nodup → (∀ d ∈ ds, d.1.it ≠ TO) → (∀ d ∈ ds, d.1.l ≠ TO) → (∀ d ∈ ds, ∀ e ∈ ds, d.1.l ≠ e.1.it) →
      s.heap.get? TO = some (tupO acc) → (∀ d ∈ ds, d.1.At s.heap i ∧ d.1.Is s.heap d.2.1 ∧ d.2.1[i]? = some d.2.2) →
      (∀ h', h'.get? TO = some (tupO (setAll acc j (ds.map (·.2.2)))) → (∀ d ∈ ds, d.1.At h' (i + 1)) → h'.objs.size = s.heap.objs.size → (∀ c o, c ≠ TO → (∀ d ∈ ds, c ≠ d.1.it) → s.heap.get? c = some o → h'.get? c = some o) → Q (none, ()) { s with heap := h' }) →
      wpAny (model prog w) A (forIn ((ds.map fun d => Value.ref d.1.it).zipIdx j) (none, ()) f) Q E s
  | [], j, acc, s, Q, _, _, _, _, _, hTO, _, q => by
    rw [List.map_nil, List.zipIdx_nil, List.forIn_nil]
    exact wpAny_pure (q s.heap hTO (fun _ h => by cases h) rfl fun _ _ _ _ h => h)
  | d :: ds, j, acc, s, Q, hz, nd, aTO, lTO, la, hTO, st, q => by
    rw [List.map_cons, List.zipIdx_cons, List.forIn_cons, hf]
    rw [List.map_cons, List.nodup_cons] at nd
    unfold zstep
    obtain ⟨s1, s2, s3⟩ := st d List.mem_cons_self
    have dTO : TO ≠ d.1.it := (aTO d List.mem_cons_self).symm
    refine wpAny_bind (wpAny_bind (wpAny_onRaise (wpAny_bind (sr_item s1 s2 s3 fun h1 t1 same1 => wpAny_pure ?_))))
    have hTO1 : h1.get? TO = some (tupO acc) := same1.extBut _ _ dTO hTO
    refine wpAny_bind (wpAny_seqItems (s := { s with heap := h1 }) hTO1 rfl ?_)
    refine wpAny_bind (wpAny_updateSeq (s := { s with heap := h1 }) (xs := acc) hTO1 rfl ?_ (by rw [sizeLine_eq]; omega) (by rw [Array.size_setIfInBounds, sizeLine_eq]; omega))
    have hTO2 : (h1.update TO (Obj.mapSeq fun a => a.setIfInBounds j d.2.2)).get? TO = some (tupO (acc.setIfInBounds j d.2.2)) := by
      rw [Heap.get?_update_self _ hTO1 rfl]
      simp [Obj.mapSeq, tupO]
    have same2 : Heap.SameBut TO h1 (h1.update TO (Obj.mapSeq fun a => a.setIfInBounds j d.2.2)) := Heap.SameBut.update ..
    generalize h1.update TO (Obj.mapSeq fun a => a.setIfInBounds j d.2.2) = h2 at hTO2 same2 ⊢
    refine wpAny_bind (wpAny_letGo (wpAny_pure ?_))
    have keep : ∀ c o, c ≠ TO → c ≠ d.1.it → s.heap.get? c = some o → h2.get? c = some o := fun c o c1 c2 e => same2.extBut _ _ c1 (same1.extBut _ _ c2 e)
    refine zloop_item (i := i) hf ds (j + 1) _ { s with heap := h2 } Q (by rw [Array.size_setIfInBounds]; exact hz) nd.2 (fun e he => aTO e (List.mem_cons_of_mem _ he)) (fun e he => lTO e (List.mem_cons_of_mem _ he)) (fun e he e' he' => la e (List.mem_cons_of_mem _ he) e' (List.mem_cons_of_mem _ he')) hTO2 (fun e he => ?_) fun h' q1 q2 q3 q4 => ?_
    · obtain ⟨e1, e2, e3⟩ := st e (List.mem_cons_of_mem _ he)
      have ne : e.1.it ≠ d.1.it := fun z => nd.1 (z ▸ List.mem_map_of_mem he)
      exact ⟨e1.at fun o x => keep _ o (aTO e (List.mem_cons_of_mem _ he)) ne x, e2.at fun o x => keep _ o (lTO e (List.mem_cons_of_mem _ he)) (la e (List.mem_cons_of_mem _ he) d List.mem_cons_self) x, e3⟩
    · refine q h' q1 (fun e he => ?_) (q3.trans (same2.1.trans same1.1)) fun c o c1 c2 x => q4 c o c1 (fun e he => c2 e (List.mem_cons_of_mem _ he)) (keep c o c1 (c2 d List.mem_cons_self) x)
      rcases List.mem_cons.mp he with rfl | he
      · refine t1.at fun o x => q4 _ o dTO.symm (fun e' he' => fun z => nd.1 ?_) (same2.extBut _ _ dTO.symm x)
        rw [z]
        exact List.mem_map_of_mem (f := fun d : Sd => d.1.it) he'
      · exact q2 e he
/-- a source, its things -/
abbrev Se := Sr × Array Value
theorem zloop_end {z TI TO : Addr} {its : List Value} {g : List Value → Nat → Sem Fin} {i : Nat} {f : Value × Nat → Option Fin × Unit → Sem (ForInStep (Option Fin × Unit))} (hh : A.handled = none) (hf : ∀ v k, f (v, k) (none, ()) = zstep z TO its g v k) (zTO : z ≠ TO) :
    ∀ (ds : List Se) (j : Nat) (acc : Array Value) (s : Shared) (Q : Option Fin × Unit → Shared → Prop), acc.size ≤ 1000 → (ds.map (·.1.it)).Nodup → (∀ d ∈ ds, d.1.it ≠ TO) → (∀ d ∈ ds, d.1.it ≠ z) → (∀ d ∈ ds, d.1.l ≠ TO) → (∀ d ∈ ds, ∀ e ∈ ds, d.1.l ≠ e.1.it) →
      IsZip s.heap z TI TO .ellipsis → s.heap.get? TO = some (tupO acc) → (∀ d ∈ ds, d.1.At s.heap i ∧ d.1.Is s.heap d.2) → (∃ d ∈ ds, d.2[i]? = none) →
      (∀ h' e, (∀ c o, c ≠ z → c ≠ TO → (∀ d ∈ ds, c ≠ d.1.it) → s.heap.get? c = some o → h'.get? c = some o) → (∃ o, h'.get? e = some o ∧ o.cls = .type "StopIteration") → E (.ref e) { s with heap := h' }) →
      wpAny (model prog w) A (forIn ((ds.map fun d => Value.ref d.1.it).zipIdx j) (none, ()) f) Q E s
  | [], j, acc, s, Q, _, _, _, _, _, _, _, _, _, ⟨_, h, _⟩, _ => by cases h
  | d :: ds, j, acc, s, Q, hz, nd, aTO, az, lTO, la, hzip, hTO, st, hend, q => by
    rw [List.map_cons, List.zipIdx_cons, List.forIn_cons, hf]
    rw [List.map_cons, List.nodup_cons] at nd
    unfold zstep
    obtain ⟨s1, s2⟩ := st d List.mem_cons_self
    have dTO : TO ≠ d.1.it := (aTO d List.mem_cons_self).symm
    have dz : z ≠ d.1.it := (az d List.mem_cons_self).symm
    cases s3 : d.2[i]? with
    | none =>
      refine wpAny_bind (wpAny_bind (wpAny_onRaise (wpAny_bind (sr_end hh s1 s2 s3 fun h1 e same1 he => ?_))))
      obtain ⟨oe, he, hc⟩ := he
      have hz1 : IsZip h1 z TI TO .ellipsis := same1 _ _ dz hzip
      have ez : e ≠ z := fun x => by subst x; rw [hz1] at he; cases he; simp at hc
      refine wpAny_setField_rec (s := { s with heap := h1 }) hz1 (by simp) fun h3 _ same3 => ?_
      have same3 : Heap.SameBut z h1 h3 := same3
      exact q h3 e (fun c o c1 _ c3 x => same3.extBut _ _ c1 (same1 _ _ (c3 d List.mem_cons_self) x)) ⟨oe, same3.extBut _ _ ez he, hc⟩
    | some v =>
      refine wpAny_bind (wpAny_bind (wpAny_onRaise (wpAny_bind (sr_item s1 s2 s3 fun h1 t1 same1 => wpAny_pure ?_))))
      have hTO1 : h1.get? TO = some (tupO acc) := same1.extBut _ _ dTO hTO
      refine wpAny_bind (wpAny_seqItems (s := { s with heap := h1 }) hTO1 rfl ?_)
      refine wpAny_bind (wpAny_updateSeq (s := { s with heap := h1 }) (xs := acc) hTO1 rfl ?_ (by rw [sizeLine_eq]; omega) (by rw [Array.size_setIfInBounds, sizeLine_eq]; omega))
      have hTO2 : (h1.update TO (Obj.mapSeq fun a => a.setIfInBounds j v)).get? TO = some (tupO (acc.setIfInBounds j v)) := by
        rw [Heap.get?_update_self _ hTO1 rfl]
        simp [Obj.mapSeq, tupO]
      have same2 : Heap.SameBut TO h1 (h1.update TO (Obj.mapSeq fun a => a.setIfInBounds j v)) := Heap.SameBut.update ..
      generalize h1.update TO (Obj.mapSeq fun a => a.setIfInBounds j v) = h2 at hTO2 same2 ⊢
      refine wpAny_bind (wpAny_letGo (wpAny_pure ?_))
      have keep : ∀ c o, c ≠ TO → c ≠ d.1.it → s.heap.get? c = some o → h2.get? c = some o := fun c o c1 c2 e => same2.extBut _ _ c1 (same1.extBut _ _ c2 e)
      refine zloop_end (i := i) hh hf zTO ds (j + 1) _ { s with heap := h2 } Q (by rw [Array.size_setIfInBounds]; exact hz) nd.2 (fun e he => aTO e (List.mem_cons_of_mem _ he)) (fun e he => az e (List.mem_cons_of_mem _ he)) (fun e he => lTO e (List.mem_cons_of_mem _ he)) (fun e he e' he' => la e (List.mem_cons_of_mem _ he) e' (List.mem_cons_of_mem _ he')) (keep _ _ zTO dz hzip) hTO2 (fun e he => ?_) ?_ fun h' e q1 q2 => q h' e (fun c o c1 c2 c3 x => q1 c o c1 c2 (fun e he => c3 e (List.mem_cons_of_mem _ he)) (keep c o c2 (c3 d List.mem_cons_self) x)) q2
      · obtain ⟨e1, e2⟩ := st e (List.mem_cons_of_mem _ he)
        have ne : e.1.it ≠ d.1.it := fun z => nd.1 (z ▸ List.mem_map_of_mem (f := fun d : Se => d.1.it) he)
        exact ⟨e1.at fun o x => keep _ o (aTO e (List.mem_cons_of_mem _ he)) ne x, e2.at fun o x => keep _ o (lTO e (List.mem_cons_of_mem _ he)) (la e (List.mem_cons_of_mem _ he) d List.mem_cons_self) x⟩
      · obtain ⟨d', hd', hn⟩ := hend
        rcases List.mem_cons.mp hd' with rfl | hd'
        · rw [s3] at hn; cases hn
        · exact ⟨d', hd', hn⟩
/-- the iterators' list -/
def itsV (xs : List Sr) : Array Value := (xs.map fun x => Value.ref x.it).toArray
theorem zipN_item {z TI TO : Addr} {xs : List Sr} {i : Nat} {ds : List Sd} {acc : Array Value} {s : Shared} {Q : Value → Shared → Prop} (D : Apart z TI TO xs) (hne : xs ≠ []) (hx : ds.map (·.1) = xs) (hsz : acc.size = xs.length) (hmost : xs.length ≤ 1000)
    (hz : IsZip s.heap z TI TO .none) (hTI : s.heap.get? TI = some (tupO (itsV xs))) (hTO : s.heap.get? TO = some (tupO acc)) (st : ∀ d ∈ ds, d.1.At s.heap i ∧ d.1.Is s.heap d.2.1 ∧ d.2.1[i]? = some d.2.2)
    (q : ∀ h', IsZip h' z TI TO (rawInt s.heap.objs.size) → h'.get? TO = some (tupO (ds.map (·.2.2)).toArray) → (∀ d ∈ ds, d.1.At h' (i + 1)) → h'.get? s.heap.objs.size = some (tupO (ds.map (·.2.2)).toArray) →
      (∀ c o, c ≠ z → c ≠ TO → (∀ x ∈ xs, c ≠ x.it) → s.heap.get? c = some o → h'.get? c = some o) → Q (.ref s.heap.objs.size) { s with heap := h' }) :
    wpAny (model prog w) A (Builtin.«zip.__next__» ⟨[.ref z], []⟩) (fun fin s' => ∃ v, fin = .done (.ret v) ∧ Q v s') E s := by
  have hemp : (itsV xs).isEmpty = false := by
    cases xs with
    | nil => exact absurd rfl hne
    | cons x r => simp [itsV]
  have nd : (ds.map (·.1.it)).Nodup := by
    have := D.nd
    rw [← hx, List.map_map] at this
    exact this
  have mem : ∀ d ∈ ds, d.1 ∈ xs := fun d hd => by rw [← hx]; exact List.mem_map_of_mem hd
  have mem' : ∀ x ∈ xs, ∃ d ∈ ds, d.1 = x := fun x hx' => by rw [← hx] at hx'; simpa using hx'
  show wpAny _ _ (field (.ref z) 2 >>= _) _ _ _
  refine wpAny_bind (wpAny_field hz rfl (x := .bool false) rfl ?_)
  show wpAny _ _ (field (.ref z) 3 >>= _) _ _ _
  refine wpAny_bind (wpAny_field hz rfl (x := .ref TI) rfl ?_)
  refine wpAny_bind (wpAny_seqItems hTI rfl ?_)
  dsimp only
  rw [hemp]
  show wpAny _ _ (Builtin.SmallTypes.ownedTupleIsFree (.ref z) >>= _) _ _ _
  refine wpAny_bind ?_
  unfold Builtin.SmallTypes.ownedTupleIsFree
  refine wpAny_bind (wpAny_field hz rfl (x := .none) rfl (wpAny_pure ?_))
  simp only [if_true]
  refine wpAny_bind (wpAny_rule ?_)
  refine wpAny_bind (wpAny_field hz rfl (x := .ref TO) rfl ?_)
  refine wpAny_bind (wpAny_setField_rec hz (by simp) fun h1 hz1 same1 => ?_)
  replace hz1 : IsZip h1 z TI TO .ellipsis := hz1
  have hTO1 : h1.get? TO = some (tupO acc) := same1.extBut _ _ D.TOz hTO
  refine wpAny_bind ?_
  have el : (itsV xs).toList = ds.map fun d => Value.ref d.1.it := by
    rw [← hx]
    simp [itsV]
  rw [el]
  refine zloop_item (z := z) (i := i) (fun v k => rfl) ds 0 acc { s with heap := h1 } _ (by omega) nd (fun d hd => D.aTO _ (mem d hd)) (fun d hd => D.lTO _ (mem d hd)) (fun d hd e he => D.l _ (mem d hd) _ (mem e he)) hTO1 (fun d hd => ?_) fun h2 p1 p2 p3 p4 => ?_
  · obtain ⟨e1, e2, e3⟩ := st d hd
    exact ⟨e1.at fun o x => same1.extBut _ _ (D.az _ (mem d hd)) x, e2.at fun o x => same1.extBut _ _ (D.lz _ (mem d hd)) x, e3⟩
  · have hds : ds.length = xs.length := by rw [← hx, List.length_map]
    have hlen : (ds.map (·.2.2)).length = xs.length := by rw [← hx, List.length_map, List.length_map]
    rw [setAll_all _ _ (by rw [hlen]; exact hsz)] at p1
    have p4 : ∀ c o, c ≠ TO → (∀ d ∈ ds, c ≠ d.1.it) → h1.get? c = some o → h2.get? c = some o := p4
    have p3 : h2.objs.size = h1.objs.size := p3
    have hz2 : IsZip h2 z TI TO .ellipsis := p4 _ _ D.TOz.symm (fun d hd => (D.az _ (mem d hd)).symm) hz1
    show wpAny _ _ (seqItems? (.ref TO) >>= _) _ _ _
    refine wpAny_bind (wpAny_seqItems (s := { s with heap := h2 }) p1 rfl ?_)
    refine wpAny_bind (wpAny_newTuple (s := { s with heap := h2 }) ?_ (by rw [sizeLine_eq]; simp; omega))
    have hsz2 : h2.objs.size = s.heap.objs.size := p3.trans same1.1
    have up2 : ∀ c o, c ≠ z → c ≠ TO → (∀ x ∈ xs, c ≠ x.it) → s.heap.get? c = some o → h2.get? c = some o := fun c o c1 c2 c3 x => p4 c o c2 (fun d hd => c3 _ (mem d hd)) (same1.extBut _ _ c1 x)
    have hzlt : z < h2.objs.size := Heap.lt_size hz2
    show wpAny _ _ (Builtin.SmallTypes.ownedTupleHandOut (.ref z) (.ref h2.objs.size) >>= _) _ _ _
    refine wpAny_bind ?_
    unfold Builtin.SmallTypes.ownedTupleHandOut
    have hz6 : IsZip (h2.push { cls := .type "tuple", data := .seq (ds.map (·.2.2)).toArray.toList.toArray }) z TI TO .ellipsis := Heap.get?_push_of_some _ hz2
    refine wpAny_bind (wpAny_setField_rec (s := { s with heap := h2.push _ }) hz6 (by simp) fun h7 hz7 same7 => ?_)
    replace hz7 : IsZip h7 z TI TO (rawInt h2.objs.size) := hz7
    refine wpAny_setField_rec (s := { s with heap := h7 }) hz7 (by simp) fun h8 hz8 same8 => ?_
    replace hz8 : IsZip h8 z TI TO (rawInt h2.objs.size) := hz8
    have same7 : Heap.SameBut z (h2.push { cls := .type "tuple", data := .seq (ds.map (·.2.2)).toArray.toList.toArray }) h7 := same7
    have same8 : Heap.SameBut z h7 h8 := same8
    have up : ∀ c o, c ≠ z → h2.get? c = some o → h8.get? c = some o := fun c o c1 e => same8.extBut _ _ c1 (same7.extBut _ _ c1 (Heap.get?_push_of_some _ e))
    have hT8 : h8.get? h2.objs.size = some (tupO (ds.map (·.2.2)).toArray) := same8.extBut _ _ (Nat.ne_of_gt hzlt) (same7.extBut _ _ (Nat.ne_of_gt hzlt) (by rw [Heap.get?_push_size _ rfl]; simp [tupO]))
    refine wpAny_pure ⟨_, rfl, ?_⟩
    rw [hsz2] at hz8 hT8
    show Q (.ref h2.objs.size) _
    rw [hsz2]
    exact q h8 hz8 (up _ _ D.TOz p1) (fun d hd => (p2 d hd).at fun o x => up _ o (D.az _ (mem d hd)) x) hT8 fun c o c1 c2 c3 x => up c o c1 (up2 c o c1 c2 c3 x)
theorem zipN_end {z TI TO : Addr} {xs : List Sr} {i : Nat} {ds : List Se} {acc : Array Value} {s : Shared} {Q : Fin → Shared → Prop} (hh : A.handled = none) (D : Apart z TI TO xs) (hne : xs ≠ []) (hx : ds.map (·.1) = xs) (hsz : acc.size = xs.length) (hmost : xs.length ≤ 1000)
    (hz : IsZip s.heap z TI TO .none) (hTI : s.heap.get? TI = some (tupO (itsV xs))) (hTO : s.heap.get? TO = some (tupO acc)) (st : ∀ d ∈ ds, d.1.At s.heap i ∧ d.1.Is s.heap d.2) (hend : ∃ d ∈ ds, d.2[i]? = none)
    (q : ∀ h' e, (∀ c o, c ≠ z → c ≠ TO → (∀ x ∈ xs, c ≠ x.it) → s.heap.get? c = some o → h'.get? c = some o) → (∃ o, h'.get? e = some o ∧ o.cls = .type "StopIteration") → E (.ref e) { s with heap := h' }) :
    wpAny (model prog w) A (Builtin.«zip.__next__» ⟨[.ref z], []⟩) Q E s := by
  have hemp : (itsV xs).isEmpty = false := by
    cases xs with
    | nil => exact absurd rfl hne
    | cons x r => simp [itsV]
  have nd : (ds.map (·.1.it)).Nodup := by
    have := D.nd
    rw [← hx, List.map_map] at this
    exact this
  have mem : ∀ d ∈ ds, d.1 ∈ xs := fun d hd => by rw [← hx]; exact List.mem_map_of_mem hd
  have mem' : ∀ x ∈ xs, ∃ d ∈ ds, d.1 = x := fun x hx' => by rw [← hx] at hx'; simpa using hx'
  show wpAny _ _ (field (.ref z) 2 >>= _) _ _ _
  refine wpAny_bind (wpAny_field hz rfl (x := .bool false) rfl ?_)
  show wpAny _ _ (field (.ref z) 3 >>= _) _ _ _
  refine wpAny_bind (wpAny_field hz rfl (x := .ref TI) rfl ?_)
  refine wpAny_bind (wpAny_seqItems hTI rfl ?_)
  dsimp only
  rw [hemp]
  show wpAny _ _ (Builtin.SmallTypes.ownedTupleIsFree (.ref z) >>= _) _ _ _
  refine wpAny_bind ?_
  unfold Builtin.SmallTypes.ownedTupleIsFree
  refine wpAny_bind (wpAny_field hz rfl (x := .none) rfl (wpAny_pure ?_))
  simp only [if_true]
  refine wpAny_bind (wpAny_rule ?_)
  refine wpAny_bind (wpAny_field hz rfl (x := .ref TO) rfl ?_)
  refine wpAny_bind (wpAny_setField_rec hz (by simp) fun h1 hz1 same1 => ?_)
  replace hz1 : IsZip h1 z TI TO .ellipsis := hz1
  have hTO1 : h1.get? TO = some (tupO acc) := same1.extBut _ _ D.TOz hTO
  refine wpAny_bind ?_
  have el : (itsV xs).toList = ds.map fun d => Value.ref d.1.it := by
    rw [← hx]
    simp [itsV]
  rw [el]
  refine zloop_end (z := z) (TI := TI) (i := i) hh (fun v k => rfl) D.TOz.symm ds 0 acc { s with heap := h1 } _ (by omega) nd (fun d hd => D.aTO _ (mem d hd)) (fun d hd => D.az _ (mem d hd)) (fun d hd => D.lTO _ (mem d hd)) (fun d hd e he => D.l _ (mem d hd) _ (mem e he)) hz1 hTO1 (fun d hd => ?_) hend fun h' e p1 p2 => q h' e (fun c o c1 c2 c3 x => p1 c o c1 c2 (fun d hd => c3 _ (mem d hd)) (same1.extBut _ _ c1 x)) p2
  obtain ⟨e1, e2⟩ := st d hd
  exact ⟨e1.at fun o x => same1.extBut _ _ (D.az _ (mem d hd)) x, e2.at fun o x => same1.extBut _ _ (D.lz _ (mem d hd)) x⟩
end
end Y
end
section
set_option linter.all false
set_option maxRecDepth 100000
set_option maxHeartbeats 4000000
/-! Z9: zip, made and walked. -/
namespace Y
open PySem PySem.Spec L2 PyProof.Rows
section
variable {prog : Program} {w : World} {A : Around} {E : Value → Shared → Prop} {s : Shared}
theorem pyNext_zipN_item {z TI TO : Addr} {xs : List Sr} {i : Nat} {ds : List Sd} {acc : Array Value} {Q : Option Value → Shared → Prop} (D : Apart z TI TO xs) (hne : xs ≠ []) (hx : ds.map (·.1) = xs) (hsz : acc.size = xs.length) (hmost : xs.length ≤ 1000)
    (hz : IsZip s.heap z TI TO .none) (hTI : s.heap.get? TI = some (tupO (itsV xs))) (hTO : s.heap.get? TO = some (tupO acc)) (st : ∀ d ∈ ds, d.1.At s.heap i ∧ d.1.Is s.heap d.2.1 ∧ d.2.1[i]? = some d.2.2)
    (q : ∀ h', IsZip h' z TI TO (rawInt s.heap.objs.size) → h'.get? TO = some (tupO (ds.map (·.2.2)).toArray) → (∀ d ∈ ds, d.1.At h' (i + 1)) → h'.get? s.heap.objs.size = some (tupO (ds.map (·.2.2)).toArray) →
      (∀ c o, c ≠ z → c ≠ TO → (∀ x ∈ xs, c ≠ x.it) → s.heap.get? c = some o → h'.get? c = some o) → Q (some (.ref s.heap.objs.size)) { s with heap := h' }) : wpAny (model prog w) A (pyNext (.ref z)) Q E s := by
  have hT : s.TypeIs (.ref z) "zip" := ⟨_, hz, rfl⟩
  unfold pyNext
  exact wpAny_bind (wpAny_attempt (wpAny_callSpecial?_slot (name := Str.ofString "__next__") hT F.slot_zip_next
    (wpAny_call_entry F.slot_zip_next hT F.entry_zip_next (zipN_item D hne hx hsz hmost hz hTI hTO st fun h' a1 a2 a3 a4 a5 => wpAny_pure (q h' a1 a2 a3 a4 a5)) (F.args_zip_next_1 _))))
theorem pyNext_zipN_end {z TI TO : Addr} {xs : List Sr} {i : Nat} {ds : List Se} {acc : Array Value} {Q : Option Value → Shared → Prop} (hh : A.handled = none) (D : Apart z TI TO xs) (hne : xs ≠ []) (hx : ds.map (·.1) = xs) (hsz : acc.size = xs.length) (hmost : xs.length ≤ 1000)
    (hz : IsZip s.heap z TI TO .none) (hTI : s.heap.get? TI = some (tupO (itsV xs))) (hTO : s.heap.get? TO = some (tupO acc)) (st : ∀ d ∈ ds, d.1.At s.heap i ∧ d.1.Is s.heap d.2) (hend : ∃ d ∈ ds, d.2[i]? = none)
    (q : ∀ h', (∀ c o, c ≠ z → c ≠ TO → (∀ x ∈ xs, c ≠ x.it) → s.heap.get? c = some o → h'.get? c = some o) → Q none { s with heap := h' }) : wpAny (model prog w) A (pyNext (.ref z)) Q E s := by
  have hT : s.TypeIs (.ref z) "zip" := ⟨_, hz, rfl⟩
  unfold pyNext
  refine wpAny_bind (wpAny_attempt (wpAny_callSpecial?_slot (name := Str.ofString "__next__") hT F.slot_zip_next
    (wpAny_call_entry F.slot_zip_next hT F.entry_zip_next (zipN_end hh D hne hx hsz hmost hz hTI hTO st hend fun h' e hk he => ?_) (F.args_zip_next_1 _))))
  obtain ⟨o, ho, hc⟩ := he
  exact wpAny_bind (wpAny_isInstance (T := "StopIteration") (b := true) ⟨o, ho, hc⟩ isSubtype_stop (wpAny_pure (q _ hk)))
end
/-! ### made -/
/-- the iterators made, from the address n on -/
def srs (n : Nat) : List (Addr × Bool) → List Sr
  | [] => []
  | (l, b) :: r => ⟨n, l, b⟩ :: srs (n + 1) r
def itO (x : Addr × Bool) : Obj := if x.2 = true then { cls := .type "list_iterator", data := .fields #[.ref x.1, .int 0 0] } else { cls := .type "tuple_iterator", data := .fields #[.ref x.1, .int 0 0] }
def pushIts (h : Heap) : List (Addr × Bool) → Heap
  | [] => h
  | x :: r => pushIts (h.push (itO x)) r
theorem pushIts_size : ∀ (xs : List (Addr × Bool)) (h : Heap), (pushIts h xs).objs.size = h.objs.size + xs.length
  | [], h => rfl
  | x :: r, h => by rw [pushIts, pushIts_size r, Heap.size_push, List.length_cons]; omega
theorem pushIts_keeps : ∀ (xs : List (Addr × Bool)) (h : Heap) {c : Addr} {o : Obj}, h.get? c = some o → (pushIts h xs).get? c = some o
  | [], _, _, _, e => e
  | x :: r, h, _, _, e => pushIts_keeps r _ (Heap.get?_push_of_some _ e)
theorem itO_live (x : Addr × Bool) : (itO x).isFreed = false := by
  unfold itO
  split <;> rfl
theorem srs_at : ∀ (xs : List (Addr × Bool)) (h : Heap), ∀ x ∈ srs h.objs.size xs, x.At (pushIts h xs) 0
  | [], _, _, h => by cases h
  | y :: r, h, x, hx => by
    rcases List.mem_cons.mp hx with rfl | hx
    · have e : (pushIts (h.push (itO y)) r).get? h.objs.size = some (itO y) := pushIts_keeps r _ (Heap.get?_push_size _ (itO_live y))
      obtain ⟨l, b⟩ := y
      unfold Sr.At
      cases b with
      | true => rw [if_pos rfl]; exact ⟨_, e, rfl, rfl⟩
      | false => rw [if_neg (by simp)]; exact ⟨_, e, rfl, rfl⟩
    · have := srs_at r (h.push (itO y)) x (by rw [Heap.size_push]; exact hx)
      exact this
theorem srs_l : ∀ (xs : List (Addr × Bool)) (n : Nat), (srs n xs).map (fun x => (x.l, x.lst)) = xs
  | [], _ => rfl
  | (l, b) :: r, n => by rw [srs, List.map_cons, srs_l r]
theorem srs_it : ∀ (xs : List (Addr × Bool)) (n : Nat), (srs n xs).map (·.it) = List.range' n xs.length
  | [], _ => rfl
  | (l, b) :: r, n => by rw [srs, List.map_cons, srs_it r, List.length_cons, List.range'_succ]
theorem srs_length (xs : List (Addr × Bool)) (n : Nat) : (srs n xs).length = xs.length := by
  have := congrArg List.length (srs_it xs n)
  simpa using this
theorem srs_mem {xs : List (Addr × Bool)} {n : Nat} {x : Sr} (h : x ∈ srs n xs) : n ≤ x.it ∧ x.it < n + xs.length ∧ (x.l, x.lst) ∈ xs := by
  have h1 : x.it ∈ (srs n xs).map (·.it) := List.mem_map_of_mem h
  rw [srs_it, List.mem_range'_1] at h1
  refine ⟨h1.1, h1.2, ?_⟩
  have h2 : (x.l, x.lst) ∈ (srs n xs).map (fun x => (x.l, x.lst)) := List.mem_map_of_mem (f := fun x : Sr => (x.l, x.lst)) h
  rwa [srs_l] at h2
theorem srs_mem' {xs : List (Addr × Bool)} {n : Nat} {x : Sr} (h : x ∈ srs n xs) : ∃ a b : Nat, x.it = a ∧ x.l = b ∧ n ≤ a ∧ a < n + xs.length ∧ (x.l, x.lst) ∈ xs := ⟨x.it, x.l, rfl, rfl, (srs_mem h).1, (srs_mem h).2.1, (srs_mem h).2.2⟩
theorem srs_apart {xs : List (Addr × Bool)} {N : Nat} (h : ∀ x ∈ xs, x.1 < N) : Apart (N + xs.length + 2) (N + xs.length) (N + xs.length + 1) (srs N xs) where
  TIz := (fun a b => by omega : ∀ a b : Nat, a + b ≠ a + b + 2) _ _
  TOz := (fun a b => by omega : ∀ a b : Nat, a + b + 1 ≠ a + b + 2) _ _
  TITO := (fun a b => by omega : ∀ a b : Nat, a + b ≠ a + b + 1) _ _
  nd := by rw [srs_it]; exact List.nodup_range'
  az := fun x hx => by obtain ⟨a, b, e1, e2, h1, h2, h3⟩ := srs_mem' hx; rw [e1]; exact Nat.ne_of_lt (by omega)
  aTI := fun x hx => by obtain ⟨a, b, e1, e2, h1, h2, h3⟩ := srs_mem' hx; rw [e1]; exact Nat.ne_of_lt (by omega)
  aTO := fun x hx => by obtain ⟨a, b, e1, e2, h1, h2, h3⟩ := srs_mem' hx; rw [e1]; exact Nat.ne_of_lt (by omega)
  lz := fun x hx => by obtain ⟨a, b, e1, e2, h1, h2, h3⟩ := srs_mem' hx; exact Nat.ne_of_lt (Nat.lt_of_lt_of_le (h _ h3) (by omega))
  lTO := fun x hx => by obtain ⟨a, b, e1, e2, h1, h2, h3⟩ := srs_mem' hx; exact Nat.ne_of_lt (Nat.lt_of_lt_of_le (h _ h3) (by omega))
  l := fun x hx y hy => by obtain ⟨a, b, e1, e2, h1, h2, h3⟩ := srs_mem' hx; exact Nat.ne_of_lt (Nat.lt_of_lt_of_le (h _ h3) (srs_mem hy).1)
section
variable {prog : Program} {w : World} {A : Around} {E : Value → Shared → Prop}
theorem iter_src {x : Addr × Bool} {xs : Array Value} {s : Shared} {Q : Value → Shared → Prop} (h : if x.2 = true then s.heap.IsList x.1 xs else s.heap.IsTuple x.1 xs) (q : Q (.ref s.heap.objs.size) { s with heap := s.heap.push (itO x) }) :
    wpAny (model prog w) A (pyIter (.ref x.1)) Q E s := by
  unfold itO at q
  by_cases e : x.2 = true
  · simp only [if_pos e] at h q; exact wpAny_pyIter_list h q
  · simp only [if_neg e] at h q; exact wpAny_pyIter_tuple h q
theorem iterAll_ok : ∀ (xs : List (Addr × Bool)) (acc : Array Value) (s : Shared) (Q : Array Value → Shared → Prop), (∀ x ∈ xs, ∃ its, if x.2 = true then s.heap.IsList x.1 its else s.heap.IsTuple x.1 its) →
    Q (acc ++ itsV (srs s.heap.objs.size xs)) { s with heap := pushIts s.heap xs } →
    wpAny (model prog w) A (forIn (xs.map fun x => Value.ref x.1) acc fun x its => do let v ← holding its.toList (pyIter x); pure (.yield (its.push v))) Q E s
  | [], acc, s, Q, _, q => by
    rw [List.map_nil, List.forIn_nil]
    have : acc ++ itsV (srs s.heap.objs.size []) = acc := by simp [itsV, srs]
    rw [this] at q
    exact wpAny_pure q
  | x :: xs, acc, s, Q, h, q => by
    rw [List.map_cons, List.forIn_cons]
    obtain ⟨its, hx⟩ := h x List.mem_cons_self
    refine wpAny_bind (wpAny_bind (wpAny_holding (iter_src hx (wpAny_pure ?_))))
    refine iterAll_ok xs _ { s with heap := s.heap.push (itO x) } Q (fun y hy => ?_) ?_
    · obtain ⟨ys, hy'⟩ := h y (List.mem_cons_of_mem _ hy)
      refine ⟨ys, ?_⟩
      by_cases e : y.2 = true
      · rw [if_pos e] at hy' ⊢; exact Heap.IsList.at hy' fun o z => Heap.get?_push_of_some _ z
      · rw [if_neg e] at hy' ⊢; exact Heap.IsTuple.at hy' fun o z => Heap.get?_push_of_some _ z
    · have e1 : acc.push (Value.ref s.heap.objs.size) ++ itsV (srs (s.heap.push (itO x)).objs.size xs) = acc ++ itsV (srs s.heap.objs.size (x :: xs)) := by
        rw [Heap.size_push]
        obtain ⟨l, b⟩ := x
        apply Array.toList_inj.mp
        simp [itsV, srs]
      show Q (acc.push (Value.ref s.heap.objs.size) ++ itsV (srs (s.heap.push (itO x)).objs.size xs)) _
      rw [e1]
      exact q
/-- the heap behind zip(..) -/
def zipHeap (h : Heap) (xs : List (Addr × Bool)) : Heap :=
  (((pushIts h xs).push (tupO (itsV (srs h.objs.size xs)))).push (tupO (xs.map fun _ => Value.none).toArray)).push
    { cls := .type "zip", data := .fields #[.none, .bool false, .bool false, .ref (h.objs.size + xs.length), .ref (h.objs.size + xs.length + 1)] }
theorem meets_zipN (xs : List (Addr × Bool)) (hmost : xs.length ≤ 1000) :
    Meets (Builtin.«zip.__new__» ⟨.type "zip" :: xs.map (fun x => Value.ref x.1), []⟩) (fun _ R s => (∀ x ∈ xs, ∃ its, if x.2 = true then s.heap.IsList x.1 its else s.heap.IsTuple x.1 its) ∧
      R (.ok (.ret (.ref (s.heap.objs.size + xs.length + 2)))) { s with heap := zipHeap s.heap xs }) :=
  .of_wp fun prog w A R s h => by
    obtain ⟨hx, h⟩ := h
    have hsub := sub_zip
    wp_walk
    refine iterAll_ok (prog := prog) (w := w) (A := A.in1) xs #[] s _ hx ?_
    refine wpAny_pure ?_
    have e0 : (#[] ++ itsV (srs s.heap.objs.size xs) : Array Value).toList = (srs s.heap.objs.size xs).map fun x => Value.ref x.it := by simp [itsV]
    rw [e0]
    refine wpAny_bind (wpAny_newTuple (s := { s with heap := pushIts s.heap xs }) ?_ (by rw [List.length_map, srs_length, sizeLine_eq]; omega))
    refine wpAny_bind (wpAny_newTuple (s := { s with heap := (pushIts s.heap xs).push _ }) ?_ (by rw [List.length_map, List.length_map, srs_length, sizeLine_eq]; omega))
    have z1 : (pushIts s.heap xs).objs.size = s.heap.objs.size + xs.length := pushIts_size ..
    have z2 : ((pushIts s.heap xs).push (tupO (itsV (srs s.heap.objs.size xs)))).objs.size = s.heap.objs.size + xs.length + 1 := by rw [Heap.size_push, z1]
    have z3 : (((pushIts s.heap xs).push (tupO (itsV (srs s.heap.objs.size xs)))).push (tupO (xs.map fun _ => Value.none).toArray)).objs.size = s.heap.objs.size + xs.length + 2 := by rw [Heap.size_push, z2]
    have e1 : (List.map (fun _ => Value.none) ((srs s.heap.objs.size xs).map fun x => Value.ref x.it)) = xs.map fun _ => Value.none := by
      rw [List.map_map]
      apply List.ext_getElem?
      intro i
      simp only [List.getElem?_map]
      have hl := srs_length xs s.heap.objs.size
      by_cases c : i < xs.length
      · rw [List.getElem?_eq_getElem (by omega), List.getElem?_eq_getElem c]; rfl
      · rw [List.getElem?_eq_none (by omega), List.getElem?_eq_none (by omega)]; rfl
    rw [e1]
    show wpAny _ _ (newObj (.type "zip") (.fields #[.none, .bool false, .bool false, .ref (pushIts s.heap xs).objs.size, .ref ((pushIts s.heap xs).push (tupO (itsV (srs s.heap.objs.size xs)))).objs.size]) >>= _) _ _ { s with heap := ((pushIts s.heap xs).push (tupO (itsV (srs s.heap.objs.size xs)))).push (tupO (xs.map fun _ => Value.none).toArray) }
    rw [z1, z2]
    refine wpAny_bind (wpAny_newObj_type ?_ (by size_fits))
    refine wpAny_pure ⟨_, rfl, ?_⟩
    show R (.ok (.ret (.ref (((pushIts s.heap xs).push (tupO (itsV (srs s.heap.objs.size xs)))).push (tupO (xs.map fun _ => Value.none).toArray)).objs.size))) _
    rw [z3]
    exact h
end
end Y
end
section
set_option linter.all false
set_option maxRecDepth 100000
set_option maxHeartbeats 4000000
/-! Z10: zip as what is walked. -/
namespace Y
open PySem PySem.Spec L2 PyProof.Rows
section
theorem tc_zip3 (a b c : Value) : checkTypeCall "zip" ⟨[a, b, c], []⟩ = pure () := by kernel_rfl
theorem tc_zip4 (a b c d : Value) : checkTypeCall "zip" ⟨[a, b, c, d], []⟩ = pure () := by kernel_rfl
theorem nc_zip3 (a b c : Value) : checkBuiltinCall "zip.__new__" ⟨[.type "zip", a, b, c], []⟩ = pure () := by kernel_rfl
theorem nc_zip4 (a b c d : Value) : checkBuiltinCall "zip.__new__" ⟨[.type "zip", a, b, c, d], []⟩ = pure () := by kernel_rfl
theorem oi_4 (a b c d : Value) : argsOk "object.__init__" ⟨[a, b, c, d], []⟩ := by
  unfold argsOk; rw [signature?_of (id := "object.__init__") (n := ['_', '_', 't', 'i', 'n', 'i', '_', '_']) (o := ['t', 'c', 'e', 'j', 'b', 'o']) (by kernel_rfl) F.owner_object]; kernel_rfl
theorem oi_5 (a b c d e : Value) : argsOk "object.__init__" ⟨[a, b, c, d, e], []⟩ := by
  unfold argsOk; rw [signature?_of (id := "object.__init__") (n := ['_', '_', 't', 'i', 'n', 'i', '_', '_']) (o := ['t', 'c', 'e', 'j', 'b', 'o']) (by kernel_rfl) F.owner_object]; kernel_rfl
variable {prog : Program} {w : World} {A : Around} {E : Value → Shared → Prop} {s : Shared}
/-- so many may be zipped -/
def zipMany (n : Nat) : Bool := Nat.beq n 2 || (Nat.beq n 3 || Nat.beq n 4)
theorem zipHeap_size (h : Heap) (xs : List (Addr × Bool)) : ((((pushIts h xs).push (tupO (itsV (srs h.objs.size xs)))).push (tupO (xs.map fun _ => Value.none).toArray)).objs.size : Nat) = h.objs.size + xs.length + 2 := by
  rw [Heap.size_push, Heap.size_push, pushIts_size]
theorem zipHeap_z (h : Heap) (xs : List (Addr × Bool)) : IsZip (zipHeap h xs) (h.objs.size + xs.length + 2) (h.objs.size + xs.length) (h.objs.size + xs.length + 1) .none := by
  have := Heap.get?_push_size (((pushIts h xs).push (tupO (itsV (srs h.objs.size xs)))).push (tupO (xs.map fun _ => Value.none).toArray)) (o := { cls := .type "zip", data := .fields #[.none, .bool false, .bool false, .ref (h.objs.size + xs.length), .ref (h.objs.size + xs.length + 1)] }) rfl
  rw [zipHeap_size] at this
  exact this
theorem zipHeap_TI (h : Heap) (xs : List (Addr × Bool)) : (zipHeap h xs).get? (h.objs.size + xs.length) = some (tupO (itsV (srs h.objs.size xs))) := by
  have := Heap.get?_push_size (pushIts h xs) (o := tupO (itsV (srs h.objs.size xs))) rfl
  rw [pushIts_size] at this
  exact Heap.get?_push_of_some _ (Heap.get?_push_of_some _ this)
theorem zipHeap_TO (h : Heap) (xs : List (Addr × Bool)) : (zipHeap h xs).get? (h.objs.size + xs.length + 1) = some (tupO (xs.map fun _ => Value.none).toArray) := by
  have := Heap.get?_push_size ((pushIts h xs).push (tupO (itsV (srs h.objs.size xs)))) (o := tupO (xs.map fun _ => Value.none).toArray) rfl
  rw [Heap.size_push, pushIts_size] at this
  exact Heap.get?_push_of_some _ this
theorem zipHeap_keeps (h : Heap) (xs : List (Addr × Bool)) : ∀ c o, h.get? c = some o → (zipHeap h xs).get? c = some o := fun c o e =>
  Heap.get?_push_of_some _ (Heap.get?_push_of_some _ (Heap.get?_push_of_some _ (pushIts_keeps xs h e)))
theorem zipHeap_at (h : Heap) (xs : List (Addr × Bool)) : ∀ x ∈ srs h.objs.size xs, x.At (zipHeap h xs) 0 := fun x hx =>
  (srs_at xs h x hx).at fun o e => Heap.get?_push_of_some _ (Heap.get?_push_of_some _ (Heap.get?_push_of_some _ e))
theorem call_zipN {xs : List (Addr × Bool)} {Q : Value → Shared → Prop} (hm : zipMany xs.length = true) (hx : ∀ x ∈ xs, ∃ its, if x.2 = true then s.heap.IsList x.1 its else s.heap.IsTuple x.1 its)
    (q : Q (.ref (s.heap.objs.size + xs.length + 2)) { s with heap := zipHeap s.heap xs }) : wpAny (model prog w) A (call (.type "zip") (xs.map fun x => Value.ref x.1)) Q E s := by
  have ty : ({ s with heap := zipHeap s.heap xs } : Shared).TypeIs (.ref (s.heap.objs.size + xs.length + 2)) "zip" := ⟨_, zipHeap_z s.heap xs, rfl⟩
  have hl : xs.length = 2 ∨ xs.length = 3 ∨ xs.length = 4 := by
    unfold zipMany at hm
    rw [Bool.or_eq_true, Bool.or_eq_true] at hm
    rcases hm with e | e | e
    · exact .inl (Nat.eq_of_beq_eq_true e)
    · exact .inr (.inl (Nat.eq_of_beq_eq_true e))
    · exact .inr (.inr (Nat.eq_of_beq_eq_true e))
  have hmost : xs.length ≤ 1000 := by omega
  have main : ∀ us : List Value, us = (xs.map fun x => Value.ref x.1) → checkTypeCall "zip" ⟨us, []⟩ = pure () → checkBuiltinCall "zip.__new__" ⟨.type "zip" :: us, []⟩ = pure () → (∀ obj, argsOk "object.__init__" ⟨obj :: us, []⟩) → wpAny (model prog w) A (call (.type "zip") us) Q E s := by
    intro us e c1 c2 c3
    subst e
    exact callType_new F.called_zip (by decide) c1 c2 c3 F.entry_zip_new (meets_zipN xs hmost) ⟨hx, ty, q⟩
  rcases xs with _ | ⟨a, _ | ⟨b, _ | ⟨c, _ | ⟨d, _ | ⟨e, r⟩⟩⟩⟩⟩
  · simp at hl
  · simp at hl
  · exact main [_, _] rfl (F.typeCall_zip_2 _ _) (F.newCall_zip_2 _ _) fun obj => F.args_object_init_3 obj _ _
  · exact main [_, _, _] rfl (tc_zip3 _ _ _) (nc_zip3 _ _ _) fun obj => oi_4 obj _ _ _
  · exact main [_, _, _, _] rfl (tc_zip4 _ _ _ _) (nc_zip4 _ _ _ _) fun obj => oi_5 obj _ _ _ _
  · simp at hl
end
/-! ### the walk -/
def SeqV (K : PySem.W.Frag) (H : Hp) (x : Addr × Bool) (vs : List L2.V) : Prop := if x.2 = true then SqL K H x.1 vs else SqT K H x.1 vs
/-- one by one -/
inductive All2 {α β : Type} (R : α → β → Prop) : List α → List β → Prop
  | nil : All2 R [] []
  | cons {a : α} {b : β} {as : List α} {bs : List β} (h : R a b) (t : All2 R as bs) : All2 R (a :: as) (b :: bs)
theorem All2.length {α β : Type} {R : α → β → Prop} : ∀ {as : List α} {bs : List β}, All2 R as bs → as.length = bs.length
  | _, _, .nil => rfl
  | _, _, .cons _ t => by rw [List.length_cons, List.length_cons, t.length]
theorem All2.imp {α β : Type} {R S : α → β → Prop} (i : ∀ a b, R a b → S a b) : ∀ {as : List α} {bs : List β}, All2 R as bs → All2 S as bs
  | _, _, .nil => .nil
  | _, _, .cons h t => .cons (i _ _ h) (t.imp i)
def ItzN (K : PySem.W.Frag) (xs : List (Addr × Bool)) : It :=
  ⟨fun i H => ∀ x ∈ xs, ∃ (vs : List L2.V) (v : L2.V), SeqV K H x vs ∧ vs[i]? = some v,
    fun i H v H' => ∃ T vs, v = .ref T ∧ H T = none ∧ H' = upd H T (.tup vs) ∧ All2 (fun x v => ∀ ws, SeqV K H x ws → ws[i]? = some v) xs vs,
    fun i H => (∀ x ∈ xs, ∃ vs : List L2.V, SeqV K H x vs) ∧ ∃ x ∈ xs, ∃ vs : List L2.V, SeqV K H x vs ∧ vs.length ≤ i⟩
section
variable {X : Cx} {pins : List (Addr × Obj)} {σ : L2.St} {H : Hp} {s : Shared}
theorem seqV_heap (I : L2.Inv X pins σ H s) {x : Addr × Bool} {vs : List L2.V} (h : SeqV X.K H x vs) : ∃ its : List Value, Vals vs its ∧ (if x.2 = true then s.heap.IsList x.1 its.toArray else s.heap.IsTuple x.1 its.toArray) := by
  unfold SeqV at h
  by_cases e : x.2 = true
  · rw [if_pos e] at h
    obtain ⟨its, rv, p, _⟩ := I.list h
    exact ⟨its, rv, by rw [if_pos e]; exact p.isList⟩
  · rw [if_neg e] at h
    obtain ⟨its, rv, p, _⟩ := I.tuple h
    exact ⟨its, rv, by rw [if_neg e]; exact p⟩
theorem seqV_inj (I : L2.Inv X pins σ H s) {x : Addr × Bool} {vs ws : List L2.V} (h : SeqV X.K H x vs) (k : SeqV X.K H x ws) : vs = ws := by
  unfold SeqV at h k
  by_cases e : x.2 = true
  · rw [if_pos e] at h k; exact I.list_inj h k
  · rw [if_neg e] at h k; exact I.tuple_inj h k
/-- sources, their things and next ones, from what is known of the heap -/
theorem sds_of (I : L2.Inv X pins σ H s) {i : Nat} : ∀ {S : List Sr}, (∀ x ∈ S, ∃ (vs : List L2.V) (v : L2.V), SeqV X.K H (x.l, x.lst) vs ∧ vs[i]? = some v) → (∀ x ∈ S, x.At s.heap i) →
    ∃ (ds : List Sd) (vs : List L2.V), ds.map (·.1) = S ∧ (∀ d ∈ ds, d.1.At s.heap i ∧ d.1.Is s.heap d.2.1 ∧ d.2.1[i]? = some d.2.2) ∧ Vals vs (ds.map (·.2.2)) ∧ All2 (fun (x : Addr × Bool) v => ∀ ws, SeqV X.K H x ws → ws[i]? = some v) (S.map fun x => (x.l, x.lst)) vs
  | [], _, _ => ⟨[], [], rfl, fun _ h => (by cases h), .nil, .nil⟩
  | x :: S, h, a => by
    obtain ⟨ds, vs, e1, e2, e3, e4⟩ := sds_of I (S := S) (fun y hy => h y (List.mem_cons_of_mem _ hy)) (fun y hy => a y (List.mem_cons_of_mem _ hy))
    obtain ⟨ws, v, q1, q2⟩ := h x List.mem_cons_self
    obtain ⟨its, rv, p⟩ := seqV_heap I q1
    obtain ⟨u, hu, ru⟩ := rv.get q2
    refine ⟨(x, its.toArray, u) :: ds, v :: vs, by rw [List.map_cons, e1], fun d hd => ?_, .cons ru e3, .cons (fun ws' hw => by rw [seqV_inj I hw q1]; exact q2) e4⟩
    rcases List.mem_cons.mp hd with rfl | hd
    · exact ⟨a x List.mem_cons_self, p, by simpa using hu⟩
    · exact e2 d hd
theorem ses_of (I : L2.Inv X pins σ H s) {i : Nat} : ∀ {S : List Sr}, (∀ x ∈ S, ∃ vs : List L2.V, SeqV X.K H (x.l, x.lst) vs) → (∀ x ∈ S, x.At s.heap i) →
    ∃ ds : List Se, ds.map (·.1) = S ∧ (∀ d ∈ ds, d.1.At s.heap i ∧ d.1.Is s.heap d.2) ∧ ∀ d ∈ ds, ∀ vs : List L2.V, SeqV X.K H (d.1.l, d.1.lst) vs → d.2.size = vs.length
  | [], _, _ => ⟨[], rfl, fun _ h => (by cases h), fun _ h => (by cases h)⟩
  | x :: S, h, a => by
    obtain ⟨ds, e1, e2, e3⟩ := ses_of I (S := S) (fun y hy => h y (List.mem_cons_of_mem _ hy)) (fun y hy => a y (List.mem_cons_of_mem _ hy))
    obtain ⟨ws, q1⟩ := h x List.mem_cons_self
    obtain ⟨its, rv, p⟩ := seqV_heap I q1
    refine ⟨(x, its.toArray) :: ds, by rw [List.map_cons, e1], fun d hd => ?_, fun d hd vs hv => ?_⟩
    · rcases List.mem_cons.mp hd with rfl | hd
      · exact ⟨a x List.mem_cons_self, p⟩
      · exact e2 d hd
    · rcases List.mem_cons.mp hd with rfl | hd
      · rw [seqV_inj I hv q1]; simp [rv.length]
      · exact e3 d hd vs hv
end
theorem turn_zipN {P : Program} {w : World} {K : PySem.W.Frag} {elts : List Expr} {kk : Nat} {tpos : Pos} {z TI TO : Addr} {S : List Sr} (D : Apart z TI TO S) (hne : S ≠ []) (hmost : S.length ≤ 1000) :
    Turn P w K (.Tuple elts kk tpos) (ItzN K (S.map fun x => (x.l, x.lst))) (z :: TI :: TO :: S.map (·.it)) z
      (fun i h => IsZip h z TI TO .none ∧ h.get? TI = some (tupO (itsV S)) ∧ (∃ acc : Array Value, acc.size = S.length ∧ h.get? TO = some (tupO acc)) ∧ ∀ x ∈ S, x.At h i) where
  mem := List.mem_cons_self
  obj := fun i h ⟨hz, hTI, ⟨acc, _, hTO⟩, st⟩ c hc => by
    rcases List.mem_cons.mp hc with rfl | hc
    · exact ⟨_, hz, fun v q => nomatch q⟩
    · rcases List.mem_cons.mp hc with rfl | hc
      · exact ⟨_, hTI, fun v q => nomatch q⟩
      · rcases List.mem_cons.mp hc with rfl | hc
        · exact ⟨_, hTO, fun v q => nomatch q⟩
        · obtain ⟨x, hx, rfl⟩ := List.mem_map.mp hc
          exact (st x hx).obj
  keep := fun i h h' ⟨hz, hTI, ⟨acc, ha, hTO⟩, st⟩ k =>
    ⟨k z (by simp) _ hz, k TI (by simp) _ hTI, ⟨acc, ha, k TO (by simp) _ hTO⟩, fun x hx => (st x hx).at fun o q => k x.it (List.mem_cons_of_mem _ (List.mem_cons_of_mem _ (List.mem_cons_of_mem _ (List.mem_map_of_mem hx)))) o q⟩
  item := by
    intro X hP hw hK hc i pins s σ H E I hf ⟨hz, hTI, ⟨acc, ha, hTO⟩, st⟩ hg
    subst hP hw hK
    obtain ⟨ds, vs, e1, e2, e3, e4⟩ := sds_of I (S := S) (fun x hx => hg (x.l, x.lst) (List.mem_map_of_mem (f := fun x : Sr => (x.l, x.lst)) hx)) st
    have hzl : z < s.heap.objs.size := Heap.lt_size hz
    have hlv : vs.length = S.length := by rw [e3.length, List.length_map, ← e1, List.length_map]
    refine pyNext_zipN_item D hne e1 ha hmost hz hTI hTO e2 fun h1 z1 TO1 at1 T1 keep1 => ?_
    refine ⟨_, rfl, wpAny_letOwnedTupleGo_zip (s := { s with heap := h1 }) z1 fun h2 z2 same => ?_⟩
    have same : Heap.SameBut z h1 h2 := same
    have hT2 : h2.get? s.heap.objs.size = some (tupO (ds.map (·.2.2)).toArray) := (same.2 _ (Nat.ne_of_gt hzl)).trans T1
    have new : ObjOk X.prog X.w (upd H s.heap.objs.size (.tup vs)) h2 s.heap.objs.size (.tup vs) :=
      ⟨by rw [hlv, sizeLine_eq]; omega, ds.map (·.2.2), e3, ⟨_, hT2, rfl, _, rfl⟩⟩
    have it_ne : ∀ x ∈ S, ∀ c : Addr, c ∉ (z :: TI :: TO :: S.map (·.it)) → c ≠ x.it := fun x hx c hc e => hc (e ▸ List.mem_cons_of_mem _ (List.mem_cons_of_mem _ (List.mem_cons_of_mem _ (List.mem_map_of_mem hx))))
    have I1 : L2.Inv X pins σ (upd H s.heap.objs.size (.tup vs)) { s with heap := h2 } :=
      I.turnedNew (t' := s.toks) (ch := z :: TI :: TO :: S.map (·.it)) (fun c o hb q => (same.2 c (fun q' => hb (by simp [q']))).trans (keep1 c o (fun q' => hb (by simp [q'])) (fun q' => hb (by simp [q'])) (fun x hx => it_ne x hx c hb) q)) hf (Nat.le_refl _) new
    refine ⟨.ref s.heap.objs.size, _, I1, rfl, ⟨_, vs, rfl, I.hok.fresh (Nat.le_refl _), rfl, e4⟩, ⟨z2, ?_, ⟨(ds.map (·.2.2)).toArray, by rw [List.size_toArray, ← e3.length, hlv], ?_⟩, fun x hx => ?_⟩, fun c hcm => ?_⟩
    · exact (same.2 _ D.TIz).trans (keep1 _ _ D.TIz D.TITO (fun x hx => (D.aTI x hx).symm) hTI)
    · exact (same.2 _ D.TOz).trans TO1
    · have hx' : x ∈ ds.map (·.1) := by rw [e1]; exact hx
      obtain ⟨d, hd, rfl⟩ := List.mem_map.mp hx'
      exact (at1 d hd).at fun o q => (same.2 _ (D.az _ hx)).trans q
    · have hlt : c < s.heap.objs.size := by
        rcases List.mem_cons.mp hcm with rfl | hc
        · exact hzl
        · rcases List.mem_cons.mp hc with rfl | hc
          · exact Heap.lt_size hTI
          · rcases List.mem_cons.mp hc with rfl | hc
            · exact Heap.lt_size hTO
            · obtain ⟨x, hx, rfl⟩ := List.mem_map.mp hc
              obtain ⟨o, e, _⟩ := (st x hx).obj
              exact Heap.lt_size e
      rw [upd_ne (Nat.ne_of_lt hlt)]
      exact (hf c hcm).1
  done := by
    intro X hP hw hK hc i pins s σ H E I hf ⟨hz, hTI, ⟨acc, ha, hTO⟩, st⟩ ⟨hg, x0, hx0, vs0, hv0, hl0⟩
    subst hP hw hK
    obtain ⟨ds, e1, e2, e3⟩ := ses_of I (S := S) (fun x hx => hg (x.l, x.lst) (List.mem_map_of_mem (f := fun x : Sr => (x.l, x.lst)) hx)) st
    obtain ⟨y, hy, rfl⟩ := List.mem_map.mp hx0
    have hy' : y ∈ ds.map (·.1) := by rw [e1]; exact hy
    obtain ⟨d, hd, rfl⟩ := List.mem_map.mp hy'
    refine pyNext_zipN_end (I.ok.hd hc) D hne e1 ha hmost hz hTI hTO e2 ⟨d, hd, by rw [Array.getElem?_eq_none_iff, e3 d hd vs0 hv0]; exact hl0⟩ fun h' keep => ⟨rfl, I.turnedL (t' := s.toks) (ch := z :: TI :: TO :: S.map (·.it)) (fun c o hb q => keep c o (fun q' => hb (by simp [q'])) (fun q' => hb (by simp [q'])) (fun x hx e => hb (e ▸ List.mem_cons_of_mem _ (List.mem_cons_of_mem _ (List.mem_cons_of_mem _ (List.mem_map_of_mem hx))))) q) hf⟩
  self := fun A i s Q E st h => wpAny_pyIter_zip st.1 h
/-! ### the walk's reading -/
def iZipN (K : PySem.W.Frag) (ta : TA) : TI := fun σ H R => ta σ H fun vs H1 => ∃ xs : List (Addr × Bool), vs = xs.map (fun x => V.ref x.1) ∧ zipMany xs.length = true ∧ (∀ x ∈ xs, ∃ ws, SeqV K H1 x ws) ∧ R (ItzN K xs) H1
theorem vals_refs : ∀ {xs : List (Addr × Bool)} {us : List Value}, Vals (xs.map fun x => V.ref x.1) us → us = xs.map fun x => Value.ref x.1
  | [], _, r => by cases r; rfl
  | x :: xs, _, r => by
    cases r with
    | cons h t =>
      cases h
      rw [List.map_cons, vals_refs t]
theorem pi_zipN {X : Cx} {e : Expr} {es : List Expr} {ta : TA} {p pos tpos : Pos} {elts : List Expr} {kk : Nat} (hg : Gl X "zip") (hm : X.mg "zip" = none) (pa : PA X (e :: es) ta)
    (hs : starEach (e :: es) X.env = (false, eval e X.env) :: starEach es X.env) (hpl : (backTo pos (starEach es X.env)).any (·.1) = false) :
    PI X (.Tuple elts kk tpos) (.Call (.Name "zip" p) (e :: es) [] pos) (iZipN X.K ta) := by
  refine ⟨fun pins s σ H R I h => ?_⟩
  refine Call_ (ld_blt I hg hm PyProof.Rows.boot_zip (PyProof.Rows.callWith_type1 (thn (pa.run pos pins s σ H _ I h) fun us s1 ⟨vs, H1, I1, r1, q1⟩ => ?_) hs hpl))
  obtain ⟨xs, rfl, many, hx, q⟩ := q1
  rw [vals_refs r1]
  have hx' : ∀ x ∈ xs, ∃ its, if x.2 = true then s1.heap.IsList x.1 its else s1.heap.IsTuple x.1 its := fun x hx0 => by
    obtain ⟨ws, hw⟩ := hx x hx0
    obtain ⟨its, _, p⟩ := seqV_heap I1 hw
    exact ⟨_, p⟩
  refine call_zipN many hx' ?_
  have I2 : L2.Inv X pins σ H1 { s1 with heap := zipHeap s1.heap xs } := I1.kept (t' := s1.toks) (zipHeap_keeps _ _)
  have below : ∀ x ∈ xs, x.1 < s1.heap.objs.size := fun x hx0 => by
    obtain ⟨its, p⟩ := hx' x hx0
    by_cases e : x.2 = true
    · rw [if_pos e] at p; obtain ⟨o, ho, _⟩ := p; exact Heap.lt_size ho
    · rw [if_neg e] at p; obtain ⟨o, ho, _⟩ := p; exact Heap.lt_size ho
  have hl : (srs s1.heap.objs.size xs).length = xs.length := srs_length _ _
  have hpos : 0 < xs.length ∧ xs.length ≤ 1000 := by
    unfold zipMany at many
    rw [Bool.or_eq_true, Bool.or_eq_true] at many
    rcases many with e | e | e <;> (have := Nat.eq_of_beq_eq_true e; omega)
  have T := turn_zipN (P := X.prog) (w := X.w) (K := X.K) (elts := elts) (kk := kk) (tpos := tpos) (srs_apart below) (by intro z; rw [z] at hl; simp at hl; omega) (by omega)
  rw [srs_l] at T
  refine wpAny_pyIter_zip (s := { s1 with heap := zipHeap s1.heap xs }) (zipHeap_z s1.heap xs) ?_
  refine ⟨_, _, _, _, H1, rfl, I2, T, ⟨zipHeap_z _ _, zipHeap_TI _ _, ⟨(xs.map fun _ => Value.none).toArray, by simp [hl], zipHeap_TO _ _⟩, zipHeap_at _ _⟩, fun c hc => ?_, q⟩
  have hle : s1.heap.objs.size ≤ c := by
    rcases List.mem_cons.mp hc with rfl | hc
    · exact (fun a b => by omega : ∀ a b : Nat, a ≤ a + b + 2) _ _
    · rcases List.mem_cons.mp hc with rfl | hc
      · exact (fun a b => by omega : ∀ a b : Nat, a ≤ a + b) _ _
      · rcases List.mem_cons.mp hc with rfl | hc
        · exact (fun a b => by omega : ∀ a b : Nat, a ≤ a + b + 1) _ _
        · obtain ⟨x, hx0, rfl⟩ := List.mem_map.mp hc
          exact (srs_mem hx0).1
  exact I1.fpOk hle (I1.hok.fresh hle)
end Y
end
section
set_option linter.all false
set_option maxRecDepth 100000
set_option maxHeartbeats 4000000
/-! Z11: zip, read by a combinator. -/
namespace Y
open PySem PySem.Spec L2 PyProof.Rows
/-- a sequence's items, and what must stand still -/
def seqG (st : St) (v : PV) : Option (List PV × Gd) := match v with
  | .tup xs => some (xs, [])
  | .cl xs => some (xs, [])
  | .ref a => (match st.get a with | some (.lst w xs) => some (xs, [(a, w)]) | _ => none)
  | _ => none
def seqsG (st : St) : List PV → Option (List (List PV) × Gd)
  | [] => some ([], [])
  | v :: vs => match seqG st v with
    | some (xs, g) => (match seqsG st vs with
      | some (ls, gs) => some (xs :: ls, g ++ gs)
      | none => none)
    | none => none
def heads : List (List PV) → Option (List PV)
  | [] => some []
  | [] :: _ => none
  | (x :: _) :: r => match heads r with
    | some hs => some (x :: hs)
    | none => none
def tails : List (List PV) → List (List PV)
  | [] => []
  | [] :: r => [] :: tails r
  | (_ :: t) :: r => t :: tails r
def zipF : List PV → List (List PV) → List PV
  | [], _ => []
  | _ :: n, ls => match heads ls with
    | some hs => .tup hs :: zipF n (tails ls)
    | none => []
def zipL : List (List PV) → List PV
  | [] => []
  | l :: ls => zipF l (l :: ls)
/-- the i-th of each -/
def nths (i : Nat) : List (List PV) → Option (List PV)
  | [] => some []
  | l :: r => match l[i]? with
    | some x => (match nths i r with
      | some hs => some (x :: hs)
      | none => none)
    | none => none
theorem heads_nths : ∀ ls : List (List PV), heads ls = nths 0 ls
  | [] => rfl
  | [] :: r => rfl
  | (x :: t) :: r => by
    rw [heads, nths, heads_nths r]
    rfl
theorem tails_nths (i : Nat) : ∀ ls : List (List PV), nths i (tails ls) = nths (i + 1) ls
  | [] => rfl
  | [] :: r => rfl
  | (x :: t) :: r => by
    rw [tails, nths, nths, tails_nths i r]
    rfl
theorem nths_none_up {i : Nat} : ∀ {ls : List (List PV)}, nths i ls = none → nths (i + 1) ls = none
  | [], h => by cases h
  | l :: r, h => by
    unfold nths at h ⊢
    cases e : l[i + 1]? with
    | none => rfl
    | some x =>
      have hi : i + 1 < l.length := (List.getElem?_eq_some_iff.mp e).1
      rw [List.getElem?_eq_getElem (show i < l.length by omega)] at h
      dsimp only at h ⊢
      cases g : nths i r with
      | none => rw [nths_none_up g]
      | some hs => rw [g] at h; cases h
theorem nths_none {i j : Nat} {ls : List (List PV)} (h : nths i ls = none) (hj : i ≤ j) : nths j ls = none := by
  induction j with
  | zero => have : i = 0 := by omega
            subst this; exact h
  | succ j ih =>
    by_cases e : i = j + 1
    · subst e; exact h
    · exact nths_none_up (ih (by omega))
theorem zipF_get : ∀ (n : List PV) (ls : List (List PV)) (i : Nat), (zipF n ls)[i]? = if i < n.length then (nths i ls).map PV.tup else none
  | [], ls, i => by simp [zipF]
  | _ :: n, ls, i => by
    rw [zipF, heads_nths]
    cases h : nths 0 ls with
    | none =>
      rw [nths_none h (Nat.zero_le i)]
      simp
    | some hs =>
      cases i with
      | zero => simp [h]
      | succ i =>
        rw [List.getElem?_cons_succ, zipF_get n (tails ls) i, tails_nths, List.length_cons]
        by_cases c : i < n.length
        · rw [if_pos c, if_pos (by omega)]
        · rw [if_neg c, if_neg (by omega)]
theorem zipL_get {ls : List (List PV)} (h : ls ≠ []) (i : Nat) : (zipL ls)[i]? = (nths i ls).map PV.tup := by
  cases ls with
  | nil => exact absurd rfl h
  | cons l ls =>
    rw [zipL, zipF_get]
    by_cases c : i < l.length
    · rw [if_pos c]
    · rw [if_neg c, nths, List.getElem?_eq_none (by omega)]
      rfl
/-- a source that is known to stand while its guard holds -/
def SrcOk (T : Tb) (K : PySem.W.Frag) (ρ1 : Nat → Addr) (st1 : St) (H1 : Hp) (gd : Gd) (x : Addr × Bool) (items : List PV) : Prop :=
  ∃ vs : List L2.V, Reps T K ρ1 st1.n H1 items vs ∧ ∀ ρ st H, Nxt ρ1 st1 H1 ρ st H → StRep T K ρ st H → gdOk gd st = true → SeqV K H x vs
section
variable {T : Tb} {K : PySem.W.Frag} {ρ1 : Nat → Addr} {st1 : St} {H1 : Hp}
theorem gdOk_app {h : Gd} {st : St} : ∀ {g : Gd}, gdOk (g ++ h) st = true → gdOk g st = true ∧ gdOk h st = true
  | [], e => ⟨rfl, e⟩
  | (a, v) :: g, e => by
    have e : (if verOk v (st.get a) = true then gdOk (g ++ h) st else false) = true := e
    by_cases z : verOk v (st.get a) = true
    · rw [if_pos z] at e
      obtain ⟨h1, h2⟩ := gdOk_app e
      refine ⟨?_, h2⟩
      show (if verOk v (st.get a) = true then gdOk g st else false) = true
      rw [if_pos z]; exact h1
    · rw [if_neg z] at e; cases e
theorem gdOk_join {h : Gd} {st : St} : ∀ {g : Gd}, gdOk g st = true → gdOk h st = true → gdOk (g ++ h) st = true
  | [], _, k => k
  | (a, v) :: g, e, k => by
    have e : (if verOk v (st.get a) = true then gdOk g st else false) = true := e
    show (if verOk v (st.get a) = true then gdOk (g ++ h) st else false) = true
    by_cases z : verOk v (st.get a) = true
    · rw [if_pos z] at e ⊢
      exact gdOk_join e k
    · rw [if_neg z] at e; cases e
theorem seqG_gd {st : St} {v : PV} {xs : List PV} {gd : Gd} (h : seqG st v = some (xs, gd)) : gdOk gd st = true := by
  cases v with
  | tup xs => cases h; rfl
  | cl xs => cases h; rfl
  | ref a =>
    cases g : st.get a with
    | none => simp only [seqG, g] at h; cases h
    | some c =>
      cases c with
      | lst w ys =>
        simp only [seqG, g] at h
        cases h
        show (if verOk w (st.get a) = true then true else false) = true
        rw [g]
        show (if Nat.beq w w = true then true else false) = true
        rw [Nat.beq_refl]
        rfl
      | _ => simp only [seqG, g] at h; cases h
  | _ => cases h
theorem seqsG_gd {st : St} : ∀ {vs : List PV} {ls : List (List PV)} {gd : Gd}, seqsG st vs = some (ls, gd) → gdOk gd st = true
  | [], _, _, h => by cases h; rfl
  | v :: vs, _, _, h => by
    unfold seqsG at h
    cases g1 : seqG st v with
    | none => rw [g1] at h; cases h
    | some q =>
      obtain ⟨xs, g⟩ := q
      rw [g1] at h
      dsimp only at h
      cases g2 : seqsG st vs with
      | none => rw [g2] at h; cases h
      | some q =>
        obtain ⟨ls', gs⟩ := q
        rw [g2] at h
        cases h
        exact gdOk_join (seqG_gd g1) (seqsG_gd g2)
theorem seqG_ok {v : PV} {V : L2.V} {xs : List PV} {gd : Gd} (S : StRep T K ρ1 st1 H1) (R : Rep T K ρ1 st1.n H1 v V) (h : seqG st1 v = some (xs, gd)) :
    ∃ x : Addr × Bool, V = .ref x.1 ∧ SrcOk T K ρ1 st1 H1 gd x xs := by
  cases R with
  | tup hp t => cases h; exact ⟨(_, false), rfl, _, t, fun ρ st H N _ _ => by unfold SeqV; rw [if_neg (by simp)]; exact N.sqT hp⟩
  | cl hp t => cases h; exact ⟨(_, true), rfl, _, t, fun ρ st H N _ _ => by unfold SeqV; rw [if_pos rfl]; exact (N.sqC hp).sq⟩
  | @ref a ha =>
    cases g : st1.get a with
    | none => simp only [seqG, g] at h; cases h
    | some c =>
      cases c with
      | lst w ys =>
        simp only [seqG, g] at h
        cases h
        obtain ⟨_, vs, hp, t⟩ := lst_at S g
        exact ⟨(_, true), rfl, _, t, fun ρ st H N _ hg => by unfold SeqV; rw [if_pos rfl]; exact .of (N.lstStill g ha hp (List.mem_singleton.mpr rfl) hg)⟩
      | _ => simp only [seqG, g] at h; cases h
  | _ => cases h
theorem SrcOk.more {gd gd' : Gd} {x : Addr × Bool} {items : List PV} (h : SrcOk T K ρ1 st1 H1 gd x items) (i : ∀ st, gdOk gd' st = true → gdOk gd st = true) : SrcOk T K ρ1 st1 H1 gd' x items :=
  let ⟨vs, r, k⟩ := h; ⟨vs, r, fun ρ st H N S g => k ρ st H N S (i st g)⟩
theorem seqsG_ok (S : StRep T K ρ1 st1 H1) : ∀ {vs : List PV} {Vs : List L2.V} {ls : List (List PV)} {gd : Gd}, Reps T K ρ1 st1.n H1 vs Vs → seqsG st1 vs = some (ls, gd) →
    ∃ xs : List (Addr × Bool), Vs = xs.map (fun x => V.ref x.1) ∧ All2 (SrcOk T K ρ1 st1 H1 gd) xs ls
  | [], _, ls, gd, R, h => by cases R; cases h; exact ⟨[], rfl, .nil⟩
  | v :: vs, _, ls, gd, R, h => by
    cases R with
    | cons r t =>
      unfold seqsG at h
      cases g1 : seqG st1 v with
      | none => rw [g1] at h; cases h
      | some q =>
        obtain ⟨xs, g⟩ := q
        rw [g1] at h
        dsimp only at h
        cases g2 : seqsG st1 vs with
        | none => rw [g2] at h; cases h
        | some q =>
          obtain ⟨ls', gs⟩ := q
          rw [g2] at h
          cases h
          obtain ⟨x, e1, o1⟩ := seqG_ok S r g1
          obtain ⟨ys, e2, o2⟩ := seqsG_ok S t g2
          exact ⟨x :: ys, by rw [List.map_cons, e1, e2], .cons (o1.more fun st z => (gdOk_app z).1) (o2.imp fun a b z => z.more fun st z => (gdOk_app z).2)⟩
theorem all2_mem {α β : Type} {R : α → β → Prop} : ∀ {as : List α} {bs : List β}, All2 R as bs → ∀ a ∈ as, ∃ b ∈ bs, R a b
  | _, _, .cons h t, a, ha => by
    rcases List.mem_cons.mp ha with rfl | ha
    · exact ⟨_, List.mem_cons_self, h⟩
    · obtain ⟨b, hb, r⟩ := all2_mem t a ha
      exact ⟨b, List.mem_cons_of_mem _ hb, r⟩
theorem nths_mem {i : Nat} : ∀ {ls : List (List PV)} {hs : List PV}, nths i ls = some hs → ∀ l ∈ ls, ∃ x, l[i]? = some x
  | [], _, _, l, hl => by cases hl
  | k :: r, hs, h, l, hl => by
    unfold nths at h
    cases e : k[i]? with
    | none => rw [e] at h; cases h
    | some x =>
      rw [e] at h
      dsimp only at h
      cases g : nths i r with
      | none => rw [g] at h; cases h
      | some hs' =>
        rcases List.mem_cons.mp hl with rfl | hl
        · exact ⟨x, e⟩
        · exact nths_mem g l hl
theorem nths_out {i : Nat} : ∀ {ls : List (List PV)}, nths i ls = none → ∃ l ∈ ls, l.length ≤ i
  | [], h => by cases h
  | k :: r, h => by
    unfold nths at h
    cases e : k[i]? with
    | none => exact ⟨k, List.mem_cons_self, by rwa [List.getElem?_eq_none_iff] at e⟩
    | some x =>
      rw [e] at h
      dsimp only at h
      cases g : nths i r with
      | none =>
        obtain ⟨l, hl, q⟩ := nths_out g
        exact ⟨l, List.mem_cons_of_mem _ hl, q⟩
      | some hs => rw [g] at h; cases h
theorem all2_mem' {α β : Type} {R : α → β → Prop} : ∀ {as : List α} {bs : List β}, All2 R as bs → ∀ b ∈ bs, ∃ a ∈ as, R a b
  | _, _, .cons h t, b, hb => by
    rcases List.mem_cons.mp hb with rfl | hb
    · exact ⟨_, List.mem_cons_self, h⟩
    · obtain ⟨a, ha, r⟩ := all2_mem' t b hb
      exact ⟨a, List.mem_cons_of_mem _ ha, r⟩
/-- the drawn values are the items' -/
theorem zip_reps {ρ : Nat → Addr} {st : St} {H : Hp} {gd : Gd} {i : Nat} (N : Nxt ρ1 st1 H1 ρ st H) (S : StRep T K ρ st H) (hg : gdOk gd st = true) : ∀ {xs : List (Addr × Bool)} {ls : List (List PV)} {vs : List L2.V} {hs : List PV}, All2 (SrcOk T K ρ1 st1 H1 gd) xs ls →
    All2 (fun x v => ∀ ws, SeqV K H x ws → ws[i]? = some v) xs vs → nths i ls = some hs → Reps T K ρ st.n H hs vs
  | _, _, _, _, .nil, .nil, h => by cases h; exact .nil
  | _, _, _, _, .cons (b := l) h1 t1, .cons h2 t2, h => by
    unfold nths at h
    cases e : l[i]? with
    | none => rw [e] at h; cases h
    | some x =>
      rw [e] at h
      dsimp only at h
      split at h
      · rename_i hs' g
        cases h
        obtain ⟨ws, r, k⟩ := h1
        obtain ⟨V, e2, rv⟩ := r.get e
        have := h2 ws (k ρ st H N S hg)
        rw [this] at e2
        cases e2
        exact .cons (rv.stay N.stay) (zip_reps N S hg t1 t2 g)
      · cases h
theorem wk_zip {gd : Gd} {xs : List (Addr × Bool)} {ls : List (List PV)} (h : All2 (SrcOk T K ρ1 st1 H1 gd) xs ls) (hne : ls ≠ []) : Wk T K (ItzN K xs) (zipL ls) gd ρ1 st1 H1 where
  goes := fun i ρ st H N S hg hi => by
    have e : (zipL ls)[i]? = some (zipL ls)[i] := List.getElem?_eq_getElem hi
    rw [zipL_get hne] at e
    cases g : nths i ls with
    | none => rw [g] at e; cases e
    | some hs =>
      intro x hx
      obtain ⟨l, hl, ws, r, k⟩ := all2_mem h x hx
      obtain ⟨y, hy⟩ := nths_mem g l hl
      obtain ⟨V, e2, _⟩ := r.get hy
      exact ⟨ws, V, k ρ st H N S hg, e2⟩
  stops := fun ρ st H N S hg => by
    have e : (zipL ls)[(zipL ls).length]? = none := by simp
    rw [zipL_get hne] at e
    cases g : nths (zipL ls).length ls with
    | some hs => rw [g] at e; cases e
    | none =>
      refine ⟨fun x hx => ?_, ?_⟩
      · obtain ⟨l, hl, ws, r, k⟩ := all2_mem h x hx
        exact ⟨ws, k ρ st H N S hg⟩
      · obtain ⟨l, hl, q⟩ := nths_out g
        obtain ⟨x, hx, ws, r, k⟩ := all2_mem' h l hl
        exact ⟨x, hx, ws, k ρ st H N S hg, by rw [← r.length]; exact q⟩
  yields := fun i z H' ρ st H N S hg hi hz => by
    obtain ⟨p, vs, rfl, hp, rfl, al⟩ := hz
    have e : (zipL ls)[i]? = some (zipL ls)[i] := List.getElem?_eq_getElem hi
    rw [zipL_get hne] at e
    cases g : nths i ls with
    | none => rw [g] at e; cases e
    | some hs =>
      have rr := zip_reps N S hg h al g
      refine ⟨S.laid hp, .laid S hp, .tup hs, by rw [zipL_get hne, g]; rfl, .tup (.inl (.inl upd_same)) (rr.stay (.new hp))⟩
end
def i_zip (a : XA) : XI := fun r fr st => (a r fr st).bind fun vs st => if zipMany (len vs) then (match seqsG st vs with
  | some (ls, gd) => .ok (zipL ls, gd) st
  | none => .stuck 67) else .stuck 67
section
variable {X : Cx} {T : Tb} {r : Ev} {a : XA}
theorem sI_zip {e : Expr} {es elts : List Expr} {p pos tpos : Pos} {kk : Nat} (hg : Gl X "zip") (hm : X.mg "zip" = none) (pa : PA X (e :: es) (tA T X.K r a))
    (hs : starEach (e :: es) X.env = (false, eval e X.env) :: starEach es X.env) (hpl : (backTo pos (starEach es X.env)).any (·.1) = false) :
    PI X (.Tuple elts kk tpos) (.Call (.Name "zip" p) (e :: es) [] pos) (tI T X.K r (i_zip a)) := PI.imp (pi_zipN hg hm pa hs hpl) fun σ H R ⟨ρ, fr, st, F, S, items, gd, st2, e0, kk⟩ => by
  obtain ⟨vs, s1, e1, e2⟩ := bind_ok e0
  by_cases hz : zipMany (len vs) = true
  · rw [if_pos hz] at e2
    cases g : seqsG s1 vs with
    | none => rw [g] at e2; cases e2
    | some q =>
      obtain ⟨ls, gd'⟩ := q
      rw [g] at e2
      cases e2
      refine ⟨ρ, fr, st, F, S, vs, _, e1, fun ρ1 Vs H1 N1 S1 R1 => ?_⟩
      obtain ⟨xs, rfl, al⟩ := seqsG_ok S1 R1 g
      have hl : xs.length = len vs := by rw [len_eq, R1.length, List.length_map]
      have hne : ls ≠ [] := by
        intro z
        subst z
        have := al.length
        rw [hl] at this
        rw [this] at hz
        cases hz
      refine ⟨xs, rfl, by rw [hl]; exact hz, fun x hx => ?_, kk ρ1 H1 N1 S1 _ (wk_zip al hne)⟩
      obtain ⟨l, hl, ws, r, k⟩ := all2_mem al x hx
      exact ⟨ws, k ρ1 _ H1 (.refl S1) S1 (seqsG_gd g)⟩
  · rw [if_neg hz] at e2; cases e2
end
end Y
end
section
set_option linter.all false
set_option maxRecDepth 100000
set_option maxHeartbeats 4000000
/-! Z12: enumerate of a list or a tuple. -/
namespace Y
open PySem PySem.Spec L2 PyProof.Rows
section
variable {prog : Program} {w : World} {A : Around} {E : Value → Shared → Prop} {s : Shared}
theorem sr_draws (hh : A.handled = none) (x : Sr) (hne : x.l ≠ x.it) (items : Array Value) : Draws prog w A x.it [x.it, x.l] items.size (fun i v => items[i]? = some v) (fun i h => x.At h i ∧ x.Is h items) := by
  obtain ⟨it, l, lst⟩ := x
  cases lst with
  | true => exact Draws.list hh it l hne items
  | false => exact Draws.tuple hh it l hne items
theorem pyNext_enum_end {x : Sr} {e : Addr} {i j : Nat} {old : Value} {items : Array Value} {Q : Option Value → Shared → Prop} (hh : A.handled = none) (he : IsEnum s.heap e x.it j old) (at_ : x.At s.heap i) (is : x.Is s.heap items) (hend : items[i]? = none)
    (q : ∀ h', Heap.ExtBut x.it s.heap h' → Q none { s with heap := h' }) : wpAny (model prog w) A (pyNext (.ref e)) Q E s := by
  have hT : s.TypeIs (.ref e) "enumerate" := ⟨_, he, rfl⟩
  unfold pyNext
  refine wpAny_bind (wpAny_attempt (wpAny_callSpecial?_slot (name := Str.ofString "__next__") hT F.slot_enumerate_next (wpAny_call_entry F.slot_enumerate_next hT F.entry_enumerate_next ?_ (F.args_enumerate_next_1 _))))
  show wpAny _ _ (field (.ref e) 2 >>= _) _ _ _
  refine wpAny_bind (wpAny_field he rfl (x := .ref x.it) rfl (wpAny_bind (sr_end (A := A.in1) hh at_ is hend fun h' y he' ⟨o, ho, hc⟩ => ?_)))
  exact wpAny_bind (wpAny_isInstance (T := "StopIteration") (b := true) ⟨o, ho, hc⟩ isSubtype_stop (wpAny_pure (q _ he')))
/-- the heap behind enumerate(..) -/
def enumHeap (h : Heap) (x : Addr × Bool) : Heap := (h.push (itO x)).push { cls := .type "enumerate", data := .fields #[.none, .bool false, .ref h.objs.size, rawInt 0, .none, .none] }
theorem meets_enum (x : Addr × Bool) : Meets (Builtin.«enumerate.__new__» ⟨[.type "enumerate", .ref x.1], []⟩) (fun _ R s => (∃ its, if x.2 = true then s.heap.IsList x.1 its else s.heap.IsTuple x.1 its) ∧
    R (.ok (.ret (.ref (s.heap.objs.size + 1)))) { s with heap := enumHeap s.heap x }) :=
  .of_wp fun prog w A R s h => by
    obtain ⟨⟨its, hx⟩, h⟩ := h
    have hsub := sub_enumerate
    have hL : ∀ {A : Around} {E : Value → Shared → Prop} {Q : Value → Shared → Prop}, Q (.ref s.heap.objs.size) { s with heap := s.heap.push (itO x) } → wpAny (model prog w) A (pyIter (.ref x.1)) Q E s := fun q => iter_src hx q
    obtain ⟨o, ho⟩ : ∃ o, s.heap.get? x.1 = some o := by
      by_cases e : x.2 = true
      · rw [if_pos e] at hx; obtain ⟨o, ho, _⟩ := hx; exact ⟨o, ho⟩
      · rw [if_neg e] at hx; obtain ⟨o, ho, _⟩ := hx; exact ⟨o, ho⟩
    wp_walk using wpAny_loadPart' ho
    refine wpAny_stack_any fun st => wpAny_pure ?_
    have z1 : (s.heap.push (itO x)).objs.size = s.heap.objs.size + 1 := Heap.size_push ..
    have fin : wpAny (model prog w) A.in1 (do let it ← pyIter (.ref x.1); let r ← Builtin.SmallTypes.newRecord (Value.type "enumerate") (Builtin.SmallTypes.ownedTupleFields ++ [it, rawInt 0, Value.none, Value.none]); ret r) (fun fin s' => ∃ v, fin = Fin.done (Flow.ret v) ∧ R (Except.ok (Flow.ret v)) s') (fun e s' => R (Except.error e) s') s := by
      refine wpAny_bind (hL ?_)
      show wpAny _ _ (newObj (.type "enumerate") (.fields #[.none, .bool false, .ref s.heap.objs.size, rawInt 0, .none, .none]) >>= _) _ _ _
      refine wpAny_bind (wpAny_newObj_type (wpAny_pure ⟨_, rfl, ?_⟩) (by size_fits))
      show R (.ok (.ret (.ref (s.heap.push (itO x)).objs.size))) _
      rw [z1]
      exact h
    split
    · rename_i c _ _ _ _ _
      cases (c == Value.type "enumerate") <;> exact fin
    · exact fin
theorem enumHeap_e (h : Heap) (x : Addr × Bool) : IsEnum (enumHeap h x) (h.objs.size + 1) h.objs.size 0 .none := by
  have := Heap.get?_push_size (h.push (itO x)) (o := { cls := .type "enumerate", data := .fields #[.none, .bool false, .ref h.objs.size, rawInt 0, .none, .none] }) rfl
  rw [Heap.size_push] at this
  exact this
theorem enumHeap_at (h : Heap) (x : Addr × Bool) : Sr.At ⟨h.objs.size, x.1, x.2⟩ (enumHeap h x) 0 := by
  have := srs_at [x] h ⟨h.objs.size, x.1, x.2⟩ (by obtain ⟨l, b⟩ := x; exact List.mem_cons_self)
  exact this.at fun o e => Heap.get?_push_of_some _ e
theorem enumHeap_keeps (h : Heap) (x : Addr × Bool) : ∀ c o, h.get? c = some o → (enumHeap h x).get? c = some o := fun c o e => Heap.get?_push_of_some _ (Heap.get?_push_of_some _ e)
theorem call_enum {x : Addr × Bool} {Q : Value → Shared → Prop} (hx : ∃ its, if x.2 = true then s.heap.IsList x.1 its else s.heap.IsTuple x.1 its) (q : Q (.ref (s.heap.objs.size + 1)) { s with heap := enumHeap s.heap x }) :
    wpAny (model prog w) A (call (.type "enumerate") [.ref x.1]) Q E s := by
  have ty : ({ s with heap := enumHeap s.heap x } : Shared).TypeIs (.ref (s.heap.objs.size + 1)) "enumerate" := ⟨_, enumHeap_e s.heap x, rfl⟩
  exact callType_new F.called_enumerate (by decide) (F.typeCall_enumerate_1 _) (F.newCall_enumerate_1 _) (fun obj => F.args_object_init_2 obj _) F.entry_enumerate_new (meets_enum x) ⟨hx, ty, q⟩
end
/-! ### the walk -/
def IteS (K : PySem.W.Frag) (x : Addr × Bool) : It :=
  ⟨fun i H => ∃ (vs : List L2.V) (v : L2.V), SeqV K H x vs ∧ vs[i]? = some v,
    fun i H v H' => ∃ T u, v = .ref T ∧ H T = none ∧ H' = upd H T (.tup [.int (i : Nat), u]) ∧ ∀ ws, SeqV K H x ws → ws[i]? = some u,
    fun i H => ∃ vs : List L2.V, SeqV K H x vs ∧ vs.length ≤ i⟩
theorem turn_enumS {P : Program} {w : World} {K : PySem.W.Frag} {elts : List Expr} {kk : Nat} {tpos : Pos} {e : Addr} {x : Sr} (ne : e ≠ x.it) (l1 : x.l ≠ x.it) (l2 : e ≠ x.l) :
    Turn P w K (.Tuple elts kk tpos) (IteS K (x.l, x.lst)) [e, x.it] e (fun i h => (∃ old, IsEnum h e x.it ((i : Nat) : Int) old) ∧ x.At h i) where
  mem := List.mem_cons_self
  obj := fun i h ⟨⟨old, he⟩, st⟩ c hc => by
    rcases List.mem_cons.mp hc with rfl | hc
    · exact ⟨_, he, fun v q => nomatch q⟩
    · have := List.mem_singleton.mp hc
      subst this
      exact st.obj
  keep := fun i h h' ⟨⟨old, he⟩, st⟩ k => ⟨⟨old, k e (by simp) _ he⟩, st.at fun o q => k x.it (by simp) o q⟩
  item := by
    intro X hP hw hK hc i pins s σ H E I hf ⟨⟨old, he⟩, st⟩ ⟨vs, v, hq, hv⟩
    subst hP hw hK
    obtain ⟨its, rv, p⟩ := seqV_heap I hq
    obtain ⟨u, hu, ru⟩ := rv.get hv
    have hel : e < s.heap.objs.size := Heap.lt_size he
    have hi : i < its.toArray.size := by
      rw [List.size_toArray]
      exact (List.getElem?_eq_some_iff.mp hu).1
    refine wpAny_pyNext_enum_itemD (sr_draws (A := X.A.in1) (I.ok.hd hc) x l1 its.toArray) he ⟨st, p⟩ hi ne (by simp only [List.mem_cons, List.not_mem_nil, or_false, not_or]; exact ⟨ne, l2⟩) fun y h1 tk hy o1 st1 T1 _ keep1 => ?_
    have : y = u := by
      have q : its.toArray[i]? = some u := by simpa using hu
      rw [q] at hy
      cases hy
      rfl
    subst this
    refine ⟨_, rfl, wpAny_letOwnedTupleGo_enum (s := { s with heap := h1, toks := tk + 1 }) o1 fun h2 he2 same => ?_⟩
    have same : Heap.SameBut e h1 h2 := same
    have hT2 : h2.get? s.heap.objs.size = some { cls := .type "tuple", data := .seq #[.int i tk, y] } := (same.2 _ (Nat.ne_of_gt hel)).trans T1
    have new : ObjOk X.prog X.w (upd H s.heap.objs.size (.tup [.int (i : Nat), v])) h2 s.heap.objs.size (.tup [.int (i : Nat), v]) :=
      ⟨by show 2 ≤ sizeLine; decide, [.int i tk, y], .cons ⟨_, rfl⟩ (.cons ru .nil), ⟨_, hT2, rfl, _, rfl⟩⟩
    have I1 : L2.Inv X pins σ (upd H s.heap.objs.size (.tup [.int (i : Nat), v])) { s with heap := h2, toks := tk + 1 } :=
      I.turnedNew (ch := [e, x.it]) (fun b ob hb q => (same.2 b (fun z => hb (by simp [z]))).trans (keep1 b ob (fun z => hb (by simp [z])) (fun z => hb (by simp [z])) q)) hf (Nat.le_refl _) new
    refine ⟨.ref s.heap.objs.size, _, I1, rfl, ⟨_, v, rfl, I.hok.fresh (Nat.le_refl _), rfl, fun ws hw => by rw [seqV_inj I hw hq]; exact hv⟩, ⟨⟨y, ?_⟩, st1.1.at fun o q => (same.2 _ (Ne.symm ne)).trans q⟩, fun b hb => ?_⟩
    · rw [show ((i + 1 : Nat) : Int) = (i : Int) + 1 by omega]; exact he2
    · have hlt : b < s.heap.objs.size := by
        rcases List.mem_cons.mp hb with rfl | hb
        · exact hel
        · have := List.mem_singleton.mp hb
          subst this
          obtain ⟨o, q, _⟩ := st.obj
          exact Heap.lt_size q
      rw [upd_ne (Nat.ne_of_lt hlt)]
      exact (hf b hb).1
  done := by
    intro X hP hw hK hc i pins s σ H E I hf ⟨⟨old, he⟩, st⟩ ⟨vs, hq, hl⟩
    subst hP hw hK
    obtain ⟨its, rv, p⟩ := seqV_heap I hq
    obtain ⟨f0, f1, f2, f3, f4, f5⟩ := hf x.it (by simp)
    have hlen := rv.length
    exact pyNext_enum_end (I.ok.hd hc) he st p (by simp; omega) fun h' eb => ⟨rfl, I.turned (t' := s.toks) (fun b o hb q => eb b o hb q) f0 f1 f3 f4 f5⟩
  self := fun A i s Q E ⟨⟨_, he⟩, _⟩ h => wpAny_pyIter_enum he h
def iEnumS (K : PySem.W.Frag) (ta : TA) : TI := fun σ H R => ta σ H fun vs H1 => ∃ x : Addr × Bool, vs = [V.ref x.1] ∧ (∃ ws, SeqV K H1 x ws) ∧ R (IteS K x) H1
theorem pi_enumS {X : Cx} {e : Expr} {ta : TA} {p pos tpos : Pos} {elts : List Expr} {kk : Nat} (hg : Gl X "enumerate") (hm : X.mg "enumerate" = none) (pa : PA X [e] ta) (hs : starEach [e] X.env = [(false, eval e X.env)]) :
    PI X (.Tuple elts kk tpos) (.Call (.Name "enumerate" p) [e] [] pos) (iEnumS X.K ta) := by
  refine ⟨fun pins s σ H R I h => ?_⟩
  refine Call_ (ld_blt I hg hm boot_enumerate (PyProof.Rows.callWith_type1 (thn (pa.run pos pins s σ H _ I h) fun us s1 ⟨vs, H1, I1, r1, q1⟩ => ?_) hs rfl))
  obtain ⟨x, rfl, ⟨ws, hw⟩, q⟩ := q1
  cases r1 with
  | cons r rr =>
    cases rr
    cases r
    obtain ⟨its, rv, p'⟩ := seqV_heap I1 hw
    have hlt : x.1 < s1.heap.objs.size := by
      by_cases e : x.2 = true
      · rw [if_pos e] at p'; obtain ⟨o, ho, _⟩ := p'; exact Heap.lt_size ho
      · rw [if_neg e] at p'; obtain ⟨o, ho, _⟩ := p'; exact Heap.lt_size ho
    refine call_enum ⟨_, p'⟩ (wpAny_pyIter_enum (s := { s1 with heap := enumHeap s1.heap x }) (enumHeap_e s1.heap x) ?_)
    have I2 : L2.Inv X pins σ H1 { s1 with heap := enumHeap s1.heap x } := I1.kept (t' := s1.toks) (enumHeap_keeps _ _)
    have T := turn_enumS (P := X.prog) (w := X.w) (K := X.K) (elts := elts) (kk := kk) (tpos := tpos) (e := s1.heap.objs.size + 1) (x := ⟨s1.heap.objs.size, x.1, x.2⟩) (Nat.succ_ne_self _) (Nat.ne_of_lt hlt) (Nat.ne_of_gt (Nat.lt_succ_of_lt hlt))
    refine ⟨_, _, _, _, H1, rfl, I2, T, ⟨⟨.none, enumHeap_e _ _⟩, enumHeap_at _ _⟩, fun b hb => ?_, q⟩
    have hle : s1.heap.objs.size ≤ b := by
      rcases List.mem_cons.mp hb with rfl | hb
      · exact Nat.le_add_right _ _
      · have := List.mem_singleton.mp hb
        subst this
        exact Nat.le_refl _
    exact I1.fpOk hle (I1.hok.fresh hle)
/-! ### the combinator -/
def enumL (i : Nat) : List PV → List PV
  | [] => []
  | x :: r => .tup [.int i, x] :: enumL (i + 1) r
theorem enumL_get : ∀ (xs : List PV) (k i : Nat), (enumL k xs)[i]? = (xs[i]?).map fun x => PV.tup [.int ((k + i : Nat) : Int), x]
  | [], _, _ => by simp [enumL]
  | x :: r, k, 0 => by simp [enumL]
  | x :: r, k, i + 1 => by
    rw [enumL, List.getElem?_cons_succ, enumL_get r (k + 1) i, List.getElem?_cons_succ]
    rw [show k + 1 + i = k + (i + 1) by omega]
def i_enum (x : Y.X) : XI := fun r fr st => (x r fr st).bind fun v st => match seqG st v with
  | some (xs, gd) => .ok (enumL 0 xs, gd) st
  | none => .stuck 68
section
variable {T : Tb} {K : PySem.W.Frag} {ρ1 : Nat → Addr} {st1 : St} {H1 : Hp}
theorem enumL_len (xs : List PV) : (enumL 0 xs).length = xs.length := by
  have a := enumL_get xs 0 xs.length
  rw [List.getElem?_eq_none (Nat.le_refl _)] at a
  have h1 : (enumL 0 xs).length ≤ xs.length := by simpa using a
  by_cases c : (enumL 0 xs).length < xs.length
  · have b := enumL_get xs 0 (enumL 0 xs).length
    rw [List.getElem?_eq_getElem c] at b
    simp at b
  · omega
theorem wk_enum {gd : Gd} {x : Addr × Bool} {xs : List PV} (h : SrcOk T K ρ1 st1 H1 gd x xs) : Wk T K (IteS K x) (enumL 0 xs) gd ρ1 st1 H1 where
  goes := fun i ρ st H N S hg hi => by
    obtain ⟨ws, r, k⟩ := h
    rw [enumL_len] at hi
    obtain ⟨V, e2, _⟩ := r.get (List.getElem?_eq_getElem hi)
    exact ⟨ws, V, k ρ st H N S hg, e2⟩
  stops := fun ρ st H N S hg => by
    obtain ⟨ws, r, k⟩ := h
    exact ⟨ws, k ρ st H N S hg, by rw [← r.length, enumL_len]; exact Nat.le_refl _⟩
  yields := fun i z H' ρ st H N S hg hi hz => by
    obtain ⟨ws, r, k⟩ := h
    obtain ⟨p, u, rfl, hp, rfl, hu⟩ := hz
    rw [enumL_len] at hi
    obtain ⟨V, e2, rv⟩ := r.get (List.getElem?_eq_getElem hi)
    have := hu ws (k ρ st H N S hg)
    rw [this] at e2
    cases e2
    have R2 : Reps T K ρ st.n H [.int (i : Nat), xs[i]] [.int (i : Nat), u] := .cons (.int _) (.cons (rv.stay N.stay) .nil)
    refine ⟨S.laid hp, .laid S hp, .tup [.int (i : Nat), xs[i]], ?_, .tup (.inl (.inl upd_same)) (R2.stay (.new hp))⟩
    rw [enumL_get, List.getElem?_eq_getElem hi, Nat.zero_add]
    rfl
end
theorem sI_enum {X : Cx} {T : Tb} {r : Ev} {x : Y.X} {e : Expr} {elts : List Expr} {p pos tpos : Pos} {kk : Nat} (hg : Gl X "enumerate") (hm : X.mg "enumerate" = none) (he : PE X e (tE T X.K r x)) (hs : starEach [e] X.env = [(false, eval e X.env)]) :
    PI X (.Tuple elts kk tpos) (.Call (.Name "enumerate" p) [e] [] pos) (tI T X.K r (i_enum x)) := PI.imp (pi_enumS hg hm (sA_cons he sA_nil hs) hs) fun σ H R ⟨ρ, fr, st, F, S, items, gd, st2, e0, kk⟩ => by
  obtain ⟨v, s1, e1, e2⟩ := bind_ok e0
  cases g : seqG s1 v with
  | none => rw [g] at e2; cases e2
  | some q =>
    obtain ⟨xs, gd'⟩ := q
    rw [g] at e2
    cases e2
    refine ⟨ρ, fr, st, F, S, [v], st2, by simp only [aCons, aNil, e1, Y.R.bind], fun ρ1 Vs H1 N1 S1 R1 => ?_⟩
    cases R1 with
    | cons rv rn =>
      cases rn
      obtain ⟨y, rfl, o⟩ := seqG_ok S1 rv g
      obtain ⟨ws, _, k⟩ := id o
      exact ⟨y, rfl, ⟨ws, k ρ1 _ H1 (.refl S1) S1 (seqG_gd g)⟩, kk ρ1 H1 N1 S1 _ (wk_enum o)⟩
end Y
end
section
set_option linter.all false
set_option maxRecDepth 100000
set_option maxHeartbeats 4000000
/-! Z13: bool of anything, sorted of ints, d.setdefault. -/
namespace Y
open PySem PySem.Spec L2 PyProof.Rows
/-- the context, deeper by a built-in's room -/
def in2 (X : Cx) : Cx := { X with A := X.A.in1.in1 }
section
variable {X : Cx} {pins : List (Addr × Obj)} {σ : L2.St} {H : Hp} {s : Shared}
theorem inv_in2 (I : L2.Inv X pins σ H s) : L2.Inv (in2 X) pins σ H s :=
  ⟨⟨I.ok.mod, I.ok.kind, I.ok.glob, I.ok.blt, I.ok.above, I.ok.inj, I.ok.has, I.ok.cab, I.ok.hd, I.ok.frames, I.ok.stk, I.ok.exf, I.ok.bs, I.ok.bsz, I.ok.noex, I.ok.exfs, I.ok.funs, I.ok.frf⟩, I.os, I.bare, I.base, I.loc, I.cell, I.free, I.freeC, I.pin, I.hok, I.len⟩
theorem inv_out2 (ok : X.Ok) (I : L2.Inv (in2 X) pins σ H s) : L2.Inv X pins σ H s := ⟨ok, I.os, I.bare, I.base, I.loc, I.cell, I.free, I.freeC, I.pin, I.hok, I.len⟩
theorem room_in2 {k : Nat} {A : Around} (r : Room (k + 1) A) : Room k A.in1.in1 :=
  ⟨r.hd, by have := r.dp; show A.depth + 3 * k + 5 < _; omega, by have := r.un; show A.units + 1 + 1 + 16 * k + 200 < _; omega⟩
end
theorem meets_boolX {prog : Program} {w : World} (v : Value) : MeetsIn prog w (Builtin.«bool.__new__» ⟨[.type "bool", v], []⟩) (fun A R s => wpAny (model prog w) A.in1 (truthy v) (fun b s' => R (.ok (.ret (.bool b))) s') (fun e s' => R (.error e) s') s) :=
  .of_wp fun A R s h => by
    have f1 := F.conv_sub_bool
    wp_walk
    exact wpAny_mono h (fun b s' hb => wpAny_pure ⟨_, rfl, hb⟩) fun _ _ e => e
def boolX (BL : List (Nat × Option Nat)) (r : Ev) (v : PV) (st : St) : R PV := (truX BL r v st).bind fun c st => .ok (.bl c) st
theorem cr_boolX {X : Cx} {T : Tb} {k : Nat} {r : Ev} {BL : List (Nat × Option Nat)} (hr : Room (k + 1) X.A) (C : TruC X.prog X.w X.K X.mg X.base T k r BL) : CallR X (.type "bool") (rA T X.K (on1 (boolX BL r))) := cr_one fun pins s σ H us Q ρ st a V v st' I rv S R e kk => by
  obtain ⟨c, s1, e1, e2⟩ := bind_ok e
  cases e2
  cases rv with
  | cons r1 rn =>
    cases rn
    rename_i u
    refine callType_newIn F.called_bool F.newNe_bool (F.typeCall_bool_1 u) (F.newCall_bool_1 u) (fun obj => F.args_object_init_2 obj u) F.entry_bool_new (meets_boolX u) ?_
    have q := tru_X (X := in2 X) (T := T) (BL := BL) (room_in2 hr) C pins s σ H V u (fun b H' => b = c ∧ Q (.bl b) H') (inv_in2 I) r1 ⟨ρ, st, a, S, R, c, _, e1, fun ρ' H' N' S' => ⟨rfl, kk ρ' _ H' N' S' (.bl c)⟩⟩
    refine wpAny_mono q (fun b s' hb => ?_) fun e s' he => he
    obtain ⟨H', I', rfl, q2⟩ := hb
    exact ⟨rfl, .bl b, H', inv_out2 I.ok I', rfl, q2⟩
/-! ### sorted, of ints -/
def insI (x : Int) : List Int → List Int
  | [] => [x]
  | y :: r => if intLt y x then y :: insI x r else x :: y :: r
def sortI : List Int → List Int
  | [] => []
  | x :: r => insI x (sortI r)
theorem insI_perm (x : Int) : ∀ l : List Int, (insI x l).Perm (x :: l)
  | [] => .refl _
  | y :: r => by
    unfold insI
    split
    · exact ((insI_perm x r).cons y).trans (.swap x y r)
    · exact .refl _
theorem insI_sorted (x : Int) : ∀ {l : List Int}, l.Pairwise (· ≤ ·) → (insI x l).Pairwise (· ≤ ·)
  | [], _ => by simp [insI]
  | y :: r, h => by
    rw [List.pairwise_cons] at h
    unfold insI
    split
    · rename_i c
      rw [intLt_iff] at c
      refine List.pairwise_cons.mpr ⟨fun z hz => ?_, insI_sorted x h.2⟩
      rcases List.mem_cons.mp ((insI_perm x r).mem_iff.mp hz) with rfl | hz
      · omega
      · exact h.1 z hz
    · rename_i c
      rw [intLt_iff] at c
      refine List.pairwise_cons.mpr ⟨fun z hz => ?_, List.pairwise_cons.mpr h⟩
      rcases List.mem_cons.mp hz with rfl | hz
      · omega
      · have := h.1 z hz; omega
theorem sortI_perm : ∀ l : List Int, (sortI l).Perm l
  | [] => .refl _
  | x :: r => (insI_perm x _).trans ((sortI_perm r).cons x)
theorem sortI_sorted : ∀ l : List Int, (sortI l).Pairwise (· ≤ ·)
  | [] => .nil
  | x :: r => insI_sorted x (sortI_sorted r)
theorem sorted_one : ∀ {a b : List Int}, a.Perm b → a.Pairwise (· ≤ ·) → b.Pairwise (· ≤ ·) → a = b
  | [], b, p, _, _ => by have := p.length_eq; cases b with | nil => rfl | cons _ _ => simp at this
  | x :: a, [], p, _, _ => by have := p.length_eq; simp at this
  | x :: a, y :: b, p, h, k => by
    have h' := List.pairwise_cons.mp h
    have k' := List.pairwise_cons.mp k
    have e : x = y := by
      have h1 : x ≤ y := by
        rcases List.mem_cons.mp (p.mem_iff.mpr List.mem_cons_self : y ∈ x :: a) with e | e
        · omega
        · exact h'.1 _ e
      have h2 : y ≤ x := by
        rcases List.mem_cons.mp (p.mem_iff.mp List.mem_cons_self : x ∈ y :: b) with e | e
        · omega
        · exact k'.1 _ e
      omega
    subst e
    rw [sorted_one (List.perm_cons x |>.mp p) h'.2 k'.2]
def sort1 (a : PV) (st : St) : R PV := match lstInts st a with
  | some is => newC (.lst 0 ((sortI is).map PV.int)) st
  | none => .stuck 91
theorem reps_ints' {T : Tb} {K : PySem.W.Frag} {ρ : Nat → Addr} {n : Nat} {H : Hp} : ∀ ns : List Int, Reps T K ρ n H (ns.map PV.int) (ns.map L2.V.int)
  | [] => .nil
  | i :: r => .cons (.int i) (reps_ints' r)
theorem cr_sort1 {X : Cx} {T : Tb} : CallR X (.builtin "sorted") (rA T X.K (on1 sort1)) := cr_one fun pins s σ H us Q ρ st a V v st' I rv S R e kk => by
  unfold sort1 at e
  cases g : lstInts st a with
  | none => rw [g] at e; cases e
  | some is =>
    rw [g] at e
    cases e
    obtain ⟨p, rfl, hp⟩ := lstInts_ok S R g
    refine cr_sortedI pins s σ H _ us Q I rv ⟨p, is, rfl, hp, fun ns' q pm pw hq => ?_⟩
    rw [sorted_one (pm.trans (sortI_perm is).symm) pw (sortI_sorted is)]
    obtain ⟨S2, N2, R2⟩ := new_lst S (reps_ints' (T := T) (K := X.K) (ρ := ρ) (n := st.n) (H := H) (sortI is)) hq
    exact kk _ _ _ N2 S2 R2
/-! ### d.setdefault(k, v) -/
theorem mt_setdefP {X : Cx} {T : Tb} {k : Nat} (hr : Room k X.A) (hT : TbX T X) : MtR X "dict.setdefault" (rM T X.K m_setdefault) := by
  intro pins s σ H x xs v us Q I rx rv ⟨ρ, st, a, as, S, ra, rs, w, st', e, kk⟩
  unfold m_setdefault at e
  cases g : dctV st a with
  | none => rw [g] at e; cases e
  | some p =>
    obtain ⟨y, ver, kvs⟩ := p
    rw [g] at e
    obtain ⟨g2, rfl⟩ := dctV_ok ra g
    cases rx
    cases rs with
    | nil => cases e
    | cons r1 t1 =>
      cases rv with
      | cons q1 u1 =>
        cases t1 with
        | nil => cases e
        | cons r2 t2 =>
          cases u1 with
          | cons q2 u2 =>
            cases t2 with
            | cons _ _ => cases e
            | nil =>
              cases u2
              rename_i key Vk uk dflt Vd ud
              have e : setDef y ver kvs key dflt st = .ok w st' := e
              unfold setDef at e
              by_cases hk : keyOk key = true
              · rw [if_pos hk] at e
                cases hg : kget kvs key with
                | none => rw [hg] at e; cases e
                | some oo =>
                  rw [hg] at e
                  obtain ⟨o, h1, h2, h3, h4, ⟨vs, κ, en, r, hκ, his⟩ | ⟨ys, κ, b, en, r, hκ, rfl, rfl, his⟩⟩ := dct_for hT I S g2 r1 q1 hk hg
                  · have dd := r.dictOf h2
                    refine call_meetsIn PySem.F.slot_dict_setdefault dd.typeIs PySem.F.entry_dict_setdefault (PySem.F.args_dict_setdefault_3 _ _ _) (kt_meets_setdefault (mixKind X.prog X.w) _ his h3 ud) ⟨vs, dd, by rw [← en.length]; exact h4, fun v' hv' => ?_, fun hn h' dd' hs => ?_⟩
                    · rcases en.get hκ hg with ⟨rfl, hv⟩ | ⟨v'', W, u, rfl, hv, rv', rw_⟩
                      · rw [hv] at hv'; cases hv'
                      · rw [hv] at hv'
                        cases hv'
                        cases e
                        exact ⟨W, H, I.tok _, rw_, kk ρ W H (.refl S) S rv'⟩
                    · rcases en.get hκ hg with ⟨rfl, hv⟩ | ⟨v'', W, u, rfl, hv, rv', rw_⟩
                      · cases gp : kput kvs key dflt with
                        | none => simp only [gp] at e; cases e
                        | some kvs' =>
                          simp only [gp] at e
                          by_cases hz : okLen kvs' = true
                          · rw [if_pos hz] at e
                            cases e
                            have nd : (vs.map (·.1)).Nodup := by obtain ⟨_, _, _, _, _, _, h5⟩ := r; exact h5
                            obtain ⟨en', _⟩ := en.put nd hκ r2 q2 gp
                            obtain ⟨o', es, ep, p1, p2, p3, p4, p5, p6⟩ := dd'
                            obtain ⟨S2, N2⟩ := dct_write hT S g2 h1 h3 (okLen_iff.mp hz) (.inl ⟨_, en', es, ep, p2, p3, p4, p5, p6⟩)
                            exact ⟨Vd, _, d_write I (by rw [h1]; exact True.intro) hs ⟨o', p1⟩ (theO_ok p1), q2, kk ρ _ _ N2 S2 (r2.stay N2.stay)⟩
                          · rw [if_neg hz] at e; cases e
                      · rw [hv] at hn; cases hn
                  · have dd := r.dictOf hT I en h2
                    refine call_setdefault_heap (room_nest hr) his h3 dd (fun p hp => ?_) (fun hn h' dd' hs => ?_) (by rw [← en.length]; exact h4)
                    · rcases en.get hκ hg with ⟨rfl, hv⟩ | ⟨v'', W, b', u, rfl, hv, rv', rw_⟩
                      · rw [hv] at hp; cases hp
                      · rw [hv] at hp
                        cases hp
                        cases e
                        exact ⟨W, H, I.tok _, rw_, kk ρ W H (.refl S) S rv'⟩
                    · rcases en.get hκ hg with ⟨rfl, hv⟩ | ⟨v'', W, b', u, rfl, hv, rv', rw_⟩
                      · cases gp : kput kvs key dflt with
                        | none => simp only [gp] at e; cases e
                        | some kvs' =>
                          simp only [gp] at e
                          by_cases hz : okLen kvs' = true
                          · rw [if_pos hz] at e
                            cases e
                            have nd : (ys.map (·.1)).Nodup := by obtain ⟨_, _, _, _, _, h5⟩ := r; exact h5
                            obtain ⟨en', _⟩ := en.put nd hκ r1 r2 q2 gp
                            obtain ⟨o', es, ep, p1, p2, p3, p4, p5, p6⟩ := dd'
                            obtain ⟨S2, N2⟩ := dct_write hT S g2 h1 h3 (okLen_iff.mp hz) (.inr ⟨_, en', es, ep, p2, p3, p4, p6⟩)
                            exact ⟨Vd, _, d_write I (by rw [h1]; exact True.intro) hs ⟨o', p1⟩ (theO_ok p1), q2, kk ρ _ _ N2 S2 (r2.stay N2.stay)⟩
                          · rw [if_neg hz] at e; cases e
                      · rw [hv] at hn; cases hn
              · rw [if_neg hk] at e; cases e
end Y
end
section
set_option linter.all false
set_option maxRecDepth 100000
set_option maxHeartbeats 4000000
/-! Z1: from the text's terms to combinators, by a total function: tables, looks at the text. -/
namespace Y
open PySem PySem.Spec L2 PyProof.Rows
/-! ### texts as names -/
theorem strEq_eq {x y : Str} (h : strEq x y = true) : x = y := by
  have := natsEq_iff.mp h
  cases x; cases y
  simp only at this
  congr
  exact Array.toList_inj.mp this
/-- a table by texts -/
def slk {α : Type} : List (Str × α) → Str → Option α
  | [], _ => none
  | (k, v) :: r, x => if strEq k x then some v else slk r x
theorem slk_mem {α : Type} : ∀ {l : List (Str × α)} {x : Str} {v : α}, slk l x = some v → (x, v) ∈ l
  | [], _, _, h => by cases h
  | (k, w) :: r, x, v, h => by
    unfold slk at h
    by_cases e : strEq k x = true
    · rw [if_pos e] at h
      cases h
      rw [strEq_eq e]
      exact List.mem_cons_self
    · rw [if_neg e] at h
      exact List.mem_cons_of_mem _ (slk_mem h)
/-- the place of a text -/
def slotF : List Str → Str → Nat → Option Nat
  | [], _, _ => none
  | k :: r, x, n => if strEq k x then some n else slotF r x (n + 1)
def slot (N : List Str) (x : Str) : Option Nat := slotF N x 0
theorem slotF_get : ∀ {N : List Str} {x : Str} {n i : Nat}, slotF N x n = some i → n ≤ i ∧ N[i - n]? = some x
  | [], _, _, _, h => by cases h
  | k :: r, x, n, i, h => by
    unfold slotF at h
    by_cases e : strEq k x = true
    · rw [if_pos e] at h
      cases h
      rw [strEq_eq e]
      exact ⟨Nat.le_refl _, by simp⟩
    · rw [if_neg e] at h
      obtain ⟨h1, h2⟩ := slotF_get h
      refine ⟨by omega, ?_⟩
      have : i - n = (i - (n + 1)) + 1 := by omega
      rw [this, List.getElem?_cons_succ]
      exact h2
theorem slot_get {N : List Str} {x : Str} {i : Nat} (h : slot N x = some i) : N[i]? = some x := (slotF_get h).2
/-! ### the tables -/
/-- built-in names, by numbers -/
def biName : Nat → Str
  | 0 => "len" | 1 => "range" | 2 => "tuple" | 3 => "list" | 4 => "int" | 5 => "bool" | 6 => "abs" | 7 => "sum" | 8 => "max" | 9 => "min" | 10 => "all" | 11 => "any"
  | 12 => "isinstance" | 13 => "enumerate" | 14 => "zip" | 15 => "sorted" | 16 => "dict" | 17 => "set" | 18 => "str" | _ => "super"
def BI : List (Str × Nat) := [("len", 0), ("range", 1), ("tuple", 2), ("list", 3), ("int", 4), ("bool", 5), ("abs", 6), ("sum", 7), ("max", 8), ("min", 9), ("all", 10), ("any", 11), ("isinstance", 12), ("enumerate", 13), ("zip", 14), ("sorted", 15), ("dict", 16), ("set", 17), ("str", 18), ("super", 19)]
structure Gx where
  fn : List (Str × Nat)
  cl : List (Str × Nat)
  ini : List (Nat × Nat)
  ct : List (Str × PV)
  /-- built-in names that the module does not hide -/
  free : List Nat
  nm : List (Str × Nat)
  fld : List (Nat × List Nat)
  met : List (Nat × List (Nat × Nat))
  BL : List (Nat × Option Nat)
  EQ : List (Nat × Nat)
  LN : List (Nat × Nat)
  IL : List Nat
  IS : Nat → Nat → Option Bool
structure Lx where
  N : List Str
  sc : Scope
  fnc : Str → Bool
def ctOk : PV → Option Value → Prop
  | .int i, o => ∃ t, o = some (.int i t)
  | .str s, o => ∃ t, o = some (.str s t)
  | _, _ => False
/-- what the tables' entries mean -/
structure Fx (G : Gx) (T : Tb) (k : Nat) (r : Ev) (P : Program) (w : World) (K : PySem.W.Frag) (mg : Str → Option Value) (base : Heap) : Prop where
  TP : T.P = P
  Tw : T.w = w
  tc : TruC P w K mg base T k r G.BL
  eq : EqC P w K mg base T k r G.EQ
  ln : LenC P w K mg base T k r G.LN
  is : IsiC K T G.IS G.IL
  fn : ∀ x i, (x, i) ∈ G.fn → mg x = some (.ref (T.fa i)) ∧ EvC P w K mg base T k r i
  cl : ∀ x c, (x, c) ∈ G.cl → mg x = some (.ref (T.ca c))
  ini : ∀ c i, look G.ini c = some i → Mk K (T.ca c) (T.fa i) ∧ EvC P w K mg base T k r i
  ct : ∀ x v, (x, v) ∈ G.ct → ctOk v (mg x)
  free : ∀ c, memN c G.free = true → mg (biName c) = none
  nm : ∀ x f, (x, f) ∈ G.nm → T.nm f = x
  fld : ∀ f L, look G.fld f = some L → ∀ c ∈ L, Cls K (T.ca c) ∧ NoAttr K (T.ca c) (T.nm f)
  met : ∀ f ms, look G.met f = some ms → MetC P w K mg base T k r f ms
structure Ok (G : Gx) (T : Tb) (k : Nat) (r : Ev) (L : Lx) (X : Cx) : Prop where
  fx : Fx G T k r X.prog X.w X.K X.mg X.base
  hr : Room (k + 1) X.A
  calm : X.calm = true
  hN : X.N = L.N
  nd : L.N.Nodup
  nn : ∀ x ∈ L.N, (x == ("__debug__" : Str)) = false ∧ (x == ("__classdict__" : Str)) = false
  sc : X.env.scope = L.sc
  fk : ∀ x, L.fnc x = true → X.fn x = true
/-- a context of statements -/
structure Sm (X : Cx) : Prop where
  hp : PassesOwn (model X.prog X.w) X.A X.env X.xe
  kd : X.env.scope.kind = .function
section
variable {G : Gx} {T : Tb} {k : Nat} {r : Ev} {L : Lx} {X : Cx}
theorem Ok.hk (o : Ok G T k r L X) : Room k X.A := o.hr.mono (Nat.le_succ k)
theorem Ok.tb (o : Ok G T k r L X) : TbX T X := ⟨o.fx.TP, o.fx.Tw⟩
theorem Ok.xnd (o : Ok G T k r L X) : X.N.Nodup := by rw [o.hN]; exact o.nd
theorem Ok.at (o : Ok G T k r L X) {x : Str} {i : Nat} (h : slot L.N x = some i) : X.N[i]? = some x := by rw [o.hN]; exact slot_get h
theorem Ok.vis (o : Ok G T k r L X) {x : Str} (h : visB L.sc x = true) : Vis X.env.scope x := by rw [o.sc]; exact Y.vis h
theorem Ok.loc (o : Ok G T k r L X) {x : Str} (h : locB L.sc x = true) : L2.Loc X.env.scope x := by rw [o.sc]; exact Y.loc h
theorem Ok.free (o : Ok G T k r L X) {x : Str} {c : Nat} (h : slk BI x = some c) (hf : memN c G.free = true) (hx : biName c = x) : X.mg x = none := by rw [← hx]; exact o.fx.free c hf
end
def dbgB (x : Str) : Bool := x == ("__debug__" : Str)
/-- a name of the module or a built-in one -/
def glB (sc : Scope) (x : Str) : Bool := match sc.names.lookup x with
  | some .globalImplicit => !dbgB x
  | _ => false
theorem glB_ok {G : Gx} {T : Tb} {k : Nat} {r : Ev} {L : Lx} {X : Cx} (o : Ok G T k r L X) {x : Str} (h : glB L.sc x = true) : Gl X x ∧ (x == ("__debug__" : Str)) = false := by
  unfold glB at h
  split at h
  · rename_i e
    refine ⟨?_, by simpa [dbgB] using h⟩
    show X.env.scope.names.lookup x = _
    rw [o.sc, e]
  · cases h
/-! ### looks at terms -/
def nst : PySem.Expr → Bool
  | .Starred .. => false
  | _ => true
def allNst : List PySem.Expr → Bool
  | [] => true
  | e :: es => if nst e then allNst es else false
theorem star_cons {e : PySem.Expr} {es : List PySem.Expr} {env : Env} (h : nst e = true) : starEach (e :: es) env = (false, eval e env) :: starEach es env := by
  cases e <;> first | rfl | cases h
theorem star_any {pos : Pos} {env : Env} : ∀ {es : List PySem.Expr}, allNst es = true → (backTo pos (starEach es env)).any (·.1) = false
  | [], _ => rfl
  | e :: es, h => by
    unfold allNst at h
    by_cases g : nst e = true
    · rw [if_pos g] at h
      rw [star_cons g]
      show (false || (backTo pos (starEach es env)).any (·.1)) = false
      rw [star_any h]
      rfl
    · rw [if_neg g] at h; cases h
theorem star_all {pos : Pos} {env : Env} : ∀ {es : List PySem.Expr}, allNst es = true → (backTo pos (starEach es env)).all (fun x => !x.1) = true
  | [], _ => rfl
  | e :: es, h => by
    unfold allNst at h
    by_cases g : nst e = true
    · rw [if_pos g] at h
      rw [star_cons g]
      show (true && (backTo pos (starEach es env)).all (fun x => !x.1)) = true
      rw [star_all h]
      rfl
    · rw [if_neg g] at h; cases h
theorem star_some {pos : Pos} {env : Env} : ∀ {es : List PySem.Expr}, allNst es = false → (backTo pos (starEach es env)).any (·.1) = true
  | [], h => by cases h
  | e :: es, h => by
    unfold allNst at h
    by_cases g : nst e = true
    · rw [if_pos g] at h
      rw [star_cons g]
      show (false || (backTo pos (starEach es env)).any (·.1)) = true
      rw [star_some h]
      rfl
    · cases e with
      | Starred v p => rfl
      | _ => exact absurd rfl g
/-- no call of no argument (super() ..) -/
def baseOk : PySem.Expr → Bool
  | .Call (.Name _ _) [] [] _ => false
  | _ => true
theorem base_ok {e : PySem.Expr} {nx : Str} {env : Env} {whole : Sem Value} (h : baseOk e = true) : attributeBase e nx env whole = whole := by
  cases e with
  | Call f args kws pos =>
    cases f with
    | Name id p =>
      cases args with
      | nil =>
        cases kws with
        | nil => cases h
        | cons _ _ => rfl
      | cons _ _ => rfl
    | _ => rfl
  | _ => rfl
def noSet : PySem.Expr → Bool
  | .Set .. => false
  | _ => true
theorem noSet_marks {e : PySem.Expr} {op : CmpOp} (h : noSet e = true) : behindInMarks op e = false := by
  cases e <;> first | rfl | cases h
theorem noSet_fold {e : PySem.Expr} {env : Env} (h : noSet e = true) : ∀ x, foldedSetIterable e env x = pure x := by
  intro x
  cases e <;> first | rfl | cases h
def plainIxB : PySem.Expr → Bool
  | .Slice .. => false
  | _ => true
theorem plainIx_ok {e : PySem.Expr} (h : plainIxB e = true) : PlainIx e := by
  intro o i
  cases e <;> first | rfl | cases h
def valT : PySem.Expr → Bool
  | .UnaryOp .Not _ _ => false
  | .BoolOp .. => false
  | .IfExp .. => false
  | .Compare .. => false
  | _ => true
theorem valT_ok {e : PySem.Expr} {env : Env} (h : valT e = true) : ∀ whole, isTrue e env whole = (do let v ← whole; standAt e.pos; holding [v] (truthy v)) := by
  intro whole
  cases e with
  | UnaryOp op x pos => cases op <;> first | rfl | cases h
  | BoolOp => cases h
  | IfExp => cases h
  | Compare => cases h
  | _ => rfl
end Y
end
section
set_option linter.all false
set_option maxRecDepth 100000
set_option maxHeartbeats 4000000
/-! Z2: the compiler's parts for expressions, each shown to read its term. -/
namespace Y
open PySem PySem.Spec L2 PyProof.Rows
/-! ### scopes -/
def nlk : List (Str × NameKind) → Str → Option NameKind
  | [], _ => none
  | (k, v) :: r, x => if strEq k x then some v else nlk r x
theorem nlk_eq : ∀ {l : List (Str × NameKind)} {x : Str}, nlk l x = l.lookup x
  | [], x => rfl
  | (k, v) :: r, x => by
    unfold nlk
    rw [List.lookup_cons, nlk_eq (l := r), strEq_dec]
    by_cases e : k = x
    · subst e; simp
    · have : (x == k) = false := beq_eq_false_iff_ne.mpr fun z => e z.symm
      simp [e, this]
def isVis (sc : Scope) (x : Str) : Bool := match nlk sc.names x with
  | some .local => true
  | some .cell => true
  | some .free => true
  | _ => false
def isLoc (sc : Scope) (x : Str) : Bool := match nlk sc.names x with
  | some .local => true
  | some .cell => true
  | _ => false
def isPlainLoc (sc : Scope) (x : Str) : Bool := match nlk sc.names x with
  | some .local => true
  | _ => false
def isGl (sc : Scope) (x : Str) : Bool := match nlk sc.names x with
  | some .globalImplicit => !strEq x "__debug__"
  | _ => false
section
variable {G : Gx} {T : Tb} {k : Nat} {r : Ev} {L : Lx} {X : Cx}
theorem Ok.vis' (o : Ok G T k r L X) {x : Str} (h : isVis L.sc x = true) : Vis X.env.scope x := o.vis (by unfold isVis at h; rw [nlk_eq] at h; unfold visB; exact h)
theorem isLoc_eq {sc : Scope} {x : Str} : isLoc sc x = locB sc x := by
  unfold isLoc locB
  rw [nlk_eq]
  all_goals
    cases sc.names.lookup x with
    | none => rfl
    | some z => cases z <;> rfl
theorem Ok.loc' (o : Ok G T k r L X) {x : Str} (h : isLoc L.sc x = true) : L2.Loc X.env.scope x := o.loc (isLoc_eq ▸ h)
theorem Ok.pl (o : Ok G T k r L X) {x : Str} (h : isPlainLoc L.sc x = true) : X.env.scope.names.lookup x = some .local := by
  unfold isPlainLoc at h
  rw [nlk_eq] at h
  rw [o.sc]
  split at h
  · assumption
  · cases h
/-- a name that may be stored -/
def stB (L : Lx) (x : Str) : Bool := isLoc L.sc x && (L.fnc x || isPlainLoc L.sc x)
theorem Ok.st (o : Ok G T k r L X) {x : Str} (h : stB L x = true) : L2.Loc X.env.scope x ∧ (X.fn x = true ∨ X.env.scope.names.lookup x = some .local) := by
  unfold stB at h
  rw [Bool.and_eq_true, Bool.or_eq_true] at h
  exact ⟨o.loc' h.1, h.2.imp (o.fk x) o.pl⟩
theorem Ok.gl (o : Ok G T k r L X) {x : Str} (h : isGl L.sc x = true) : Gl X x ∧ (x == ("__debug__" : Str)) = false := by
  unfold isGl at h
  rw [nlk_eq] at h
  split at h
  · rename_i e
    refine ⟨?_, ?_⟩
    · show X.env.scope.names.lookup x = _
      rw [o.sc, e]
    · rw [strEq_dec] at h
      rw [beq_eq_false_iff_ne]
      intro z
      subst z
      simp at h
  · cases h
end
/-! ### what is made of a term -/
structure Cm where
  E : Lx → Expr → Y.X
  T : Lx → Expr → XB
  G : Lx → Expr → XT
  W : Lx → List Nat → Expr → XT
  S : Lx → Stmt → XS
def badE : Y.X := fun _ _ _ => .stuck 99
def badT : XB := fun _ _ _ => .stuck 99
def badI : XI := fun _ _ _ => .stuck 99
def badG : XT := fun _ _ _ _ => .stuck 99
def badS : XS := fun _ _ _ => .stuck 99
def Cm.bad : Cm := ⟨fun _ _ => badE, fun _ _ => badT, fun _ _ => badG, fun _ _ _ => badG, fun _ _ => badS⟩
structure Snd (G : Gx) (T : Tb) (k : Nat) (r : Ev) (c : Cm) : Prop where
  hE : ∀ {L : Lx} {X : Cx}, Ok G T k r L X → ∀ e, PE X e (tE T X.K r (c.E L e))
  hT : ∀ {L : Lx} {X : Cx}, Ok G T k r L X → ∀ e, PT X e (tT T X.K r (c.T L e))
  hG : ∀ {L : Lx} {X : Cx}, Ok G T k r L X → ∀ e, PG X e (tG T X.K r (c.G L e))
  hW : ∀ {L : Lx} {X : Cx}, Ok G T k r L X → ∀ vs e, PG X e (tW T X.K vs r (c.W L vs e))
  hS : ∀ {L : Lx} {X : Cx}, Ok G T k r L X → Sm X → ∀ s, PS X s (tS T X.K r (c.S L s))
section
variable {T : Tb} {k : Nat} {r : Ev} {X : Cx}
theorem bad_E {e : Expr} : PE X e (tE T X.K r badE) := ⟨fun pins s σ H Q I h => by obtain ⟨_, _, _, _, _, _, _, e, _⟩ := h; cases e⟩
theorem bad_T {e : Expr} : PT X e (tT T X.K r badT) := ⟨fun pins s σ H Q I h => by obtain ⟨_, _, _, _, _, _, _, e, _⟩ := h; cases e⟩
theorem bad_I {tg e : Expr} : PI X tg e (tI T X.K r badI) := ⟨fun pins s σ H Q I h => by obtain ⟨_, _, _, _, _, _, _, _, e, _⟩ := h; cases e⟩
theorem bad_G {e : Expr} : PG X e (tG T X.K r badG) := ⟨fun pins s σ H v u Q I rv h => by obtain ⟨_, _, _, _, _, _, _, _, _, e, _⟩ := h; cases e⟩
theorem bad_W {vs : List Nat} {e : Expr} : PG X e (tW T X.K vs r badG) := ⟨fun pins s σ H v u Q I rv h => by obtain ⟨_, _, _, _, _, _, _, _, _, e, _⟩ := h; cases e⟩
theorem bad_S {s : Stmt} : PS X s (tS T X.K r badS) := ⟨fun pins s σ H D I h => by obtain ⟨_, _, _, _, _, o⟩ := h; exact o.elim⟩
end
theorem Snd.bad {G : Gx} {T : Tb} {k : Nat} {r : Ev} : Snd G T k r Cm.bad := ⟨fun _ _ => bad_E, fun _ _ => bad_T, fun _ _ => bad_G, fun _ _ _ => bad_W, fun _ _ _ => bad_S⟩
/-! ### arguments -/
def cA (f : Expr → Y.X) : List Expr → XA
  | [] => aNil
  | .Starred e _ :: es => aStar (f e) (cA f es)
  | e :: es => aCons (f e) (cA f es)
theorem cA_cons {f : Expr → Y.X} {e : Expr} {es : List Expr} (h : nst e = true) : cA f (e :: es) = aCons (f e) (cA f es) := by
  cases e <;> first | rfl | cases h
theorem cA_ok {T : Tb} {r : Ev} {X : Cx} {f : Expr → Y.X} (hf : ∀ e, PE X e (tE T X.K r (f e))) : ∀ es, PA X es (tA T X.K r (cA f es))
  | [] => sA_nil
  | e :: es => by
    by_cases h : nst e = true
    · rw [cA_cons h]
      exact sA_cons (hf e) (cA_ok hf es) (star_cons h)
    · cases e with
      | Starred v p => exact sA_star (hf v) (cA_ok hf es)
      | _ => exact absurd rfl h
/-! ### names, constants -/
def cName (G : Gx) (L : Lx) (x : Str) : Y.X := match slot L.N x with
  | some i => if isVis L.sc x then e_var i else badE
  | none => match slk G.ct x with
    | some v => if isGl L.sc x then e_cst v else badE
    | none => badE
def cConst : Const → Y.X
  | .int i => e_cst (.int i)
  | .str s => e_cst (.str s)
  | .bool b => e_cst (.bl b)
  | .none => e_cst .non
  | _ => badE
section
variable {G : Gx} {T : Tb} {k : Nat} {r : Ev} {L : Lx} {X : Cx} {pos : Pos}
theorem cName_ok (o : Ok G T k r L X) (x : Str) : PE X (.Name x pos) (tE T X.K r (cName G L x)) := by
  unfold cName
  cases g : slot L.N x with
  | some i =>
    dsimp only
    by_cases h : isVis L.sc x = true
    · rw [if_pos h]; exact sE_var (pe_var (o.at g) (o.vis' h) (o.nn x (List.mem_of_getElem? (slot_get g))).1 (o.nn x (List.mem_of_getElem? (slot_get g))).2)
    · rw [if_neg h]; exact bad_E
  | none =>
    dsimp only
    cases g2 : slk G.ct x with
    | none => exact bad_E
    | some v =>
      dsimp only
      by_cases h : isGl L.sc x = true
      · rw [if_pos h]
        obtain ⟨h1, h2⟩ := o.gl h
        have z := o.fx.ct x v (slk_mem g2)
        cases v with
        | int i => obtain ⟨t, z⟩ := z; exact sE_cst (pe_glob (v := .int i) h1 z ⟨t, rfl⟩ h2) fun _ _ _ => .int i
        | str i => obtain ⟨t, z⟩ := z; exact sE_cst (pe_glob (v := .str i) h1 z ⟨t, rfl⟩ h2) fun _ _ _ => .str i
        | _ => exact z.elim
      · rw [if_neg h]; exact bad_E
theorem cConst_ok (c : Const) {j : Nat} : PE X (.Constant c j pos) (tE T X.K r (cConst c)) := by
  cases c with
  | int i => exact sE_int
  | str i => exact sE_str
  | bool i => exact sE_bl
  | none => exact sE_non
  | _ => exact bad_E
end
/-! ### operators -/
def bopO : Operator → Option Bop
  | .Add => some .add | .Sub => some .sub | .Mult => some .mul | .FloorDiv => some .fdiv | .Mod => some .mod | .Pow => some .pow | _ => none
theorem bopO_ok {op : Operator} {o : Bop} (h : bopO op = some o) : op = bopM o := by
  cases op <;> cases h <;> rfl
def copO : CmpOp → Option Cop
  | .Eq => some .eq | .NotEq => some .ne | .Lt => some .lt | .LtE => some .le | .Gt => some .gt | .GtE => some .ge | .Is => some .is_ | .IsNot => some .isNot | _ => none
theorem copO_ok {op : CmpOp} {o : Cop} (h : copO op = some o) : op = copM o := by
  cases op <;> cases h <;> rfl
def inO : CmpOp → Option Bool
  | .In => some false | .NotIn => some true | _ => none
theorem inO_ok {op : CmpOp} {o : Bool} (h : inO op = some o) : op = inM o := by
  cases op <;> cases h <;> rfl
def cBin (f : Expr → Y.X) (a : Expr) (op : Operator) (b : Expr) : Y.X := match bopO op with
  | some o => e_bin o (f a) (f b)
  | none => badE
def cAnd (G : Gx) (f : Expr → Y.X) : List Expr → Y.X
  | [] => badE
  | [x] => f x
  | x :: y :: rest => e_and G.BL (f x) (cAnd G f (y :: rest))
def cOr (G : Gx) (f : Expr → Y.X) : List Expr → Y.X
  | [] => badE
  | [x] => f x
  | x :: y :: rest => e_or G.BL (f x) (cOr G f (y :: rest))
def cAndT (f : Expr → XB) : List Expr → XB
  | [] => badT
  | [x] => f x
  | x :: y :: rest => b_and (f x) (cAndT f (y :: rest))
def cOrT (f : Expr → XB) : List Expr → XB
  | [] => badT
  | [x] => f x
  | x :: y :: rest => b_or (f x) (cOrT f (y :: rest))
def cCmp (G : Gx) (f : Expr → Y.X) (a : Expr) (ops : List CmpOp) (bs : List Expr) : Y.X := match ops, bs with
  | [op], [b] => if noSet b then (match copO op with
    | some o => e_cmp G.EQ o (f a) (f b)
    | none => match inO op with
      | some n => e_in n (f a) (f b)
      | none => badE) else badE
  | [op, op2], [b, c] => if noSet c then (match copO op, copO op2 with
    | some o, some o2 => e_chain G.EQ (f a) o (f b) o2 (f c)
    | _, _ => badE) else badE
  | _, _ => badE
def cCmpT (G : Gx) (f : Expr → Y.X) (a : Expr) (ops : List CmpOp) (bs : List Expr) : XB := match ops, bs with
  | [op], [b] => if noSet b then (match copO op with
    | some o => b_cmp G.EQ o (f a) (f b)
    | none => match inO op with
      | some n => b_in n (f a) (f b)
      | none => badT) else badT
  | [op, op2], [b, c] => if noSet c then (match copO op, copO op2 with
    | some o, some o2 => b_chain G.EQ (f a) o (f b) o2 (f c)
    | _, _ => badT) else badT
  | _, _ => badT
section
variable {G : Gx} {T : Tb} {k : Nat} {r : Ev} {L : Lx} {X : Cx} {pos : Pos} {f : Expr → Y.X}
theorem cBin_ok (hf : ∀ e, PE X e (tE T X.K r (f e))) (a b : Expr) (op : Operator) : PE X (.BinOp a op b pos) (tE T X.K r (cBin f a op b)) := by
  unfold cBin
  cases g : bopO op with
  | none => exact bad_E
  | some o => rw [bopO_ok g]; exact sE_bin o (hf a) (hf b)
theorem cAnd_ok (o : Ok G T k r L X) (hf : ∀ e, PE X e (tE T X.K r (f e))) : ∀ es, PE X (.BoolOp .And es pos) (tE T X.K r (cAnd G f es))
  | [] => bad_E
  | [x] => sE_and1 (hf x)
  | x :: y :: rest => sE_and o.hk o.fx.tc (hf x) (cAnd_ok o hf (y :: rest))
theorem cOr_ok (o : Ok G T k r L X) (hf : ∀ e, PE X e (tE T X.K r (f e))) : ∀ es, PE X (.BoolOp .Or es pos) (tE T X.K r (cOr G f es))
  | [] => bad_E
  | [x] => sE_or1 (hf x)
  | x :: y :: rest => sE_or o.hk o.fx.tc (hf x) (cOr_ok o hf (y :: rest))
theorem bad_W' {e : Expr} : PW X e (tT T X.K r badT) := ⟨fun wh pins s σ H Q I h => by obtain ⟨_, _, _, _, _, _, _, e, _⟩ := h; cases e⟩
theorem cAndT_ok {f : Expr → XB} (hf : ∀ e, PT X e (tT T X.K r (f e))) : ∀ es, PW X (.BoolOp .And es pos) (tT T X.K r (cAndT f es))
  | [] => bad_W'
  | [x] => sW_and1 (hf x)
  | x :: y :: rest => sW_and (hf x) (cAndT_ok hf (y :: rest))
theorem cOrT_ok {f : Expr → XB} (hf : ∀ e, PT X e (tT T X.K r (f e))) : ∀ es, PW X (.BoolOp .Or es pos) (tT T X.K r (cOrT f es))
  | [] => bad_W'
  | [x] => sW_or1 (hf x)
  | x :: y :: rest => sW_or (hf x) (cOrT_ok hf (y :: rest))
theorem lastMarks2 {op op2 : CmpOp} {b c : Expr} (h : noSet c = true) : lastMarks [op, op2] [b, c] = false := by
  show lastMarks [op2] [c] = false
  exact noSet_marks h
theorem cCmp_ok (o : Ok G T k r L X) (hf : ∀ e, PE X e (tE T X.K r (f e))) (a : Expr) (ops : List CmpOp) (bs : List Expr) : PE X (.Compare a ops bs pos) (tE T X.K r (cCmp G f a ops bs)) := by
  unfold cCmp
  split
  · rename_i op b
    split
    · rename_i h
      cases g : copO op with
      | some w => dsimp only; rw [copO_ok g]; exact sE_cmp w o.hr o.fx.eq (hf a) (hf b) (noSet_marks h)
      | none =>
        dsimp only
        cases g2 : inO op with
        | some w => dsimp only; rw [inO_ok g2]; exact sE_in w o.hk o.tb (hf a) (hf b) (noSet_marks h)
        | none => exact bad_E
    · exact bad_E
  · rename_i op op2 b c
    split
    · rename_i h
      split
      · rename_i w w2 g g2
        rw [copO_ok g, copO_ok g2]
        exact sE_chain w w2 o.hr o.fx.eq (hf a) (hf b) (hf c) (lastMarks2 h)
      · exact bad_E
    · exact bad_E
  · exact bad_E
theorem cCmpT_ok (o : Ok G T k r L X) (hf : ∀ e, PE X e (tE T X.K r (f e))) (a : Expr) (ops : List CmpOp) (bs : List Expr) : PT X (.Compare a ops bs pos) (tT T X.K r (cCmpT G f a ops bs)) := by
  unfold cCmpT
  split
  · rename_i op b
    split
    · rename_i h
      cases g : copO op with
      | some w => dsimp only; rw [copO_ok g]; exact sT_cmp w o.hr o.fx.eq (hf a) (hf b) (noSet_marks h)
      | none =>
        dsimp only
        cases g2 : inO op with
        | some w => dsimp only; rw [inO_ok g2]; exact sT_in w o.hk o.tb (hf a) (hf b) (noSet_marks h)
        | none => exact bad_T
    · exact bad_T
  · rename_i op op2 b c
    split
    · rename_i h
      split
      · rename_i w w2 g g2
        rw [copO_ok g, copO_ok g2]
        exact sT_chain w w2 o.hr o.fx.eq (hf a) (hf b) (hf c) (lastMarks2 h)
      · exact bad_T
    · exact bad_T
  · exact bad_T
end
/-! ### attributes, subscripts, displays -/
def cAttr (G : Gx) (f : Expr → Y.X) (v : Expr) (nx : Str) : Y.X := if baseOk v then (match slk G.nm nx with
  | some i => (match look G.fld i with
    | some Ls => e_attr (f v) i Ls
    | none => badE)
  | none => badE) else badE
def cOpt (f : Expr → Y.X) : Option Expr → XP
  | none => oN
  | some e => oS (f e)
def cSub (f : Expr → Y.X) (v s : Expr) : Y.X := match s with
  | .Slice lo hi none _ => e_sl (f v) (cOpt f lo) (cOpt f hi)
  | .Slice .. => badE
  | s => e_sub (f v) (f s)
def cDict (f : Expr → Y.X) (ks : List (Option Expr)) (vs : List Expr) : Y.X := match ks, vs with
  | [], [] => e_dct0
  | [some a], [b] => e_dct1 (f a) (f b)
  | _, _ => badE
section
variable {G : Gx} {T : Tb} {k : Nat} {r : Ev} {L : Lx} {X : Cx} {pos : Pos} {f : Expr → Y.X}
theorem cAttr_ok (o : Ok G T k r L X) (hf : ∀ e, PE X e (tE T X.K r (f e))) (v : Expr) (nx : Str) : PE X (.Attribute v nx pos) (tE T X.K r (cAttr G f v nx)) := by
  unfold cAttr
  by_cases h : baseOk v = true
  · rw [if_pos h]
    cases g : slk G.nm nx with
    | none => exact bad_E
    | some i =>
      dsimp only
      cases g2 : look G.fld i with
      | none => exact bad_E
      | some Ls => exact sE_attr (hf v) (o.fx.fld i Ls g2) (o.fx.nm nx i (slk_mem g)) (base_ok h)
  · rw [if_neg h]; exact bad_E
theorem cOpt_ok (hf : ∀ e, PE X e (tE T X.K r (f e))) : ∀ e, PO X e (tP T X.K r (cOpt f e))
  | none => sO_none
  | some e => sO_some (hf e)
theorem cSub_ok (o : Ok G T k r L X) (hf : ∀ e, PE X e (tE T X.K r (f e))) (v s : Expr) : PE X (.Subscript v s pos) (tE T X.K r (cSub f v s)) := by
  unfold cSub
  split
  · exact sE_sl (hf v) (cOpt_ok hf _) (cOpt_ok hf _)
  · exact bad_E
  · rename_i h
    refine sE_sub o.hk o.tb (hf v) (hf s) (plainIx_ok ?_)
    cases s with
    | Slice lo hi st p => exact (h lo hi st p rfl).elim
    | _ => rfl
theorem cDict_ok (o : Ok G T k r L X) (hf : ∀ e, PE X e (tE T X.K r (f e))) (ks : List (Option Expr)) (vs : List Expr) : PE X (.Dict ks vs pos) (tE T X.K r (cDict f ks vs)) := by
  unfold cDict
  split
  · exact sE_dct0 o.tb
  · exact sE_dct1 o.hk o.tb (hf _) (hf _)
  · exact bad_E
end
end Y
end
section
set_option linter.all false
set_option maxRecDepth 100000
set_option maxHeartbeats 4000000
/-! Z3: the compiler's parts for calls. -/
namespace Y
open PySem PySem.Spec L2 PyProof.Rows
/-! ### methods -/
theorem meth_eq {o : Expr} {nx : Str} {apos pos : Pos} {args : List Expr} {env : Env} (hb : baseOk o = true) (ha : allNst args = true) (hn : Nat.ble args.length 28 = true) (hl : (apos.endLine == pos.line) = true) :
    eval (.Call (.Attribute o nx apos) args [] pos) env = (do
      let ov ← eval o env
      standAt apos.atName
      let (f, first) ← holding [ov] (getMethod ov nx (do return (← importBound o env).getD true))
      callWith pos f first (backTo pos (starEach args env)) (backToKw pos (keywordEach [] env))) := by
  have few : methodCallForm (args.length + 0) (backTo pos (starEach args env)) (backToKw pos (keywordEach [] env)) = true := by
    unfold methodCallForm
    rw [star_all ha]
    have : args.length ≤ 28 := Nat.ble_eq ▸ hn
    show (true && true && decide (args.length + 0 + 0 < 30)) = true
    simp
    omega
  show (do
    let ov ← attributeBase o nx env (eval o env)
    standAt apos.atName
    methodCall o nx apos pos env ov (args.length + 0) (backTo pos (starEach args env)) (backToKw pos (keywordEach [] env))) = _
  rw [base_ok hb]
  congr 1
  funext ov
  congr 1
  funext _
  unfold methodCall
  rw [few]
  unfold methodCallPos calleeOf
  rw [hl]
  rfl
theorem few_ok {pos : Pos} {args : List Expr} {env : Env} (ha : allNst args = true) (hn : Nat.ble args.length 28 = true) :
    ((backTo pos (starEach args env)).all (fun x => !x.1) && (backToKw pos (keywordEach [] env)).all (fun x => x.1.isSome)
      && decide (args.length + ([] : List Keyword).length + (if ([] : List Keyword).isEmpty then 0 else 1) < 30)) = true := by
  rw [star_all ha]
  have : args.length ≤ 28 := Nat.ble_eq ▸ hn
  show (true && true && decide (args.length + 0 + 0 < 30)) = true
  simp
  omega
/-- methods of built-in kinds, by numbers -/
def MT : List (Str × Nat) := [("append", 0), ("pop", 1), ("get", 2), ("setdefault", 3)]
theorem mtName {nx : Str} {c : Nat} (h : slk MT nx = some c) : (c = 0 ∧ nx = "append") ∨ (c = 1 ∧ nx = "pop") ∨ (c = 2 ∧ nx = "get") ∨ (c = 3 ∧ nx = "setdefault") := by
  have := slk_mem h
  simp only [MT, List.mem_cons, List.not_mem_nil, or_false, Prod.mk.injEq] at this
  rcases this with ⟨a, b⟩ | ⟨a, b⟩ | ⟨a, b⟩ | ⟨a, b⟩
  · exact .inl ⟨b, a⟩
  · exact .inr (.inl ⟨b, a⟩)
  · exact .inr (.inr (.inl ⟨b, a⟩))
  · exact .inr (.inr (.inr ⟨b, a⟩))
def cBm (f : Expr → Y.X) (o : Expr) (nx : Str) (args : List Expr) : Y.X := match slk MT nx, args with
  | some 0, _ :: _ => e_lm m_append (f o) (cA f args)
  | some 1, [] => e_lm m_pop (f o) aNil
  | some 2, _ :: _ => e_dm m_get (f o) (cA f args)
  | some 3, _ :: _ => e_dm m_setdefault (f o) (cA f args)
  | _, _ => badE
def cMeth (G : Gx) (f : Expr → Y.X) (o : Expr) (nx : Str) (apos pos : Pos) (args : List Expr) : Y.X :=
  if baseOk o && (allNst args && (Nat.ble args.length 28 && Nat.beq apos.endLine pos.line)) then (match slk G.nm nx with
    | some i => (match look G.met i with
      | some ms => e_meth (f o) i ms (cA f args)
      | none => cBm f o nx args)
    | none => cBm f o nx args) else badE
section
variable {G : Gx} {T : Tb} {k : Nat} {r : Ev} {L : Lx} {X : Cx} {pos apos : Pos} {f : Expr → Y.X}
theorem allNst_cons {e : Expr} {es : List Expr} (h : allNst (e :: es) = true) : nst e = true ∧ allNst es = true := by
  unfold allNst at h
  by_cases g : nst e = true
  · rw [if_pos g] at h; exact ⟨g, h⟩
  · rw [if_neg g] at h; cases h
theorem cBm_ok (o : Ok G T k r L X) (hf : ∀ e, PE X e (tE T X.K r (f e))) {ob : Expr} {nx : Str} {args : List Expr} (hb : baseOk ob = true) (ha : allNst args = true) (hn : Nat.ble args.length 28 = true) (hl : (apos.endLine == pos.line) = true) :
    PE X (.Call (.Attribute ob nx apos) args [] pos) (tE T X.K r (cBm f ob nx args)) := by
  unfold cBm
  split
  · rename_i e es g
    obtain ⟨h1, h2⟩ := allNst_cons ha
    rcases mtName g with ⟨_, rfl⟩ | ⟨h, _⟩ | ⟨h, _⟩ | ⟨h, _⟩
    · exact sE_lm F.slot_list_append F.type_list_append mt_appendP (hf ob) (cA_ok hf _) (base_ok hb) (few_ok ha hn) hl (star_cons h1) (star_any h2)
    all_goals cases h
  · rename_i g
    rcases mtName g with ⟨h, _⟩ | ⟨_, rfl⟩ | ⟨h, _⟩ | ⟨h, _⟩
    · cases h
    · exact sE_lm0 F.slot_list_pop F.type_list_pop mt_popP (hf ob) (base_ok hb) hl
    all_goals cases h
  · rename_i e es g
    obtain ⟨h1, h2⟩ := allNst_cons ha
    rcases mtName g with ⟨h, _⟩ | ⟨h, _⟩ | ⟨_, rfl⟩ | ⟨h, _⟩
    · cases h
    · cases h
    · exact sE_dm F.slot_dict_get F.type_dict_get (mt_getP o.hk o.tb) (hf ob) (cA_ok hf _) (base_ok hb) (few_ok ha hn) hl (star_cons h1) (star_any h2)
    · cases h
  · rename_i e es g
    obtain ⟨h1, h2⟩ := allNst_cons ha
    rcases mtName g with ⟨h, _⟩ | ⟨h, _⟩ | ⟨h, _⟩ | ⟨_, rfl⟩
    · cases h
    · cases h
    · cases h
    · exact sE_dm F.slot_dict_setdefault F.type_dict_setdefault (mt_setdefP o.hk o.tb) (hf ob) (cA_ok hf _) (base_ok hb) (few_ok ha hn) hl (star_cons h1) (star_any h2)
  · exact bad_E
theorem cMeth_ok (o : Ok G T k r L X) (hf : ∀ e, PE X e (tE T X.K r (f e))) (ob : Expr) (nx : Str) (args : List Expr) : PE X (.Call (.Attribute ob nx apos) args [] pos) (tE T X.K r (cMeth G f ob nx apos pos args)) := by
  unfold cMeth
  by_cases h : (baseOk ob && (allNst args && (Nat.ble args.length 28 && Nat.beq apos.endLine pos.line))) = true
  · rw [if_pos h]
    rw [Bool.and_eq_true, Bool.and_eq_true, Bool.and_eq_true] at h
    obtain ⟨h1, h2, h3, h4⟩ := h
    have h4 : (apos.endLine == pos.line) = true := by rw [beq_iff_eq]; exact Nat.eq_of_beq_eq_true h4
    cases g : slk G.nm nx with
    | none => exact cBm_ok o hf h1 h2 h3 h4
    | some i =>
      dsimp only
      cases g2 : look G.met i with
      | none => exact cBm_ok o hf h1 h2 h3 h4
      | some ms =>
        dsimp only
        have C := o.fx.met i ms g2
        have hm := o.fx.nm nx i (slk_mem g)
        cases args with
        | nil => exact sE_meth0 o.hk C hm (hf ob) (meth_eq h1 h2 h3 h4)
        | cons e es =>
          obtain ⟨q1, q2⟩ := allNst_cons h2
          exact sE_meth o.hk C hm (hf ob) (cA_ok hf _) (star_cons q1) (star_any q2) (meth_eq h1 h2 h3 h4)
  · rw [if_neg h]; exact bad_E
end
/-! ### built-in calls -/
def biR (G : Gx) : Nat → Nat → Option (Ev → List PV → St → R PV)
  | 0, 1 => some (lenB' G.LN)
  | 2, 1 => some (fun _ => on1 tup1)
  | 3, 1 => some (fun _ => on1 lst1)
  | 4, 1 => some (fun _ => on1 int1)
  | 5, 1 => some (fun r => on1 (boolX G.BL r))
  | 6, 1 => some (fun _ => on1 abs1)
  | 7, 1 => some (fun _ => on1 sum1)
  | 8, 1 => some (fun _ => on1 max1)
  | 9, 1 => some (fun _ => on1 min1)
  | 8, 2 => some (fun _ => on2 max2)
  | 9, 2 => some (fun _ => on2 min2)
  | 10, 1 => some (fun _ => on1 all1)
  | 11, 1 => some (fun _ => on1 any1)
  | 15, 1 => some (fun _ => on1 sort1)
  | _, _ => none
/-- a built-in: a function or a kind -/
def BiV (X : Cx) (c : Nat) (q : List V → Hp → VK → Prop) : Prop := (∃ id, bootBuiltins (biName c) = some (.builtin id) ∧ CallR X (.builtin id) q) ∨ (∃ t, bootBuiltins (biName c) = some (.type t) ∧ CallR X (.type t) q)
section
variable {G : Gx} {T : Tb} {k : Nat} {r : Ev} {L : Lx} {X : Cx} {pos p : Pos} {f : Expr → Y.X}
theorem biR_ok (o : Ok G T k r L X) {c n : Nat} {g : Ev → List PV → St → R PV} (h : biR G c n = some g) : BiV X c (rA T X.K (g r)) := by
  unfold biR at h
  split at h <;> first | cases h | skip
  · exact .inl ⟨_, rfl, cr_lenV o.hr o.tb o.fx.ln⟩
  · exact .inr ⟨_, rfl, cr_tuple⟩
  · exact .inr ⟨_, rfl, cr_list⟩
  · exact .inr ⟨_, rfl, cr_int⟩
  · exact .inr ⟨_, rfl, cr_boolX o.hr o.fx.tc⟩
  · exact .inl ⟨_, rfl, cr_abs⟩
  · exact .inl ⟨_, rfl, cr_sum1 o.calm⟩
  · exact .inl ⟨_, rfl, cr_max1 o.calm⟩
  · exact .inl ⟨_, rfl, cr_min1 o.calm⟩
  · exact .inl ⟨_, rfl, cr_max2 o.calm⟩
  · exact .inl ⟨_, rfl, cr_min2 o.calm⟩
  · exact .inl ⟨_, rfl, cr_all1 o.calm⟩
  · exact .inl ⟨_, rfl, cr_any1 o.calm⟩
  · exact .inl ⟨_, rfl, cr_sort1⟩
theorem bi_name {x : Str} {c : Nat} (h : slk BI x = some c) : biName c = x := by
  have := slk_mem h
  simp only [BI, List.mem_cons, List.not_mem_nil, or_false, Prod.mk.injEq] at this
  rcases this with ⟨rfl, rfl⟩ | ⟨rfl, rfl⟩ | ⟨rfl, rfl⟩ | ⟨rfl, rfl⟩ | ⟨rfl, rfl⟩ | ⟨rfl, rfl⟩ | ⟨rfl, rfl⟩ | ⟨rfl, rfl⟩ | ⟨rfl, rfl⟩ | ⟨rfl, rfl⟩ | ⟨rfl, rfl⟩ | ⟨rfl, rfl⟩ | ⟨rfl, rfl⟩ | ⟨rfl, rfl⟩ | ⟨rfl, rfl⟩ | ⟨rfl, rfl⟩ | ⟨rfl, rfl⟩ | ⟨rfl, rfl⟩ | ⟨rfl, rfl⟩ | ⟨rfl, rfl⟩ <;> rfl
theorem bi_ne (c : Nat) : biName c ≠ "__name__" := by
  unfold biName
  split <;> decide
theorem sE_biV {x : Str} {c : Nat} {e : Expr} {es : List Expr} {a : XA} {g : Ev → List PV → St → R PV} (o : Ok G T k r L X) (hb : BiV X c (rA T X.K (g r))) (hx : slk BI x = some c) (hf : memN c G.free = true) (hg : isGl L.sc x = true) (ha : PA X (e :: es) (tA T X.K r a)) (hs : allNst (e :: es) = true) :
    PE X (.Call (.Name x p) (e :: es) [] pos) (tE T X.K r (e_biR g a)) := by
  have hn := bi_name hx
  obtain ⟨g1, g2⟩ := o.gl hg
  obtain ⟨s1, s2⟩ := allNst_cons hs
  have hm := o.fx.free c hf
  have hne := bi_ne c
  rw [hn] at hm hne
  rcases hb with ⟨id, h1, h2⟩ | ⟨t, h1, h2⟩
  · rw [hn] at h1
    exact sE_biB (g := g) h2 g1 hm h1 ha hne g2 (star_cons s1) (star_any s2)
  · rw [hn] at h1
    exact sE_biT (g := g) h2 g1 hm h1 ha hne g2 (star_cons s1) (star_any s2)
end
/-! ### isinstance -/
/-- a kind's number, by the built-in's number -/
def tyOf : Nat → Option Nat
  | 4 => some 0 | 5 => some 1 | 18 => some 2 | 3 => some 3 | 2 => some 4 | 16 => some 5 | _ => none
def cTy (G : Gx) (L : Lx) : Expr → Option Nat
  | .Name x _ => if isGl L.sc x then (match slk BI x with
    | some c => if memN c G.free then tyOf c else none
    | none => (match slk G.cl x with
      | some c => some (100 + c)
      | none => none)) else none
  | _ => none
def cTys (G : Gx) (L : Lx) : List Expr → Option (List Nat)
  | [] => some []
  | e :: es => match cTy G L e, cTys G L es with
    | some c, some cs => some (c :: cs)
    | _, _ => none
def cIsi (G : Gx) (L : Lx) (f : Expr → Y.X) (a c : Expr) : Y.X := if nst a then (match c with
  | .Name _ _ => (match cTy G L c with
    | some k => e_isi G.IS G.IL [k] (f a)
    | none => badE)
  | .Tuple es _ _ => (match cTys G L es with
    | some ks => if okLen ks then e_isi G.IS G.IL ks (f a) else badE
    | none => badE)
  | _ => badE) else badE
section
variable {G : Gx} {T : Tb} {k : Nat} {r : Ev} {L : Lx} {X : Cx} {pos p : Pos} {f : Expr → Y.X}
theorem tyOf_ok {c t : Nat} (h : tyOf c = some t) : bootBuiltins (biName c) = some (.type (tyName t)) ∧ t < 6 := by
  unfold tyOf at h
  split at h <;> cases h <;> exact ⟨rfl, by decide⟩
theorem cTy_ok (o : Ok G T k r L X) {c : Expr} {t : Nat} (h : cTy G L c = some t) : PE X c (tC (tyV' T t)) ∧ (Nat.blt t 6 || Nat.ble 100 t) = true ∧ nst c = true := by
  unfold cTy at h
  split at h
  · rename_i x p
    by_cases hg : isGl L.sc x = true
    · rw [if_pos hg] at h
      obtain ⟨g1, g2⟩ := o.gl hg
      cases gb : slk BI x with
      | some c =>
        rw [gb] at h
        dsimp only at h
        by_cases hf : memN c G.free = true
        · rw [if_pos hf] at h
          obtain ⟨h1, h2⟩ := tyOf_ok h
          have hm := o.fx.free c hf
          have hne := bi_ne c
          have hn := bi_name gb
          rw [hn] at hm hne h1
          refine ⟨?_, ?_, rfl⟩
          · refine pe_bltn g1 hm h1 ?_ hne g2
            unfold tyV'
            rw [if_pos h2]
            rfl
          · simp [Nat.blt]; omega
        · rw [if_neg hf] at h; cases h
      | none =>
        rw [gb] at h
        dsimp only at h
        cases gc : slk G.cl x with
        | none => rw [gc] at h; cases h
        | some c =>
          rw [gc] at h
          cases h
          refine ⟨?_, ?_, rfl⟩
          · refine pe_glob g1 (o.fx.cl x c (slk_mem gc)) ?_ g2
            unfold tyV'
            rw [if_neg (by omega)]
            rw [show 100 + c - 100 = c by omega]
            rfl
          · simp [Nat.blt]
    · rw [if_neg hg] at h; cases h
  · cases h
theorem cTys_ok (o : Ok G T k r L X) : ∀ {es : List Expr} {ts : List Nat}, cTys G L es = some ts → PA X es (fun σ H Q => Q (ts.map (tyV' T)) H) ∧ (∀ c ∈ ts, (Nat.blt c 6 || Nat.ble 100 c) = true)
  | [], ts, h => by
    cases h
    exact ⟨pa_nil, fun _ h => by cases h⟩
  | e :: es, ts, h => by
    unfold cTys at h
    split at h
    · rename_i c cs h1 h2
      cases h
      obtain ⟨q1, q2, q3⟩ := cTy_ok o h1
      obtain ⟨w1, w2⟩ := cTys_ok o h2
      refine ⟨pa_cons q1 w1 (star_cons q3), fun d hd => ?_⟩
      rcases List.mem_cons.mp hd with rfl | hd
      · exact q2
      · exact w2 d hd
    · cases h
theorem cIsi_ok (o : Ok G T k r L X) (hf : ∀ e, PE X e (tE T X.K r (f e))) (hfr : memN 12 G.free = true) (hg : isGl L.sc "isinstance" = true) (a c : Expr) :
    PE X (.Call (.Name "isinstance" p) [a, c] [] pos) (tE T X.K r (cIsi G L f a c)) := by
  have hm : X.mg "isinstance" = none := o.fx.free 12 hfr
  obtain ⟨g1, g2⟩ := o.gl hg
  unfold cIsi
  by_cases ha : nst a = true
  · rw [if_pos ha]
    split
    · rename_i x p2
      split
      · rename_i t h
        obtain ⟨q1, q2, q3⟩ := cTy_ok o h
        exact sE_isi1 o.fx.is g1 hm rfl (hf a) q1 (clsV_c q2) (star_cons ha) rfl rfl
      · exact bad_E
    · rename_i es n p2
      split
      · rename_i ts h
        obtain ⟨q1, q2⟩ := cTys_ok o h
        by_cases hz : okLen ts = true
        · rw [if_pos hz]
          exact sE_isiT o.fx.is g1 hm rfl (hf a) q1 (clsV_l q2) (okLen_iff.mp hz) (star_cons ha) rfl rfl
        · rw [if_neg hz]; exact bad_E
      · exact bad_E
    · exact bad_E
  · rw [if_neg ha]; exact bad_E
end
/-! ### calls by a name -/
def cFn (f : Expr → Y.X) (i : Nat) (args : List Expr) : Y.X := match args with
  | [] => e_call i aNil
  | [.Starred e _] => e_call i (aStar (f e) aNil)
  | .Starred .. :: _ => badE
  | e :: es => e_call i (cA f (e :: es))
def cMake (f : Expr → Y.X) (c i : Nat) (args : List Expr) : Y.X := match args with
  | [] => e_make c i aNil
  | e :: es => if allNst (e :: es) then e_make c i (cA f (e :: es)) else badE
def rgArg (G : Gx) (L : Lx) : List Expr → Option Expr
  | [.Call (.Name x _) [e] [] _] => if nst e && (isGl L.sc x && strEq x "range") && memN 1 G.free then some e else none
  | _ => none
def cBi (G : Gx) (L : Lx) (f : Expr → Y.X) (c : Nat) (args : List Expr) : Y.X := match args with
  | [] => badE
  | e :: es => if Nat.beq c 12 then (match e :: es with
      | [a, b] => cIsi G L f a b
      | _ => badE)
    else if Nat.beq c 3 && (rgArg G L (e :: es)).isSome then (match rgArg G L (e :: es) with
      | some a => e_lstRg1 (f a)
      | none => badE)
    else if allNst (e :: es) then (match biR G c (len (e :: es)) with
      | some g => e_biR g (cA f (e :: es))
      | none => badE) else badE
def cCallN (G : Gx) (L : Lx) (f : Expr → Y.X) (x : Str) (args : List Expr) : Y.X := match slot L.N x with
  | some _ => badE
  | none => if isGl L.sc x then (match slk G.fn x with
    | some i => cFn f i args
    | none => match slk G.cl x with
      | some c => (match look G.ini c with
        | some i => cMake f c i args
        | none => badE)
      | none => match slk BI x with
        | some c => if memN c G.free then cBi G L f c args else badE
        | none => badE) else badE
def cCall (G : Gx) (L : Lx) (f : Expr → Y.X) (fe : Expr) (args : List Expr) (kws : List Keyword) (pos : Pos) : Y.X := match kws with
  | [] => (match fe with
    | .Name x _ => cCallN G L f x args
    | .Attribute o nx apos => cMeth G f o nx apos pos args
    | _ => badE)
  | _ => badE
section
variable {G : Gx} {T : Tb} {k : Nat} {r : Ev} {L : Lx} {X : Cx} {pos p : Pos} {f : Expr → Y.X}
theorem cFn_ok (o : Ok G T k r L X) (hf : ∀ e, PE X e (tE T X.K r (f e))) {x : Str} {i : Nat} (hi : slk G.fn x = some i) (hg : isGl L.sc x = true) (args : List Expr) : PE X (.Call (.Name x p) args [] pos) (tE T X.K r (cFn f i args)) := by
  obtain ⟨hm, C⟩ := o.fx.fn x i (slk_mem hi)
  obtain ⟨g1, g2⟩ := o.gl hg
  unfold cFn
  split
  · exact sE_call0 o.hk C hm g1 g2
  · exact sE_callS1 o.hk C hm g1 (hf _) g2 rfl
  · exact bad_E
  · rename_i e es h1 h2
    have he : nst e = true := by
      cases e with
      | Starred v p => exact (h2 v p rfl).elim
      | _ => rfl
    by_cases hs : allNst es = true
    · exact sE_call o.hk C hm g1 (cA_ok hf _) g2 (star_cons he) (star_any hs)
    · exact sE_callS o.hk C hm g1 (cA_ok hf _) g2 (star_cons he) (star_some (by cases h : allNst es with | true => exact absurd h hs | false => rfl))
theorem cMake_ok (o : Ok G T k r L X) (hf : ∀ e, PE X e (tE T X.K r (f e))) {x : Str} {c i : Nat} (hc : slk G.cl x = some c) (hi : look G.ini c = some i) (hg : isGl L.sc x = true) (args : List Expr) : PE X (.Call (.Name x p) args [] pos) (tE T X.K r (cMake f c i args)) := by
  have hm := o.fx.cl x c (slk_mem hc)
  obtain ⟨M, C⟩ := o.fx.ini c i hi
  obtain ⟨g1, g2⟩ := o.gl hg
  unfold cMake
  split
  · exact sE_make0 o.hr C M hm g1 g2
  · rename_i e es
    by_cases h : allNst (e :: es) = true
    · rw [if_pos h]
      obtain ⟨q1, q2⟩ := allNst_cons h
      exact sE_make o.hr C M hm g1 (cA_ok hf _) g2 (star_cons q1) (star_any q2)
    · rw [if_neg h]; exact bad_E
theorem cBi_ok (o : Ok G T k r L X) (hf : ∀ e, PE X e (tE T X.K r (f e))) {x : Str} {c : Nat} (hc : slk BI x = some c) (hfr : memN c G.free = true) (hg : isGl L.sc x = true) (args : List Expr) : PE X (.Call (.Name x p) args [] pos) (tE T X.K r (cBi G L f c args)) := by
  unfold cBi
  split
  · exact bad_E
  · rename_i e es
    by_cases h12 : Nat.beq c 12 = true
    · rw [if_pos h12]
      have := Nat.eq_of_beq_eq_true h12
      subst this
      have hn := bi_name hc
      subst hn
      split
      · rename_i a b heq
        rw [heq]
        exact cIsi_ok o hf hfr hg a b
      · exact bad_E
    · rw [if_neg h12]
      by_cases h3 : (Nat.beq c 3 && (rgArg G L (e :: es)).isSome) = true
      · rw [if_pos h3]
        rw [Bool.and_eq_true] at h3
        have := Nat.eq_of_beq_eq_true h3.1
        subst this
        have hn := bi_name hc
        subst hn
        cases gr : rgArg G L (e :: es) with
        | none => exact bad_E
        | some a =>
          dsimp only
          unfold rgArg at gr
          split at gr
          · rename_i x2 p2 a2 pos2 heq
            rw [heq]
            by_cases hq : (nst a2 && (isGl L.sc x2 && strEq x2 "range") && memN 1 G.free) = true
            · rw [if_pos hq] at gr
              cases gr
              rw [Bool.and_eq_true, Bool.and_eq_true, Bool.and_eq_true] at hq
              obtain ⟨⟨q1, q2, q3⟩, q4⟩ := hq
              have := strEq_eq q3
              subst this
              exact sE_lstRg1 (o.gl hg).1 (o.fx.free 3 hfr) (o.gl q2).1 (o.fx.free 1 q4) (hf _) o.calm rfl (star_cons q1)
            · rw [if_neg hq] at gr; cases gr
          · cases gr
      · rw [if_neg h3]
        by_cases hs : allNst (e :: es) = true
        · rw [if_pos hs]
          cases gb : biR G c (len (e :: es)) with
          | none => exact bad_E
          | some g => exact sE_biV o (biR_ok o gb) hc hfr hg (cA_ok hf _) hs
        · rw [if_neg hs]; exact bad_E
theorem cCallN_ok (o : Ok G T k r L X) (hf : ∀ e, PE X e (tE T X.K r (f e))) (x : Str) (args : List Expr) : PE X (.Call (.Name x p) args [] pos) (tE T X.K r (cCallN G L f x args)) := by
  unfold cCallN
  cases g0 : slot L.N x with
  | some _ => exact bad_E
  | none =>
    dsimp only
    by_cases hg : isGl L.sc x = true
    · rw [if_pos hg]
      cases g1 : slk G.fn x with
      | some i => exact cFn_ok o hf g1 hg args
      | none =>
        dsimp only
        cases g2 : slk G.cl x with
        | some c =>
          dsimp only
          cases g3 : look G.ini c with
          | some i => exact cMake_ok o hf g2 g3 hg args
          | none => exact bad_E
        | none =>
          dsimp only
          cases g4 : slk BI x with
          | none => exact bad_E
          | some c =>
            dsimp only
            by_cases hfr : memN c G.free = true
            · rw [if_pos hfr]; exact cBi_ok o hf g4 hfr hg args
            · rw [if_neg hfr]; exact bad_E
    · rw [if_neg hg]; exact bad_E
theorem cCall_ok (o : Ok G T k r L X) (hf : ∀ e, PE X e (tE T X.K r (f e))) (fe : Expr) (args : List Expr) (kws : List Keyword) : PE X (.Call fe args kws pos) (tE T X.K r (cCall G L f fe args kws pos)) := by
  unfold cCall
  split
  · split
    · exact cCallN_ok o hf _ args
    · exact cMeth_ok o hf _ _ args
    · exact bad_E
  · exact bad_E
end
end Y
end
section
set_option linter.all false
set_option maxRecDepth 100000
set_option maxHeartbeats 4000000
/-! Z17: for k, v in d.items(). -/
namespace Y
open PySem PySem.Spec L2 PyProof.Rows
/-- the dict o at d walked by pairs -/
def ItP (d : Addr) (o : Obj) (ks ws : List L2.V) : It :=
  ⟨fun i H => H d = some (theO d o) ∧ i < ks.length, fun i H x H' => ∃ T k v, x = .ref T ∧ ks[i]? = some k ∧ ws[i]? = some v ∧ H T = none ∧ H' = upd H T (.tup [k, v]), fun i H => H d = some (theO d o) ∧ ks.length ≤ i⟩
section
variable {P : Program} {w : World} {K : PySem.W.Frag} {d : Addr} {o : Obj} {es : Array DictEntry} {ep : Nat} {ks ws : List L2.V}
theorem turn_itemsR {elts : List Expr} {kk : Nat} {tpos : Pos} (it : Addr) (hx : o.ExactDict) (hod : o.data = .dict es ep) (hk : Vals ks (es.toList.map (·.key))) (hw0 : Vals ws (es.toList.map (·.val))) :
    Turn P w K (.Tuple elts kk tpos) (ItP d o ks ws) [it] it (fun i h => ∃ ok ov, IsItemIter h it d i es.size ep ok ov) where
  mem := by simp
  obj := fun i h st b hb => by
    have e : b = it := by simpa using hb
    subst e
    obtain ⟨ok, ov, e⟩ := st
    exact ⟨_, e, fun v z => nomatch z⟩
  keep := fun i h h' st k => let ⟨ok, ov, e⟩ := st; ⟨ok, ov, k it (by simp) _ e⟩
  item := by
    intro X hP hw hK hc i pins s σ H E I hf st hg
    subst hP hw hK
    obtain ⟨hd, hi⟩ := hg
    have hl : ks.length = es.size := by rw [hk.length, List.length_map, Array.length_toList]
    have hlt : i < es.size := by omega
    obtain ⟨ok, ov, he⟩ := st
    have hlt2 : it < s.heap.objs.size := Heap.lt_size he
    obtain ⟨u, hu, ru⟩ := hk.get (List.getElem?_eq_getElem hi)
    have hu' : u = es[i].key := by
      rw [List.getElem?_map, Array.getElem?_toList, Array.getElem?_eq_getElem hlt] at hu
      simpa using hu.symm
    subst hu'
    have hi2 : i < ws.length := by rw [hw0.length, List.length_map, Array.length_toList]; exact hlt
    obtain ⟨u2, hu2, ru2⟩ := hw0.get (List.getElem?_eq_getElem hi2)
    have hu2' : u2 = es[i].val := by
      rw [List.getElem?_map, Array.getElem?_toList, Array.getElem?_eq_getElem hlt] at hu2
      simpa using hu2.symm
    subst hu2'
    refine wpAny_pyNext_items_item_raw he ⟨o, raw_of I hd, hx, hod⟩ hlt fun h' ho hT hz hk2 => ?_
    refine ⟨_, rfl, wpAny_letOwnedTupleGo_items (s := { s with heap := h' }) ho fun h'' he' sb => ?_⟩
    have hT2 : h''.get? s.heap.objs.size = some { cls := .type "tuple", data := .seq #[es[i].key, es[i].val] } := (sb.2 _ (Nat.ne_of_gt hlt2)).trans hT
    have new : ObjOk X.prog X.w (upd H s.heap.objs.size (.tup [ks[i], ws[i]])) h'' s.heap.objs.size (.tup [ks[i], ws[i]]) :=
      ⟨by show 2 ≤ sizeLine; decide, [es[i].key, es[i].val], .cons ru (.cons ru2 .nil), ⟨_, hT2, rfl, _, rfl⟩⟩
    have I1 : L2.Inv X pins σ (upd H s.heap.objs.size (.tup [ks[i], ws[i]])) { s with heap := h'' } :=
      I.turnedNew (t' := s.toks) (ch := [it]) (fun b ob hb e => (sb.2 b (by simpa using hb)).trans (hk2 b ob (by simpa using hb) e)) hf (Nat.le_refl _) new
    refine ⟨.ref s.heap.objs.size, _, I1, rfl, ⟨_, ks[i], ws[i], rfl, List.getElem?_eq_getElem hi, List.getElem?_eq_getElem hi2, I.hok.fresh (Nat.le_refl _), rfl⟩, ⟨es[i].key, es[i].val, he'⟩, fun b hb => ?_⟩
    have e : b = it := by simpa using hb
    rw [e, upd_ne (Nat.ne_of_lt hlt2)]
    exact (hf it (by simp)).1
  done := by
    intro X hP hw hK hc i pins s σ H E I hf st hg
    subst hP hw hK
    obtain ⟨hd, hi⟩ := hg
    obtain ⟨f0, f1, f2, f3, f4, f5⟩ := hf it (by simp)
    have hl : ks.length = es.size := by rw [hk.length, List.length_map, Array.length_toList]
    obtain ⟨ok, ov, he⟩ := st
    exact wpAny_pyNext_items_end_raw (I.ok.hd hc) he ⟨o, raw_of I hd, hx, hod⟩ (by omega) fun h' eb => ⟨rfl, I.turned (t' := s.toks) (fun b ob hb e => eb b ob hb e) f0 f1 f3 f4 f5⟩
  self := fun A i s Q E st h => let ⟨_, _, e⟩ := st; PySem.W.kcp_self e h
end
/-! ### the combinator -/
def pairL : List (PV × PV) → List PV
  | [] => []
  | (k, v) :: r => .tup [k, v] :: pairL r
def pairI (a : PV) (st : St) : R (List PV × Gd) := match dctV st a with
  | some (x, w, kvs) => .ok (pairL kvs, [(x, w)]) st
  | none => .stuck 117
def i_items (x : Y.X) : XI := fun r fr st => (x r fr st).bind fun v st => pairI v st
theorem pairL_get : ∀ {kvs : List (PV × PV)} {i : Nat} {p : PV × PV}, kvs[i]? = some p → (pairL kvs)[i]? = some (.tup [p.1, p.2]) ∧ (fstL kvs)[i]? = some p.1 ∧ (sndL kvs)[i]? = some p.2
  | [], i, p, h => by simp at h
  | (k, v) :: r, 0, p, h => by simp at h; subst h; exact ⟨rfl, rfl, rfl⟩
  | (k, v) :: r, i + 1, p, h => by
    rw [List.getElem?_cons_succ] at h
    obtain ⟨a, b, c⟩ := pairL_get h
    exact ⟨by rw [pairL, List.getElem?_cons_succ]; exact a, by rw [fstL, List.getElem?_cons_succ]; exact b, by rw [sndL, List.getElem?_cons_succ]; exact c⟩
theorem pairL_len : ∀ kvs : List (PV × PV), (pairL kvs).length = kvs.length ∧ (fstL kvs).length = kvs.length ∧ (sndL kvs).length = kvs.length
  | [] => ⟨rfl, rfl, rfl⟩
  | (k, v) :: r => by
    obtain ⟨a, b, c⟩ := pairL_len r
    exact ⟨by simp [pairL, a], by simp [fstL, b], by simp [sndL, c]⟩
section
variable {T : Tb} {ρ1 : Nat → Addr} {st1 : St} {H1 : Hp}
theorem wk_P {K : PySem.W.Frag} {a w : Nat} {kvs : List (PV × PV)} {o : Obj} {ks ws : List L2.V} (g : st1.get a = some (.dct w kvs)) (ha : a < st1.n) (h : H1 (ρ1 a) = some (theO (ρ1 a) o)) (t : Reps T K ρ1 st1.n H1 (fstL kvs) ks) (t2 : Reps T K ρ1 st1.n H1 (sndL kvs) ws) :
    Wk T K (ItP (ρ1 a) o ks ws) (pairL kvs) [(a, w)] ρ1 st1 H1 where
  goes := fun i ρ st H N S hg hi => ⟨N.dctStill g ha h (List.mem_singleton.mpr rfl) hg, by rw [← t.length, (pairL_len kvs).2.1, ← (pairL_len kvs).1]; exact hi⟩
  stops := fun ρ st H N S hg => ⟨N.dctStill g ha h (List.mem_singleton.mpr rfl) hg, by rw [← t.length, (pairL_len kvs).2.1, ← (pairL_len kvs).1]; exact Nat.le_refl _⟩
  yields := fun i x H' ρ st H N S hg hi hz => by
    obtain ⟨p, k, v, rfl, hk, hv, hp, rfl⟩ := hz
    rw [(pairL_len kvs).1] at hi
    obtain ⟨q1, q2, q3⟩ := pairL_get (List.getElem?_eq_getElem hi)
    obtain ⟨V, e1, rv⟩ := (t.stay N.stay).get q2
    rw [hk] at e1
    cases e1
    obtain ⟨V2, e2, rv2⟩ := (t2.stay N.stay).get q3
    rw [hv] at e2
    cases e2
    have R2 : Reps T K ρ st.n H [kvs[i].1, kvs[i].2] [k, v] := .cons rv (.cons rv2 .nil)
    exact ⟨S.laid hp, .laid S hp, _, q1, .tup (.inl (.inl upd_same)) (R2.stay (.new hp))⟩
end
section
variable {X : Cx} {T : Tb} {k : Nat} {r : Ev} {apos cpos tpos : Pos} {e : Expr} {x : Y.X} {elts : List Expr} {kq : Nat}
theorem sI_items (hT : TbX T X) (he : PE X e (tE T X.K r x)) (hbase : attributeBase e "items" X.env (eval e X.env) = eval e X.env := by rfl) (hline : (apos.endLine == cpos.line) = true := by rfl) :
    PI X (.Tuple elts kq tpos) (.Call (.Attribute e "items" apos) [] [] cpos) (tI T X.K r (i_items x)) := by
  refine ⟨fun pins s σ H R I ⟨ρ, fr, st, F, S, items, gd, st2, e0, kk⟩ => ?_⟩
  obtain ⟨v1, s1, e1, e2⟩ := bind_ok e0
  unfold pairI at e2
  cases g : dctV s1 v1 with
  | none => rw [g] at e2; cases e2
  | some q =>
    obtain ⟨y, w, kvs⟩ := q
    rw [g] at e2
    cases e2
    refine wpAny_Call_method (T := "dict") (id := "dict.items") hbase rfl hline PySem.F.plainAttrs_dict PySem.F.slot_dict_items PySem.F.type_dict_items (thn (he.run pins s σ H (fun V H1 => ∃ ρ1, StRep T X.K ρ1 st2 H1 ∧ Nxt ρ st H ρ1 st2 H1 ∧ Rep T X.K ρ1 st2.n H1 v1 V) I ⟨ρ, fr, st, F, S, v1, _, e1, fun ρ1 V1 H1 N1 S1 R1 => ⟨ρ1, S1, N1, R1⟩⟩) fun u t1 ⟨V, H1, I1, rV, ρ1, S1, N1, R1⟩ => ?_)
    obtain ⟨g2, rfl⟩ := dctV_ok R1 g
    obtain rfl : u = Value.ref (ρ1 y) := rV
    obtain ⟨o, es, ep, ks, ws, h1, h2, h3, h4, h5, h6, h7, h8, h9⟩ := dct_walk hT I1 S1 g2
    have hr : t1.heap.DictRaw (ρ1 y) es ep := ⟨o, h2, h3, h4⟩
    refine ⟨⟨o, h2, h3.1⟩, fun b z => by cases z; exact ⟨o, h2, h3.2.1⟩, ?_⟩
    have I2 : L2.Inv X pins σ H1 { t1 with heap := t1.heap.push { cls := .type "dict_items", data := .fields #[.ref (ρ1 y)] } } := I1.kept (t' := t1.toks) fun b ob q => Heap.get?_push_of_some _ q
    have fin : wpAny (model X.prog X.w) X.A (pyIter (.ref t1.heap.objs.size)) (PIE X pins σ (.Tuple elts kq tpos) R) X.xe { t1 with heap := t1.heap.push { cls := .type "dict_items", data := .fields #[.ref (ρ1 y)] } } :=
      wpAny_pyIter_items_raw (d := ρ1 y) ⟨_, Heap.get?_push_size _ rfl, rfl, rfl⟩ (hr.at fun o e => Heap.get?_push_of_some _ e) (pi_one (tk := t1.toks) I2 _ (turn_itemsR _ h3 h4 h6 h7) ⟨.none, .none, Heap.get?_push_size _ rfl⟩ (kk ρ1 H1 N1 S1 _ (wk_P g2 (S1.cell y _ g2).1 h1 h8 h9)))
    show wpAny _ _ (callWith cpos (.builtin "dict.items") [.ref (ρ1 y)] [] []) _ X.xe t1
    exact method_meetsIn PySem.F.slot_dict_items PySem.F.entry_dict_items rfl (PySem.evalArgs_none ⟨rfl, hr.typeIs, PySem.F.args_dict_items_1 _, _, meets_dict_items_raw (ρ1 y) h5, ⟨⟨es, ep, hr⟩, fin⟩⟩)
end
end Y
end
section
set_option linter.all false
set_option maxRecDepth 100000
set_option maxHeartbeats 4000000
/-! Z4: the compiler's parts for walks, targets, comprehensions, statements. -/
namespace Y
open PySem PySem.Spec L2 PyProof.Rows
/-! ### what is walked -/
def isTupT : Expr → Bool
  | .Tuple .. => true
  | _ => false
def cItN (G : Gx) (L : Lx) (f : Expr → Y.X) (tg : Expr) (x : Str) (args : List Expr) (e : Expr) : XI := match slot L.N x with
  | some _ => i_any (f e)
  | none => match slk BI x with
    | none => i_any (f e)
    | some c => if isGl L.sc x && memN c G.free then (if Nat.beq c 1 then (match args with
        | [a] => if nst a then i_rng1 (f a) else badI
        | [a, b] => if nst a && nst b then i_rng2 (f a) (f b) else badI
        | _ => badI)
      else if Nat.beq c 14 then (match args with
        | a :: as => if allNst (a :: as) && isTupT tg then i_zip (cA f (a :: as)) else badI
        | [] => badI)
      else if Nat.beq c 13 then (match args with
        | [a] => if nst a && isTupT tg then i_enum (f a) else badI
        | _ => badI)
      else i_any (f e)) else i_any (f e)
def cIt (G : Gx) (L : Lx) (f : Expr → Y.X) (tg e : Expr) : XI := match e with
  | .Call (.Name x _) args [] _ => cItN G L f tg x args e
  | .Call (.Attribute v nx apos) [] [] pos => if strEq nx "values" && (baseOk v && Nat.beq apos.endLine pos.line) then i_vals (f v)
    else if strEq nx "items" && (isTupT tg && (baseOk v && Nat.beq apos.endLine pos.line)) then i_items (f v) else i_any (f e)
  | _ => i_any (f e)
section
variable {G : Gx} {T : Tb} {k : Nat} {r : Ev} {L : Lx} {X : Cx} {pos p : Pos} {f : Expr → Y.X}
theorem cItN_ok (o : Ok G T k r L X) (hf : ∀ e, PE X e (tE T X.K r (f e))) (tg : Expr) (x : Str) (args : List Expr) : PI X tg (.Call (.Name x p) args [] pos) (tI T X.K r (cItN G L f tg x args (.Call (.Name x p) args [] pos))) := by
  unfold cItN
  cases g0 : slot L.N x with
  | some _ => exact sI_any o.tb (hf _)
  | none =>
    dsimp only
    cases gb : slk BI x with
    | none => exact sI_any o.tb (hf _)
    | some c =>
      dsimp only
      by_cases h : (isGl L.sc x && memN c G.free) = true
      · rw [if_pos h]
        rw [Bool.and_eq_true] at h
        obtain ⟨h2, h3⟩ := h
        have hn := bi_name gb
        subst hn
        by_cases c1 : Nat.beq c 1 = true
        · rw [if_pos c1]
          have := Nat.eq_of_beq_eq_true c1
          subst this
          have hm : X.mg "range" = none := o.fx.free 1 h3
          split
          · rename_i a
            by_cases ha : nst a = true
            · rw [if_pos ha]
              exact sI_rng1 (o.gl h2).1 hm (hf a) (star_cons ha) (star_cons ha)
            · rw [if_neg ha]; exact bad_I
          · rename_i a b
            by_cases ha : (nst a && nst b) = true
            · rw [if_pos ha]
              rw [Bool.and_eq_true] at ha
              exact sI_rng2 (o.gl h2).1 hm (hf a) (hf b) (by rw [star_cons ha.1, star_cons ha.2]; rfl) (by rw [star_cons ha.2]; rfl) (star_cons ha.1) (star_cons ha.2)
            · rw [if_neg ha]; exact bad_I
          · exact bad_I
        · rw [if_neg c1]
          by_cases c14 : Nat.beq c 14 = true
          · rw [if_pos c14]
            have := Nat.eq_of_beq_eq_true c14
            subst this
            have hm : X.mg "zip" = none := o.fx.free 14 h3
            split
            · rename_i a as
              by_cases ha : (allNst (a :: as) && isTupT tg) = true
              · rw [if_pos ha]
                rw [Bool.and_eq_true] at ha
                obtain ⟨q1, q2⟩ := allNst_cons ha.1
                cases tg with
                | Tuple ts kk tp => exact sI_zip (o.gl h2).1 hm (cA_ok hf _) (star_cons q1) (star_any q2)
                | _ => cases ha.2
              · rw [if_neg ha]; exact bad_I
            · exact bad_I
          · rw [if_neg c14]
            by_cases c13 : Nat.beq c 13 = true
            · rw [if_pos c13]
              have := Nat.eq_of_beq_eq_true c13
              subst this
              have hm : X.mg "enumerate" = none := o.fx.free 13 h3
              split
              · rename_i a
                by_cases ha : (nst a && isTupT tg) = true
                · rw [if_pos ha]
                  rw [Bool.and_eq_true] at ha
                  cases tg with
                  | Tuple ts kk tp => exact sI_enum (o.gl h2).1 hm (hf a) (star_cons ha.1)
                  | _ => cases ha.2
                · rw [if_neg ha]; exact bad_I
              · exact bad_I
            · rw [if_neg c13]; exact sI_any o.tb (hf _)
      · rw [if_neg h]; exact sI_any o.tb (hf _)
theorem cIt_ok (o : Ok G T k r L X) (hf : ∀ e, PE X e (tE T X.K r (f e))) (tg e : Expr) : PI X tg e (tI T X.K r (cIt G L f tg e)) := by
  unfold cIt
  split
  · exact cItN_ok o hf tg _ _
  · rename_i v nx apos pos
    by_cases h : (strEq nx "values" && (baseOk v && Nat.beq apos.endLine pos.line)) = true
    · rw [if_pos h]
      rw [Bool.and_eq_true, Bool.and_eq_true] at h
      obtain ⟨h1, h2, h3⟩ := h
      have := strEq_eq h1
      subst this
      exact sI_vals o.tb (hf v) (base_ok h2) (by rw [beq_iff_eq]; exact Nat.eq_of_beq_eq_true h3)
    · rw [if_neg h]
      by_cases h : (strEq nx "items" && (isTupT tg && (baseOk v && Nat.beq apos.endLine pos.line))) = true
      · rw [if_pos h]
        rw [Bool.and_eq_true, Bool.and_eq_true, Bool.and_eq_true] at h
        obtain ⟨h1, h0, h2, h3⟩ := h
        have := strEq_eq h1
        subst this
        cases tg with
        | Tuple es kq p => exact sI_items o.tb (hf v) (base_ok h2) (by rw [beq_iff_eq]; exact Nat.eq_of_beq_eq_true h3)
        | _ => cases h0
      · rw [if_neg h]; exact sI_any o.tb (hf _)
  · exact sI_any o.tb (hf _)
end
/-! ### targets -/
def cGs (f : Expr → XT) : List Expr → XTs
  | [] => ts_nil
  | e :: es => ts_cons (f e) (cGs f es)
def cTgt (G : Gx) (L : Lx) (f : Expr → Y.X) (g : Expr → XT) : Expr → XT
  | .Name x _ => (match slot L.N x with
    | some i => if stB L x then t_v i else badG
    | none => badG)
  | .Tuple es _ _ => if allNst es then t_tup (len es) (cGs g es) else badG
  | .Attribute o nx _ => (match slk G.nm nx with
    | some i => (match look G.fld i with
      | some Ls => t_attr (f o) i Ls
      | none => badG)
    | none => badG)
  | .Subscript o i _ => if plainIxB i then t_sub setV (f o) (f i) else badG
  | _ => badG
def cWt (L : Lx) (vs : List Nat) (g : Expr → XT) : Expr → XT
  | .Name x _ => (match slot L.N x with
    | some i => if stB L x && memN i vs then t_v i else badG
    | none => badG)
  | .Tuple es _ _ => if allNst es then t_tup (len es) (cGs g es) else badG
  | _ => badG
section
variable {G : Gx} {T : Tb} {k : Nat} {r : Ev} {L : Lx} {X : Cx} {pos p : Pos} {f : Expr → Y.X} {g : Expr → XT}
theorem asg_cons {e : Expr} {es : List Expr} {env : Env} (h : nst e = true) : assignEach (e :: es) env = (false, assign e env) :: assignEach es env := by
  cases e <;> first | rfl | cases h
theorem asg_len {env : Env} : ∀ {es : List Expr}, allNst es = true → (assignEach es env).length = len es
  | [], _ => rfl
  | e :: es, h => by
    obtain ⟨h1, h2⟩ := allNst_cons h
    rw [asg_cons h1, List.length_cons, asg_len h2]
    rfl
theorem asg_none {env : Env} : ∀ {es : List Expr}, allNst es = true → (assignEach es env).findIdx? (·.1) = none
  | [], _ => rfl
  | e :: es, h => by
    obtain ⟨h1, h2⟩ := allNst_cons h
    rw [asg_cons h1, List.findIdx?_cons, asg_none h2]
    rfl
theorem cGs_ok (hg : ∀ e, PG X e (tG T X.K r (g e))) : ∀ {es : List Expr}, allNst es = true → PGs X es (tGs T X.K r (cGs g es))
  | [], _ => sGs_nil
  | e :: es, h => by
    obtain ⟨h1, h2⟩ := allNst_cons h
    exact sGs_cons (hg e) (cGs_ok hg h2) (by rw [asg_cons h1]; rfl)
theorem cWs_ok {vs : List Nat} (hg : ∀ e, PG X e (tW T X.K vs r (g e))) : ∀ {es : List Expr}, allNst es = true → PGs X es (tWs T X.K vs r (cGs g es))
  | [], _ => sWs_nil
  | e :: es, h => by
    obtain ⟨h1, h2⟩ := allNst_cons h
    exact sWs_cons (hg e) (cWs_ok hg h2) (by rw [asg_cons h1]; rfl)
theorem cTgt_ok (o : Ok G T k r L X) (hf : ∀ e, PE X e (tE T X.K r (f e))) (hg : ∀ e, PG X e (tG T X.K r (g e))) (e : Expr) : PG X e (tG T X.K r (cTgt G L f g e)) := by
  unfold cTgt
  split
  · rename_i x p
    cases h : slot L.N x with
    | none => exact bad_G
    | some i =>
      dsimp only
      by_cases hl : stB L x = true
      · rw [if_pos hl]; exact sG_v o.xnd (o.at h) (o.st hl).1 (o.st hl).2
      · rw [if_neg hl]; exact bad_G
  · rename_i es n p
    by_cases h : allNst es = true
    · rw [if_pos h]; exact sG_tup o.calm (cGs_ok hg h) (asg_len h) (asg_none h)
    · rw [if_neg h]; exact bad_G
  · rename_i ob nx p
    cases h : slk G.nm nx with
    | none => exact bad_G
    | some i =>
      dsimp only
      cases h2 : look G.fld i with
      | none => exact bad_G
      | some Ls => exact sG_attr (hf ob) (o.fx.fld i Ls h2) (o.fx.nm nx i (slk_mem h))
  · rename_i ob i p
    by_cases h : plainIxB i = true
    · rw [if_pos h]
      refine sG_sub (set_V o.hk o.tb) (hf ob) (hf i) ?_
      intro v
      cases i <;> first | rfl | cases h
    · rw [if_neg h]; exact bad_G
  · exact bad_G
theorem cWt_ok (o : Ok G T k r L X) {vs : List Nat} (hg : ∀ e, PG X e (tW T X.K vs r (g e))) (e : Expr) : PG X e (tW T X.K vs r (cWt L vs g e)) := by
  unfold cWt
  split
  · rename_i x p
    cases h : slot L.N x with
    | none => exact bad_W
    | some i =>
      dsimp only
      by_cases hl : (stB L x && memN i vs) = true
      · rw [if_pos hl]
        rw [Bool.and_eq_true] at hl
        exact sW_v o.xnd (o.at h) (o.st hl.1).1 (memN_mem hl.2) (o.st hl.1).2
      · rw [if_neg hl]; exact bad_W
  · rename_i es n p
    by_cases h : allNst es = true
    · rw [if_pos h]; exact sW_tup o.calm (cWs_ok hg h) (asg_len h) (asg_none h)
    · rw [if_neg h]; exact bad_W
  · exact bad_W
end
/-! ### comprehensions -/
/-- the names of a target -/
def tgN : Nat → Expr → List Str
  | 0, _ => []
  | n + 1, e => match e with
    | .Name x _ => [x]
    | .Tuple es _ _ => es.flatMap (tgN n)
    | _ => []
/-- .. with their slots -/
def ownOf (N : List Str) : List Str → List (Str × Nat)
  | [] => []
  | x :: xs => match slot N x with
    | some i => (x, i) :: ownOf N xs
    | none => ownOf N xs
theorem ownOf_ix {N : List Str} : ∀ {xs : List Str}, ∀ q ∈ ownOf N xs, N[q.2]? = some q.1
  | [], _, h => by cases h
  | x :: xs, q, h => by
    unfold ownOf at h
    cases g : slot N x with
    | none => rw [g] at h; exact ownOf_ix q h
    | some i =>
      rw [g] at h
      rcases List.mem_cons.mp h with rfl | h
      · exact slot_get g
      · exact ownOf_ix q h
def memS (x : Str) : List Str → Bool
  | [] => false
  | y :: r => if strEq y x then true else memS x r
theorem memS_iff {x : Str} : ∀ {l : List Str}, memS x l = true ↔ x ∈ l
  | [] => by simp [memS]
  | y :: r => by
    unfold memS
    by_cases e : strEq y x = true
    · rw [if_pos e]
      have := strEq_eq e
      subst this
      simp
    · rw [if_neg e, memS_iff (l := r)]
      have : y ≠ x := fun z => e (by rw [strEq_dec]; simp [z])
      simp only [List.mem_cons, or_iff_right (fun z : x = y => this z.symm)]
def allP {α : Type} (f : α → Bool) : List α → Bool
  | [] => true
  | x :: r => if f x then allP f r else false
theorem allP_iff {α : Type} {f : α → Bool} : ∀ {l : List α}, allP f l = true → ∀ x ∈ l, f x = true
  | [], _, _, h => by cases h
  | y :: r, h, x, hx => by
    unfold allP at h
    by_cases e : f y = true
    · rw [if_pos e] at h
      rcases List.mem_cons.mp hx with rfl | hx
      · exact e
      · exact allP_iff h x hx
    · rw [if_neg e] at h; cases h
def nkB : NameKind → NameKind → Bool
  | .local, .local => true | .cell, .cell => true | .free, .free => true | .globalImplicit, .globalImplicit => true | _, _ => false
theorem nkB_eq {a b : NameKind} (h : nkB a b = true) : a = b := by cases a <;> cases b <;> first | rfl | cases h
def blkF (N : List Str) (sc scope : Scope) (own : List Str) : Bool :=
  (match scope.kind with | .function => true | _ => false) && (allP (fun y : Str × NameKind => (match nlk scope.names y.1 with | some k => nkB k y.2 | none => false) && (match y.2 with
      | .free => (match nlk sc.names y.1 with | some .cell => true | some .free => true | _ => false)
      | .local => memS y.1 own || !memS y.1 N
      | .cell => memS y.1 own || !memS y.1 N
      | _ => true)) scope.names)
theorem blkF_ok {N : List Str} {sc scope : Scope} {own : List (Str × Nat)} (hi : ∀ q ∈ own, N[q.2]? = some q.1) (h : blkF N sc scope (own.map (·.1)) = true) : BlkOk N sc scope own := by
  unfold blkF at h
  rw [Bool.and_eq_true] at h
  obtain ⟨h1, h2⟩ := h
  have h2 := fun y hy => Bool.and_eq_true_iff.mp (allP_iff h2 y hy)
  refine ⟨?_, fun y hy => ?_, hi, fun y hy e => ?_, fun y hy e => ?_⟩
  · split at h1
    · assumption
    · cases h1
  · have q := (h2 y hy).1
    rw [nlk_eq] at q
    split at q
    · rename_i k e
      rw [e, nkB_eq q]
    · cases q
  · have q := (h2 y hy).2
    rw [e, nlk_eq] at q
    dsimp only at q
    split at q
    · left; assumption
    · right; assumption
    · cases q
  · have q := (h2 y hy).2
    have : (memS y.1 (own.map (·.1)) || !memS y.1 N) = true := by rcases e with e | e <;> (rw [e] at q; exact q)
    rw [Bool.or_eq_true] at this
    rcases this with z | z
    · exact .inl (memS_iff.mp z)
    · refine .inr fun w => ?_
      rw [memS_iff.mpr w] at z
      cases z
/-- the static place inside a comprehension -/
def Lx.into (L : Lx) (scope : Scope) : Lx := ⟨L.N, relS scope L.sc, fun x => match nlk scope.names x with | some .cell => true | _ => false⟩
def isZ : Int → Bool
  | .ofNat 0 => true
  | _ => false
theorem isZ_ok {a : Int} (h : isZ a = true) : a = 0 := by
  unfold isZ at h
  split at h
  · rfl
  · cases h
def cIfs (f : Expr → XB) : List Expr → Option XB
  | [] => some bT
  | [c] => some (f c)
  | _ => none
def cLc (G : Gx) (c : Cm) (L : Lx) (elt : Expr) (gs : List Comprehension) (scope : Scope) : Y.X := match gs with
  | [⟨tg, iter, ifs, a⟩] =>
    let own := ownOf L.N (tgN 3 tg)
    if isZ a && (noSet iter && blkF L.N L.sc scope (own.map (·.1))) then (match cIfs (c.T (L.into scope)) ifs with
      | some tt => e_lc (c.E (L.into scope) elt) (own.map (·.2)) (c.W (L.into scope) (own.map (·.2)) tg) (cIt G L (c.E L) tg iter) tt
      | none => badE) else badE
  | _ => badE
def cDc (G : Gx) (c : Cm) (L : Lx) (kx vx : Expr) (gs : List Comprehension) (scope : Scope) : Y.X := match gs with
  | [⟨tg, iter, ifs, a⟩] =>
    let own := ownOf L.N (tgN 3 tg)
    if isZ a && (noSet iter && blkF L.N L.sc scope (own.map (·.1))) then (match cIfs (c.T (L.into scope)) ifs with
      | some tt => e_dc (c.E (L.into scope) kx) (c.E (L.into scope) vx) (own.map (·.2)) (c.W (L.into scope) (own.map (·.2)) tg) (cIt G L (c.E L) tg iter) tt
      | none => badE) else badE
  | _ => badE
section
variable {G : Gx} {T : Tb} {k : Nat} {r : Ev} {L : Lx} {X : Cx} {pos p : Pos} {c : Cm}
theorem Ok.into (o : Ok G T k r L X) {scope : Scope} {s : Shared} {H : Hp} {C : Addr} {cl : List (Str × Addr)} {fp : List Addr} : Ok G T k r (L.into scope) (X.blk s H scope (compEnvC scope cl C X.env) fp) where
  fx := o.fx
  hr := o.hr
  calm := o.calm
  hN := o.hN
  nd := o.nd
  nn := o.nn
  sc := by
    show relS scope X.env.scope = relS scope L.sc
    rw [o.sc]
  fk := fun x h => by
    have h : (match nlk scope.names x with | some .cell => true | _ => false) = true := h
    show (scope.names.lookup x == some .cell) = true
    rw [nlk_eq] at h
    split at h
    · rename_i e; rw [e]; rfl
    · cases h
theorem cIfs_ok (o : Ok G T k r L X) {f : Expr → XB} (hf : ∀ e, PT X e (tT T X.K r (f e))) : ∀ {es : List Expr} {tt : XB}, cIfs f es = some tt → PTs X es (tT T X.K r tt)
  | [], tt, h => by cases h; exact sTs_nil
  | [e], tt, h => by cases h; exact sTs_one (hf e)
  | _ :: _ :: _, tt, h => by cases h
theorem cLc_ok (S : Snd G T k r c) (o : Ok G T k r L X) (elt : Expr) (gs : List Comprehension) (scope : Scope) : PE X (.ListComp elt gs scope pos) (tE T X.K r (cLc G c L elt gs scope)) := by
  unfold cLc
  split
  · rename_i tg iter ifs a
    dsimp only
    split
    · rename_i h
      rw [Bool.and_eq_true, Bool.and_eq_true] at h
      obtain ⟨h1, h2, h3⟩ := h
      have ha := isZ_ok h1
      subst ha
      split
      · rename_i tt ht
        refine sE_lc o.calm o.xnd ?_ (cIt_ok o (S.hE o) tg iter) (fun s H C cl fp => S.hW o.into _ tg) (fun s H C cl fp => cIfs_ok o.into (S.hT o.into) ht) (fun s H C cl fp => S.hE o.into elt) (noSet_fold h2)
        rw [o.hN, o.sc]
        exact blkF_ok ownOf_ix h3
      · exact bad_E
    · exact bad_E
  · exact bad_E
theorem cDc_ok (S : Snd G T k r c) (o : Ok G T k r L X) (kx vx : Expr) (gs : List Comprehension) (scope : Scope) : PE X (.DictComp kx vx gs scope pos) (tE T X.K r (cDc G c L kx vx gs scope)) := by
  unfold cDc
  split
  · rename_i tg iter ifs a
    dsimp only
    split
    · rename_i h
      rw [Bool.and_eq_true, Bool.and_eq_true] at h
      obtain ⟨h1, h2, h3⟩ := h
      have ha := isZ_ok h1
      subst ha
      split
      · rename_i tt ht
        refine PE.imp (pe_dcx o.calm o.xnd (cIt_ok o (S.hE o) tg iter) ?_ (fun s H C cl fp => S.hW o.into _ tg) (fun s H C cl fp => cIfs_ok o.into (S.hT o.into) ht) (fun s H C cl fp => S.hE o.into kx) (fun s H C cl fp => S.hE o.into vx) (noSet_fold h2)) fun σ H Q h => i_dc o.hk o.tb h
        rw [o.hN, o.sc]
        exact blkF_ok ownOf_ix h3
      · exact bad_E
    · exact bad_E
  · exact bad_E
end
end Y
end
section
set_option linter.all false
set_option maxRecDepth 100000
set_option maxHeartbeats 4000000
/-! Z5: the compiler's parts for statements; the knot. -/
namespace Y
open PySem PySem.Spec L2 PyProof.Rows
def isComp : Expr → Bool
  | .ListComp .. => true
  | .SetComp .. => true
  | .DictComp .. => true
  | _ => false
theorem noComp_sw {e : Expr} {t : Option Expr} {l : Nat} {env : Env} (h : isComp e = false) : swapsWith e t l env = pure false := by
  cases e <;> first | rfl | cases h
/-- stores that change places: who is stored, by the texts -/
def isStar : Expr → Bool
  | .Starred .. => true
  | _ => false
def nmF (sc : Scope) (line : Nat) : Expr → Option Str
  | .Name id pos => if sc.names.lookup id == some .local && pos.line == line then some id else none
  | _ => none
def swN (sc : Scope) (ts : List Expr) : List Str := ts.filterMap (nmF sc ((ts.head?.map (·.pos.line)).getD 0))
def swS (sc : Scope) (ts vs : List Expr) : Option (Option (List Str)) :=
  if (!(ts.length == 2 || ts.length == 3) || vs.length != ts.length) = true then some none
  else if vs.any isStar = true then some none
  else if ((swN sc ts).length != ts.length || (swN sc ts).eraseDups.length != (swN sc ts).length) = true then some none
  else if vs.all (foldedForSure 8) = true then some none
  else if vs.all (constantsAlone 8) = true then none
  else some (some (swN sc ts))
theorem blockKind_fn {env : Env} (h : env.scope.kind = .function) : env.blockKind = .function := by
  unfold Env.blockKind
  rw [h]
  rfl
theorem swS_ok {env : Env} {ts vs : List Expr} {k k2 : Nat} {p p2 : Pos} {o : Option (List Str)} (hk : env.scope.kind = .function) (h : swS env.scope ts vs = some o) : swappedStores [.Tuple ts k p] (.Tuple vs k2 p2) env = pure o := by
  unfold swS at h
  unfold swappedStores
  have hb := blockKind_fn hk
  simp only [hb]
  by_cases c1 : (!(ts.length == 2 || ts.length == 3) || vs.length != ts.length) = true
  · rw [if_pos c1] at h
    cases h
    rw [c1]
    rfl
  · rw [if_neg c1] at h
    have c1' : (!(ts.length == 2 || ts.length == 3) || vs.length != ts.length) = false := by simpa using c1
    rw [c1']
    show (if vs.any isStar = true then (pure none : Sem (Option (List Str))) else if ((swN env.scope ts).length != ts.length || (swN env.scope ts).eraseDups.length != (swN env.scope ts).length) = true then pure none
      else if vs.all (foldedForSure 8) = true then pure none else if vs.all (constantsAlone 8) = true then (do let _ : PUnit ← unsupported "assign.tuple-of-constant-expressions:order-of-the-stores"; pure (some (swN env.scope ts))) else pure (some (swN env.scope ts))) = pure o
    by_cases c2 : vs.any isStar = true
    · rw [if_pos c2] at h
      cases h
      rw [if_pos c2]
    · rw [if_neg c2] at h
      rw [if_neg c2]
      by_cases c3 : ((swN env.scope ts).length != ts.length || (swN env.scope ts).eraseDups.length != (swN env.scope ts).length) = true
      · rw [if_pos c3] at h
        cases h
        rw [if_pos c3]
      · rw [if_neg c3] at h
        rw [if_neg c3]
        by_cases c4 : vs.all (foldedForSure 8) = true
        · rw [if_pos c4] at h
          cases h
          rw [if_pos c4]
        · rw [if_neg c4] at h
          rw [if_neg c4]
          by_cases c5 : vs.all (constantsAlone 8) = true
          · rw [if_pos c5] at h; cases h
          · rw [if_neg c5] at h
            cases h
            rw [if_neg c5]
def swL (sc scope : Scope) (t : Str) (p vp : Pos) : Bool := (nlk sc.names t == some .local) && (p.line == vp.line && !(scope.names.any fun (n, k) => n == t && (k == .local || k == .cell)))
theorem swL_ok {env : Env} {scope : Scope} {elt : Expr} {gs : List Comprehension} {t : Str} {p vp : Pos} {l : Nat} (hk : env.scope.kind = .function) :
    swapsWith (.ListComp elt gs scope vp) (some (.Name t p)) l env = pure (swL env.scope scope t p vp) := by
  have hb := blockKind_fn hk
  unfold swapsWith swL
  simp only [hb, nlk_eq]
  show (pure _ : Sem Bool) = pure _
  congr 1
  rw [← Bool.and_assoc]
  rfl
theorem swL_okD {env : Env} {scope : Scope} {kx vx : Expr} {gs : List Comprehension} {t : Str} {p vp : Pos} {l : Nat} (hk : env.scope.kind = .function) :
    swapsWith (.DictComp kx vx gs scope vp) (some (.Name t p)) l env = pure (swL env.scope scope t p vp) := by
  have hb := blockKind_fn hk
  unfold swapsWith swL
  simp only [hb, nlk_eq]
  show (pure _ : Sem Bool) = pure _
  congr 1
  rw [← Bool.and_assoc]
  rfl
def isTup : Expr → Bool
  | .Tuple .. => true
  | .List .. => true
  | _ => false
theorem noTup_sw {e : Expr} {t : Expr} {env : Env} (h : isTup t = false ∨ isTup e = false) : swappedStores [t] e env = pure none := by
  cases t <;> cases e <;> first | rfl | (rcases h with h | h <;> cases h)
def sameL : List Str → List Str → Bool
  | [], [] => true
  | x :: xs, y :: ys => if strEq x y then sameL xs ys else false
  | _, _ => false
theorem sameL_eq : ∀ {a b : List Str}, sameL a b = true → a = b
  | [], [], _ => rfl
  | [], _ :: _, h => by cases h
  | _ :: _, [], h => by cases h
  | x :: xs, y :: ys, h => by
    unfold sameL at h
    by_cases e : strEq x y = true
    · rw [if_pos e] at h
      rw [strEq_eq e, sameL_eq h]
    · rw [if_neg e] at h; cases h
/-- a, b = x, y at once -/
def cPar (L : Lx) (f : Expr → Y.X) (ns : List Str) (ts vs : List Expr) : XS := match ts, vs with
  | [.Name a _, .Name b _], [x, y] => (match slot L.N a, slot L.N b with
    | some i, some j => if isPlainLoc L.sc a && (isPlainLoc L.sc b && (nst x && (nst y && (sameL ns [a, b] && !Nat.beq i j)))) then s_par2 i j (f x) (f y) else badS
    | _, _ => badS)
  | [.Name a _, .Name b _, .Name d _], [x, y, z] => (match slot L.N a, slot L.N b, slot L.N d with
    | some i, some j, some l => if isPlainLoc L.sc a && (isPlainLoc L.sc b && (isPlainLoc L.sc d && (nst x && (nst y && (nst z && (sameL ns [a, b, d] && (!Nat.beq i j && (!Nat.beq i l && !Nat.beq j l)))))))) then s_par3 i j l (f x) (f y) (f z) else badS
    | _, _, _ => badS)
  | _, _ => badS
def cAsg (G : Gx) (c : Cm) (L : Lx) (tg v : Expr) : XS := match v with
  | .ListComp elt gs scope _ => (match tg with
    | .Name t p => (match slot L.N t with
      | some i => if stB L t then s_asg (t_v i) (cLc G c L elt gs scope) else badS
      | none => badS)
    | tg => if nst tg then s_asg (c.G L tg) (cLc G c L elt gs scope) else badS)
  | .SetComp .. => badS
  | .DictComp kx vx gs scope _ => (match tg with
    | .Name t p => (match slot L.N t with
      | some i => if stB L t then s_asg (t_v i) (cDc G c L kx vx gs scope) else badS
      | none => badS)
    | tg => if nst tg then s_asg (c.G L tg) (cDc G c L kx vx gs scope) else badS)
  | v => if nst tg then (match tg, v with
    | .Tuple ts _ _, .Tuple vs _ _ => (match swS L.sc ts vs with
      | some none => s_asg (c.G L tg) (c.E L v)
      | some (some ns) => cPar L (c.E L) ns ts vs
      | none => badS)
    | _, _ => if isTup tg && isTup v then badS else s_asg (c.G L tg) (c.E L v)) else badS
def cSS (f : Stmt → XS) : List Stmt → XS
  | [] => s_nil
  | [s] => f s
  | s :: t :: r => s_seq (f s) (cSS f (t :: r))
def loopFuel : Nat := 100000
def cSt (G : Gx) (c : Cm) (L : Lx) : Stmt → XS
  | .Return none _ => s_retN
  | .Return (some e) _ => s_ret (c.E L e)
  | .Expr (.Constant (.str _) _ _) _ => s_nil
  | .Expr e _ => if isComp e then badS else s_ex (c.E L e)
  | .If t a b _ => s_if (c.T L t) (cSS (c.S L) a) (cSS (c.S L) b)
  | .While t b [] _ => s_whl loopFuel (c.T L t) (cSS (c.S L) b)
  | .For tg it b [] _ => if noSet it then s_for (c.G L tg) (cIt G L (c.E L) tg it) (cSS (c.S L) b) else badS
  | .Raise .. => s_never
  | .Pass _ => s_nil
  | .AugAssign (.Name x _) op e _ => (match bopO op, slot L.N x with
    | some o, some i => if stB L x then s_augV i o (c.E L e) else badS
    | _, _ => badS)
  | .Assign [tg] v _ => cAsg G c L tg v
  | .Assign [tg, tg2] v _ => if nst tg && nst tg2 then s_asg2 (c.G L tg) (c.G L tg2) (c.E L v) else badS
  | _ => badS
section
variable {G : Gx} {T : Tb} {k : Nat} {r : Ev} {L : Lx} {X : Cx} {pos p : Pos} {c : Cm}
theorem cPar_ok (o : Ok G T k r L X) (m : Sm X) {f : Expr → Y.X} (hf : ∀ e, PE X e (tE T X.K r (f e))) {ns : List Str} {ts vs : List Expr} {k1 k2 : Nat} {p1 p2 : Pos} (h : swS L.sc ts vs = some (some ns)) :
    PS X (.Assign [.Tuple ts k1 p1] (.Tuple vs k2 p2) pos) (tS T X.K r (cPar L f ns ts vs)) := by
  have hw : swappedStores [.Tuple ts k1 p1] (.Tuple vs k2 p2) X.env = pure (some ns) := swS_ok m.kd (by rw [o.sc]; exact h)
  unfold cPar
  split
  · rename_i a pa b pb x y
    split
    · rename_i i j hi hj
      split
      · rename_i hq
        simp only [Bool.and_eq_true] at hq
        obtain ⟨q1, q2, q3, q4, q5, q6⟩ := hq
        have := sameL_eq q5
        subst this
        have hij : i ≠ j := fun e => by rw [e, Nat.beq_refl] at q6; cases q6
        exact sS_par2 o.calm o.xnd (o.at hi) (o.at hj) hij (o.pl q1) (o.pl q2) (hf x) (hf y) hw (star_cons q3) (star_cons q4) rfl
      · exact bad_S
    · exact bad_S
  · rename_i a pa b pb d pd x y z
    split
    · rename_i i j l hi hj hl
      split
      · rename_i hq
        simp only [Bool.and_eq_true] at hq
        obtain ⟨q1, q2, q3, q4, q5, q6, q7, q8, q9, q10⟩ := hq
        have := sameL_eq q7
        subst this
        have hij : i ≠ j := fun e => by rw [e, Nat.beq_refl] at q8; cases q8
        have hil : i ≠ l := fun e => by rw [e, Nat.beq_refl] at q9; cases q9
        have hjl : j ≠ l := fun e => by rw [e, Nat.beq_refl] at q10; cases q10
        exact sS_par3 o.calm o.xnd (o.at hi) (o.at hj) (o.at hl) hij hil hjl (o.pl q1) (o.pl q2) (o.pl q3) (hf x) (hf y) (hf z) hw (star_cons q4) (star_cons q5) (star_cons q6) rfl
      · exact bad_S
    · exact bad_S
  · exact bad_S
theorem cLcSet_ok (S : Snd G T k r c) (o : Ok G T k r L X) {elt : Expr} {gs : List Comprehension} {scope : Scope} {i : Nat} {t : Str} {vp : Pos} (hi : slot L.N t = some i) (hl : X.env.scope.names.lookup t = some .local)
    (hsw : swapsWith (.ListComp elt gs scope vp) (some (.Name t p)) pos.line X.env = pure true) : PS X (.Assign [.Name t p] (.ListComp elt gs scope vp) pos) (tS T X.K r (s_asg (t_v i) (cLc G c L elt gs scope))) := by
  have badA : ∀ {s : Stmt}, PS X s (tS T X.K r (s_asg (t_v i) badE)) := fun {s} => ⟨fun pins s σ H D I h => by obtain ⟨_, _, _, _, _, z⟩ := h; exact z.elim⟩
  unfold cLc
  split
  · rename_i tg iter ifs a
    dsimp only
    split
    · rename_i h
      rw [Bool.and_eq_true, Bool.and_eq_true] at h
      obtain ⟨h1, h2, h3⟩ := h
      have ha := isZ_ok h1
      subst ha
      split
      · rename_i tt ht
        refine sS_setLc o.calm o.xnd (o.at hi) hl hsw ?_ (cIt_ok o (S.hE o) tg iter) (fun s H C cl fp => S.hW o.into _ tg) (fun s H C cl fp => cIfs_ok o.into (S.hT o.into) ht) (fun s H C cl fp => S.hE o.into elt) (noSet_fold h2)
        rw [o.hN, o.sc]
        exact blkF_ok ownOf_ix h3
      · exact badA
    · exact badA
  · exact badA
theorem cDcSet_ok (S : Snd G T k r c) (o : Ok G T k r L X) {kx vx : Expr} {gs : List Comprehension} {scope : Scope} {i : Nat} {t : Str} {vp : Pos} (hi : slot L.N t = some i) (hl : X.env.scope.names.lookup t = some .local)
    (hsw : swapsWith (.DictComp kx vx gs scope vp) (some (.Name t p)) pos.line X.env = pure true) : PS X (.Assign [.Name t p] (.DictComp kx vx gs scope vp) pos) (tS T X.K r (s_asg (t_v i) (cDc G c L kx vx gs scope))) := by
  have badA : ∀ {s : Stmt}, PS X s (tS T X.K r (s_asg (t_v i) badE)) := fun {s} => ⟨fun pins s σ H D I h => by obtain ⟨_, _, _, _, _, z⟩ := h; exact z.elim⟩
  unfold cDc
  split
  · rename_i tg iter ifs a
    dsimp only
    split
    · rename_i h
      rw [Bool.and_eq_true, Bool.and_eq_true] at h
      obtain ⟨h1, h2, h3⟩ := h
      have ha := isZ_ok h1
      subst ha
      split
      · rename_i tt ht
        refine PS.imp (ps_setDcx (own := ownOf L.N (tgN 3 tg)) (wi := tI T X.K r (cIt G L (c.E L) tg iter)) (g := tW T X.K ((ownOf L.N (tgN 3 tg)).map (·.2)) r (c.W (L.into scope) ((ownOf L.N (tgN 3 tg)).map (·.2)) tg)) (tt := tT T X.K r tt) (tk := tE T X.K r (c.E (L.into scope) kx)) (tv := tE T X.K r (c.E (L.into scope) vx)) o.calm o.xnd (o.at hi) hl hsw (cIt_ok o (S.hE o) tg iter) ?_ (fun s H C cl fp => S.hW o.into _ tg) (fun s H C cl fp => cIfs_ok o.into (S.hT o.into) ht) (fun s H C cl fp => S.hE o.into kx) (fun s H C cl fp => S.hE o.into vx) (noSet_fold h2)) fun D σ H ⟨ρ, fr, st, F, S, o'⟩ => ?_
        · rw [o.hN, o.sc]
          exact blkF_ok ownOf_ix h3
        · obtain ⟨fr2, st2, e2, kk⟩ := toS_ok o'
          obtain ⟨v1, st1, e1, e3⟩ := bind_ok e2
          cases e3
          exact i_dc o.hk o.tb ⟨ρ, fr, st, F, S, v1, _, e1, fun ρ1 V1 H1 N1 S1 R1 => kk ρ1 _ H1 N1 S1 ((F.stay N1.stay).set R1 i)⟩
      · exact badA
    · exact badA
  · exact badA
theorem noName_sw {v tg : Expr} {l : Nat} {env : Env} (h : ∀ t p, tg = .Name t p → False) : swapsWithSole [tg] v l env = pure false := by
  show swapsWith v (some tg) l env = pure false
  unfold swapsWith
  cases v <;> first | rfl | (cases tg <;> first | rfl | exact (h _ _ rfl).elim)
theorem cAsg_ok (S : Snd G T k r c) (o : Ok G T k r L X) (m : Sm X) (tg v : Expr) : PS X (.Assign [tg] v pos) (tS T X.K r (cAsg G c L tg v)) := by
  unfold cAsg
  split
  · rename_i elt gs scope vp
    split
    · rename_i t p
      split
      · rename_i i hi
        by_cases hs : stB L t = true
        · rw [if_pos hs]
          cases hw : swL X.env.scope scope t p vp with
          | true =>
            have hl : X.env.scope.names.lookup t = some .local := by
              unfold swL at hw
              rw [Bool.and_eq_true, nlk_eq, beq_iff_eq] at hw
              exact hw.1
            exact cLcSet_ok S o hi hl (by rw [swL_ok m.kd, hw])
          | false =>
            refine sS_asg (cLc_ok S o elt gs scope) (sG_v o.xnd (o.at hi) (o.st hs).1 (o.st hs).2) ?_ rfl rfl
            show swapsWith (.ListComp elt gs scope vp) (some (.Name t p)) pos.line X.env = pure false
            rw [swL_ok m.kd, hw]
        · rw [if_neg hs]; exact bad_S
      · exact bad_S
    · rename_i hne
      by_cases hn : nst tg = true
      · rw [if_pos hn]
        exact sS_asg (cLc_ok S o elt gs scope) (S.hG o _) (noName_sw fun t p e => hne t p e) (noTup_sw (.inr rfl)) (by rw [asg_cons hn]; rfl)
      · rw [if_neg hn]; exact bad_S
  · exact bad_S
  · rename_i kx vx gs scope vp
    split
    · rename_i t p
      split
      · rename_i i hi
        by_cases hs : stB L t = true
        · rw [if_pos hs]
          cases hw : swL X.env.scope scope t p vp with
          | true =>
            have hl : X.env.scope.names.lookup t = some .local := by
              unfold swL at hw
              rw [Bool.and_eq_true, nlk_eq, beq_iff_eq] at hw
              exact hw.1
            exact cDcSet_ok S o hi hl (by rw [swL_okD m.kd, hw])
          | false =>
            refine sS_asg (cDc_ok S o kx vx gs scope) (sG_v o.xnd (o.at hi) (o.st hs).1 (o.st hs).2) ?_ rfl rfl
            show swapsWith (.DictComp kx vx gs scope vp) (some (.Name t p)) pos.line X.env = pure false
            rw [swL_okD m.kd, hw]
        · rw [if_neg hs]; exact bad_S
      · exact bad_S
    · rename_i hne
      by_cases hn : nst tg = true
      · rw [if_pos hn]
        exact sS_asg (cDc_ok S o kx vx gs scope) (S.hG o _) (noName_sw fun t p e => hne t p e) (noTup_sw (.inr rfl)) (by rw [asg_cons hn]; rfl)
      · rw [if_neg hn]; exact bad_S
  · rename_i h1 h2 h3
    have hc : isComp v = false := by
      cases v with
      | ListComp a b c d => exact (h1 a b c d rfl).elim
      | SetComp a b c d => exact (h2 a b c d rfl).elim
      | DictComp a b c d e => exact (h3 a b c d e rfl).elim
      | _ => rfl
    by_cases hn : nst tg = true
    · rw [if_pos hn]
      have hs : ∀ l, swapsWithSole [tg] v l X.env = pure false := fun l => noComp_sw hc
      have ha : (assignEach [tg] X.env).map (·.2) = [assign tg X.env] := by rw [asg_cons hn]; rfl
      split
      · rename_i ts kt pt vs kv pv
        split
        · rename_i hw
          exact sS_asg (S.hE o _) (S.hG o _) (hs _) (swS_ok m.kd (by rw [o.sc]; exact hw)) ha
        · rename_i ns hw
          exact cPar_ok o m (S.hE o) hw
        · exact bad_S
      · by_cases ht : (isTup tg && isTup v) = true
        · rw [if_pos ht]; exact bad_S
        · rw [if_neg ht]
          refine sS_asg (S.hE o _) (S.hG o _) (hs _) (noTup_sw ?_) ha
          cases g1 : isTup tg with
          | false => exact .inl rfl
          | true =>
            cases g2 : isTup v with
            | false => exact .inr rfl
            | true => rw [g1, g2] at ht; exact absurd rfl ht
    · rw [if_neg hn]; exact bad_S
theorem cSS_ok {f : Stmt → XS} (hf : ∀ s, PS X s (tS T X.K r (f s))) : ∀ ss, PSs X ss (tS T X.K r (cSS f ss))
  | [] => sS_nil
  | [s] => sS_one (hf s)
  | s :: t :: q => sS_cons (hf s) (cSS_ok hf (t :: q))
theorem cSt_ok (S : Snd G T k r c) (o : Ok G T k r L X) (m : Sm X) (s : Stmt) : PS X s (tS T X.K r (cSt G c L s)) := by
  unfold cSt
  split
  · exact sS_retN
  · exact sS_ret (S.hE o _)
  · exact sS_doc
  · rename_i e p h
    by_cases hc : isComp e = true
    · rw [if_pos hc]; exact bad_S
    · rw [if_neg hc]; exact sS_ex (S.hE o _) (noComp_sw (by cases g : isComp e with | true => exact absurd g hc | false => rfl))
  · exact sS_if (S.hT o _) (cSS_ok (S.hS o m) _) (cSS_ok (S.hS o m) _)
  · exact sS_whl m.hp (S.hT o _) (cSS_ok (S.hS o m) _)
  · split
    · rename_i h
      exact sS_for m.hp o.calm (cIt_ok o (S.hE o) _ _) (S.hG o _) (cSS_ok (S.hS o m) _) (noSet_fold h)
    · exact bad_S
  · exact sS_never
  · exact sS_pass
  · split
    · rename_i w i hw hi
      split
      · rename_i hs
        rw [bopO_ok hw]
        exact sS_augV w o.xnd (o.at hi) (o.st hs).1 (S.hE o _) (o.st hs).2
      · exact bad_S
    · exact bad_S
  · exact cAsg_ok S o m _ _
  · rename_i tg tg2 v p
    split
    · rename_i h
      rw [Bool.and_eq_true] at h
      refine sS_asg2 (S.hE o _) (S.hG o _) (S.hG o _) (by rw [asg_cons h.1, asg_cons h.2]; rfl) ?_
      cases tg <;> rfl
    · exact bad_S
  · exact bad_S
end
/-! ### the knot -/
def stepE (G : Gx) (c : Cm) (L : Lx) : Expr → Y.X
  | .Name x _ => cName G L x
  | .Constant v _ _ => cConst v
  | .Tuple es _ _ => e_tup (cA (c.E L) es)
  | .List es _ => e_lst (cA (c.E L) es)
  | .Dict ks vs _ => cDict (c.E L) ks vs
  | .BinOp a op b _ => cBin (c.E L) a op b
  | .UnaryOp .Not a _ => e_not G.BL (c.E L a)
  | .UnaryOp .USub a _ => e_neg (c.E L a)
  | .BoolOp .And es _ => cAnd G (c.E L) es
  | .BoolOp .Or es _ => cOr G (c.E L) es
  | .Compare a ops bs _ => cCmp G (c.E L) a ops bs
  | .IfExp t a b _ => e_ife (c.T L t) (c.E L a) (c.E L b)
  | .Attribute v nx _ => cAttr G (c.E L) v nx
  | .Subscript v s _ => cSub (c.E L) v s
  | .Call f args kws pos => cCall G L (c.E L) f args kws pos
  | .ListComp elt gs scope _ => cLc G c L elt gs scope
  | .DictComp kx vx gs scope _ => cDc G c L kx vx gs scope
  | _ => badE
def stepT (G : Gx) (c : Cm) (L : Lx) : Expr → XB
  | .UnaryOp .Not a _ => b_not (c.T L a)
  | .BoolOp .And es _ => cAndT (c.T L) es
  | .BoolOp .Or es _ => cOrT (c.T L) es
  | .Compare a ops bs _ => cCmpT G (c.E L) a ops bs
  | e => if valT e then b_val G.BL (c.E L e) else badT
def stepC (G : Gx) (c : Cm) : Cm := ⟨stepE G c, stepT G c, fun L e => cTgt G L (c.E L) (c.G L) e, fun L vs e => cWt L vs (c.W L vs) e, cSt G c⟩
def cm (G : Gx) : Nat → Cm
  | 0 => Cm.bad
  | n + 1 => stepC G (cm G n)
section
variable {G : Gx} {T : Tb} {k : Nat} {r : Ev} {c : Cm}
theorem stepE_ok (S : Snd G T k r c) {L : Lx} {X : Cx} (o : Ok G T k r L X) (e : Expr) : PE X e (tE T X.K r (stepE G c L e)) := by
  unfold stepE
  split
  · exact cName_ok o _
  · exact cConst_ok _
  · exact sE_tup (cA_ok (S.hE o) _)
  · exact sE_lst (cA_ok (S.hE o) _)
  · exact cDict_ok o (S.hE o) _ _
  · exact cBin_ok (S.hE o) _ _ _
  · exact sE_not o.hk o.fx.tc (S.hE o _)
  · exact sE_neg (S.hE o _)
  · exact cAnd_ok o (S.hE o) _
  · exact cOr_ok o (S.hE o) _
  · exact cCmp_ok o (S.hE o) _ _ _
  · exact sE_ife (S.hT o _) (S.hE o _) (S.hE o _)
  · exact cAttr_ok o (S.hE o) _ _
  · exact cSub_ok o (S.hE o) _ _
  · exact cCall_ok o (S.hE o) _ _ _
  · exact cLc_ok S o _ _ _
  · exact cDc_ok S o _ _ _ _
  · exact bad_E
theorem stepT_ok (S : Snd G T k r c) {L : Lx} {X : Cx} (o : Ok G T k r L X) (e : Expr) : PT X e (tT T X.K r (stepT G c L e)) := by
  unfold stepT
  split
  · exact sT_not (S.hT o _)
  · exact (cAndT_ok (S.hT o) _).pt
  · exact (cOrT_ok (S.hT o) _).pt
  · exact cCmpT_ok o (S.hE o) _ _ _
  · split
    · rename_i h; exact sT_val o.hk o.fx.tc (S.hE o _) (valT_ok h)
    · exact bad_T
theorem Snd.step (S : Snd G T k r c) : Snd G T k r (stepC G c) where
  hE := fun o e => stepE_ok S o e
  hT := fun o e => stepT_ok S o e
  hG := fun o e => cTgt_ok o (S.hE o) (S.hG o) e
  hW := fun o vs e => cWt_ok o (S.hW o vs) e
  hS := fun o m s => cSt_ok S o m s
theorem cm_ok : ∀ n, Snd G T k r (cm G n)
  | 0 => .bad
  | n + 1 => (cm_ok n).step
end
end Y
end
section
set_option linter.all false
set_option maxRecDepth 100000
set_option maxHeartbeats 4000000
/-! Z14: all defs at once. -/
namespace Y
open PySem PySem.Spec L2 PyProof.Rows
/-! ### a def's statics -/
def locN (ps : List Str) : List (Str × NameKind) → List Str
  | [] => []
  | (x, k) :: r => match k with
    | .local => if memS x ps then locN ps r else x :: locN ps r
    | .cell => if memS x ps then locN ps r else x :: locN ps r
    | _ => locN ps r
def prmN (a : Arguments) : List Str := a.args.map (·.arg)
/-- a def and the names of its comprehensions -/
structure De extends He.DefD where
  xs : List Str
def namesOf (xs : List Str) (a : Arguments) (sc : Scope) : List Str := prmN a ++ (locN (prmN a) sc.names ++ xs)
def nodupS : List Str → Bool
  | [] => true
  | x :: r => if memS x r then false else nodupS r
theorem nodupS_ok : ∀ {l : List Str}, nodupS l = true → l.Nodup
  | [], _ => .nil
  | x :: r, h => by
    unfold nodupS at h
    by_cases e : memS x r = true
    · rw [if_pos e] at h; cases h
    · rw [if_neg e] at h
      exact List.nodup_cons.mpr ⟨fun z => e (memS_iff.mpr z), nodupS_ok h⟩
def LxOf (xs : List Str) (a : Arguments) (sc : Scope) : Lx := ⟨namesOf xs a sc, sc, fun _ => true⟩
def plainArgs (a : Arguments) : Bool := a.posonlyargs.isEmpty && (a.kwonlyargs.isEmpty && (a.kw_defaults.isEmpty && (a.kwarg.isNone && a.vararg.isNone)))
theorem plainArgs_ok {a : Arguments} (h : plainArgs a = true) : a = ⟨[], a.args, none, [], [], none, a.defaults⟩ := by
  obtain ⟨p, ar, v, k, kd, kw, d⟩ := a
  unfold plainArgs at h
  simp only [Bool.and_eq_true, List.isEmpty_iff, Option.isNone_iff_eq_none] at h
  obtain ⟨rfl, rfl, rfl, rfl, rfl⟩ := h
  rfl
/-- looks at a def's scope and names -/
def scOk (xs : List Str) (a : Arguments) (sc : Scope) : Bool :=
  (match sc.kind with | .function => true | _ => false) && (!sc.isCoroutine && (!sc.isGenerator && (nodupS (namesOf xs a sc) && (allP (fun x => isLoc sc x) (prmN a) && (allP (fun y : Str × NameKind => match y.2 with | .free => false | _ => true) sc.names &&
    allP (fun x => !strEq x "__debug__" && !strEq x "__classdict__") (namesOf xs a sc))))))
theorem scOk_fn {xs : List Str} {a : Arguments} {sc : Scope} (h : scOk xs a sc = true) : FnScope (namesOf xs a sc) (prmN a) sc ∧ (∀ x ∈ namesOf xs a sc, (x == ("__debug__" : Str)) = false ∧ (x == ("__classdict__" : Str)) = false) := by
  unfold scOk at h
  simp only [Bool.and_eq_true, Bool.not_eq_true'] at h
  obtain ⟨h1, h2, h3, h4, h5, h6, h7⟩ := h
  refine ⟨⟨?_, h2, h3, nodupS_ok h4, by unfold namesOf; simp, fun x hx => ?_, fun y hy e => ?_⟩, fun x hx => ?_⟩
  · split at h1
    · assumption
    · cases h1
  · have q := allP_iff h5 x hx
    rw [isLoc_eq] at q
    exact Y.loc q
  · have q := allP_iff h6 y hy
    rw [e] at q
    cases q
  · have q := allP_iff h7 x hx
    rw [Bool.and_eq_true, strEq_dec, strEq_dec] at q
    simp only [Bool.not_eq_true', decide_eq_false_iff_not] at q
    exact ⟨beq_eq_false_iff_ne.mpr q.1, beq_eq_false_iff_ne.mpr q.2⟩
def dvPV : He.Dv → Option PV
  | .non => some .non
  | .bl b => some (.bl b)
  | .int i => some (.int i)
  | .str x => some (.str x)
  | _ => none
def dvsPV : List He.Dv → Option (List PV)
  | [] => some []
  | d :: r => match dvPV d, dvsPV r with
    | some v, some vs => some (v :: vs)
    | _, _ => none
def cmFuel : Nat := 60
def bodyOf (G : Gx) (xs : List Str) (a : Arguments) (sc : Scope) (body : List Stmt) : XS := cSS ((cm G cmFuel).S (LxOf xs a sc)) body
def dfOf (G : Gx) (d : De) : Df := ⟨(prmN d.params).length, false, (namesOf d.xs d.params d.scope).length, (dvsPV d.dfl).getD [], bodyOf G d.xs d.params d.scope d.body⟩
def fnsOf (G : Gx) (ds : List De) (i : Nat) : Option Df := match ds[i]? with
  | some d => some (dfOf G d)
  | none => none
/-- what the head says of the defs; the defaults' binding is asked apart -/
structure Dx (K : PySem.W.Frag) (T : Tb) (ds : List De) : Prop where
  fd : ∀ i d, ds[i]? = some d → ∃ fd, FunD K d.name d.qual d.params d.body d.scope (d.dvs K) (d.kws K) (T.fa i) fd
  isf : ∀ i d, ds[i]? = some d → PySem.W.isFn K (.ref (T.fa i)) = true
section
variable {P : Program} {w : World} {K : PySem.W.Frag} {mg : Str → Option Value} {base : Heap} {T : Tb} {G : Gx}
/-- a body, read -/
theorem body_ok {k : Nat} {r : Ev} (F : Fx G T k r P w K mg base) {xs : List Str} {a : Arguments} {sc : Scope} (hs : scOk xs a sc = true) {qual : Str} {f : Addr} {body : List Stmt} :
    BodyR P w K mg base T (k + 1) r (namesOf xs a sc) qual sc f body (bodyOf G xs a sc body) := fun cdv A outer s H E hr => by
  obtain ⟨S, nn⟩ := scOk_fn hs
  have o : Ok G T k r (LxOf xs a sc) (cxD P w K mg base (namesOf xs a sc) qual sc f cdv A outer s H E) := ⟨F, hr, rfl, rfl, S.nd, nn, rfl, fun _ _ => rfl⟩
  exact cSS_ok (fun st => (cm_ok cmFuel).hS o ⟨.never, S.kind⟩ st) body
/-! ### a def's promise from its body's, defaults too -/
theorem reps_dvs {ρ : Nat → Addr} {n : Nat} {H : Hp} : ∀ {ds : List He.Dv} {vs : List PV}, dvsPV ds = some vs → Reps T K ρ n H vs (ds.map (He.Dv.v K))
  | [], _, h => by cases h; exact .nil
  | d :: ds, vs, h => by
    unfold dvsPV at h
    split at h
    · rename_i v vs' h1 h2
      cases h
      refine .cons ?_ (reps_dvs h2)
      cases d with
      | non => cases h1; exact .non
      | bl b => cases h1; exact .bl b
      | int i => cases h1; exact .int i
      | str x => cases h1; exact .str x
      | _ => cases h1
    · cases h
theorem binds_ok {a : Arguments} {x qual : Str} {body : List Stmt} {sc : Scope} {dvs : List L2.V} {f : Addr} {fd : FuncData} (F : FunD K x qual a body sc dvs [] f fd) (pl : plainArgs a = true) (nd : (prmN a).Nodup) (hm : dvs.length ≤ (prmN a).length) :
    ∀ j, j ≤ dvs.length → ∃ us, Vals (dvs.drop j) us ∧ Binds K fd (prmN a) us := by
  intro j hj
  have ea := plainArgs_ok pl
  by_cases hd : dvs = []
  · subst hd
    refine ⟨[], by rw [List.drop_nil]; exact .nil, ?_⟩
    refine F.bindsN fun kV doc pm an cdv ct us hl => ?_
    obtain ⟨oc, od, dV, kV', doc', pm', an', cdv', ct', osl, rfl, lk, hcd, hD, hK⟩ := F.ex
    rw [ea]
    have hb := bind_alld (x := x) (qual := qual) (args := a.args) (dfs := a.defaults) (body := body) (scope := sc) (kV := kV) (doc := doc) (pm := pm) (an := an) (cdv := cdv) (ct := ct) (us := us) nd hl
    exact hb
  · obtain ⟨us, h1, h2⟩ := F.binds1 (ps := prmN a) ((prmN a).length - (dvs.length - j)) j hd (by omega) (fun T kV doc pm an cdv ct us its hu hi => by
      rw [ea]
      have q := bind_dfl (x := x) (qual := qual) (args := a.args) (dfs := a.defaults) (body := body) (scope := sc) (kV := kV) (doc := doc) (pm := pm) (an := an) (cdv := cdv) (ct := ct) (us := us) (its := its) (T := T) (ps := prmN a) rfl nd (by omega) (by omega) (by omega)
      rw [show us.length + its.length - (prmN a).length = j by omega] at q
      exact q)
    exact ⟨us, h1, h2⟩
theorem def_okD {fns : Nat → Option Df} {n i m : Nat} {d : Df} {x qual : Str} {a : Arguments} {body : List Stmt} {sc : Scope} {dvs0 : List L2.V} {fd : FuncData} {N : List Str} (hi : fns i = some d) (hva : d.va = false) (F : FunD K x qual a body sc dvs0 [] (T.fa i) fd) (isf : PySem.W.isFn K (.ref (T.fa i)) = true) (S : FnScope N (prmN a) sc)
    (hN : N.length = d.ns) (hp : (prmN a).length = d.np) (pl : plainArgs a = true) (nd : (prmN a).Nodup) (hm : dvs0.length ≤ (prmN a).length) (hds : ∀ ρ n H, Reps T K ρ n H d.ds dvs0) (hb : BodyR P w K mg base T m (ev fns n) N qual sc (T.fa i) body d.body) : EvC P w K mg base T (m + 1) (ev fns (n + 1)) i := by
  have ok := def_okF hi F S hN hp hb
  have hlen : d.ds.length = dvs0.length := (hds (fun _ => 0) 0 (fun _ => none)).length
  refine ⟨fun A outer s H us vs Q E hr e0 rv hs => ?_, F.kp, isf⟩
  obtain ⟨ρ, st0, as, S0, R, v, st', e, kk⟩ := hs
  have e : (match fns i with | some d => runD d (ev fns n) as st0 | none => .stuck 132) = Y.R.ok v st' := e
  rw [hi] at e
  have e : (match fill d as with | some vs => endV (d.body (ev fns n) (frame vs d.ns) st0) | none => .stuck 130) = Y.R.ok v st' := e
  unfold fill at e
  rw [hva] at e
  have e : (match fillD d.np d.ds as with | some vs => endV (d.body (ev fns n) (frame vs d.ns) st0) | none => .stuck 130) = Y.R.ok v st' := e
  unfold fillD at e
  by_cases h1 : Nat.beq (len as) d.np = true
  · rw [if_pos h1] at e
    have h1 := Nat.eq_of_beq_eq_true h1
    rw [len_eq] at h1
    obtain ⟨us0, b2, b1⟩ := binds_ok F pl nd hm dvs0.length (Nat.le_refl _)
    rw [List.drop_length] at b2
    cases b2
    have z := ok.raw b1 .nil A outer s H us vs Q E hr e0 rv
    have z : spB T K (ev fns n) d d.np (vs ++ []) H Q E → _ := z
    rw [List.append_nil] at z
    exact z ⟨ρ, st0, as, S0, R, h1, v, st', e, kk⟩
  · rw [if_neg h1] at e
    by_cases h2 : (Nat.ble (len as) d.np && Nat.ble d.np (len as + len d.ds)) = true
    · rw [if_pos h2] at e
      rw [Bool.and_eq_true, Nat.ble_eq, Nat.ble_eq, len_eq, len_eq] at h2
      rw [dropN_eq, len_eq, len_eq] at e
      obtain ⟨us0, b2, b1⟩ := binds_ok F pl nd hm (as.length + d.ds.length - d.np) (by omega)
      have b3 : Reps T K ρ st0.n H (d.ds.drop (as.length + d.ds.length - d.np)) (dvs0.drop (as.length + d.ds.length - d.np)) := (hds ρ st0.n H).drop _
      have z := ok.raw b1 b2 A outer s H us vs Q E hr e0 rv
      exact z ⟨ρ, st0, as ++ d.ds.drop (as.length + d.ds.length - d.np), S0, R.append b3, by rw [List.length_append, List.length_drop]; omega, v, st', e, kk⟩
    · rw [if_neg h2] at e; cases e
/-- looks at a def -/
def defOk (d : De) : Bool := plainArgs d.params && (scOk d.xs d.params d.scope && (d.kwd.isEmpty && ((dvsPV d.dfl).isSome && Nat.ble d.dfl.length (prmN d.params).length)))
theorem ev_step {k n i : Nat} {ds : List De} {d : De} (F : Fx G T k (ev (fnsOf G ds) n) P w K mg base) (D : Dx K T ds) (hi : ds[i]? = some d) (ok : defOk d = true) : EvC P w K mg base T (k + 2) (ev (fnsOf G ds) (n + 1)) i := by
  unfold defOk at ok
  simp only [Bool.and_eq_true] at ok
  obtain ⟨o1, o2, o3, o4, o5⟩ := ok
  obtain ⟨fd, FD⟩ := D.fd i d hi
  have ek : d.kws K = [] := by
    unfold He.DefD.kws
    rw [List.isEmpty_iff.mp o3]
    rfl
  rw [ek] at FD
  obtain ⟨S, nn⟩ := scOk_fn o2
  have nd : (prmN d.params).Nodup := by
    have := S.nd
    unfold namesOf at this
    exact (List.nodup_append.mp this).1
  have hf : fnsOf G ds i = some (dfOf G d) := by unfold fnsOf; rw [hi]
  obtain ⟨vs, hv⟩ := Option.isSome_iff_exists.mp o4
  have hds : (dfOf G d).ds = vs := by unfold dfOf; rw [hv]; rfl
  exact def_okD hf rfl FD (D.isf i d hi) S rfl rfl o1 nd (by unfold He.DefD.dvs; rw [List.length_map]; exact Nat.ble_eq ▸ o5) (fun ρ n H => by rw [hds]; exact reps_dvs hv) (body_ok F o2)
end
end Y
end
section
set_option linter.all false
set_option maxRecDepth 100000
set_option maxHeartbeats 4000000
/-! Z15: the head's facts, looked at in one go. -/
namespace Y
open PySem PySem.Spec L2 PyProof.Rows
/-! ### names, by numbers -/
def nmOf (l : List Str) (i : Nat) : Str := match nth l i with
  | some x => x
  | none => ⟨(List.replicate (i + 1000) 0).toArray⟩
def shortS : List Str → Bool
  | [] => true
  | x :: r => if Nat.ble x.cps.size 900 then shortS r else false
theorem shortS_mem : ∀ {l : List Str}, shortS l = true → ∀ x ∈ l, x.cps.size ≤ 900
  | [], _, _, h => by cases h
  | y :: r, h, x, hx => by
    unfold shortS at h
    by_cases e : Nat.ble y.cps.size 900 = true
    · rw [if_pos e] at h
      rcases List.mem_cons.mp hx with rfl | hx
      · exact Nat.ble_eq ▸ e
      · exact shortS_mem h x hx
    · rw [if_neg e] at h; cases h
theorem nodup_get {α : Type} {l : List α} (h : l.Nodup) {i j : Nat} {x : α} (a : l[i]? = some x) (b : l[j]? = some x) : i = j := by
  obtain ⟨hi, ei⟩ := List.getElem?_eq_some_iff.mp a
  obtain ⟨hj, ej⟩ := List.getElem?_eq_some_iff.mp b
  exact (List.getElem_inj h).mp (ei.trans ej.symm)
theorem nmOf_inj {l : List Str} (h : nodupS l = true) (hs : shortS l = true) : ∀ i j, nmOf l i = nmOf l j → i = j := by
  intro i j e
  unfold nmOf at e
  rw [nth_eq, nth_eq] at e
  cases gi : l[i]? with
  | some x =>
    rw [gi] at e
    cases gj : l[j]? with
    | some y =>
      rw [gj] at e
      have e : x = y := e
      subst e
      exact nodup_get (nodupS_ok h) gi gj
    | none =>
      rw [gj] at e
      have e : x = _ := e
      have := shortS_mem hs x (List.mem_of_getElem? gi)
      rw [e] at this
      simp at this
      try omega
  | none =>
    rw [gi] at e
    cases gj : l[j]? with
    | some y =>
      rw [gj] at e
      have e : _ = y := e
      have := shortS_mem hs y (List.mem_of_getElem? gj)
      rw [← e] at this
      simp at this
      try omega
    | none =>
      rw [gj] at e
      have := congrArg (fun s : Str => s.cps.size) e
      simp at this
      omega
/-! ### the tables of a law -/
structure Lw where
  /-- the addresses that are looked at -/
  as : List Nat
  /-- where the defs, the classes stand -/
  fa : List Nat
  ca : List Nat
  nm : List Str
  fn : List (Str × Nat)
  cl : List (Str × Nat)
  ini : List (Nat × Nat)
  ct : List (Str × PV)
  free : List Nat
  nms : List (Str × Nat)
  fld : List (Nat × List Nat)
  met : List (Nat × List (Nat × Nat))
  BL : List (Nat × Option Nat)
  EQ : List (Nat × Nat)
  LN : List (Nat × Nat)
  IL : List Nat
  IS : List (Nat × List (Nat × Bool))
def isLook (t : List (Nat × List (Nat × Bool))) (a b : Nat) : Option Bool := match look t a with
  | some r => look r b
  | none => none
def Lw.G (W : Lw) : Gx := ⟨W.fn, W.cl, W.ini, W.ct, W.free, W.nms, W.fld, W.met, W.BL, W.EQ, W.LN, W.IL, isLook W.IS⟩
def adr (l : List Nat) (i : Nat) : Addr := match nth l i with
  | some a => a
  | none => 0
def Lw.T (W : Lw) (P : Program) (w : World) (h : ∀ i j, nmOf W.nm i = nmOf W.nm j → i = j) : Tb := ⟨adr W.fa, adr W.ca, nmOf W.nm, h, P, w⟩
/-! ### looks at the state -/
section
variable (K : PySem.W.Frag)
def isAt (o : Option (Option Value)) (a : Value) : Bool := match o with
  | some (some v) => decide (v = a)
  | _ => false
def isNo (o : Option (Option Value)) : Bool := match o with
  | some none => true
  | _ => false
def clsB (C : Addr) : Bool := PySem.W.plainGet K C Str.empty && (PySem.W.hasDictIn K C && (PySem.W.plainOver K C && isAt (PySem.W.findIn K (.ref C) "__setattr__") (.builtin "object.__setattr__")))
def fnB (f : Addr) : Bool := PySem.W.isFn K (.ref f) && PySem.W.keepIn K (.ref f)
def ctB (x : Str) (v : PV) : Bool := match v with
  | .int i => (match PySem.W.nsIn K mainGlobals x with
    | some (some (.int j _)) => intEq i j
    | _ => false)
  | .str s => (match PySem.W.nsIn K mainGlobals x with
    | some (some (.str y _)) => strEq s y
    | _ => false)
  | _ => false
def insB (C : Addr) : Bool := clsB K C && (isAt (PySem.W.findIn K (.ref C) "__class__") (.builtin "object.__class__") && (isAt (PySem.W.specialIn K (.builtin "object.__class__") "__get__") (.builtin "getset_descriptor.__get__") &&
  (decide (PySem.W.takesIn K (.builtin "object.__class__") = some true) && (decide (PySem.W.mroIn K C (.type "object") = some true) && decide (PySem.W.kitOne K (.ref C) (.ref C) = some true)))))
def tyA (W : Lw) (c : Nat) : Value := if c < 6 then .type (tyName c) else if c < 100 then .type "NoneType" else .ref (adr W.ca (c - 100))
def factsB (W : Lw) (M : Nat) : Bool :=
  allP (fun q : Str × Nat => isAt (PySem.W.nsIn K mainGlobals q.1) (.ref (adr W.fa q.2)) && Nat.blt q.2 M) W.fn &&
  (allP (fun q : Str × Nat => isAt (PySem.W.nsIn K mainGlobals q.1) (.ref (adr W.ca q.2))) W.cl &&
  (allP (fun q : Nat × Nat => PySem.W.makesIn K (adr W.ca q.1) && (isAt (PySem.W.findIn K (.ref (adr W.ca q.1)) "__init__") (.ref (adr W.fa q.2)) && (fnB K (adr W.fa q.2) && (PySem.W.keepIn K (.ref (adr W.ca q.1)) && Nat.blt q.2 M)))) W.ini &&
  (allP (fun q : Str × PV => ctB K q.1 q.2) W.ct &&
  (allP (fun c => isNo (PySem.W.nsIn K mainGlobals (biName c))) W.free &&
  (allP (fun q : Nat × List Nat => allP (fun c => clsB K (adr W.ca c) && isNo (PySem.W.findIn K (.ref (adr W.ca c)) (nmOf W.nm q.1))) q.2) W.fld &&
  (allP (fun q : Nat × List (Nat × Nat) => allP (fun z : Nat × Nat => clsB K (adr W.ca z.1) && (isAt (PySem.W.findIn K (.ref (adr W.ca z.1)) (nmOf W.nm q.1)) (.ref (adr W.fa z.2)) && (fnB K (adr W.fa z.2) && Nat.blt z.2 M))) q.2) W.met &&
  (allP (fun q : Nat × Option Nat => match q.2 with
    | some i => isAt (PySem.W.findIn K (.ref (adr W.ca q.1)) "__bool__") (.ref (adr W.fa i)) && Nat.blt i M
    | none => isNo (PySem.W.findIn K (.ref (adr W.ca q.1)) "__bool__") && isNo (PySem.W.findIn K (.ref (adr W.ca q.1)) "__len__")) W.BL &&
  (allP (fun q : Nat × Nat => isAt (PySem.W.findIn K (.ref (adr W.ca q.1)) "__eq__") (.ref (adr W.fa q.2)) && (isAt (PySem.W.findIn K (.ref (adr W.ca q.1)) "__ne__") (.builtin "object.__ne__") && (decide (PySem.W.mroIn K (adr W.ca q.1) (.type "object") = some true) && (Nat.blt q.2 M &&
    allP (fun z : Nat × Nat => PySem.W.notFirst K (adr W.ca q.1) (.ref (adr W.ca z.1))) W.EQ)))) W.EQ &&
  (allP (fun q : Nat × Nat => isAt (PySem.W.findIn K (.ref (adr W.ca q.1)) "__len__") (.ref (adr W.fa q.2)) && Nat.blt q.2 M) W.LN &&
  (allP (fun c => insB K (adr W.ca c)) W.IL &&
   allP (fun q : Nat × List (Nat × Bool) => allP (fun z : Nat × Bool => decide (PySem.W.kitOne K (tyA W q.1) (tyA W z.1) = some z.2)) q.2) W.IS))))))))))
end
theorem isAt_ok {o : Option (Option Value)} {a : Value} (h : isAt o a = true) : o = some (some a) := by
  unfold isAt at h
  split at h
  · rw [of_decide_eq_true h]
  · cases h
theorem isNo_ok {o : Option (Option Value)} (h : isNo o = true) : o = some none := by
  unfold isNo at h
  split at h
  · rfl
  · cases h
theorem bn {a b : Bool} (h : (a && b) = true) : a = true ∧ b = true := Bool.and_eq_true_iff.mp h
theorem clsB_ok {K : PySem.W.Frag} {C : Addr} (h : clsB K C = true) : Cls K C := by
  obtain ⟨h1, h⟩ := bn h
  obtain ⟨h2, h⟩ := bn h
  obtain ⟨h3, h⟩ := bn h
  exact ⟨h1, h2, h3, isAt_ok h⟩
theorem look_mem {α : Type} : ∀ {l : List (Nat × α)} {k : Nat} {v : α}, look l k = some v → (k, v) ∈ l
  | [], _, _, h => by cases h
  | (j, w) :: r, k, v, h => by
    unfold look at h
    by_cases e : Nat.beq j k = true
    · rw [if_pos e] at h
      cases h
      rw [Nat.eq_of_beq_eq_true e]
      exact List.mem_cons_self
    · rw [if_neg e] at h
      exact List.mem_cons_of_mem _ (look_mem h)
theorem blt_ok {a b : Nat} (h : Nat.blt a b = true) : a < b := by
  unfold Nat.blt at h
  rw [Nat.ble_eq] at h
  exact h
section
variable {P : Program} {w : World} {K : PySem.W.Frag} {mg : Str → Option Value} {base : Heap} {W : Lw} {hinj : ∀ i j, nmOf W.nm i = nmOf W.nm j → i = j} {M : Nat}
theorem tyA_eq (c : Nat) : tyA W c = tyVal (W.T P w hinj) c := rfl
/-- the tables' meaning, from the looks and the promises one level below -/
theorem fx_of {h : Heap} (X : K.In h) (N : h.Ns mainGlobals mg) (B : factsB K W M = true) (nmOk : allP (fun q : Str × Nat => strEq (nmOf W.nm q.2) q.1) W.nms = true) {k : Nat} {r : Ev} (E : ∀ i, i < M → EvC P w K mg base (W.T P w hinj) k r i) : Fx W.G (W.T P w hinj) k r P w K mg base := by
  unfold factsB at B
  obtain ⟨b1, B⟩ := bn B
  obtain ⟨b2, B⟩ := bn B
  obtain ⟨b3, B⟩ := bn B
  obtain ⟨b4, B⟩ := bn B
  obtain ⟨b5, B⟩ := bn B
  obtain ⟨b6, B⟩ := bn B
  obtain ⟨b7, B⟩ := bn B
  obtain ⟨b8, B⟩ := bn B
  obtain ⟨b9, B⟩ := bn B
  obtain ⟨b10, B⟩ := bn B
  obtain ⟨b11, b12⟩ := bn B
  refine { TP := rfl, Tw := rfl, tc := ⟨fun c i hl => ?_, fun c hl => ?_⟩, eq := ⟨fun c i hl => ?_, fun c c2 i i2 hl hl2 => ?_⟩, ln := ⟨fun c i hl => ?_⟩, is := ⟨fun a b c hl => ?_, fun c hc => ?_⟩, fn := fun x i hx => ?_, cl := fun x c hx => ?_, ini := fun c i hl => ?_, ct := fun x v hx => ?_, free := fun c hc => ?_, nm := fun x f hx => ?_, fld := fun f L hl c hc => ?_, met := fun f ms hl => ⟨fun c i hl2 => ?_⟩ }
  · obtain ⟨q1, q2⟩ := bn (allP_iff b8 _ (look_mem hl))
    exact ⟨isAt_ok q1, E i (blt_ok q2)⟩
  · obtain ⟨q1, q2⟩ := bn (allP_iff b8 _ (look_mem hl))
    exact ⟨isNo_ok q1, isNo_ok q2⟩
  · obtain ⟨q1, q⟩ := bn (allP_iff b9 _ (look_mem hl))
    obtain ⟨q2, q⟩ := bn q
    obtain ⟨q3, q⟩ := bn q
    obtain ⟨q4, q5⟩ := bn q
    exact ⟨isAt_ok q1, isAt_ok q2, of_decide_eq_true q3, E i (blt_ok q4)⟩
  · obtain ⟨q1, q⟩ := bn (allP_iff b9 _ (look_mem hl))
    obtain ⟨q2, q⟩ := bn q
    obtain ⟨q3, q⟩ := bn q
    obtain ⟨q4, q5⟩ := bn q
    exact allP_iff q5 _ (look_mem hl2)
  · obtain ⟨q1, q2⟩ := bn (allP_iff b10 _ (look_mem hl))
    exact ⟨isAt_ok q1, E i (blt_ok q2)⟩
  · have hl : isLook W.IS a b = some c := hl
    unfold isLook at hl
    split at hl
    · rename_i rr hr
      have q := allP_iff (allP_iff b12 _ (look_mem hr)) _ (look_mem hl)
      exact of_decide_eq_true q
    · cases hl
  · obtain ⟨q1, q⟩ := bn (allP_iff b11 _ hc)
    obtain ⟨q2, q⟩ := bn q
    obtain ⟨q3, q⟩ := bn q
    obtain ⟨q4, q⟩ := bn q
    obtain ⟨q5, q6⟩ := bn q
    exact ⟨clsB_ok q1, isAt_ok q2, isAt_ok q3, of_decide_eq_true q4, of_decide_eq_true q5, of_decide_eq_true q6⟩
  · obtain ⟨q1, q2⟩ := bn (allP_iff b1 _ hx)
    exact ⟨PySem.W.mg_of X N (isAt_ok q1), E i (blt_ok q2)⟩
  · exact PySem.W.mg_of X N (isAt_ok (allP_iff b2 _ hx))
  · obtain ⟨q1, q⟩ := bn (allP_iff b3 _ (look_mem hl))
    obtain ⟨q2, q⟩ := bn q
    obtain ⟨q3, q⟩ := bn q
    obtain ⟨q4, q5⟩ := bn q
    obtain ⟨q6, q7⟩ := bn q3
    exact ⟨⟨q1, isAt_ok q2, q6, q4⟩, E i (blt_ok q5)⟩
  · have q := allP_iff b4 _ hx
    unfold ctB at q
    cases v with
    | int i =>
      dsimp only at q
      split at q
      · rename_i j t e
        rw [intEq_iff.mp q]
        exact ⟨t, PySem.W.mg_of X N e⟩
      · cases q
    | str z =>
      dsimp only at q
      split at q
      · rename_i j t e
        rw [strEq_eq q]
        exact ⟨t, PySem.W.mg_of X N e⟩
      · cases q
    | _ => cases q
  · exact PySem.W.mg_none_of X N (isNo_ok (allP_iff b5 _ (memN_mem hc)))
  · exact strEq_eq (allP_iff nmOk _ hx)
  · obtain ⟨q1, q2⟩ := bn (allP_iff (allP_iff b6 _ (look_mem hl)) _ hc)
    exact ⟨clsB_ok q1, isNo_ok q2⟩
  · obtain ⟨q1, q⟩ := bn (allP_iff (allP_iff b7 _ (look_mem hl)) _ (look_mem hl2))
    obtain ⟨q2, q⟩ := bn q
    obtain ⟨q3, q4⟩ := bn q
    obtain ⟨q5, q6⟩ := bn q3
    exact ⟨clsB_ok q1, ⟨isAt_ok q2, q5, q6⟩, E i (blt_ok q4)⟩
end
end Y
end
section
set_option linter.all false
set_option maxRecDepth 100000
set_option maxHeartbeats 4000000
/-! Z16: the head's Hook, all defs by induction on the depth, the law's end. -/
namespace Y
open PySem PySem.Spec L2 PyProof.Rows
/-! ### the Hook -/
def fnWA (K : PySem.W.Frag) (a : Addr) : He.FnW := match K.lookup a with
  | some ⟨_, _, .func fd, _⟩ => some (fd.name, fd.qualname, fd.params, fd.body, fd.scope, fd.globals, fd.closure, fd.builtins)
  | _ => none
def De.val (d : De) : He.FnW := d.toDefD.val
def dOkA (K : PySem.W.Frag) (a : Addr) (d : De) : Bool := fnB K a && (match K.lookup a with
  | some ⟨_, _, .func fd, _⟩ => PySem.W.codeIn K fd.code d.qual && (He.dflB K fd.defaults (d.dvs K) && He.kwdB K fd.kwdefaults (d.kws K))
  | _ => false)
def dOks (K : PySem.W.Frag) : List Nat → List De → Bool
  | _, [] => true
  | a :: as, d :: ds => dOkA K a d && dOks K as ds
  | [], _ :: _ => false
def dVals (K : PySem.W.Frag) : List Nat → List De → List He.FnW
  | a :: as, _ :: ds => fnWA K a :: dVals K as ds
  | _, _ => []
abbrev Al : Type := Bool × List He.FnW
def obsW (W : Lw) (ds : List De) (g : Addr → Option Obj) : Al := (factsB (He.frG g W.as) W ds.length && dOks (He.frG g W.as) W.fa ds, dVals (He.frG g W.as) W.fa ds)
def valW (ds : List De) : Al := (true, ds.map De.val)
def SaysW (W : Lw) (ds : List De) (K : PySem.W.Frag) : Prop := factsB K W ds.length = true ∧ dOks K W.fa ds = true ∧ dVals K W.fa ds = ds.map De.val
def hookW (W : Lw) (ds : List De) : PySem.W.Hook where
  α := Al
  obs := fun s => obsW W ds s.heap.get?
  val := fun _ => valW ds
  says := fun _ h => ∃ K : PySem.W.Frag, K.In h ∧ SaysW W ds K
  of := fun _ _ e => by
    have e1 := congrArg (fun z : Al => z.1) e
    have e2 := congrArg (fun z : Al => z.2) e
    obtain ⟨h1, h2⟩ := bn e1
    exact ⟨_, He.frG_in, h1, h2, e2⟩
  keeps := fun _ _ _ ⟨K, hK, c⟩ k => ⟨K, PySem.W.Frag.In.keeps hK k, c⟩
theorem obsW_eq {W : Lw} {ds : List De} {g : Addr → Option Obj} {s : Shared} (h : ∀ a, g a = s.heap.get? a) : obsW W ds g = (hookW W ds).obs s := by
  have e : g = s.heap.get? := funext h
  rw [e] <;> rfl
/-! ### the defs -/
theorem funD_at {K : PySem.W.Frag} {a : Addr} {d : De} (e : fnWA K a = d.val) (c : dOkA K a d = true) : ∃ fd, FunD K d.name d.qual d.params d.body d.scope (d.dvs K) (d.kws K) a fd := by
  obtain ⟨c1, c2⟩ := bn c
  obtain ⟨_, kp⟩ := bn c1
  unfold fnWA at e
  cases q : K.lookup a with
  | none => rw [q] at c2; cases c2
  | some o =>
    obtain ⟨oc, od, dt, osl⟩ := o
    rw [q] at c2 e
    cases dt with
    | func fd =>
      obtain ⟨n1, n2, n3, n4, n5, n6, n7, n8, n9, n10, n11, n12, n13, n14, n15⟩ := fd
      have e2 : (some (n1, n2, n3, n4, n5, n6, n7, n15) : He.FnW) = some (d.name, d.qual, d.params, .stmts d.body, d.scope, mainGlobals, [], builtinsNs) := e
      simp only [Option.some.injEq, Prod.mk.injEq] at e2
      obtain ⟨h1, h2, h3, h4, h5, h6, h7, h8⟩ := e2
      subst h1 h2 h3 h4 h5 h6 h7 h8
      obtain ⟨k1, k2⟩ := bn (show (PySem.W.codeIn K n13 d.qual && (He.dflB K n8 (d.dvs K) && He.kwdB K n9 (d.kws K))) = true from c2)
      obtain ⟨k3, k4⟩ := bn k2
      exact ⟨_, ⟨oc, od, n8, n9, n10, n11, n12, n13, n14, osl, rfl, q, k1, He.dflB_ok k3, He.kwdB_ok k4⟩, kp⟩
    | _ => cases c2
theorem dxs_at {K : PySem.W.Frag} : ∀ {as : List Nat} {ds : List De}, dOks K as ds = true → dVals K as ds = ds.map De.val → ∀ (i : Nat) (d : De), ds[i]? = some d → ∃ a, as[i]? = some a ∧ fnWA K a = d.val ∧ dOkA K a d = true
  | _, [], _, _, i, d, h => by simp at h
  | [], _ :: _, c, _, _, _, _ => by cases c
  | a :: as, d0 :: ds, c, v, i, d, h => by
    obtain ⟨c1, c2⟩ := bn (show (dOkA K a d0 && dOks K as ds) = true from c)
    have v : fnWA K a :: dVals K as ds = d0.val :: ds.map De.val := v
    simp only [List.cons.injEq] at v
    cases i with
    | zero => simp at h; subst h; exact ⟨a, rfl, v.1, c1⟩
    | succ i =>
      rw [List.getElem?_cons_succ] at h
      obtain ⟨b, h1, h2⟩ := dxs_at c2 v.2 i d h
      exact ⟨b, by rw [List.getElem?_cons_succ]; exact h1, h2⟩
section
variable {P : Program} {w : World} {K : PySem.W.Frag} {mg : Str → Option Value} {base : Heap} {W : Lw} {hinj : ∀ i j, nmOf W.nm i = nmOf W.nm j → i = j} {ds : List De}
theorem dx_of (c : SaysW W ds K) : Dx K (W.T P w hinj) ds where
  fd := fun i d hi => by
    obtain ⟨a, h1, h2, h3⟩ := dxs_at c.2.1 c.2.2 i d hi
    have e : (W.T P w hinj).fa i = a := by
      show (match nth W.fa i with | some a => a | none => 0) = a
      rw [nth_eq, h1]
    rw [e]
    exact funD_at h2 h3
  isf := fun i d hi => by
    obtain ⟨a, h1, h2, h3⟩ := dxs_at c.2.1 c.2.2 i d hi
    have e : (W.T P w hinj).fa i = a := by
      show (match nth W.fa i with | some a => a | none => 0) = a
      rw [nth_eq, h1]
    rw [e]
    exact (bn (bn h3).1).1
/-- looks at the texts alone -/
def textsOk (W : Lw) (ds : List De) : Bool := allP defOk ds && (allP (fun q : Str × Nat => strEq (nmOf W.nm q.2) q.1) W.nms && (nodupS W.nm && shortS W.nm))
theorem defs_all {h : Heap} (X : K.In h) (N : h.Ns mainGlobals mg) (c : SaysW W ds K) (ok : textsOk W ds = true) : ∀ n i, i < ds.length → EvC P w K mg base (W.T P w hinj) (2 * n) (ev (fnsOf W.G ds) n) i
  | 0, i, hi => by
    obtain ⟨fd, F⟩ := (dx_of (P := P) (w := w) (hinj := hinj) c).fd i ds[i] (List.getElem?_eq_getElem hi)
    refine ⟨fun A outer s H us vs Q E hr e0 rv hs => ?_, F.kp, (dx_of (P := P) (w := w) (hinj := hinj) c).isf i ds[i] (List.getElem?_eq_getElem hi)⟩
    obtain ⟨_, _, _, _, _, _, _, e, _⟩ := hs
    cases e
  | n + 1, i, hi => by
    unfold textsOk at ok
    obtain ⟨o1, o2⟩ := bn ok
    obtain ⟨o2, o3⟩ := bn o2
    have ih := defs_all X N c (by unfold textsOk; rw [o1, o2, o3]; rfl) n
    have F := fx_of (P := P) (w := w) (base := base) (hinj := hinj) X N c.1 o2 ih
    have e := List.getElem?_eq_getElem hi
    exact ev_step F (dx_of c) e (allP_iff o1 _ (List.mem_of_getElem? e))
/-- the law's def keeps its promise -/
theorem law_fn {h : Heap} (X : K.In h) (N : h.Ns mainGlobals mg) (c : SaysW W ds K) (ok : textsOk W ds = true) {iL : Nat} {d : De} {x : Str} (hi : ds[iL]? = some d) (hx : prmN d.params = [x]) (hd : d.dfl = []) (hl : slk W.fn "law" = some iL) {fa : Addr} (hmg : mg ("law" : Str) = some (.ref fa)) (n : Nat) :
    ∃ fd : FuncData, (∀ (s : Shared) (u : Value), BindsTo s fd ⟨[u], []⟩ [(x, u)]) ∧ ∀ base : Heap, K.In base → base.Ns mainGlobals mg → FnOk P w K mg base CX0 (2 * n + 2) fa fd [x] (spB (W.T P w hinj) K (ev (fnsOf W.G ds) n) (dfOf W.G d) 1) := by
  unfold textsOk at ok
  obtain ⟨o1, o2⟩ := bn ok
  obtain ⟨o2, o3⟩ := bn o2
  have okk : textsOk W ds = true := by unfold textsOk; rw [o1, o2, o3]; rfl
  have D := dx_of (P := P) (w := w) (hinj := hinj) c
  obtain ⟨fd, F⟩ := D.fd iL d hi
  have od := allP_iff o1 _ (List.mem_of_getElem? hi)
  unfold defOk at od
  simp only [Bool.and_eq_true] at od
  obtain ⟨d1, d2, d3, d4, d5⟩ := od
  have ek : d.kws K = [] := by
    unfold He.DefD.kws
    rw [List.isEmpty_iff.mp d3]
    rfl
  have edv : d.dvs K = [] := by
    unfold He.DefD.dvs
    rw [hd]
    rfl
  rw [ek, edv] at F
  have fx0 := fx_of (P := P) (w := w) (base := h) (hinj := hinj) X N c.1 o2 (defs_all X N c okk n)
  have efa : fa = (W.T P w hinj).fa iL := by
    have := (fx0.fn "law" iL (slk_mem hl)).1
    rw [hmg] at this
    cases this
    rfl
  obtain ⟨S, nn⟩ := scOk_fn d2
  have ea := plainArgs_ok d1
  have bindA := FunD.bindsA (ps := [x]) F fun kV doc pm an cdv ct us hl => by
    rw [ea]
    have q := bind_alld (x := d.name) (qual := d.qual) (args := d.params.args) (dfs := d.params.defaults) (body := d.body) (scope := d.scope) (kV := kV) (doc := doc) (pm := pm) (an := an) (cdv := cdv) (ct := ct) (us := us) (by have hx' : d.params.args.map (·.arg) = [x] := hx; rw [hx']; simp) (by have hx' : d.params.args.map (·.arg) = [x] := hx; rw [hx']; exact hl)
    have hx' : d.params.args.map (·.arg) = [x] := hx
    rw [hx'] at q
    exact q
  refine ⟨fd, fun s u => bindA s [u] rfl, fun base' hb hN => ?_⟩
  rw [efa]
  have fx1 := fx_of (P := P) (w := w) (base := base') (hinj := hinj) X N c.1 o2 (defs_all X N c okk n)
  have hf : fnsOf W.G ds iL = some (dfOf W.G d) := by unfold fnsOf; rw [hi]
  have bodyR := body_ok (a := d.params) (sc := d.scope) (qual := d.qual) (f := (W.T P w hinj).fa iL) (body := d.body) fx1 d2
  have r := def_okF (fns := fnsOf W.G ds) (n := n) (i := iL) (m := 2 * n + 1) (d := dfOf W.G d) hf F S rfl rfl bodyR
  rw [hx] at r
  have e1 : (dfOf W.G d).np = 1 := by
    show (prmN d.params).length = 1
    rw [hx]
    rfl
  rw [e1] at r
  exact r
end
/-! ### the law -/
/-- the law, run by the evaluator -/
def lawRun (G : Gx) (ds : List De) (n iL : Nat) (ns : List Int) : R PV := match ds[iL]? with
  | some d => endV ((dfOf G d).body (ev (fnsOf G ds) n) (frame [.cl (ns.map PV.int)] (dfOf G d).ns) ⟨0, .nil⟩)
  | none => .stuck 0
theorem law_walk {l : PySem.W.OpenLaw} {W : Lw} {ds : List De} {loose : List PySem.Str} {XP : (Str → Option Value) → Heap → Prop} {q : Program} {dr : DefRec} {x : Str} {n iL : Nat} {d : De} (hmost : l.most = some 63) (hdf : dr.params.defaults = []) (hnm : dr.name = "law") (ok : textsOk W ds = true) (hi : ds[iL]? = some d) (hx : prmN d.params = [x]) (hd : d.dfl = []) (hl : slk W.fn "law" = some iL)
    (hr : Room (2 * n + 2) callerA) (plain : ∀ ns : List Int, ns.length ≤ 63 → ∃ st', lawRun W.G ds n iL ns = .ok (.bl true) st') :
    PySem.W.WalkO q loose XP (hookW W ds).says l.row.toRowW dr [] (fun f vs => PySem.call f vs) := by
  refine L2.walk_ofE (l := l) (n := 63) (k := 2 * n + 2) (x := x) (CX := L2.CX0) hmost (by decide) hdf hr (fun w mg fa h YP G hmg => ?_) (fun _ _ _ _ z => z)
  obtain ⟨K, KX, c⟩ := YP
  have hinj : ∀ i j, nmOf W.nm i = nmOf W.nm j → i = j := by
    unfold textsOk at ok
    obtain ⟨o1, o2⟩ := bn ok
    obtain ⟨o2, o3⟩ := bn o2
    obtain ⟨o3, o4⟩ := bn o3
    exact nmOf_inj o3 o4
  rw [hnm] at hmg
  obtain ⟨fd, hb, hF⟩ := law_fn (P := l.prog) (w := w) (hinj := hinj) KX G c ok hi hx hd hl hmg n
  refine ⟨K, fd, _, KX, hb, fun H a ns hlen hO hS => ?_, hF⟩
  obtain ⟨st', e⟩ := plain ns hlen
  unfold lawRun at e
  rw [hi] at e
  exact law_sp (sqC_only hO hS) e
end Y
end
section
set_option linter.all false
set_option maxRecDepth 100000
set_option maxHeartbeats 4000000
/-! P1: a calculus of weakest promises over the evaluator. -/
namespace Y
open PySem
def Wp {α : Type} (x : R α) (Q : α → St → Prop) : Prop := match x with
  | .ok a st => Q a st
  | _ => False
def Wf (x : RS) (N : Fr → St → Prop) (Z : PV → St → Prop) : Prop := match x with
  | .next fr st => N fr st
  | .ret v st => Z v st
  | _ => False
section
variable {α β : Type} {Q : α → St → Prop} {r : Ev} {fr : Fr} {st : St}
theorem Wp.bind {x : R α} {k : α → St → R β} {Q : β → St → Prop} (h : Wp x fun a st => Wp (k a st) Q) : Wp (x.bind k) Q := by
  cases x with
  | ok a st => exact h
  | exc c a st => exact h.elim
  | stuck w => exact h.elim
theorem Wp.mono {x : R α} {Q' : α → St → Prop} (h : Wp x Q) (f : ∀ a st, Q a st → Q' a st) : Wp x Q' := by
  cases x with
  | ok a st => exact f _ _ h
  | exc c a st => exact h.elim
  | stuck w => exact h.elim
theorem Wp.ex {x : R α} (h : Wp x Q) : ∃ a st, x = .ok a st ∧ Q a st := by
  cases x with
  | ok a st => exact ⟨a, st, rfl, h⟩
  | exc c a st => exact h.elim
  | stuck w => exact h.elim
theorem Wf.mono {x : RS} {N N' : Fr → St → Prop} {Z Z' : PV → St → Prop} (h : Wf x N Z) (f : ∀ a st, N a st → N' a st) (g : ∀ a st, Z a st → Z' a st) : Wf x N' Z' := by
  cases x with
  | next fr st => exact f _ _ h
  | ret v st => exact g _ _ h
  | exc c a fr st => exact h.elim
  | stuck w => exact h.elim
end
/-! ### the store -/
/-- nothing old is changed -/
structure Kp (s t : St) : Prop where
  n : s.n ≤ t.n
  g : ∀ a, a < s.n → t.get a = s.get a
structure At (st : St) (a : Nat) (c : Cell) : Prop where
  lt : a < st.n
  get : st.get a = some c
/-- x alone is changed -/
structure Up (x : Nat) (s t : St) : Prop where
  n : t.n = s.n
  g : ∀ a, a ≠ x → t.get a = s.get a
theorem Kp.refl {s : St} : Kp s s := ⟨Nat.le_refl _, fun _ _ => rfl⟩
theorem Kp.trans {s t u : St} (a : Kp s t) (b : Kp t u) : Kp s u := ⟨Nat.le_trans a.n b.n, fun x h => (b.g x (Nat.lt_of_lt_of_le h a.n)).trans (a.g x h)⟩
theorem At.k {s t : St} {a : Nat} {c : Cell} (h : At s a c) (k : Kp s t) : At t a c := ⟨Nat.lt_of_lt_of_le h.lt k.n, (k.g a h.lt).trans h.get⟩
theorem At.up {s t : St} {a x : Nat} {c : Cell} (h : At s a c) (k : Up x s t) (ne : a ≠ x) : At t a c := ⟨by rw [k.n]; exact h.lt, (k.g a ne).trans h.get⟩
theorem Kp.up {s t u : St} {x : Nat} (k : Kp s t) (p : Up x t u) (le : s.n ≤ x) : Kp s u := ⟨by rw [p.n]; exact k.n, fun a h => (p.g a (by omega)).trans (k.g a h)⟩
theorem kp_new {s : St} {c : Cell} : Kp s (s.new c) := ⟨Nat.le_succ _, fun a h => by rw [St.get_new, if_neg (Nat.ne_of_lt h)]⟩
theorem at_new {s : St} {c : Cell} : At (s.new c) s.n c := ⟨Nat.lt_succ_self _, by rw [St.get_new, if_pos rfl]⟩
theorem up_set {s : St} {x : Nat} {c : Cell} : Up x s (s.set x c) := ⟨rfl, fun a h => by rw [St.get_set, if_neg h]⟩
theorem at_set {s : St} {x : Nat} {c : Cell} (h : x < s.n) : At (s.set x c) x c := ⟨h, by rw [St.get_set, if_pos rfl]⟩
section
variable {α β : Type} {r : Ev} {fr : Fr} {st : St} {Q : PV → St → Prop} {N : Fr → St → Prop} {Z : PV → St → Prop}
theorem w_new {c : Cell} (q : ∀ st', Kp st st' → At st' st.n c → Q (.ref st.n) st') : Wp (newC c st) Q := q _ kp_new at_new
theorem w_var {i : Nat} {v : PV} (h : nth fr i = some (some v)) (q : Q v st) : Wp (e_var i r fr st) Q := by unfold e_var; rw [h]; exact q
theorem w_cst {v : PV} (q : Q v st) : Wp (e_cst v r fr st) Q := q
theorem w_aNil {Q : List PV → St → Prop} (q : Q [] st) : Wp (aNil r fr st) Q := q
theorem w_aCons {x : Y.X} {a : XA} {Q : List PV → St → Prop} (h : Wp (x r fr st) fun v st => Wp (a r fr st) fun vs st => Q (v :: vs) st) : Wp (aCons x a r fr st) Q :=
  .bind (h.mono fun v st h => .bind (h.mono fun vs st h => h))
theorem w_aStarT {x : Y.X} {a : XA} {Q : List PV → St → Prop} (h : Wp (x r fr st) fun v st => ∃ xs, v = .tup xs ∧ Wp (a r fr st) fun vs st => Q (xs ++ vs) st) : Wp (aStar x a r fr st) Q :=
  .bind (h.mono fun v st h => by
    obtain ⟨xs, rfl, h⟩ := h
    exact .bind (h.mono fun vs st h => h))
theorem w_tup {a : XA} (h : Wp (a r fr st) fun vs st => okLen vs = true ∧ Q (.tup vs) st) : Wp (e_tup a r fr st) Q :=
  .bind (h.mono fun vs st h => by rw [if_pos h.1]; exact h.2)
theorem w_lst {a : XA} (h : Wp (a r fr st) fun vs s => okLen vs = true ∧ ∀ st', Kp s st' → At st' s.n (.lst 0 vs) → Q (.ref s.n) st') : Wp (e_lst a r fr st) Q :=
  .bind (h.mono fun vs st h => by rw [if_pos h.1]; exact w_new h.2)
theorem w_bin {o : Bop} {a b : Y.X} (h : Wp (a r fr st) fun x st => Wp (b r fr st) fun y st => Wp (bopV o x y st) Q) : Wp (e_bin o a b r fr st) Q :=
  .bind (h.mono fun v st h => .bind h)
theorem w_and {BL : List (Nat × Option Nat)} {x y : Y.X} (h : Wp (x r fr st) fun v st => Wp (truX BL r v st) fun c st => (c = true → Wp (y r fr st) Q) ∧ (c = false → Q v st)) : Wp (e_and BL x y r fr st) Q :=
  .bind (h.mono fun v st h => .bind (h.mono fun c st h => by
    cases c with
    | true => exact h.1 rfl
    | false => exact h.2 rfl))
theorem w_not {BL : List (Nat × Option Nat)} {x : Y.X} (h : Wp (x r fr st) fun v st => Wp (truX BL r v st) fun c st => Q (.bl (!c)) st) : Wp (e_not BL x r fr st) Q :=
  .bind (h.mono fun v st h => .bind (h.mono fun c st h => h))
theorem w_isi {f : Nat → Nat → Option Bool} {L cs : List Nat} {x : Y.X} (h : Wp (x r fr st) fun v st => Wp (isiV f L cs v st) Q) : Wp (e_isi f L cs x r fr st) Q := .bind h
theorem w_call {i : Nat} {a : XA} (h : Wp (a r fr st) fun vs st => Wp (r (.fn i) vs st) Q) : Wp (e_call i a r fr st) Q := .bind h
theorem w_sub {x y : Y.X} (h : Wp (x r fr st) fun a st => Wp (y r fr st) fun b st => Wp (getV a b st) Q) : Wp (e_sub x y r fr st) Q :=
  .bind (h.mono fun v st h => .bind h)
theorem w_biR {g : Ev → List PV → St → R PV} {a : XA} (h : Wp (a r fr st) fun vs st => Wp (g r vs st) Q) : Wp (e_biR g a r fr st) Q := .bind h
theorem w_on1 {f : PV → St → R PV} {a : PV} (h : Wp (f a st) Q) : Wp (on1 f [a] st) Q := h
theorem w_cmp {L : List (Nat × Nat)} {o : Cop} {a b : Y.X} (h : Wp (a r fr st) fun x st => Wp (b r fr st) fun y st => Wp (cmpV L o r x y st) Q) : Wp (e_cmp L o a b r fr st) Q :=
  .bind (h.mono fun v st h => .bind h)
theorem w_attr {x : Y.X} {f : Nat} {L : List Nat} (h : Wp (x r fr st) fun v st => Wp (fldV f L v st) Q) : Wp (e_attr x f L r fr st) Q := .bind h
theorem w_dct0 (q : ∀ st', Kp st st' → At st' st.n (.dct 0 []) → Q (.ref st.n) st') : Wp (e_dct0 r fr st) Q := w_new q
theorem w_dct1 {x y : Y.X} (h : Wp (x r fr st) fun k st => Wp (y r fr st) fun v s => keyOk k = true ∧ ∀ st', Kp s st' → At st' s.n (.dct 0 [(k, v)]) → Q (.ref s.n) st') : Wp (e_dct1 x y r fr st) Q :=
  .bind (h.mono fun v st h => .bind (h.mono fun c st h => by rw [if_pos h.1]; exact w_new h.2))
theorem w_lm {g : PV → List PV → St → R PV} {x : Y.X} {a : XA} (h : Wp (x r fr st) fun v st => isLst v st = true ∧ Wp (a r fr st) fun vs st => Wp (g v vs st) Q) : Wp (e_lm g x a r fr st) Q :=
  .bind (h.mono fun v st h => by rw [if_pos h.1]; exact .bind h.2)
theorem w_dm {g : PV → List PV → St → R PV} {x : Y.X} {a : XA} (h : Wp (x r fr st) fun v st => (dctV st v).isSome = true ∧ Wp (a r fr st) fun vs st => Wp (g v vs st) Q) : Wp (e_dm g x a r fr st) Q :=
  .bind (h.mono fun v st h => by
    obtain ⟨h1, h2⟩ := h
    cases e : dctV st v with
    | none => rw [e] at h1; cases h1
    | some q => exact .bind h2)
theorem w_in {neg : Bool} {x y : Y.X} (h : Wp (x r fr st) fun a st => Wp (y r fr st) fun b st => Wp (inV neg a b st) Q) : Wp (e_in neg x y r fr st) Q :=
  .bind (h.mono fun v st h => .bind h)
theorem w_ife {c : XB} {x y : Y.X} (h : Wp (c r fr st) fun c st => (c = true → Wp (x r fr st) Q) ∧ (c = false → Wp (y r fr st) Q)) : Wp (e_ife c x y r fr st) Q :=
  .bind (h.mono fun c st h => by
    cases c with
    | true => exact h.1 rfl
    | false => exact h.2 rfl)
theorem w_neg {x : Y.X} (h : Wp (x r fr st) fun v st => Wp (negV v st) Q) : Wp (e_neg x r fr st) Q := .bind h
theorem w_negI {i : Int} (q : Q (.int (-i)) st) : Wp (negV (.int i) st) Q := q
theorem w_make {c i : Nat} {a : XA} (h : Wp (a r fr st) fun vs s => Wp (r (.fn i) (.ref s.n :: vs) (s.new (.ins c []))) fun v st => v = .non ∧ Q (.ref s.n) st) : Wp (e_make c i a r fr st) Q :=
  .bind (h.mono fun vs st h => .bind (h.mono fun v st h => by obtain ⟨rfl, h⟩ := h; exact h))
theorem w_meth {x : Y.X} {m : Nat} {ms : List (Nat × Nat)} {a : XA} (h : Wp (x r fr st) fun v st => ∃ i, metV m ms v st = some i ∧ Wp (a r fr st) fun vs st => Wp (r (.fn i) (v :: vs) st) Q) : Wp (e_meth x m ms a r fr st) Q :=
  .bind (h.mono fun v st h => by
    obtain ⟨i, e, h⟩ := h
    rw [e]
    exact .bind h)
/-! ### tests -/
theorem w_val {BL : List (Nat × Option Nat)} {x : Y.X} {Q : Bool → St → Prop} (h : Wp (x r fr st) fun v st => Wp (truX BL r v st) Q) : Wp (b_val BL x r fr st) Q := .bind h
theorem w_bnot {x : XB} {Q : Bool → St → Prop} (h : Wp (x r fr st) fun c st => Q (!c) st) : Wp (b_not x r fr st) Q := .bind (h.mono fun c st h => h)
theorem w_bor {x y : XB} {Q : Bool → St → Prop} (h : Wp (x r fr st) fun c st => (c = true → Q true st) ∧ (c = false → Wp (y r fr st) Q)) : Wp (b_or x y r fr st) Q :=
  .bind (h.mono fun c st h => by
    cases c with
    | true => exact h.1 rfl
    | false => exact h.2 rfl)
theorem w_band {x y : XB} {Q : Bool → St → Prop} (h : Wp (x r fr st) fun c st => (c = true → Wp (y r fr st) Q) ∧ (c = false → Q false st)) : Wp (b_and x y r fr st) Q :=
  .bind (h.mono fun c st h => by
    cases c with
    | true => exact h.1 rfl
    | false => exact h.2 rfl)
def blQ (Q : Bool → St → Prop) (v : PV) (st : St) : Prop := ∃ c, v = .bl c ∧ Q c st
theorem w_isBl {Q : Bool → St → Prop} {v : PV} (h : blQ Q v st) : Wp (isBl v st) Q := by
  obtain ⟨c, rfl, h⟩ := h
  exact h
theorem w_bcmp {L : List (Nat × Nat)} {o : Cop} {a b : Y.X} {Q : Bool → St → Prop} (h : Wp (a r fr st) fun x st => Wp (b r fr st) fun y st => Wp (cmpV L o r x y st) (blQ Q)) : Wp (b_cmp L o a b r fr st) Q :=
  .bind ((w_cmp h).mono fun v st h => w_isBl h)
theorem w_bin2 {neg : Bool} {x y : Y.X} {Q : Bool → St → Prop} (h : Wp (x r fr st) fun a st => Wp (y r fr st) fun b st => Wp (inV neg a b st) (blQ Q)) : Wp (b_in neg x y r fr st) Q :=
  .bind ((w_in h).mono fun v st h => w_isBl h)
theorem w_chain {L : List (Nat × Nat)} {a b c : Y.X} {o o' : Cop} (h : Wp (a r fr st) fun x st => Wp (b r fr st) fun y st => Wp (cmpV L o r x y st) (blQ fun t st => (t = true → Wp (c r fr st) fun w st => Wp (cmpV L o' r y w st) Q) ∧ (t = false → Q (.bl false) st))) : Wp (e_chain L a o b o' c r fr st) Q :=
  .bind (h.mono fun x st h => .bind (h.mono fun y st h => .bind (h.mono fun z st h => by
    obtain ⟨t, rfl, h⟩ := h
    refine .bind ?_
    show (fun t st => Wp (match t with | true => (c r fr st).bind fun w st => cmpV L o' r y w st | false => .ok (.bl false) st) Q) t st
    cases t with
    | true => exact .bind (h.1 rfl)
    | false => exact h.2 rfl)))
theorem w_bchain {L : List (Nat × Nat)} {a b c : Y.X} {o o' : Cop} {Q : Bool → St → Prop} (h : Wp (e_chain L a o b o' c r fr st) (blQ Q)) : Wp (b_chain L a o b o' c r fr st) Q := .bind (h.mono fun v st h => w_isBl h)
theorem w_bT {Q : Bool → St → Prop} (q : Q true st) : Wp (bT r fr st) Q := q
theorem blQ.mk {Q : Bool → St → Prop} {c : Bool} (h : Q c st) : blQ Q (.bl c) st := ⟨c, rfl, h⟩
/-! ### targets -/
theorem w_tv {i : Nat} {v : PV} {Q : Fr → St → Prop} (q : Q (setNth fr i (some v)) st) : Wp (t_v i v r fr st) Q := q
theorem w_ttup {n : Nat} {t : XTs} {xs : List PV} {Q : Fr → St → Prop} (hl : Nat.beq (len xs) n = true) (h : Wp (t xs r fr st) Q) : Wp (t_tup n t (.tup xs) r fr st) Q := by
  show Wp (if Nat.beq (len xs) n then t xs r fr st else .stuck 51) Q
  rw [if_pos hl]
  exact h
theorem w_tsCons {t : XT} {u : XTs} {v : PV} {vs : List PV} {Q : Fr → St → Prop} (h : Wp (t v r fr st) fun fr st => Wp (u vs r fr st) Q) : Wp (ts_cons t u (v :: vs) r fr st) Q := .bind h
theorem w_tsNil {Q : Fr → St → Prop} (q : Q fr st) : Wp (ts_nil [] r fr st) Q := q
theorem w_tattr {x : Y.X} {f : Nat} {L : List Nat} {w : PV} {Q : Fr → St → Prop} (h : Wp (x r fr st) fun v st => Wp (setFV f L v w st) fun _ st => Q fr st) : Wp (t_attr x f L w r fr st) Q :=
  .bind (h.mono fun v st h => .bind (h.mono fun _ st h => h))
theorem w_tsub {f : PV → PV → PV → St → R PV} {x y : Y.X} {v : PV} {Q : Fr → St → Prop} (h : Wp (x r fr st) fun a st => Wp (y r fr st) fun b st => Wp (f a b v st) fun _ st => Q fr st) : Wp (t_sub f x y v r fr st) Q :=
  .bind (h.mono fun a st h => .bind (h.mono fun b st h => .bind (h.mono fun _ st h => h)))
/-! ### statements -/
theorem w_seq {x y : XS} (h : Wf (x r fr st) (fun fr st => Wf (y r fr st) N Z) Z) : Wf (s_seq x y r fr st) N Z := by
  unfold s_seq
  cases e : x r fr st <;> rw [e] at h <;> exact h
theorem w_nil (q : N fr st) : Wf (s_nil r fr st) N Z := q
theorem w_toS {fr0 : Fr} {x : R Fr} (h : Wp x N) : Wf (toS fr0 x) N Z := by
  cases x with
  | ok a st => exact h
  | exc c a st => exact h.elim
  | stuck w => exact h.elim
theorem w_asg {t : XT} {x : Y.X} (h : Wp (x r fr st) fun v st => Wp (t v r fr st) N) : Wf (s_asg t x r fr st) N Z := w_toS (.bind h)
theorem w_ret {x : Y.X} (h : Wp (x r fr st) Z) : Wf (s_ret x r fr st) N Z := by
  unfold s_ret
  cases e : x r fr st <;> rw [e] at h <;> exact h
theorem w_if {c : XB} {x y : XS} (h : Wp (c r fr st) fun c st => (c = true → Wf (x r fr st) N Z) ∧ (c = false → Wf (y r fr st) N Z)) : Wf (s_if c x y r fr st) N Z := by
  unfold s_if
  cases e : c r fr st with
  | ok c st =>
    rw [e] at h
    cases c with
    | true => exact h.1 rfl
    | false => exact h.2 rfl
  | exc c a st => rw [e] at h; exact h.elim
  | stuck w => rw [e] at h; exact h.elim
theorem w_ex {x : Y.X} (h : Wp (x r fr st) fun _ st => N fr st) : Wf (s_ex x r fr st) N Z := by
  unfold s_ex
  cases e : x r fr st <;> rw [e] at h <;> exact h
theorem w_par2 {i j : Nat} {x y : Y.X} (h : Wp (x r fr st) fun v st => Wp (y r fr st) fun w st => N (setNth (setNth fr i (some v)) j (some w)) st) : Wf (s_par2 i j x y r fr st) N Z :=
  w_toS (.bind (h.mono fun v st h => .bind (h.mono fun w st h => h)))
theorem w_par3 {i j l : Nat} {x y z : Y.X} (h : Wp (x r fr st) fun v st => Wp (y r fr st) fun w st => Wp (z r fr st) fun q st => N (setNth (setNth (setNth fr i (some v)) j (some w)) l (some q)) st) : Wf (s_par3 i j l x y z r fr st) N Z :=
  w_toS (.bind (h.mono fun v st h => .bind (h.mono fun w st h => .bind (h.mono fun q st h => h))))
theorem w_aug {i : Nat} {o : Bop} {x : Y.X} {v : PV} (h : nth fr i = some (some v)) (q : Wp (x r fr st) fun w st => Wp (ipV o v w st) fun z st => N (setNth fr i (some z)) st) : Wf (s_augV i o x r fr st) N Z := by
  refine w_toS ?_
  rw [h]
  exact .bind (q.mono fun w st q => .bind (q.mono fun z st q => q))
/-! ### loops -/
theorem w_for {t : XT} {x : XI} {b : XS} (h : Wp (x r fr st) fun p st => Wf (forL t b p.2 r p.1 fr st) N Z) : Wf (s_for t x b r fr st) N Z := by
  unfold s_for
  cases e : x r fr st <;> rw [e] at h <;> exact h
/-- a for, with what holds ahead of the i-th item -/
theorem w_forL {t : XT} {b : XS} {gd : Gd} {items : List PV} (I : Nat → Fr → St → Prop) (h0 : I 0 fr st) (hg : ∀ i fr st, I i fr st → gdOk gd st = true)
    (step : ∀ i v fr st, items[i]? = some v → I i fr st → Wp (t v r fr st) fun fr st => Wf (b r fr st) (fun fr st => I (i + 1) fr st) Z) (fin : ∀ fr st, I items.length fr st → N fr st) : Wf (forL t b gd r items fr st) N Z := by
  suffices H : ∀ (l pre : List PV) fr st, items = pre ++ l → I pre.length fr st → Wf (forL t b gd r l fr st) N Z from H items [] fr st rfl h0
  intro l
  induction l with
  | nil =>
    intro pre fr st hl hk
    unfold forL
    rw [if_pos (hg _ fr st hk)]
    refine fin fr st ?_
    rw [hl, List.append_nil]
    exact hk
  | cons v l ih =>
    intro pre fr st hl hk
    unfold forL
    rw [if_pos (hg _ fr st hk)]
    have e1 : items[pre.length]? = some v := by rw [hl]; simp
    have h := step _ v fr st e1 hk
    cases e : t v r fr st with
    | ok fr2 st2 =>
      rw [e] at h
      have h : Wf (b r fr2 st2) (fun fr st => I (pre.length + 1) fr st) Z := h
      dsimp only
      cases e2 : b r fr2 st2 with
      | next fr3 st3 =>
        rw [e2] at h
        exact ih (pre ++ [v]) fr3 st3 (by rw [hl]; simp) (by rw [List.length_append]; exact h)
      | ret v st3 => rw [e2] at h; exact h
      | exc c a f s => rw [e2] at h; exact h.elim
      | stuck w => rw [e2] at h; exact h.elim
    | exc c a s => rw [e] at h; exact h.elim
    | stuck w => rw [e] at h; exact h.elim
/-- a while, with a measure -/
theorem w_whl {n : Nat} {c : XB} {x : XS} (m : Nat) (I : Nat → Fr → St → Prop) (hm : m < n) (h0 : I m fr st)
    (step : ∀ k fr st, I k fr st → Wp (c r fr st) fun b st => (b = true → Wf (x r fr st) (fun fr st => ∃ k', k' < k ∧ I k' fr st) Z) ∧ (b = false → N fr st)) : Wf (s_whl n c x r fr st) N Z := by
  show Wf (whl c x r n fr st) N Z
  induction n generalizing m fr st with
  | zero => exact absurd hm (Nat.not_lt_zero _)
  | succ n ih =>
    unfold whl
    have h := step m fr st h0
    cases e : c r fr st with
    | ok b st2 =>
      rw [e] at h
      cases b with
      | true =>
        have h := h.1 rfl
        dsimp only
        cases e2 : x r fr st2 with
        | next fr3 st3 =>
          rw [e2] at h
          obtain ⟨k', lt, h⟩ := h
          exact ih k' (by omega) h
        | ret v st3 => rw [e2] at h; exact h
        | exc c a f s => rw [e2] at h; exact h.elim
        | stuck w => rw [e2] at h; exact h.elim
      | false => exact h.2 rfl
    | exc c a s => rw [e] at h; exact h.elim
    | stuck w => rw [e] at h; exact h.elim
/-! ### comprehensions -/
theorem w_lcL {elt : Y.X} {t : XT} {tt : XB} {gd : Gd} {items : List PV} {Q : List PV → St → Prop} (I : Nat → List PV → St → Prop) (h0 : I 0 [] st) (hg : ∀ i ys st, I i ys st → gdOk gd st = true)
    (step : ∀ i v ys st, items[i]? = some v → I i ys st → Wp (t v r fr st) fun fr2 st => Wp (tt r fr2 st) fun c st => (c = true → Wp (elt r fr2 st) fun y st => I (i + 1) (ys ++ [y]) st) ∧ (c = false → I (i + 1) ys st))
    (fin : ∀ ys st, I items.length ys st → Q ys st) : Wp (lcL elt t tt gd r fr items st) Q := by
  suffices H : ∀ (l pre ys : List PV) st, items = pre ++ l → I pre.length ys st → Wp (lcL elt t tt gd r fr l st) fun zs st => Q (ys ++ zs) st from H items [] [] st rfl h0
  intro l
  induction l with
  | nil =>
    intro pre ys st hl hk
    unfold lcL
    rw [if_pos (hg _ ys st hk)]
    show Q (ys ++ []) st
    rw [List.append_nil]
    refine fin ys st ?_
    rw [hl, List.append_nil]
    exact hk
  | cons v l ih =>
    intro pre ys st hl hk
    unfold lcL
    rw [if_pos (hg _ ys st hk)]
    have e1 : items[pre.length]? = some v := by rw [hl]; simp
    refine .bind ((step _ v ys st e1 hk).mono fun fr2 st2 h => .bind (h.mono fun c st3 h => ?_))
    cases c with
    | true =>
      refine .bind ((h.1 rfl).mono fun y st4 h => .bind ((ih (pre ++ [v]) (ys ++ [y]) st4 (by rw [hl]; simp) (by rw [List.length_append]; exact h)).mono fun zs st5 h => ?_))
      rw [List.append_assoc] at h
      exact h
    | false => exact ih (pre ++ [v]) ys st3 (by rw [hl]; simp) (by rw [List.length_append]; exact h.2 rfl)
theorem w_lc {elt : Y.X} {vs : List Nat} {t : XT} {it : XI} {tt : XB} (h : Wp (it r fr st) fun p st => Wp (lcL elt t tt p.2 r (wipeF fr vs) p.1 st) fun ys s => okLen ys = true ∧ ∀ st', Kp s st' → At st' s.n (.lst 0 ys) → Q (.ref s.n) st') : Wp (e_lc elt vs t it tt r fr st) Q :=
by
  have h2 : Wp (lcV elt vs t it tt r fr st) fun ys s => okLen ys = true ∧ ∀ st', Kp s st' → At st' s.n (.lst 0 ys) → Q (.ref s.n) st' := .bind h
  exact .bind (h2.mono fun ys st h => by rw [if_pos h.1]; exact w_new h.2)
theorem w_dcL {kx vx : Y.X} {t : XT} {tt : XB} {gd : Gd} {items : List PV} {kvs : List (PV × PV)} {Q : List (PV × PV) → St → Prop} (I : Nat → List (PV × PV) → St → Prop) (h0 : I 0 kvs st) (hg : ∀ i ys st, I i ys st → gdOk gd st = true)
    (step : ∀ i v ys st, items[i]? = some v → I i ys st → Wp (t v r fr st) fun fr2 st => Wp (tt r fr2 st) fun c st => (c = true → Wp (kx r fr2 st) fun k st => Wp (vx r fr2 st) fun w st => keyOk k = true ∧ ∃ ys', kput ys k w = some ys' ∧ okLen ys' = true ∧ I (i + 1) ys' st) ∧ (c = false → I (i + 1) ys st))
    (fin : ∀ ys st, I items.length ys st → Q ys st) : Wp (dcL kx vx t tt gd r fr items kvs st) Q := by
  suffices H : ∀ (l pre : List PV) (ys : List (PV × PV)) st, items = pre ++ l → I pre.length ys st → Wp (dcL kx vx t tt gd r fr l ys st) Q from H items [] kvs st rfl h0
  intro l
  induction l with
  | nil =>
    intro pre ys st hl hk
    unfold dcL
    rw [if_pos (hg _ ys st hk)]
    refine fin ys st ?_
    rw [hl, List.append_nil]
    exact hk
  | cons v l ih =>
    intro pre ys st hl hk
    unfold dcL
    rw [if_pos (hg _ ys st hk)]
    have e1 : items[pre.length]? = some v := by rw [hl]; simp
    refine .bind ((step _ v ys st e1 hk).mono fun fr2 st2 h => .bind (h.mono fun c st3 h => ?_))
    cases c with
    | true =>
      refine .bind ((h.1 rfl).mono fun y st4 h => .bind (h.mono fun z st5 h => ?_))
      obtain ⟨h1, ys', h2, h3, h4⟩ := h
      rw [if_pos h1, h2]
      dsimp only
      rw [if_pos h3]
      exact ih (pre ++ [v]) ys' st5 (by rw [hl]; simp) (by rw [List.length_append]; exact h4)
    | false => exact ih (pre ++ [v]) ys st3 (by rw [hl]; simp) (by rw [List.length_append]; exact h.2 rfl)
theorem w_dc {kx vx : Y.X} {vs : List Nat} {t : XT} {it : XI} {tt : XB} (h : Wp (it r fr st) fun p st => Wp (dcL kx vx t tt p.2 r (wipeF fr vs) p.1 [] st) fun ys s => ∀ st', Kp s st' → At st' s.n (.dct 0 ys) → Q (.ref s.n) st') : Wp (e_dc kx vx vs t it tt r fr st) Q :=
  .bind (h.mono fun p st h => .bind (h.mono fun ys st h => w_new h))
/-! ### calls -/
theorem w_fn {fns : Nat → Option Df} {n i : Nat} {d : Df} {as vs : List PV} (hd : fns i = some d) (hf : fill d as = some vs) (h : Wf (d.body (ev fns n) (frame vs d.ns) st) (fun _ st => Q .non st) Q) : Wp (ev fns (n + 1) (.fn i) as st) Q := by
  show Wp (match fns i with | some d => runD d (ev fns n) as st | none => .stuck 132) Q
  rw [hd]
  show Wp (match fill d as with | some vs => endV (d.body (ev fns n) (frame vs d.ns) st) | none => .stuck 130) Q
  rw [hf]
  dsimp only
  cases e : d.body (ev fns n) (frame vs d.ns) st <;> rw [e] at h <;> exact h
end
end Y
end
section
set_option linter.all false
set_option maxRecDepth 100000
set_option maxHeartbeats 4000000
/-! P2: what the operators do to plain values. -/
namespace Y
open PySem
/-! ### plain data: vI, tuples, lists read out of the store -/
inductive Dt where
  | int (i : Int) | tup (l : List Dt) | lst (l : List Dt)
def Dt.py : Dt → PyData
  | .int i => .int i
  | .tup l => .tuple (l.attach.map fun ⟨x, _⟩ => x.py)
  | .lst l => .list (l.attach.map fun ⟨x, _⟩ => x.py)
theorem Dt.py_tup (l : List Dt) : (Dt.tup l).py = .tuple (l.map Dt.py) := by rw [Dt.py]; congr 1; simp
theorem Dt.py_lst (l : List Dt) : (Dt.lst l).py = .list (l.map Dt.py) := by rw [Dt.py]; congr 1; simp
theorem Dt.py_int (i : Int) : (Dt.int i).py = .int i := by rw [Dt.py]
theorem ff_iff {a b : Dt} (h : a ≠ b) : (false = true) ↔ a = b := ⟨fun e => (nomatch e), fun e => absurd e h⟩
mutual
theorem eqv_py : ∀ (a b : Dt), PyData.eqv a.py b.py = true ↔ a = b
  | .int i, .int j => by rw [Dt.py_int, Dt.py_int, PyData.eqv]; simp
  | .int i, .tup l => by rw [Dt.py_tup, Dt.py_int, PyData.eqv]; exact ff_iff nofun
  | .int i, .lst l => by rw [Dt.py_lst, Dt.py_int, PyData.eqv]; exact ff_iff nofun
  | .tup l, .int i => by rw [Dt.py_tup, Dt.py_int, PyData.eqv]; exact ff_iff nofun
  | .lst l, .int i => by rw [Dt.py_lst, Dt.py_int, PyData.eqv]; exact ff_iff nofun
  | .tup l, .lst k => by rw [Dt.py_lst, Dt.py_tup, PyData.eqv]; exact ff_iff nofun
  | .lst l, .tup k => by rw [Dt.py_lst, Dt.py_tup, PyData.eqv]; exact ff_iff nofun
  | .tup l, .tup k => by rw [Dt.py_tup, Dt.py_tup, PyData.eqv, Dt.tup.injEq]; exact eqv_pys l k
  | .lst l, .lst k => by rw [Dt.py_lst, Dt.py_lst, PyData.eqv, Dt.lst.injEq]; exact eqv_pys l k
theorem eqv_pys : ∀ (a b : List Dt), PyData.eqvAll (a.map Dt.py) (b.map Dt.py) = true ↔ a = b
  | [], [] => by simp [PyData.eqvAll]
  | [], _ :: _ => by rw [List.map_nil, List.map_cons, PyData.eqvAll]; simp
  | _ :: _, [] => by rw [List.map_nil, List.map_cons, PyData.eqvAll]; simp
  | x :: xs, y :: ys => by
    rw [List.map_cons, List.map_cons, PyData.eqvAll, Bool.and_eq_true, List.cons.injEq]
    exact and_congr (eqv_py x y) (eqv_pys xs ys)
end
instance : DecidableEq Dt := fun a b => decidable_of_iff _ (eqv_py a b)
theorem eqv_dec (a b : Dt) : PyData.eqv a.py b.py = decide (a = b) := by
  cases h : PyData.eqv a.py b.py with
  | true => exact (decide_eq_true ((eqv_py a b).mp h)).symm
  | false => exact (decide_eq_false fun e => by rw [(eqv_py a b).mpr e] at h; cases h).symm
/-- v reads d in st, k deep -/
def Rd (st : St) (k : Nat) (v : PV) (d : Dt) : Prop := datS st k v = some d.py
theorem rd_int {st : St} {k : Nat} {i : Int} : Rd st (k + 1) (.int i) (.int i) := by unfold Rd; rw [Dt.py_int]; rfl
theorem datL_map {f : PV → Option PyData} : ∀ {vs : List PV} {ds : List Dt}, vs.length = ds.length → (∀ (i : Nat) (v : PV) (d : Dt), vs[i]? = some v → ds[i]? = some d → f v = some d.py) → datL f vs = some (ds.map Dt.py)
  | [], [], _, _ => rfl
  | v :: vs, d :: ds, hl, h => by
    unfold datL
    rw [h 0 v d rfl rfl]
    dsimp only
    rw [datL_map (by simpa using hl) fun i v d a b => h (i + 1) v d (by rw [List.getElem?_cons_succ]; exact a) (by rw [List.getElem?_cons_succ]; exact b)]
    rfl
  | [], _ :: _, hl, _ => by simp at hl
  | _ :: _, [], hl, _ => by simp at hl
theorem rd_tup {st : St} {k : Nat} {vs : List PV} {ds : List Dt} (hl : vs.length = ds.length) (h : ∀ (i : Nat) (v : PV) (d : Dt), vs[i]? = some v → ds[i]? = some d → Rd st k v d) : Rd st (k + 1) (.tup vs) (.tup ds) := by
  unfold Rd
  rw [Dt.py_tup]
  show datT false (datL (datS st k) vs) = _
  rw [datL_map hl h]
  rfl
theorem rd_cl {st : St} {k : Nat} {vs : List PV} {ds : List Dt} (hl : vs.length = ds.length) (h : ∀ (i : Nat) (v : PV) (d : Dt), vs[i]? = some v → ds[i]? = some d → Rd st k v d) : Rd st (k + 1) (.cl vs) (.lst ds) := by
  unfold Rd
  rw [Dt.py_lst]
  show datT true (datL (datS st k) vs) = _
  rw [datL_map hl h]
  rfl
theorem rd_lst {st : St} {k a w : Nat} {vs : List PV} {ds : List Dt} (ha : At st a (.lst w vs)) (hl : vs.length = ds.length) (h : ∀ (i : Nat) (v : PV) (d : Dt), vs[i]? = some v → ds[i]? = some d → Rd st k v d) : Rd st (k + 1) (.ref a) (.lst ds) := by
  unfold Rd
  rw [Dt.py_lst]
  show datC (datS st k) (st.get a) = _
  rw [ha.get]
  show (match datL (datS st k) vs with | some ds => some (PyData.list ds) | none => none) = _
  rw [datL_map hl h]
def vI (l : List Int) : List PV := l.map PV.int
def dI (l : List Int) : List Dt := l.map Dt.int
theorem rd_ints {st : St} {k : Nat} {l : List Int} (i : Nat) (v : PV) (d : Dt) (h1 : (vI l)[i]? = some v) (h2 : (dI l)[i]? = some d) : Rd st (k + 1) v d := by
  unfold vI at h1
  unfold dI at h2
  rw [List.getElem?_map] at h1 h2
  cases e : l[i]? with
  | none => rw [e] at h1; cases h1
  | some x =>
    rw [e] at h1 h2
    cases h1
    cases h2
    exact rd_int
theorem rd_tups {st : St} {k : Nat} {l : List Int} : Rd st (k + 2) (.tup (vI l)) (.tup (dI l)) := rd_tup (by simp [vI, dI]) rd_ints
theorem dints_inj {a b : List Int} : dI a = dI b ↔ a = b := by
  constructor
  · intro h
    unfold dI at h
    exact (List.map_inj_right (fun x y h => by cases h; rfl)).mp h
  · rintro rfl; rfl
section
variable {L : List (Nat × Nat)} {r : Ev} {st : St} {Q : PV → St → Prop}
theorem clsAt_ref {a : Nat} {c : Cell} (h : At st a c) : clsAt st (.ref a) = match c with | .ins c _ => some c | _ => none := by
  unfold clsAt
  simp only [h.get]
  cases c <;> rfl
theorem w_eqD {neg : Bool} {a b : PV} {d e : Dt} (hc : clsAt st a = none) (h1 : Rd st DD a d) (h2 : Rd st DD b e) (q : Q (.bl (if neg then !decide (d = e) else decide (d = e))) st) : Wp (eqX L neg r a b st) Q := by
  unfold eqX
  rw [hc]
  dsimp only
  unfold eqD
  have h1 : datS st DD a = some d.py := h1
  have h2 : datS st DD b = some e.py := h2
  rw [h1, h2]
  dsimp only
  rw [eqv_dec]
  exact q
theorem w_eq {a b : PV} {d e : Dt} (hc : clsAt st a = none) (h1 : Rd st DD a d) (h2 : Rd st DD b e) (q : Q (.bl (decide (d = e))) st) : Wp (cmpV L .eq r a b st) Q := w_eqD hc h1 h2 q
theorem w_ne {a b : PV} {d e : Dt} (hc : clsAt st a = none) (h1 : Rd st DD a d) (h2 : Rd st DD b e) (q : Q (.bl (!decide (d = e))) st) : Wp (cmpV L .ne r a b st) Q := w_eqD (neg := true) hc h1 h2 q
theorem w_eqI {a b : Int} (q : Q (.bl (decide (a = b))) st) : Wp (cmpV L .eq r (.int a) (.int b) st) Q := w_eq (d := .int a) (e := .int b) rfl rd_int rd_int (by simpa using q)
theorem w_neI {a b : Int} (q : Q (.bl (!decide (a = b))) st) : Wp (cmpV L .ne r (.int a) (.int b) st) Q := w_ne (d := .int a) (e := .int b) rfl rd_int rd_int (by simpa using q)
theorem w_neT {a b : List Int} (q : Q (.bl (!decide (a = b))) st) : Wp (cmpV L .ne r (.tup (vI a)) (.tup (vI b)) st) Q := w_ne (d := .tup (dI a)) (e := .tup (dI b)) rfl rd_tups rd_tups (by simpa [dints_inj] using q)
theorem w_eqT {a b : List Int} (q : Q (.bl (decide (a = b))) st) : Wp (cmpV L .eq r (.tup (vI a)) (.tup (vI b)) st) Q := w_eq (d := .tup (dI a)) (e := .tup (dI b)) rfl rd_tups rd_tups (by simpa [dints_inj] using q)
theorem datS_bl {k : Nat} {c : Bool} : datS st (k + 1) (.bl c) = some (.bool c) := rfl
theorem w_eqB {a b : Bool} (q : Q (.bl (a == b)) st) : Wp (cmpV L .eq r (.bl a) (.bl b) st) Q := by
  show Wp (okB (some (PyData.eqv (.bool a) (.bool b))) false st 30) Q
  rw [PyData.eqv]
  exact q
theorem w_neB {a b : Bool} (q : Q (.bl (!(a == b))) st) : Wp (cmpV L .ne r (.bl a) (.bl b) st) Q := by
  show Wp (okB (some (PyData.eqv (.bool a) (.bool b))) true st 30) Q
  rw [PyData.eqv]
  exact q
theorem w_lt {a b : Int} (q : Q (.bl (decide (a < b))) st) : Wp (cmpV L .lt r (.int a) (.int b) st) Q := by
  show Q (.bl (intLt a b)) st
  rw [intLt_dec]; exact q
theorem w_le {a b : Int} (q : Q (.bl (decide (a ≤ b))) st) : Wp (cmpV L .le r (.int a) (.int b) st) Q := by
  show Q (.bl (!intLt b a)) st
  rw [intLt_dec, ← decide_not]
  simpa [Int.not_lt] using q
theorem w_ge {a b : Int} (q : Q (.bl (decide (b ≤ a))) st) : Wp (cmpV L .ge r (.int a) (.int b) st) Q := by
  show Q (.bl (!intLt a b)) st
  rw [intLt_dec, ← decide_not]
  simpa [Int.not_lt] using q
theorem w_isNon {a : PV} (h : a = .non ∨ (∃ xs, a = .tup xs)) (q : Q (.bl (match a with | .non => true | _ => false)) st) : Wp (cmpV L .is_ r a .non st) Q := by
  rcases h with rfl | ⟨xs, rfl⟩ <;> exact q
/-! ### arithmetic -/
theorem w_addI {a b : Int} (q : Q (.int (a + b)) st) : Wp (bopV .add (.int a) (.int b) st) Q := q
theorem w_subI {a b : Int} (q : Q (.int (a - b)) st) : Wp (bopV .sub (.int a) (.int b) st) Q := q
theorem w_modI {a b : Int} (h : b ≠ 0) (q : Q (.int (Int.fmod a b)) st) : Wp (bopV .mod (.int a) (.int b) st) Q := by
  show Wp (if intEq b 0 then .stuck 9 else .ok (.int (Int.fmod a b)) st) Q
  rw [intEq_dec, if_neg (by simpa using h)]
  exact q
theorem w_fdivI {a b : Int} (h : b ≠ 0) (hb : b.natAbs < 1073741824) (q : Q (.int (Int.fdiv a b)) st) : Wp (bopV .fdiv (.int a) (.int b) st) Q := by
  show Wp (if intEq b 0 then .stuck 8 else if natLt b.natAbs 1073741824 then .ok (.int (Int.fdiv a b)) st else .stuck 8) Q
  rw [intEq_dec, if_neg (by simpa using h), if_pos (by unfold natLt; rw [Nat.ble_eq]; exact hb)]
  exact q
theorem w_mulI {a b : Int} (h : a.natAbs < b64 ∨ b.natAbs < b64) (q : Q (.int (a * b)) st) : Wp (bopV .mul (.int a) (.int b) st) Q := by
  show Wp (if natLt a.natAbs b64 || natLt b.natAbs b64 then .ok (.int (a * b)) st else .stuck 7) Q
  rw [if_pos]
  · exact q
  · rw [Bool.or_eq_true, natLt_iff, natLt_iff]
    exact h
theorem w_addT {a b : List PV} (h : okLen (a ++ b) = true) (q : Q (.tup (a ++ b)) st) : Wp (bopV .add (.tup a) (.tup b) st) Q := by
  show Wp (if okLen (a ++ b) then .ok (.tup (a ++ b)) st else .stuck 5) Q
  rw [if_pos h]
  exact q
theorem w_addL {a b w u : Nat} {xs ys : List PV} (h1 : At st a (.lst w xs)) (h2 : At st b (.lst u ys)) (h : okLen (xs ++ ys) = true) (q : ∀ st', Kp st st' → At st' st.n (.lst 0 (xs ++ ys)) → Q (.ref st.n) st') : Wp (bopV .add (.ref a) (.ref b) st) Q := by
  show Wp (match st.get a, st.get b with
      | some (.lst _ xs), some (.lst _ ys) => if okLen (xs ++ ys) then .ok (.ref st.n) (st.new (.lst 0 (xs ++ ys))) else .stuck 3
      | _, _ => .stuck 3) Q
  rw [h1.get, h2.get]
  dsimp only
  rw [if_pos h]
  exact q _ kp_new at_new
theorem repL_map : ∀ (n : Nat) (x : PV), repL n [x] = List.replicate n x
  | 0, _ => rfl
  | n + 1, x => by
    show [x] ++ repL n [x] = _
    rw [repL_map n x, List.replicate_succ]
    rfl
theorem w_mulT1 {x : PV} {n : Int} (h1 : 1 ≤ n) (h2 : n < 1001) (q : Q (.tup (List.replicate n.toNat x)) st) : Wp (bopV .mul (.tup [x]) (.int n) st) Q := by
  show Wp (if intEq n 1 then .ok (.tup [x]) st else if intLt 1 n && (intLt n 1001 && (Nat.ble 1 (len [x]) && Nat.ble (len [x]) 1000)) then .ok (.tup (repL n.toNat [x])) st else .stuck 7) Q
  rw [intEq_dec]
  by_cases c : n = 1
  · subst c
    rw [if_pos (by simp)]
    exact q
  · rw [if_neg (by simpa using c), if_pos, repL_map]
    · exact q
    · rw [intLt_dec, intLt_dec]
      simp [len]
      omega
theorem w_mulL1 {a w : Nat} {x : PV} {n : Int} (h : At st a (.lst w [x])) (h1 : 0 ≤ n) (h2 : n < 1001) (q : ∀ st', Kp st st' → At st' st.n (.lst 0 (List.replicate n.toNat x)) → Q (.ref st.n) st') : Wp (bopV .mul (.ref a) (.int n) st) Q := by
  show Wp (match st.get a with
      | some (.lst _ xs) => if natLt n.natAbs lim && Nat.ble (len xs * n.toNat) lim then .ok (.ref st.n) (st.new (.lst 0 (repL n.toNat xs))) else .stuck 7
      | _ => .stuck 7) Q
  rw [h.get]
  dsimp only
  rw [if_pos, repL_map]
  · exact q _ kp_new at_new
  · rw [Bool.and_eq_true, natLt_iff, Nat.ble_eq]
    simp [len, lim]
    omega
/-! ### places -/
theorem len_map {α β : Type} (f : α → β) (l : List α) : len (l.map f) = len l := by rw [len_eq, len_eq, List.length_map]
end
end Y
end
section
set_option linter.all false
set_option maxRecDepth 100000
set_option maxHeartbeats 4000000
/-! P3: places, dicts, fields, walks. -/
namespace Y
open PySem
section
variable {L : List (Nat × Nat)} {r : Ev} {fr : Fr} {st : St} {Q : PV → St → Prop}
theorem atV_nat {xs : List PV} {i : Nat} {v : PV} (h : xs[i]? = some v) : atV xs (i : Nat) = some v := by
  have hi : i < xs.length := (List.getElem?_eq_some_iff.mp h).1
  unfold atV
  have : atN (len xs) (i : Nat) = some i := by
    show (if natLt i (len xs) then some i else none) = some i
    rw [if_pos (by rw [natLt_iff, len_eq]; exact hi)]
  rw [this]
  dsimp only
  rw [nth_eq, h]
theorem w_getT {xs : List PV} {n : Int} {i : Nat} {v : PV} (h : xs[i]? = some v) (e : n = i) (q : Q v st) : Wp (getV (.tup xs) (.int n) st) Q := by
  subst e
  show Wp (someV (atV xs (i : Nat)) st 71) Q
  rw [atV_nat h]
  exact q
theorem dctV_lst {a w : Nat} {xs : List PV} (h : At st a (.lst w xs)) : dctV st (.ref a) = none := by
  show (match st.get a with | some (.dct w kvs) => some (a, w, kvs) | _ => none) = none
  rw [h.get]
theorem dctV_dct {a w : Nat} {kvs : List (PV × PV)} (h : At st a (.dct w kvs)) : dctV st (.ref a) = some (a, w, kvs) := by
  show (match st.get a with | some (.dct w kvs) => some (a, w, kvs) | _ => none) = _
  rw [h.get]
theorem w_getL {a w : Nat} {xs : List PV} {n : Int} {i : Nat} {v : PV} (ha : At st a (.lst w xs)) (h : xs[i]? = some v) (e : n = i) (q : Q v st) : Wp (getV (.ref a) (.int n) st) Q := by
  subst e
  show Wp (match dctV st (.ref a) with | some (_, _, kvs) => getK kvs (.int (i : Nat)) st | none => getS (.ref a) (.int (i : Nat)) st) Q
  rw [dctV_lst ha]
  show Wp (getL (st.get a) (.int (i : Nat)) st) Q
  rw [ha.get]
  show Wp (someV (atV xs (i : Nat)) st 71) Q
  rw [atV_nat h]
  exact q
/-! ### dicts over keys of one kind -/
structure KE {α : Type} [DecidableEq α] (e : α → PV) : Prop where
  ok : ∀ a, keyOk (e a) = true
  eq : ∀ a b, deqK (e a) (e b) = some (decide (a = b))
def emb {α : Type} (e : α → PV) : List (α × PV) → List (PV × PV)
  | [] => []
  | (k, v) :: l => (e k, v) :: emb e l
def lkp {α : Type} [DecidableEq α] : List (α × PV) → α → Option PV
  | [], _ => none
  | (k, v) :: l, x => if k = x then some v else lkp l x
def put {α : Type} [DecidableEq α] : List (α × PV) → α → PV → List (α × PV)
  | [], x, v => [(x, v)]
  | (k, w) :: l, x, v => if k = x then (k, v) :: l else (k, w) :: put l x v
theorem ke_int : KE (fun i : Int => PV.int i) := ⟨fun _ => rfl, fun a b => by show some (intEq a b) = _; rw [intEq_dec]⟩
def pkE (p : Int × Int) : PV := .tup [.int p.1, .int p.2]
theorem ke_pair : KE pkE := ⟨fun _ => rfl, fun a b => by
  show all2 (deq 7) [.int a.1, .int a.2] [.int b.1, .int b.2] = _
  have h : ∀ x y : Int, deq 7 (.int x) (.int y) = some (decide (x = y)) := fun x y => by show some (intEq x y) = _; rw [intEq_dec]
  unfold all2
  rw [h]
  by_cases c : a.1 = b.1
  · rw [decide_eq_true c]
    dsimp only
    unfold all2
    rw [h]
    by_cases c2 : a.2 = b.2
    · rw [decide_eq_true c2]
      dsimp only
      unfold all2
      first | rfl | rw [decide_eq_true (Prod.ext c c2)]
    · rw [decide_eq_false c2, decide_eq_false (fun e => c2 (by rw [e]))]
  · rw [decide_eq_false c, decide_eq_false (fun e => c (by rw [e]))]⟩
section
variable {α : Type} [DecidableEq α] {e : α → PV}
theorem kget_emb (E : KE e) : ∀ (l : List (α × PV)) (x : α), kget (emb e l) (e x) = some (lkp l x)
  | [], _ => rfl
  | (k, v) :: l, x => by
    unfold emb kget lkp
    rw [E.eq]
    by_cases c : k = x
    · rw [decide_eq_true c, if_pos c]
    · rw [decide_eq_false c, if_neg c]
      exact kget_emb E l x
theorem kput_emb (E : KE e) : ∀ (l : List (α × PV)) (x : α) (v : PV), kput (emb e l) (e x) v = some (emb e (put l x v))
  | [], _, _ => rfl
  | (k, w) :: l, x, v => by
    unfold emb kput put
    rw [E.eq]
    by_cases c : k = x
    · rw [decide_eq_true c, if_pos c]
      try rfl
    · rw [decide_eq_false c, if_neg c]
      dsimp only
      rw [kput_emb E l x v]
      try rfl
theorem put_new : ∀ {l : List (α × PV)} {x : α} {v : PV}, lkp l x = none → put l x v = l ++ [(x, v)]
  | [], _, _, _ => rfl
  | (k, w) :: l, x, v, h => by
    unfold lkp at h
    unfold put
    by_cases c : k = x
    · rw [if_pos c] at h; cases h
    · rw [if_neg c] at h
      rw [if_neg c, put_new h]
      rfl
theorem lkp_none {l : List (α × PV)} {x : α} : lkp l x = none ↔ x ∉ l.map (·.1) := by
  induction l with
  | nil => simp [lkp]
  | cons p l ih =>
    obtain ⟨k, v⟩ := p
    unfold lkp
    by_cases c : k = x
    · rw [if_pos c]; simp [c]
    · rw [if_neg c, ih]
      have c' : ¬ x = k := fun z => c z.symm
      simp [c']
theorem lkp_mem {l : List (α × PV)} {x : α} {v : PV} (h : lkp l x = some v) : (x, v) ∈ l := by
  induction l with
  | nil => cases h
  | cons p l ih =>
    obtain ⟨k, w⟩ := p
    unfold lkp at h
    by_cases c : k = x
    · rw [if_pos c] at h; cases h; subst c; exact List.mem_cons_self
    · rw [if_neg c] at h; exact List.mem_cons_of_mem _ (ih h)
theorem lkp_put {l : List (α × PV)} {x y : α} {v : PV} : lkp (put l x v) y = if x = y then some v else lkp l y := by
  induction l with
  | nil => unfold put lkp; rfl
  | cons p l ih =>
    obtain ⟨k, w⟩ := p
    unfold put
    by_cases c : k = x
    · rw [if_pos c]
      unfold lkp
      subst c
      by_cases c2 : k = y
      · rw [if_pos c2, if_pos c2]
      · rw [if_neg c2, if_neg c2, if_neg c2]
    · rw [if_neg c]
      unfold lkp
      by_cases c2 : k = y
      · rw [if_pos c2, if_pos c2, if_neg (fun z => c (c2.trans z.symm))]
      · rw [if_neg c2, if_neg c2, ih]
theorem put_len {l : List (α × PV)} {x : α} {v : PV} : (put l x v).length ≤ l.length + 1 := by
  induction l with
  | nil => exact Nat.le_refl _
  | cons p l ih =>
    obtain ⟨k, w⟩ := p
    unfold put
    by_cases c : k = x
    · rw [if_pos c]; simp
    · rw [if_neg c]; simpa using ih
theorem emb_len (l : List (α × PV)) : (emb e l).length = l.length := by
  induction l with
  | nil => rfl
  | cons p l ih => simp [emb, ih]
theorem emb_fst (l : List (α × PV)) : fstL (emb e l) = l.map fun p => e p.1 := by
  induction l with
  | nil => rfl
  | cons p l ih => simp [emb, fstL, ih]
theorem emb_snd (l : List (α × PV)) : sndL (emb e l) = l.map fun p => p.2 := by
  induction l with
  | nil => rfl
  | cons p l ih => simp [emb, sndL, ih]
theorem emb_pair (l : List (α × PV)) : pairL (emb e l) = l.map fun p => .tup [e p.1, p.2] := by
  induction l with
  | nil => rfl
  | cons p l ih => simp [emb, pairL, ih]
variable {a w : Nat} {l : List (α × PV)}
theorem w_getD (E : KE e) {x : α} {v : PV} (h : At st a (.dct w (emb e l))) (hv : lkp l x = some v) (q : Q v st) : Wp (getV (.ref a) (e x) st) Q := by
  show Wp (match dctV st (.ref a) with | some (_, _, kvs) => getK kvs (e x) st | none => getS (.ref a) (e x) st) Q
  rw [dctV_dct h]
  show Wp (if keyOk (e x) then (match kget (emb e l) (e x) with | some (some v) => .ok v st | _ => .stuck 110) else .stuck 110) Q
  rw [if_pos (E.ok x), kget_emb E, hv]
  exact q
theorem w_inD (E : KE e) {neg : Bool} {x : α} (h : At st a (.dct w (emb e l))) (q : Q (.bl (if neg then !(lkp l x).isSome else (lkp l x).isSome)) st) : Wp (inV neg (e x) (.ref a) st) Q := by
  show Wp (match dctV st (.ref a) with | some (_, _, kvs) => inK neg kvs (e x) st | none => okB (inD (e x) (.ref a) st) neg st 31) Q
  rw [dctV_dct h]
  show Wp (if keyOk (e x) then (match kget (emb e l) (e x) with | some o => .ok (.bl (if neg then !o.isSome else o.isSome)) st | none => .stuck 111) else .stuck 111) Q
  rw [if_pos (E.ok x), kget_emb E]
  exact q
theorem w_setD (E : KE e) {x : α} {v : PV} (h : At st a (.dct w (emb e l))) (hl : l.length < lim) (q : ∀ st', Up a st st' → At st' a (.dct (w + 1) (emb e (put l x v))) → Q .non st') : Wp (setV (.ref a) (e x) v st) Q := by
  show Wp (match dctV st (.ref a) with | some (x', w, kvs) => putK' x' w kvs (e x) v st | none => setLV (.ref a) (e x) v st) Q
  rw [dctV_dct h]
  dsimp only
  unfold putK'
  rw [if_pos (E.ok x), kput_emb E]
  dsimp only
  rw [if_pos (by rw [okLen_iff, emb_len]; exact Nat.le_trans put_len hl)]
  exact q _ up_set (at_set h.lt)
theorem w_getOr (E : KE e) {x : α} {d : PV} (h : At st a (.dct w (emb e l))) (q : Q ((lkp l x).getD d) st) : Wp (m_get (.ref a) [e x, d] st) Q := by
  show Wp (match dctV st (.ref a) with
    | some (_, _, kvs) => getOr kvs (e x) d st
    | none => .stuck 115) Q
  rw [dctV_dct h]
  dsimp only
  unfold getOr
  rw [if_pos (E.ok x), kget_emb E]
  cases g : lkp l x with
  | none => rw [g] at q; exact q
  | some v => rw [g] at q; exact q
theorem w_setdef (E : KE e) {x : α} {d : PV} (h : At st a (.dct w (emb e l))) (hl : l.length < lim) (q1 : ∀ v, lkp l x = some v → Q v st) (q2 : lkp l x = none → ∀ st', Up a st st' → At st' a (.dct (w + 1) (emb e (put l x d))) → Q d st') : Wp (m_setdefault (.ref a) [e x, d] st) Q := by
  show Wp (match dctV st (.ref a) with
    | some (x', w, kvs) => setDef x' w kvs (e x) d st
    | none => .stuck 116) Q
  rw [dctV_dct h]
  dsimp only
  unfold setDef
  rw [if_pos (E.ok x), kget_emb E]
  cases g : lkp l x with
  | some v => exact q1 v g
  | none =>
    dsimp only
    rw [kput_emb E]
    dsimp only
    rw [if_pos (by rw [okLen_iff, emb_len]; exact Nat.le_trans put_len hl)]
    exact q2 g _ up_set (at_set h.lt)
end
/-! ### lists -/
theorem isLst_at {a w : Nat} {xs : List PV} (h : At st a (.lst w xs)) : isLst (.ref a) st = true := by
  show (match st.get a with | some (.lst _ _) => true | _ => false) = true
  rw [h.get]
theorem w_append {a w : Nat} {xs : List PV} {v : PV} (h : At st a (.lst w xs)) (hl : xs.length < lim) (q : ∀ st', Up a st st' → At st' a (.lst (w + 1) (xs ++ [v])) → Q .non st') : Wp (m_append (.ref a) [v] st) Q := by
  show Wp (appO a v st (st.get a)) Q
  rw [h.get]
  show Wp (if Nat.ble (len xs + 1) lim then .ok .non (st.set a (.lst (w + 1) (xs ++ [v]))) else .stuck 101) Q
  rw [if_pos (by rw [Nat.ble_eq, len_eq]; exact hl)]
  exact q _ up_set (at_set h.lt)
theorem lastV_app : ∀ (xs : List PV) (v : PV), lastV (xs ++ [v]) = some v ∧ butLast (xs ++ [v]) = xs
  | [], _ => ⟨rfl, rfl⟩
  | [x], v => ⟨rfl, rfl⟩
  | x :: y :: r, v => by
    obtain ⟨a, b⟩ := lastV_app (y :: r) v
    exact ⟨a, by show x :: butLast ((y :: r) ++ [v]) = _; rw [b]⟩
theorem w_pop {a w : Nat} {xs : List PV} {v : PV} (h : At st a (.lst w (xs ++ [v]))) (q : ∀ st', Up a st st' → At st' a (.lst (w + 1) xs) → Q v st') : Wp (m_pop (.ref a) [] st) Q := by
  show Wp (popO a st (st.get a)) Q
  rw [h.get]
  unfold popO
  dsimp only
  rw [(lastV_app xs v).1, (lastV_app xs v).2]
  exact q _ up_set (at_set h.lt)
theorem setNth_set {α : Type} : ∀ (l : List α) (i : Nat) (v : α), setNth l i v = l.set i v
  | [], _, _ => rfl
  | x :: r, 0, v => rfl
  | x :: r, i + 1, v => by
    show x :: setNth r i v = x :: r.set i v
    rw [setNth_set r i v]
theorem w_setL {a w : Nat} {xs : List PV} {n : Int} {i : Nat} {v : PV} (h : At st a (.lst w xs)) (hi : i < xs.length) (e : n = i) (q : ∀ st', Up a st st' → At st' a (.lst (w + 1) (xs.set i v)) → Q .non st') : Wp (setV (.ref a) (.int n) v st) Q := by
  subst e
  show Wp (match dctV st (.ref a) with | some (x', w, kvs) => putK' x' w kvs (.int (i : Nat)) v st | none => setLV (.ref a) (.int (i : Nat)) v st) Q
  rw [dctV_lst h]
  show Wp (setLO (.int (i : Nat)) v a st (st.get a)) Q
  rw [h.get]
  show Wp (match atN (len xs) (i : Nat) with | some j => .ok .non (st.set a (.lst (w + 1) (setNth xs j v))) | none => .stuck 103) Q
  have : atN (len xs) (i : Nat) = some i := by
    show (if natLt i (len xs) then some i else none) = some i
    rw [if_pos (by rw [natLt_iff, len_eq]; exact hi)]
  rw [this]
  dsimp only
  rw [setNth_set]
  exact q _ up_set (at_set h.lt)
theorem seqV_tup {xs : List PV} : seqV st (.tup xs) = some xs := rfl
theorem seqV_at {a w : Nat} {xs : List PV} (h : At st a (.lst w xs)) : seqV st (.ref a) = some xs := by
  show (match st.get a with | some (.lst _ xs) => some xs | _ => none) = _
  rw [h.get]
theorem w_tup1 {v : PV} {xs : List PV} (h : seqV st v = some xs) (q : Q (.tup xs) st) : Wp (tup1 v st) Q := by
  unfold tup1; rw [h]; exact q
theorem w_lst1 {v : PV} {xs : List PV} (h : seqV st v = some xs) (q : ∀ st', Kp st st' → At st' st.n (.lst 0 xs) → Q (.ref st.n) st') : Wp (lst1 v st) Q := by
  unfold lst1; rw [h]; exact w_new q
theorem w_lenS {v : PV} {xs : List PV} (h : seqV st v = some xs) (q : Q (.int (xs.length : Nat)) st) : Wp (lenB' L r [v] st) Q := by
  rw [← len_eq] at q
  cases v with
  | tup ys => cases h; exact q
  | cl ys => cases h; exact q
  | ref a =>
    have h : (match st.get a with | some (.lst _ xs) => some xs | _ => none) = some xs := h
    cases g : st.get a with
    | none => rw [g] at h; cases h
    | some c =>
      rw [g] at h
      cases c with
      | lst w ys =>
        cases h
        have e : dctV st (.ref a) = none := by
          show (match st.get a with | some (.dct w kvs) => some (a, w, kvs) | _ => none) = none
          rw [g]
        show Wp (match dctV st (.ref a) with | some (_, _, kvs) => .ok (.int (len kvs)) st | none => len1 L r (.ref a) st) Q
        rw [e]
        show Wp (lenC L r (.ref a) st (st.get a)) Q
        rw [g]
        exact q
      | _ => cases h
  | _ => cases h
theorem w_lenD {α : Type} [DecidableEq α] {e : α → PV} {a w : Nat} {l : List (α × PV)} (h : At st a (.dct w (emb e l))) (q : Q (.int (l.length : Nat)) st) : Wp (lenB' L r [.ref a] st) Q := by
  show Wp (match dctV st (.ref a) with | some (_, _, kvs) => .ok (.int (len kvs)) st | none => len1 L r (.ref a) st) Q
  rw [dctV_dct h]
  dsimp only
  rw [len_eq, emb_len]
  exact q
/-! ### fields -/
theorem w_fld {f : Nat} {Ls : List Nat} {a c : Nat} {fs : List (Nat × PV)} {v : PV} (h : At st a (.ins c fs)) (hm : memN c Ls = true) (hl : look fs f = some v) (q : Q v st) : Wp (fldV f Ls (.ref a) st) Q := by
  show Wp (fldO f Ls st (st.get a)) Q
  rw [h.get]
  show Wp (if memN c Ls then (match look fs f with | some w => .ok w st | none => .stuck 41) else .stuck 40) Q
  rw [if_pos hm, hl]
  exact q
theorem w_setF {f : Nat} {Ls : List Nat} {a c : Nat} {fs : List (Nat × PV)} {v : PV} (h : At st a (.ins c fs)) (hm : (memN c Ls && Nat.ble (len fs) 500) = true) (q : ∀ st', Up a st st' → At st' a (.ins c (putF fs f v)) → Q .non st') : Wp (setFV f Ls (.ref a) v st) Q := by
  show Wp (setFO f Ls v a st (st.get a)) Q
  rw [h.get]
  show Wp (if memN c Ls && Nat.ble (len fs) 500 then .ok .non (st.set a (.ins c (putF fs f v))) else .stuck 52) Q
  rw [if_pos hm]
  exact q _ up_set (at_set h.lt)
theorem metV_at {m : Nat} {ms : List (Nat × Nat)} {a c i : Nat} {fs : List (Nat × PV)} (h : At st a (.ins c fs)) (h1 : look fs m = none) (h2 : look ms c = some i) : metV m ms (.ref a) st = some i := by
  show metO m ms (st.get a) = _
  rw [h.get]
  show (match look fs m with | none => look ms c | some _ => none) = _
  rw [h1]
  exact h2
/-! ### kinds, truth -/
theorem w_isiV {f : Nat → Nat → Option Bool} {Ls cs : List Nat} {v : PV} {t : Nat} {b : Bool} (h : tyCode Ls st v = some t) (hb : isiAny f t cs = some b) (q : Q (.bl b) st) : Wp (isiV f Ls cs v st) Q := by
  unfold isiV
  rw [h]
  dsimp only
  rw [hb]
  exact q
theorem ty_lst {Ls : List Nat} {a w : Nat} {xs : List PV} (h : At st a (.lst w xs)) : tyCode Ls st (.ref a) = some 3 := by
  show tyO Ls (st.get a) = _
  rw [h.get]
  rfl
theorem ty_ins {Ls : List Nat} {a c : Nat} {fs : List (Nat × PV)} (h : At st a (.ins c fs)) (hm : memN c Ls = true) : tyCode Ls st (.ref a) = some (100 + c) := by
  show tyO Ls (st.get a) = _
  rw [h.get]
  show (if memN c Ls then some (100 + c) else none) = _
  rw [if_pos hm]
theorem w_truB {BL : List (Nat × Option Nat)} {b : Bool} {Q : Bool → St → Prop} (q : Q b st) : Wp (truX BL r (.bl b) st) Q := q
/-! ### walks -/
variable {W : List PV × Gd → St → Prop}
theorem w_iany {x : Y.X} (h : Wp (x r fr st) fun v st => Wp (anyI v st) W) : Wp (i_any x r fr st) W := .bind h
theorem w_ivals {x : Y.X} (h : Wp (x r fr st) fun v st => Wp (valsI v st) W) : Wp (i_vals x r fr st) W := .bind h
theorem w_iitems {x : Y.X} (h : Wp (x r fr st) fun v st => Wp (pairI v st) W) : Wp (i_items x r fr st) W := .bind h
theorem w_anyT {xs : List PV} (q : W (xs, []) st) : Wp (anyI (.tup xs) st) W := q
theorem w_anyC {xs : List PV} (q : W (xs, []) st) : Wp (anyI (.cl xs) st) W := q
theorem w_anyL {a w : Nat} {xs : List PV} (h : At st a (.lst w xs)) (q : W (xs, [(a, w)]) st) : Wp (anyI (.ref a) st) W := by
  unfold anyI
  rw [dctV_lst h]
  show Wp (match st.get a with | some (.lst w xs) => .ok (xs, [(a, w)]) st | _ => .stuck 62) W
  rw [h.get]
  exact q
theorem w_anyD {a w : Nat} {kvs : List (PV × PV)} (h : At st a (.dct w kvs)) (q : W (fstL kvs, [(a, w)]) st) : Wp (anyI (.ref a) st) W := by
  unfold anyI
  rw [dctV_dct h]
  exact q
theorem w_valsD {a w : Nat} {kvs : List (PV × PV)} (h : At st a (.dct w kvs)) (q : W (sndL kvs, [(a, w)]) st) : Wp (valsI (.ref a) st) W := by
  unfold valsI
  rw [dctV_dct h]
  exact q
theorem w_pairD {a w : Nat} {kvs : List (PV × PV)} (h : At st a (.dct w kvs)) (q : W (pairL kvs, [(a, w)]) st) : Wp (pairI (.ref a) st) W := by
  unfold pairI
  rw [dctV_dct h]
  exact q
theorem upTo_map : ∀ (n : Nat) (a : Int), upTo a n = (List.range n).map fun i => .int (a + (i : Nat))
  | 0, _ => rfl
  | n + 1, a => by
    unfold upTo
    rw [upTo_map n (a + 1), List.range_succ_eq_map]
    simp only [List.map_cons, List.map_map]
    congr 1
    · simp
    · apply List.map_congr_left
      intro i _
      simp
      omega
def rgN (n : Nat) : List PV := (List.range n).map fun i => .int (i : Nat)
theorem w_rng1 {x : Y.X} (h : Wp (x r fr st) fun v st => ∃ n : Nat, v = .int (n : Nat) ∧ n < 4611686018427387904 ∧ W (rgN n, []) st) : Wp (i_rng1 x r fr st) W :=
  .bind (h.mono fun v st h => by
    obtain ⟨n, rfl, hn, q⟩ := h
    show Wp (rngI 0 (n : Nat) st) W
    unfold rngI
    rw [if_pos (by unfold okR; rw [Bool.and_eq_true, natLt_iff, natLt_iff]; exact ⟨by decide, by simpa using hn⟩), upTo_map]
    have : ((n : Int) - 0).toNat = n := by omega
    rw [this]
    simp only [Int.zero_add]
    exact q)
theorem w_lstRg1 {x : Y.X} (h : Wp (x r fr st) fun v s => ∃ n : Nat, v = .int (n : Nat) ∧ n ≤ lim ∧ ∀ st', Kp s st' → At st' s.n (.lst 0 (rgN n)) → Q (.ref s.n) st') : Wp (e_lstRg1 x r fr st) Q :=
  .bind (h.mono fun v st h => by
    obtain ⟨n, rfl, hn, q⟩ := h
    show Wp (lstRg 0 (n : Nat) st) Q
    unfold lstRg
    have : ((n : Int) - 0).toNat = n := by omega
    rw [if_pos (by rw [this]; unfold okR; rw [Bool.and_eq_true, Bool.and_eq_true, natLt_iff, natLt_iff, Nat.ble_eq]; exact ⟨by decide, by simp; unfold lim at hn; omega, hn⟩), upTo_map, this]
    simp only [Int.zero_add]
    exact w_new q)
theorem w_enum {x : Y.X} (h : Wp (x r fr st) fun v st => ∃ xs gd, seqG st v = some (xs, gd) ∧ W (enumL 0 xs, gd) st) : Wp (i_enum x r fr st) W :=
  .bind (h.mono fun v st h => by
    obtain ⟨xs, gd, e, q⟩ := h
    rw [e]
    exact q)
theorem seqG_at {a w : Nat} {xs : List PV} (h : At st a (.lst w xs)) : seqG st (.ref a) = some (xs, [(a, w)]) := by
  show (match st.get a with | some (.lst w xs) => some (xs, [(a, w)]) | _ => none) = _
  rw [h.get]
theorem w_zip2 {a : XA} (h : Wp (a r fr st) fun vs st => ∃ u v xs ys g1 g2, vs = [u, v] ∧ seqG st u = some (xs, g1) ∧ seqG st v = some (ys, g2) ∧ W ((List.zipWith (fun x y => PV.tup [x, y]) xs ys), g1 ++ (g2 ++ [])) st) : Wp (i_zip a r fr st) W :=
  .bind (h.mono fun vs st h => by
    obtain ⟨u, v, xs, ys, g1, g2, rfl, e1, e2, q⟩ := h
    have z : ∀ xs ys : List PV, zipL [xs, ys] = List.zipWith (fun x y => PV.tup [x, y]) xs ys := by
      intro xs
      show ∀ ys, zipF xs [xs, ys] = _
      induction xs with
      | nil => intro ys; rfl
      | cons x xs ih =>
        intro ys
        cases ys with
        | nil => rfl
        | cons y ys =>
          show PV.tup [x, y] :: zipF xs [xs, ys] = _
          rw [ih ys]
          rfl
    show Wp (match seqsG st [u, v] with | some (ls, gd) => .ok (zipL ls, gd) st | none => .stuck 67) W
    unfold seqsG
    rw [e1]
    dsimp only
    unfold seqsG
    rw [e2]
    dsimp only
    unfold seqsG
    dsimp only
    show W (zipL [xs, ys], g1 ++ (g2 ++ [])) st
    rw [z]
    exact q)
theorem gd_nil : gdOk [] st = true := rfl
theorem gd_lst {a w : Nat} {xs : List PV} {g : Gd} (h : At st a (.lst w xs)) (t : gdOk g st = true) : gdOk ((a, w) :: g) st = true := by
  unfold gdOk
  rw [h.get]
  show (if Nat.beq w w then gdOk g st else false) = true
  rw [Nat.beq_refl, if_pos rfl]
  exact t
theorem gd_dct {a w : Nat} {kvs : List (PV × PV)} {g : Gd} (h : At st a (.dct w kvs)) (t : gdOk g st = true) : gdOk ((a, w) :: g) st = true := by
  unfold gdOk
  rw [h.get]
  show (if Nat.beq w w then gdOk g st else false) = true
  rw [Nat.beq_refl, if_pos rfl]
  exact t
theorem rgN_get {n i : Nat} {v : PV} (h : (rgN n)[i]? = some v) : i < n ∧ v = .int (i : Nat) := by
  unfold rgN at h
  rw [List.getElem?_map] at h
  rcases Nat.lt_or_ge i n with c | c
  · rw [List.getElem?_range c] at h
    cases h
    exact ⟨c, rfl⟩
  · rw [List.getElem?_eq_none (by simpa using c)] at h
    cases h
theorem rgN_len {n : Nat} : (rgN n).length = n := by simp [rgN]
end
end Y
end
section
set_option linter.all false
set_option maxRecDepth 100000
/-! the compiled bodies, printed -/
namespace YL
open Y
abbrev EQ : List (Nat × Nat) := [(0, 4), (1, 15), (2, 19)]
abbrev LN : List (Nat × Nat) := [(0, 5)]
abbrev IL : List Nat := [0, 1, 2]
abbrev BL : List (Nat × Option Nat) := [(1, some 16), (2, some 20)]
abbrev IS : Nat → Nat → Option Bool := isLook [(0, [(0, true), (1, false), (3, false), (4, false), (100, false), (101, false), (102, false)]), (1, [(0, true), (1, true), (3, false), (4, false), (100, false), (101, false), (102, false)]), (2, [(0, false), (1, false), (3, false), (4, false), (100, false), (101, false), (102, false)]), (3, [(0, false), (1, false), (3, true), (4, false), (100, false), (101, false), (102, false)]), (4, [(0, false), (1, false), (3, false), (4, true), (100, false), (101, false), (102, false)]), (5, [(0, false), (1, false), (3, false), (4, false), (100, false), (101, false), (102, false)]), (6, [(0, false), (1, false), (3, false), (4, false), (100, false), (101, false), (102, false)]), (100, [(0, false), (1, false), (3, false), (4, false), (100, true), (101, false), (102, false)]), (101, [(0, false), (1, false), (3, false), (4, false), (100, false), (101, true), (102, false)]), (102, [(0, false), (1, false), (3, false), (4, false), (100, false), (101, false), (102, true)])]
/-- the law's defs -/
structure Tbl (F : Nat → Option Df) : Prop where
  f0 : F 0 = some ⟨1, false, 1, [], (s_ret (e_and BL (e_isi IS IL (0 :: []) (e_var 0)) (e_not BL (e_isi IS IL (1 :: []) (e_var 0)))))⟩
  f1 : F 1 = some ⟨3, false, 4, [], (s_seq (s_if (b_or (b_not (b_val BL (e_isi IS IL (4 :: []) (e_var 0)))) (b_or (b_cmp EQ Cop.ne (e_biR (lenB' LN) (aCons (e_var 0) aNil)) (e_cst (.int 2))) (b_or (b_not (b_val BL (e_call 0 (aCons (e_sub (e_var 0) (e_cst (.int 0))) aNil)))) (b_not (b_chain EQ (e_cst (.int 0)) Cop.le (e_sub (e_var 0) (e_cst (.int 0))) Cop.lt (e_var 2)))))) (s_ret (e_cst (PV.bl false))) s_nil) (s_seq (s_if (b_or (b_not (b_val BL (e_isi IS IL (4 :: []) (e_sub (e_var 0) (e_cst (.int 1)))))) (b_cmp EQ Cop.ne (e_biR (lenB' LN) (aCons (e_sub (e_var 0) (e_cst (.int 1))) aNil)) (e_var 1))) (s_ret (e_cst (PV.bl false))) s_nil) (s_ret (e_biR (fun x => (on1 all1)) (aCons (e_lc (e_and BL (e_call 0 (aCons (e_var 3) aNil)) (e_cmp EQ Cop.ge (e_var 3) (e_cst (.int 0)))) (3 :: []) (t_v 3) (i_any (e_sub (e_var 0) (e_cst (.int 1)))) bT) aNil)))))⟩
  f2 : F 2 = some ⟨4, false, 5, [], (s_seq (s_if (b_or (b_not (b_val BL (e_isi IS IL (3 :: (4 :: [])) (e_var 0)))) (b_cmp EQ Cop.ne (e_biR (lenB' LN) (aCons (e_var 0) aNil)) (e_var 1))) (s_ret (e_cst (PV.bl false))) s_nil) (s_ret (e_biR (fun x => (on1 all1)) (aCons (e_lc (e_call 1 (aCons (e_var 4) (aCons (e_var 2) (aCons (e_var 3) aNil)))) (4 :: []) (t_v 4) (i_any (e_var 0)) bT) aNil))))⟩
  f3 : F 3 = some ⟨4, false, 5, [], (s_seq (s_if (b_or (b_not (b_val BL (e_call 0 (aCons (e_var 1) aNil)))) (b_not (b_chain EQ (e_cst (.int 1)) Cop.le (e_var 1) Cop.le (e_cst (.int 4))))) s_never s_nil) (s_seq (s_if (b_or (b_not (b_val BL (e_call 0 (aCons (e_var 2) aNil)))) (b_not (b_chain EQ (e_cst (.int 1)) Cop.le (e_var 2) Cop.le (e_cst (.int 4))))) s_never s_nil) (s_seq (s_if (b_or (b_not (b_val BL (e_isi IS IL (3 :: (4 :: [])) (e_var 3)))) (b_not (b_chain EQ (e_cst (.int 1)) Cop.le (e_biR (lenB' LN) (aCons (e_var 3) aNil)) Cop.le (e_cst (.int 60))))) s_never s_nil) (s_seq (s_if (b_not (b_val BL (e_biR (fun x => (on1 all1)) (aCons (e_lc (e_call 2 (aCons (e_var 4) (aCons (e_var 1) (aCons (e_var 2) (aCons (e_biR (lenB' LN) (aCons (e_var 3) aNil)) aNil))))) (4 :: []) (t_v 4) (i_any (e_var 3)) bT) aNil)))) s_never s_nil) (s_seq (s_asg (t_attr (e_var 0) 1 (0 :: [])) (e_var 1)) (s_seq (s_asg (t_attr (e_var 0) 4 (0 :: [])) (e_var 2)) (s_asg (t_attr (e_var 0) 6 (0 :: [])) (e_lc (e_biR (fun x => (on1 lst1)) (aCons (e_var 4) aNil)) (4 :: []) (t_v 4) (i_any (e_var 3)) bT))))))))⟩
  f4 : F 4 = some ⟨2, false, 2, [], (s_seq (s_if (b_not (b_val BL (e_isi IS IL (100 :: []) (e_var 1)))) (s_ret (e_cst (PV.bl false))) s_nil) (s_ret (e_cmp EQ Cop.eq (e_tup (aCons (e_attr (e_var 0) 1 (0 :: [])) (aCons (e_attr (e_var 0) 4 (0 :: [])) (aCons (e_attr (e_var 0) 6 (0 :: [])) aNil)))) (e_tup (aCons (e_attr (e_var 1) 1 (0 :: [])) (aCons (e_attr (e_var 1) 4 (0 :: [])) (aCons (e_attr (e_var 1) 6 (0 :: [])) aNil)))))))⟩
  f5 : F 5 = some ⟨1, false, 1, [], (s_ret (e_biR (lenB' LN) (aCons (e_attr (e_var 0) 6 (0 :: [])) aNil)))⟩
  f6 : F 6 = some ⟨1, false, 1, [], (s_if (b_not (b_val BL (e_isi IS IL (100 :: []) (e_var 0)))) s_never s_nil)⟩
  f7 : F 7 = some ⟨2, false, 4, [], (s_seq (s_if (b_not (b_val BL (e_isi IS IL (3 :: (4 :: [])) (e_var 1)))) s_never s_nil) (s_for (t_tup 2 (ts_cons (t_v 2) (ts_cons (t_v 3) ts_nil))) (i_enum (e_var 1)) (s_if (b_or (b_not (b_val BL (e_call 0 (aCons (e_var 3) aNil)))) (b_not (b_chain EQ (e_cst (.int 0)) Cop.le (e_var 3) Cop.lt (e_attr (e_var 0) 1 (0 :: []))))) s_never s_nil)))⟩
  f8 : F 8 = some ⟨2, false, 4, [], (s_ret (e_biR (fun x => (on1 tup1)) (aCons (e_lc (e_bin Bop.add (e_var 2) (e_var 3)) (2 :: (3 :: [])) (t_tup 2 (ts_cons (t_v 2) (ts_cons (t_v 3) ts_nil))) (i_zip (aCons (e_var 0) (aCons (e_var 1) aNil))) bT) aNil)))⟩
  f9 : F 9 = some ⟨3, false, 6, ((PV.int (Int.ofNat 0)) :: []), (s_seq (s_asg (t_v 3) (e_bin Bop.mul (e_tup (aCons (e_cst (.int 0)) aNil)) (e_attr (e_var 0) 4 (0 :: [])))) (s_seq (s_for (t_v 4) (i_any (e_var 1)) (s_seq (s_asg (t_tup 2 (ts_cons (t_v 2) (ts_cons (t_v 5) ts_nil))) (e_sub (e_sub (e_attr (e_var 0) 6 (0 :: [])) (e_var 2)) (e_var 4))) (s_asg (t_v 3) (e_call 8 (aCons (e_var 3) (aCons (e_var 5) aNil)))))) (s_ret (e_tup (aCons (e_var 2) (aCons (e_var 3) aNil))))))⟩
  f10 : F 10 = some ⟨2, false, 2, [], (s_seq (s_ex (e_call 6 (aCons (e_var 0) aNil))) (s_seq (s_ex (e_call 7 (aCons (e_var 0) (aCons (e_var 1) aNil)))) (s_ret (e_sub (e_call 9 (aCons (e_var 0) (aCons (e_var 1) aNil))) (e_cst (.int 1))))))⟩
  f11 : F 11 = some ⟨2, false, 2, [], (s_seq (s_ex (e_call 6 (aCons (e_var 0) aNil))) (s_seq (s_ex (e_call 7 (aCons (e_var 0) (aCons (e_var 1) aNil)))) (s_ret (e_sub (e_call 9 (aCons (e_var 0) (aCons (e_var 1) aNil))) (e_cst (.int 0))))))⟩
  f12 : F 12 = some ⟨1, false, 7, [], (s_seq (s_par2 1 2 (e_dct1 (e_cst (.int 0)) (e_tup aNil)) (e_lst (aCons (e_cst (.int 0)) aNil))) (s_seq (s_asg (t_v 3) (e_cst (.int 0))) (s_seq (s_whl 100000 (b_cmp EQ Cop.lt (e_var 3) (e_biR (lenB' LN) (aCons (e_var 2) aNil))) (s_seq (s_asg (t_v 4) (e_sub (e_var 2) (e_var 3))) (s_seq (s_for (t_v 5) (i_rng1 (e_attr (e_var 0) 1 (0 :: []))) (s_seq (s_asg (t_v 6) (e_sub (e_sub (e_sub (e_attr (e_var 0) 6 (0 :: [])) (e_var 4)) (e_var 5)) (e_cst (.int 0)))) (s_if (b_in true (e_var 6) (e_var 1)) (s_seq (s_asg (t_sub setV (e_var 1) (e_var 6)) (e_tup (aStar (e_sub (e_var 1) (e_var 4)) (aCons (e_var 5) aNil)))) (s_ex (e_lm m_append (e_var 2) (aCons (e_var 6) aNil)))) s_nil))) (s_augV 3 Bop.add (e_cst (.int 1)))))) (s_ret (e_var 1)))))⟩
  f13 : F 13 = some ⟨2, false, 13, [], (s_seq (s_asg (t_v 2) (e_call 12 (aCons (e_var 0) aNil))) (s_seq (s_asg (t_v 4) (e_dc (e_var 3) (e_cst (.int 0)) (3 :: []) (t_v 3) (i_any (e_var 2)) bT)) (s_seq (s_asg (t_v 5) (e_cst (.int 0))) (s_seq (s_whl 100000 (b_cmp EQ Cop.ne (e_var 5) (e_biR (lenB' LN) (aCons (e_dc (e_var 11) (e_cst (PV.bl true)) (11 :: []) (t_v 11) (i_vals (e_var 4)) bT) aNil))) (s_seq (s_asg (t_v 5) (e_biR (lenB' LN) (aCons (e_dc (e_var 11) (e_cst (PV.bl true)) (11 :: []) (t_v 11) (i_vals (e_var 4)) bT) aNil))) (s_seq (s_par2 6 7 e_dct0 e_dct0) (s_seq (s_for (t_v 3) (i_any (e_var 2)) (s_seq (s_asg (t_v 8) (e_lst (aCons (e_sub (e_var 4) (e_var 3)) aNil))) (s_seq (s_for (t_tup 2 (ts_cons (t_v 9) (ts_cons (t_v 10) ts_nil))) (i_any (e_sub (e_attr (e_var 0) 6 (0 :: [])) (e_var 3))) (s_ex (e_lm m_append (e_var 8) (aCons (e_tup (aCons (e_sub (e_var 4) (e_var 9)) (aCons (e_biR (fun x => (on1 tup1)) (aCons (e_lc (e_sub (e_var 10) (e_var 12)) (12 :: []) (t_v 12) (i_any (e_var 1)) bT) aNil)) aNil))) aNil)))) (s_asg (t_sub setV (e_var 7) (e_var 3)) (e_dm m_setdefault (e_var 6) (aCons (e_biR (fun x => (on1 tup1)) (aCons (e_var 8) aNil)) (aCons (e_biR (lenB' LN) (aCons (e_var 6) aNil)) aNil))))))) (s_asg (t_v 4) (e_var 7)))))) (s_ret (e_var 4))))))⟩
  f14 : F 14 = some ⟨2, false, 2, [], (s_asg (t_attr (e_var 0) 0 (1 :: [])) (e_biR (fun x => (on1 lst1)) (aCons (e_var 1) aNil)))⟩
  f15 : F 15 = some ⟨2, false, 2, [], (s_ret (e_and BL (e_isi IS IL (101 :: []) (e_var 1)) (e_cmp EQ Cop.eq (e_attr (e_var 0) 0 (1 :: [])) (e_attr (e_var 1) 0 (1 :: [])))))⟩
  f16 : F 16 = some ⟨1, false, 1, [], (s_ret (e_cst (PV.bl true)))⟩
  f17 : F 17 = some ⟨2, false, 6, [], (s_seq (s_ex (e_call 6 (aCons (e_var 1) aNil))) (s_seq (s_asg (t_v 2) (e_call 12 (aCons (e_var 1) aNil))) (s_seq (s_if (b_or (b_cmp EQ Cop.ne (e_biR (lenB' LN) (aCons (e_attr (e_var 0) 0 (1 :: [])) aNil)) (e_biR (lenB' LN) (aCons (e_var 1) aNil))) (b_not (b_val BL (e_biR (fun x => (on1 all1)) (aCons (e_lc (e_call 0 (aCons (e_var 3) aNil)) (3 :: []) (t_v 3) (i_any (e_attr (e_var 0) 0 (1 :: []))) bT) aNil))))) (s_ret (e_cst (PV.bl false))) s_nil) (s_seq (s_for (t_tup 2 (ts_cons (t_v 4) (ts_cons (t_v 3) ts_nil))) (i_enum (e_attr (e_var 0) 0 (1 :: []))) (s_if (b_or (b_cmp EQ Cop.lt (e_var 3) (e_neg (e_cst (.int 1)))) (b_cmp EQ Cop.eq (e_cmp EQ Cop.eq (e_var 3) (e_neg (e_cst (.int 1)))) (e_in false (e_var 4) (e_var 2)))) (s_ret (e_cst (PV.bl false))) s_nil)) (s_seq (s_asg (t_v 5) (e_dc (e_var 4) (e_sub (e_attr (e_var 0) 0 (1 :: [])) (e_var 4)) (4 :: []) (t_v 4) (i_any (e_var 2)) bT)) (s_ret (e_and BL (e_call 22 (aCons (e_var 1) (aCons (e_var 5) aNil))) (e_cmp EQ Cop.is_ (e_call 24 (aCons (e_var 1) (aCons (e_var 5) aNil))) (e_cst PV.non)))))))))⟩
  f18 : F 18 = some ⟨3, false, 3, [], (s_seq (s_asg (t_attr (e_var 0) 2 (2 :: [])) (e_biR (fun x => (on1 lst1)) (aCons (e_var 1) aNil))) (s_asg (t_attr (e_var 0) 3 (2 :: [])) (e_biR (fun x => (on1 lst1)) (aCons (e_var 2) aNil))))⟩
  f19 : F 19 = some ⟨2, false, 2, [], (s_ret (e_and BL (e_isi IS IL (102 :: []) (e_var 1)) (e_cmp EQ Cop.eq (e_tup (aCons (e_attr (e_var 0) 2 (2 :: [])) (aCons (e_attr (e_var 0) 3 (2 :: [])) aNil))) (e_tup (aCons (e_attr (e_var 1) 2 (2 :: [])) (aCons (e_attr (e_var 1) 3 (2 :: [])) aNil))))))⟩
  f20 : F 20 = some ⟨1, false, 1, [], (s_ret (e_cst (PV.bl false)))⟩
  f21 : F 21 = some ⟨2, false, 3, [], (s_seq (s_ex (e_call 6 (aCons (e_var 1) aNil))) (s_seq (s_if (b_not (b_val BL (e_biR (fun x => (on1 all1)) (aCons (e_lc (e_and BL (e_call 0 (aCons (e_var 2) aNil)) (e_chain EQ (e_cst (.int 0)) Cop.le (e_var 2) Cop.lt (e_attr (e_var 1) 1 (0 :: [])))) (2 :: []) (t_v 2) (i_any (e_bin Bop.add (e_attr (e_var 0) 2 (2 :: [])) (e_attr (e_var 0) 3 (2 :: [])))) bT) aNil)))) (s_ret (e_cst (PV.bl false))) s_nil) (s_seq (s_if (b_cmp EQ Cop.ne (e_biR (fun x => (on1 sort1)) (aCons (e_attr (e_var 0) 2 (2 :: [])) aNil)) (e_biR (fun x => (on1 sort1)) (aCons (e_attr (e_var 0) 3 (2 :: [])) aNil))) (s_ret (e_cst (PV.bl false))) s_nil) (s_ret (e_cmp EQ Cop.ne (e_sub (e_call 9 (aCons (e_var 1) (aCons (e_attr (e_var 0) 2 (2 :: [])) aNil))) (e_cst (.int 1))) (e_sub (e_call 9 (aCons (e_var 1) (aCons (e_attr (e_var 0) 3 (2 :: [])) aNil))) (e_cst (.int 1))))))))⟩
  f22 : F 22 = some ⟨2, false, 8, [], (s_seq (s_asg (t_v 2) e_dct0) (s_seq (s_for (t_tup 2 (ts_cons (t_v 3) (ts_cons (t_v 4) ts_nil))) (i_items (e_var 1)) (s_seq (s_asg (t_v 5) (e_lc (e_tup (aCons (e_sub (e_var 1) (e_var 6)) (aCons (e_var 7) aNil))) (6 :: (7 :: [])) (t_tup 2 (ts_cons (t_v 6) (ts_cons (t_v 7) ts_nil))) (i_any (e_sub (e_attr (e_var 0) 6 (0 :: [])) (e_var 3))) bT)) (s_if (b_cmp EQ Cop.ne (e_dm m_setdefault (e_var 2) (aCons (e_var 4) (aCons (e_var 5) aNil))) (e_var 5)) (s_ret (e_cst (PV.bl false))) s_nil))) (s_ret (e_cst (PV.bl true)))))⟩
  f23 : F 23 = some ⟨4, false, 8, [], (s_seq (s_asg (t_tup 2 (ts_cons (t_v 4) (ts_cons (t_v 5) ts_nil))) (e_sub (e_sub (e_attr (e_var 0) 6 (0 :: [])) (e_var 1)) (e_var 2))) (s_seq (s_asg (t_tup 2 (ts_cons (t_v 6) (ts_cons (t_v 7) ts_nil))) (e_sub (e_sub (e_attr (e_var 0) 6 (0 :: [])) (e_var 4)) (e_var 3))) (s_ret (e_tup (aCons (e_var 6) (aCons (e_call 8 (aCons (e_var 5) (aCons (e_var 7) aNil))) aNil))))))⟩
  f24 : F 24 = some ⟨2, false, 9, [], (s_seq (s_for (t_v 2) (i_any (e_var 1)) (s_for (t_v 3) (i_rng1 (e_attr (e_var 0) 1 (0 :: []))) (s_for (t_v 4) (i_rng1 (e_var 3)) (s_seq (s_asg (t_tup 2 (ts_cons (t_v 5) (ts_cons (t_v 6) ts_nil))) (e_call 23 (aCons (e_var 0) (aCons (e_var 2) (aCons (e_var 4) (aCons (e_var 3) aNil)))))) (s_seq (s_asg (t_tup 2 (ts_cons (t_v 7) (ts_cons (t_v 8) ts_nil))) (e_call 23 (aCons (e_var 0) (aCons (e_var 2) (aCons (e_var 3) (aCons (e_var 4) aNil)))))) (s_if (b_or (b_cmp EQ Cop.ne (e_var 6) (e_var 8)) (b_cmp EQ Cop.ne (e_sub (e_var 1) (e_var 5)) (e_sub (e_var 1) (e_var 7)))) (s_ret (e_tup (aCons (e_var 2) (aCons (e_var 4) (aCons (e_var 3) aNil))))) s_nil)))))) (s_ret (e_cst PV.non)))⟩
  f25 : F 25 = some ⟨3, false, 12, [], (s_seq (s_par3 3 4 5 (e_dct1 (e_tup (aCons (e_var 1) (aCons (e_var 2) aNil))) (e_tup aNil)) (e_lst (aCons (e_tup (aCons (e_var 1) (aCons (e_var 2) aNil))) aNil)) (e_cst (.int 0))) (s_whl 100000 (b_val BL (e_cst (PV.bl true))) (s_seq (s_asg (t_v 6) (e_sub (e_var 4) (e_var 5))) (s_seq (s_for (t_v 7) (i_rng1 (e_attr (e_var 0) 1 (0 :: []))) (s_seq (s_asg (t_tup 2 (ts_cons (t_v 8) (ts_cons (t_v 9) ts_nil))) (e_sub (e_sub (e_attr (e_var 0) 6 (0 :: [])) (e_sub (e_var 6) (e_cst (.int 0)))) (e_var 7))) (s_seq (s_asg (t_tup 2 (ts_cons (t_v 10) (ts_cons (t_v 11) ts_nil))) (e_sub (e_sub (e_attr (e_var 0) 6 (0 :: [])) (e_sub (e_var 6) (e_cst (.int 1)))) (e_var 7))) (s_seq (s_if (b_cmp EQ Cop.ne (e_var 9) (e_var 11)) (s_ret (e_tup (aStar (e_sub (e_var 3) (e_var 6)) (aCons (e_var 7) aNil)))) s_nil) (s_if (b_in true (e_tup (aCons (e_var 8) (aCons (e_var 10) aNil))) (e_var 3)) (s_seq (s_asg (t_sub setV (e_var 3) (e_tup (aCons (e_var 8) (aCons (e_var 10) aNil)))) (e_tup (aStar (e_sub (e_var 3) (e_var 6)) (aCons (e_var 7) aNil)))) (s_ex (e_lm m_append (e_var 4) (aCons (e_tup (aCons (e_var 8) (aCons (e_var 10) aNil))) aNil)))) s_nil))))) (s_augV 5 Bop.add (e_cst (.int 1)))))))⟩
  f26 : F 26 = some ⟨1, false, 12, [], (s_seq (s_ex (e_call 6 (aCons (e_var 0) aNil))) (s_seq (s_asg (t_v 1) (e_call 13 (aCons (e_var 0) (aCons (e_lstRg1 (e_attr (e_var 0) 4 (0 :: []))) aNil)))) (s_seq (s_asg (t_v 2) (e_call 24 (aCons (e_var 0) (aCons (e_var 1) aNil)))) (s_seq (s_if (b_cmp EQ Cop.is_ (e_var 2) (e_cst PV.non)) (s_ret (e_make 1 14 (aCons (e_lc (e_dm m_get (e_var 1) (aCons (e_var 3) (aCons (e_neg (e_cst (.int 1))) aNil))) (3 :: []) (t_v 3) (i_rng1 (e_biR (lenB' LN) (aCons (e_var 0) aNil))) bT) aNil))) s_nil) (s_seq (s_asg (t_tup 3 (ts_cons (t_v 3) (ts_cons (t_v 4) (ts_cons (t_v 5) ts_nil)))) (e_var 2)) (s_seq (s_asg (t_v 6) (e_sub (e_call 12 (aCons (e_var 0) aNil)) (e_var 3))) (s_seq (s_asg (t_tup 2 (ts_cons (t_v 7) (ts_cons (t_v 8) ts_nil))) (e_call 23 (aCons (e_var 0) (aCons (e_var 3) (aCons (e_var 4) (aCons (e_var 5) aNil)))))) (s_seq (s_asg (t_tup 2 (ts_cons (t_v 9) (ts_cons (t_v 10) ts_nil))) (e_call 23 (aCons (e_var 0) (aCons (e_var 3) (aCons (e_var 5) (aCons (e_var 4) aNil)))))) (s_seq (s_asg (t_v 11) (e_ife (b_cmp EQ Cop.ne (e_var 8) (e_var 10)) (e_tup aNil) (e_call 25 (aCons (e_var 0) (aCons (e_var 7) (aCons (e_var 9) aNil)))))) (s_ret (e_make 2 18 (aCons (e_lst (aStar (e_var 6) (aCons (e_var 4) (aCons (e_var 5) (aStar (e_var 11) aNil))))) (aCons (e_lst (aStar (e_var 6) (aCons (e_var 5) (aCons (e_var 4) (aStar (e_var 11) aNil))))) aNil)))))))))))))⟩
  f27 : F 27 = some ⟨3, false, 8, [], (s_seq (s_asg (t_v 3) (e_ife (b_cmp EQ Cop.ne (e_var 0) (e_lst aNil)) (e_sl (e_var 0) oN (oS (e_cst (.int 60)))) (e_lst (aCons (e_cst (.int 7)) aNil)))) (s_seq (s_par2 4 5 (e_sub (e_var 3) (e_bin Bop.mod (e_var 1) (e_biR (lenB' LN) (aCons (e_var 3) aNil)))) (e_bin Bop.fdiv (e_var 1) (e_biR (lenB' LN) (aCons (e_var 3) aNil)))) (s_seq (s_if (b_cmp EQ Cop.ge (e_var 4) (e_bin Bop.pow (e_cst (.int 10)) (e_cst (.int 18)))) (s_seq (s_asg (t_v 4) (e_bin Bop.mod (e_biR (fun x => (on1 int1)) (aCons (e_var 4) aNil)) (e_bin Bop.pow (e_cst (.int 97)) (e_cst (.int 40))))) (s_seq (s_for (t_v 6) (i_rng1 (e_bin Bop.mod (e_var 5) (e_cst (.int 40)))) (s_asg (t_v 4) (e_bin Bop.fdiv (e_var 4) (e_cst (.int 97))))) (s_ret (e_bin Bop.mod (e_bin Bop.mod (e_biR (fun x => (on1 int1)) (aCons (e_var 4) aNil)) (e_cst (.int 97))) (e_var 2))))) s_nil) (s_seq (s_asg (t_v 7) (e_bin Bop.add (e_bin Bop.mul (e_bin Bop.add (e_bin Bop.add (e_bin Bop.mod (e_biR (fun x => (on1 int1)) (aCons (e_bin Bop.add (e_var 4) (e_bin Bop.mul (e_cst (.int 31)) (e_var 5))) aNil)) (e_cst (.int 1000003))) (e_bin Bop.mul (e_cst (.int 977)) (e_var 1))) (e_cst (.int 13))) (e_cst (.int 48271))) (e_bin Bop.mod (e_biR (fun x => (on1 int1)) (aCons (e_bin Bop.fdiv (e_var 4) (e_cst (.int 1000003))) aNil)) (e_cst (.int 999983))))) (s_ret (e_bin Bop.mod (e_biR (fun x => (on1 int1)) (aCons (e_bin Bop.mod (e_bin Bop.mul (e_bin Bop.mod (e_var 7) (e_cst (.int 2147483647))) (e_cst (.int 65537))) (e_cst (.int 4294967291))) aNil)) (e_var 2)))))))⟩
  f28 : F 28 = some ⟨2, false, 20, [], (s_seq (s_asg (t_tup 2 (ts_cons (t_v 2) (ts_cons (t_v 3) ts_nil))) (e_tup (aCons (e_bin Bop.add (e_cst (.int 1)) (e_call 27 (aCons (e_var 0) (aCons (e_var 1) (aCons (e_cst (.int 3)) aNil))))) (aCons (e_bin Bop.add (e_cst (.int 1)) (e_call 27 (aCons (e_var 0) (aCons (e_bin Bop.add (e_var 1) (e_cst (.int 1))) (aCons (e_cst (.int 2)) aNil))))) aNil)))) (s_seq (s_if (b_cmp EQ Cop.eq (e_call 27 (aCons (e_var 0) (aCons (e_bin Bop.add (e_var 1) (e_cst (.int 2))) (aCons (e_cst (.int 2)) aNil)))) (e_cst (.int 0))) (s_seq (s_asg (t_v 4) (e_bin Bop.add (e_cst (.int 1)) (e_call 27 (aCons (e_var 0) (aCons (e_bin Bop.add (e_var 1) (e_cst (.int 3))) (aCons (e_cst (.int 4)) aNil)))))) (s_ret (e_tup (aCons (e_var 2) (aCons (e_var 3) (aCons (e_lc (e_lc (e_tup (aCons (e_call 27 (aCons (e_var 0) (aCons (e_bin Bop.add (e_bin Bop.add (e_bin Bop.add (e_var 1) (e_cst (.int 10))) (e_bin Bop.mul (e_cst (.int 12)) (e_var 5))) (e_var 6)) (aCons (e_var 4) aNil)))) (aCons (e_biR (fun x => (on1 tup1)) (aCons (e_lc (e_call 27 (aCons (e_var 0) (aCons (e_bin Bop.add (e_bin Bop.add (e_bin Bop.add (e_bin Bop.add (e_var 1) (e_cst (.int 16))) (e_bin Bop.mul (e_cst (.int 12)) (e_var 5))) (e_bin Bop.mul (e_cst (.int 2)) (e_var 6))) (e_var 17)) (aCons (e_cst (.int 2)) aNil)))) (17 :: []) (t_v 17) (i_rng1 (e_var 3)) bT) aNil)) aNil))) (6 :: []) (t_v 6) (i_rng1 (e_var 2)) bT) (5 :: []) (t_v 5) (i_rng1 (e_var 4)) bT) aNil)))))) s_nil) (s_seq (s_asg (t_tup 3 (ts_cons (t_v 7) (ts_cons (t_v 8) (ts_cons (t_v 9) ts_nil)))) (e_tup (aCons (e_lc (e_call 27 (aCons (e_var 0) (aCons (e_bin Bop.add (e_bin Bop.add (e_var 1) (e_cst (.int 4))) (e_var 6)) (aCons (e_cst (.int 3)) aNil)))) (6 :: []) (t_v 6) (i_rng1 (e_var 2)) bT) (aCons (e_call 27 (aCons (e_var 0) (aCons (e_bin Bop.add (e_var 1) (e_cst (.int 7))) (aCons (e_cst (.int 3)) aNil)))) (aCons (e_bin Bop.add (e_cst (.int 1)) (e_call 27 (aCons (e_var 0) (aCons (e_bin Bop.add (e_var 1) (e_cst (.int 8))) (aCons (e_cst (.int 4)) aNil))))) aNil))))) (s_seq (s_asg (t_v 10) (e_lc (e_lc (e_call 27 (aCons (e_var 0) (aCons (e_bin Bop.add (e_bin Bop.add (e_bin Bop.add (e_var 1) (e_cst (.int 80))) (e_bin Bop.mul (e_cst (.int 5)) (e_var 17))) (e_var 18)) (aCons (e_cst (.int 3)) aNil)))) (18 :: []) (t_v 18) (i_rng1 (e_bin Bop.add (e_bin Bop.add (e_var 8) (e_var 9)) (e_cst (.int 2)))) bT) (17 :: []) (t_v 17) (i_rng1 (e_var 3)) bT)) (s_seq (s_asg (t_tup 2 (ts_cons (t_v 11) (ts_cons (t_v 4) ts_nil))) (e_tup (aCons (e_lst aNil) (aCons (e_bin Bop.add (e_var 8) (e_var 9)) aNil)))) (s_seq (s_for (t_v 5) (i_rng1 (e_var 4)) (s_seq (s_asg (t_v 12) (e_lst aNil)) (s_seq (s_for (t_v 13) (i_any (e_var 7)) (s_seq (s_asg (t_tup 2 (ts_cons (t_v 14) (ts_cons (t_v 15) ts_nil))) (e_tup (aCons (e_var 5) (aCons (e_bin Bop.mul (e_lst (aCons (e_cst (.int 0)) aNil)) (e_var 3)) aNil)))) (s_seq (s_for (t_v 16) (i_rng1 (e_var 13)) (s_seq (s_asg (t_v 15) (e_lc (e_bin Bop.add (e_var 19) (e_sub (e_sub (e_var 10) (e_var 17)) (e_var 14))) (17 :: (19 :: [])) (t_tup 2 (ts_cons (t_v 17) (ts_cons (t_v 19) ts_nil))) (i_enum (e_var 15)) bT)) (s_asg (t_v 14) (e_ife (b_cmp EQ Cop.lt (e_bin Bop.add (e_var 14) (e_cst (.int 1))) (e_var 4)) (e_bin Bop.add (e_var 14) (e_cst (.int 1))) (e_var 8))))) (s_ex (e_lm m_append (e_var 12) (aCons (e_tup (aCons (e_var 14) (aCons (e_biR (fun x => (on1 tup1)) (aCons (e_var 15) aNil)) aNil))) aNil)))))) (s_ex (e_lm m_append (e_var 11) (aCons (e_var 12) aNil)))))) (s_seq (s_if (b_cmp EQ Cop.eq (e_call 27 (aCons (e_var 0) (aCons (e_bin Bop.add (e_var 1) (e_cst (.int 9))) (aCons (e_cst (.int 4)) aNil)))) (e_cst (.int 0))) (s_seq (s_par2 5 6 (e_call 27 (aCons (e_var 0) (aCons (e_bin Bop.add (e_var 1) (e_cst (.int 70))) (aCons (e_var 4) aNil)))) (e_call 27 (aCons (e_var 0) (aCons (e_bin Bop.add (e_var 1) (e_cst (.int 71))) (aCons (e_var 2) aNil))))) (s_seq (s_asg (t_tup 2 (ts_cons (t_v 14) (ts_cons (t_v 15) ts_nil))) (e_sub (e_sub (e_var 11) (e_var 5)) (e_var 6))) (s_asg (t_sub setV (e_sub (e_var 11) (e_var 5)) (e_var 6)) (e_ife (b_cmp EQ Cop.eq (e_call 27 (aCons (e_var 0) (aCons (e_bin Bop.add (e_var 1) (e_cst (.int 73))) (aCons (e_cst (.int 2)) aNil)))) (e_cst (.int 0))) (e_tup (aCons (e_call 27 (aCons (e_var 0) (aCons (e_bin Bop.add (e_var 1) (e_cst (.int 72))) (aCons (e_var 4) aNil)))) (aCons (e_var 15) aNil))) (e_tup (aCons (e_var 14) (aCons (e_biR (fun x => (on1 tup1)) (aCons (e_lc (e_bin Bop.add (e_var 19) (e_cst (.int 1))) (19 :: []) (t_v 19) (i_any (e_var 15)) bT) aNil)) aNil))))))) s_nil) (s_ret (e_tup (aCons (e_var 2) (aCons (e_var 3) (aCons (e_var 11) aNil))))))))))))⟩
  f29 : F 29 = some ⟨4, false, 9, [], (s_seq (s_asg (t_v 4) (e_bin Bop.mul (e_lst (aCons (e_cst (.int 0)) aNil)) (e_var 1))) (s_seq (s_for (t_v 5) (i_any (e_var 2)) (s_seq (s_asg (t_tup 2 (ts_cons (t_v 3) (ts_cons (t_v 6) ts_nil))) (e_sub (e_sub (e_var 0) (e_var 3)) (e_var 5))) (s_asg (t_v 4) (e_lc (e_bin Bop.add (e_var 7) (e_var 8)) (7 :: (8 :: [])) (t_tup 2 (ts_cons (t_v 7) (ts_cons (t_v 8) ts_nil))) (i_zip (aCons (e_var 4) (aCons (e_var 6) aNil))) bT)))) (s_ret (e_tup (aCons (e_var 3) (aCons (e_biR (fun x => (on1 tup1)) (aCons (e_var 4) aNil)) aNil))))))⟩
  f30 : F 30 = some ⟨1, false, 5, [], (s_seq (s_par2 1 2 (e_lst (aCons (e_cst (.int 0)) aNil)) (e_lst (aCons (e_cst (.int 0)) aNil))) (s_seq (s_whl 100000 (b_cmp EQ Cop.ne (e_var 2) (e_lst aNil)) (s_for (t_tup 2 (ts_cons (t_v 3) (ts_cons (t_v 4) ts_nil))) (i_any (e_sub (e_var 0) (e_lm m_pop (e_var 2) aNil))) (s_if (b_in true (e_var 3) (e_var 1)) (s_seq (s_ex (e_lm m_append (e_var 1) (aCons (e_var 3) aNil))) (s_ex (e_lm m_append (e_var 2) (aCons (e_var 3) aNil)))) s_nil))) (s_ret (e_var 1))))⟩
  f31 : F 31 = some ⟨3, false, 9, [], (s_seq (s_par2 3 4 (e_dct1 (e_tup (aCons (e_var 1) (aCons (e_var 2) aNil))) (e_cst (PV.bl true))) (e_lst (aCons (e_tup (aCons (e_var 1) (aCons (e_var 2) aNil))) aNil))) (s_seq (s_whl 100000 (b_cmp EQ Cop.ne (e_var 4) (e_lst aNil)) (s_seq (s_asg (t_tup 2 (ts_cons (t_v 5) (ts_cons (t_v 6) ts_nil))) (e_lm m_pop (e_var 4) aNil)) (s_for (t_tup 2 (ts_cons (t_v 7) (ts_cons (t_v 8) ts_nil))) (i_zip (aCons (e_sub (e_var 0) (e_var 5)) (aCons (e_sub (e_var 0) (e_var 6)) aNil))) (s_seq (s_if (b_cmp EQ Cop.ne (e_sub (e_var 7) (e_cst (.int 1))) (e_sub (e_var 8) (e_cst (.int 1)))) (s_ret (e_cst (PV.bl false))) s_nil) (s_if (b_in true (e_tup (aCons (e_sub (e_var 7) (e_cst (.int 0))) (aCons (e_sub (e_var 8) (e_cst (.int 0))) aNil))) (e_var 3)) (s_seq (s_asg (t_sub setV (e_var 3) (e_tup (aCons (e_sub (e_var 7) (e_cst (.int 0))) (aCons (e_sub (e_var 8) (e_cst (.int 0))) aNil)))) (e_cst (PV.bl true))) (s_ex (e_lm m_append (e_var 4) (aCons (e_tup (aCons (e_sub (e_var 7) (e_cst (.int 0))) (aCons (e_sub (e_var 8) (e_cst (.int 0))) aNil))) aNil)))) s_nil))))) (s_ret (e_cst (PV.bl true)))))⟩
  f32 : F 32 = some ⟨2, false, 7, [], (s_seq (s_for (t_v 2) (i_any (e_call 30 (aCons (e_var 0) aNil))) (s_for (t_v 3) (i_rng1 (e_biR (lenB' LN) (aCons (e_sub (e_var 0) (e_cst (.int 0))) aNil))) (s_for (t_v 4) (i_rng1 (e_var 3)) (s_seq (s_par2 5 6 (e_call 29 (aCons (e_var 0) (aCons (e_var 1) (aCons (e_lst (aCons (e_var 3) (aCons (e_var 4) aNil))) (aCons (e_var 2) aNil))))) (e_call 29 (aCons (e_var 0) (aCons (e_var 1) (aCons (e_lst (aCons (e_var 4) (aCons (e_var 3) aNil))) (aCons (e_var 2) aNil)))))) (s_if (b_or (b_cmp EQ Cop.ne (e_sub (e_var 5) (e_cst (.int 1))) (e_sub (e_var 6) (e_cst (.int 1)))) (b_not (b_val BL (e_call 31 (aCons (e_var 0) (aCons (e_sub (e_var 5) (e_cst (.int 0))) (aCons (e_sub (e_var 6) (e_cst (.int 0))) aNil))))))) (s_ret (e_cst (PV.bl false))) s_nil))))) (s_ret (e_cst (PV.bl true))))⟩
  f33 : F 33 = some ⟨2, false, 5, [], (s_seq (s_asg (t_v 2) (e_lst aNil)) (s_seq (s_for (t_v 3) (i_rng1 (e_biR (lenB' LN) (aCons (e_var 0) aNil))) (s_ex (e_lm m_append (e_var 2) (aCons (e_ife (b_in false (e_var 3) (e_var 1)) (e_sub (e_lc (e_var 4) (4 :: []) (t_v 4) (i_any (e_var 1)) (b_val BL (e_call 31 (aCons (e_var 0) (aCons (e_var 4) (aCons (e_var 3) aNil)))))) (e_cst (.int 0))) (e_neg (e_cst (.int 1)))) aNil)))) (s_ret (e_var 2))))⟩
  f34 : F 34 = some ⟨4, false, 9, [], (s_seq (s_asg (t_v 4) (e_attr (e_var 1) 0 (1 :: []))) (s_seq (s_if (b_cmp EQ Cop.ne (e_biR (lenB' LN) (aCons (e_var 4) aNil)) (e_biR (lenB' LN) (aCons (e_var 2) aNil))) (s_ret (e_cst (PV.bl false))) s_nil) (s_seq (s_if (b_val BL (e_biR (fun x => (on1 any1)) (aCons (e_lc (e_cmp EQ Cop.eq (e_cmp EQ Cop.eq (e_sub (e_var 4) (e_var 8)) (e_neg (e_cst (.int 1)))) (e_in false (e_var 8) (e_var 3))) (8 :: []) (t_v 8) (i_rng1 (e_biR (lenB' LN) (aCons (e_var 2) aNil))) bT) aNil))) (s_ret (e_cst (PV.bl false))) s_nil) (s_seq (s_for (t_v 5) (i_any (e_var 3)) (s_for (t_v 6) (i_any (e_var 3)) (s_if (b_and (b_cmp EQ Cop.eq (e_sub (e_var 4) (e_var 5)) (e_sub (e_var 4) (e_var 6))) (b_not (b_val BL (e_call 31 (aCons (e_var 2) (aCons (e_var 5) (aCons (e_var 6) aNil))))))) (s_ret (e_cst (PV.bl false))) s_nil))) (s_seq (s_asg (t_v 7) (e_call 33 (aCons (e_var 2) (aCons (e_var 3) aNil)))) (s_seq (s_if (b_not (b_val BL (e_meth (e_make 1 14 (aCons (e_var 7) aNil)) 5 ((1, 17) :: ((2, 21) :: [])) (aCons (e_var 0) aNil)))) (s_ret (e_cst (PV.bl false))) s_nil) (s_seq (s_if (b_not (b_val BL (e_meth (e_make 1 14 (aCons (e_biR (fun x => (on1 tup1)) (aCons (e_var 4) aNil)) aNil)) 5 ((1, 17) :: ((2, 21) :: [])) (aCons (e_var 0) aNil)))) (s_ret (e_cst (PV.bl false))) s_nil) (s_seq (s_if (b_val BL (e_meth (e_make 1 14 (aCons (e_bin Bop.add (e_var 4) (e_lst (aCons (e_cst (.int 0)) aNil))) aNil)) 5 ((1, 17) :: ((2, 21) :: [])) (aCons (e_var 0) aNil))) (s_ret (e_cst (PV.bl false))) s_nil) (s_seq (s_if (b_cmp EQ Cop.ne (e_make 1 14 (aCons (e_biR (fun x => (on1 tup1)) (aCons (e_var 4) aNil)) aNil)) (e_var 1)) (s_ret (e_cst (PV.bl false))) s_nil) (s_seq (s_if (b_or (b_val BL (e_meth (e_make 1 14 (aCons (e_bin Bop.add (e_lst (aCons (e_neg (e_cst (.int 1))) aNil)) (e_sl (e_var 4) (oS (e_cst (.int 1))) oN)) aNil)) 5 ((1, 17) :: ((2, 21) :: [])) (aCons (e_var 0) aNil))) (b_val BL (e_meth (e_make 1 14 (aCons (e_sl (e_var 4) oN (oS (e_neg (e_cst (.int 1))))) aNil)) 5 ((1, 17) :: ((2, 21) :: [])) (aCons (e_var 0) aNil)))) (s_ret (e_cst (PV.bl false))) s_nil) (s_seq (s_asg (t_v 6) (e_lc (e_var 5) (5 :: []) (t_v 5) (i_any (e_var 3)) (b_not (b_val BL (e_call 31 (aCons (e_var 2) (aCons (e_var 5) (aCons (e_cst (.int 0)) aNil)))))))) (s_seq (s_if (b_and (b_cmp EQ Cop.ne (e_var 6) (e_lst aNil)) (b_val BL (e_meth (e_make 1 14 (aCons (e_lc (e_ife (b_cmp EQ Cop.eq (e_var 8) (e_sub (e_var 6) (e_cst (.int 0)))) (e_sub (e_var 7) (e_cst (.int 0))) (e_sub (e_var 7) (e_var 8))) (8 :: []) (t_v 8) (i_rng1 (e_biR (lenB' LN) (aCons (e_var 2) aNil))) bT) aNil)) 5 ((1, 17) :: ((2, 21) :: [])) (aCons (e_var 0) aNil)))) (s_ret (e_cst (PV.bl false))) s_nil) (s_ret (e_not BL (e_meth (e_make 2 18 (aCons (e_lst aNil) (aCons (e_lst aNil) aNil))) 5 ((1, 17) :: ((2, 21) :: [])) (aCons (e_var 0) aNil))))))))))))))))⟩
  f35 : F 35 = some ⟨1, false, 16, [], (s_seq (s_asg (t_tup 3 (ts_cons (t_v 1) (ts_cons (t_v 2) (ts_cons (t_v 3) ts_nil)))) (e_call 28 (aCons (e_var 0) (aCons (e_cst (.int 0)) aNil)))) (s_seq (s_par2 4 5 (e_make 0 3 (aCons (e_var 1) (aCons (e_var 2) (aCons (e_biR (fun x => (on1 tup1)) (aCons (e_lc (e_biR (fun x => (on1 tup1)) (aCons (e_var 15) aNil)) (15 :: []) (t_v 15) (i_any (e_var 3)) bT) aNil)) aNil)))) (e_call 32 (aCons (e_var 3) (aCons (e_var 2) aNil)))) (s_seq (s_if (b_or (b_cmp EQ Cop.ne (e_attr (e_var 4) 6 (0 :: [])) (e_var 3)) (b_or (b_cmp EQ Cop.ne (e_biR (lenB' LN) (aCons (e_var 4) aNil)) (e_biR (lenB' LN) (aCons (e_var 3) aNil))) (b_cmp EQ Cop.ne (e_var 4) (e_make 0 3 (aCons (e_var 1) (aCons (e_var 2) (aCons (e_var 3) aNil))))))) (s_ret (e_cst (PV.bl false))) s_nil) (s_seq (s_asg (t_v 6) (e_lc (e_call 27 (aCons (e_var 0) (aCons (e_bin Bop.add (e_cst (.int 100)) (e_var 14)) (aCons (e_var 1) aNil)))) (14 :: []) (t_v 14) (i_rng1 (e_call 27 (aCons (e_var 0) (aCons (e_cst (.int 99)) (aCons (e_cst (.int 12)) aNil))))) bT)) (s_seq (s_asg (t_tup 2 (ts_cons (t_v 7) (ts_cons (t_v 8) ts_nil))) (e_call 29 (aCons (e_var 3) (aCons (e_var 2) (aCons (e_var 6) (aCons (e_cst (.int 0)) aNil)))))) (s_seq (s_if (b_or (b_cmp EQ Cop.ne (e_call 10 (aCons (e_var 4) (aCons (e_var 6) aNil))) (e_var 8)) (b_cmp EQ Cop.ne (e_call 11 (aCons (e_var 4) (aCons (e_biR (fun x => (on1 tup1)) (aCons (e_var 6) aNil)) aNil))) (e_var 7))) (s_ret (e_cst (PV.bl false))) s_nil) (s_seq (s_par2 9 10 (e_call 26 (aCons (e_var 4) aNil)) (e_call 30 (aCons (e_var 3) aNil))) (s_seq (s_if (b_or (b_cmp EQ Cop.ne (e_biR (fun r => (on1 (boolX BL r))) (aCons (e_var 9) aNil)) (e_var 5)) (b_or (b_cmp EQ Cop.ne (e_isi IS IL (101 :: []) (e_var 9)) (e_var 5)) (b_not (b_val BL (e_meth (e_var 9) 5 ((1, 17) :: ((2, 21) :: [])) (aCons (e_var 4) aNil)))))) (s_ret (e_cst (PV.bl false))) s_nil) (s_seq (s_asg (t_v 11) (e_biR (fun x => (on1 sort1)) (aCons (e_var 6) aNil))) (s_seq (s_if (b_cmp EQ Cop.ne (e_meth (e_make 2 18 (aCons (e_var 6) (aCons (e_var 11) aNil))) 5 ((1, 17) :: ((2, 21) :: [])) (aCons (e_var 4) aNil)) (e_cmp EQ Cop.ne (e_sub (e_call 29 (aCons (e_var 3) (aCons (e_var 2) (aCons (e_var 11) (aCons (e_cst (.int 0)) aNil))))) (e_cst (.int 1))) (e_var 8))) (s_ret (e_cst (PV.bl false))) s_nil) (s_seq (s_if (b_val BL (e_meth (e_make 2 18 (aCons (e_bin Bop.add (e_var 6) (e_lst (aCons (e_cst (.int 0)) aNil))) (aCons (e_var 6) aNil))) 5 ((1, 17) :: ((2, 21) :: [])) (aCons (e_var 4) aNil))) (s_ret (e_cst (PV.bl false))) s_nil) (s_seq (s_if (b_val BL (e_meth (e_make 2 18 (aCons (e_lst (aCons (e_var 1) aNil)) (aCons (e_lst (aCons (e_var 1) aNil)) aNil))) 5 ((1, 17) :: ((2, 21) :: [])) (aCons (e_var 4) aNil))) (s_ret (e_cst (PV.bl false))) s_nil) (s_seq (s_if (b_not (b_val BL (e_var 5))) (s_seq (s_par2 12 13 (e_attr (e_var 9) 2 (2 :: [])) (e_attr (e_var 9) 3 (2 :: []))) (s_seq (s_if (b_cmp EQ Cop.ne (e_biR (fun x => (on1 sort1)) (aCons (e_var 12) aNil)) (e_biR (fun x => (on1 sort1)) (aCons (e_var 13) aNil))) (s_ret (e_cst (PV.bl false))) s_nil) (s_seq (s_if (b_cmp EQ Cop.eq (e_sub (e_call 29 (aCons (e_var 3) (aCons (e_var 2) (aCons (e_var 12) (aCons (e_cst (.int 0)) aNil))))) (e_cst (.int 1))) (e_sub (e_call 29 (aCons (e_var 3) (aCons (e_var 2) (aCons (e_var 13) (aCons (e_cst (.int 0)) aNil))))) (e_cst (.int 1)))) (s_ret (e_cst (PV.bl false))) s_nil) (s_seq (s_if (b_val BL (e_meth (e_make 1 14 (aCons (e_call 33 (aCons (e_var 3) (aCons (e_var 10) aNil))) aNil)) 5 ((1, 17) :: ((2, 21) :: [])) (aCons (e_var 4) aNil))) (s_ret (e_cst (PV.bl false))) s_nil) (s_ret (e_and BL (e_cmp EQ Cop.eq (e_make 2 18 (aCons (e_biR (fun x => (on1 tup1)) (aCons (e_var 12) aNil)) (aCons (e_var 13) aNil))) (e_var 9)) (e_and BL (e_cmp EQ Cop.ne (e_make 2 18 (aCons (e_var 13) (aCons (e_var 12) aNil))) (e_var 9)) (e_and BL (e_not BL (e_meth (e_make 1 14 (aCons (e_bin Bop.mul (e_lst (aCons (e_cst (.int 0)) aNil)) (e_biR (lenB' LN) (aCons (e_var 3) aNil))) aNil)) 5 ((1, 17) :: ((2, 21) :: [])) (aCons (e_var 4) aNil))) (e_cmp EQ Cop.ne (e_var 9) (e_make 1 14 (aCons (e_lst aNil) aNil))))))))))) s_nil) (s_ret (e_call 34 (aCons (e_var 4) (aCons (e_var 9) (aCons (e_var 3) (aCons (e_var 10) aNil)))))))))))))))))))⟩
end YL
end
section
set_option linter.all false
set_option maxRecDepth 100000
set_option maxHeartbeats 1000000
/-! S1: k21's plain law, the machine's defs. -/
namespace YL
open Y
local macro_rules
  | `(tactic| infer_instance) => `(tactic| first
    | with_reducible refine w_seq ?_
    | with_reducible refine w_asg ?_
    | with_reducible refine w_ret ?_
    | with_reducible refine w_if ?_
    | with_reducible refine w_ex ?_
    | with_reducible refine w_par2 ?_
    | with_reducible refine w_par3 ?_
    | with_reducible refine w_nil ?_
    | with_reducible refine w_for ?_
    | ((with_reducible apply w_var); (exact rfl))
    | with_reducible refine w_cst ?_
    | with_reducible refine w_aNil ?_
    | with_reducible refine w_aCons ?_
    | with_reducible refine w_bin ?_
    | with_reducible refine w_and ?_
    | with_reducible refine w_not ?_
    | with_reducible refine w_isi ?_
    | with_reducible refine w_call ?_
    | with_reducible refine w_sub ?_
    | with_reducible refine w_biR ?_
    | with_reducible refine w_cmp ?_
    | with_reducible refine w_attr ?_
    | with_reducible refine w_tup ?_
    | with_reducible refine w_lst ?_
    | with_reducible refine w_dct1 ?_
    | with_reducible refine w_lm ?_
    | with_reducible refine w_dm ?_
    | with_reducible refine w_in ?_
    | with_reducible refine w_ife ?_
    | with_reducible refine w_neg ?_
    | with_reducible refine w_negI ?_
    | with_reducible refine w_make ?_
    | with_reducible refine w_meth ?_
    | with_reducible refine w_val ?_
    | with_reducible refine w_bnot ?_
    | with_reducible refine w_bor ?_
    | with_reducible refine w_band ?_
    | with_reducible refine w_bcmp ?_
    | with_reducible refine w_bin2 ?_
    | with_reducible refine w_bchain ?_
    | with_reducible refine w_chain ?_
    | with_reducible refine w_bT ?_
    | with_reducible refine w_tv ?_
    | ((with_reducible refine w_ttup ?_ ?_); exact rfl)
    | with_reducible refine w_tsCons ?_
    | with_reducible refine w_tsNil ?_
    | with_reducible refine w_tattr ?_
    | with_reducible refine w_tsub ?_
    | with_reducible refine w_iany ?_
    | with_reducible refine w_ivals ?_
    | with_reducible refine w_iitems ?_
    | with_reducible refine w_rng1 ?_
    | with_reducible refine w_enum ?_
    | with_reducible refine w_zip2 ?_
    | with_reducible refine w_lstRg1 ?_
    | with_reducible refine w_on1 ?_
    | with_reducible refine w_truB ?_
    | with_reducible refine w_lc ?_
    | with_reducible refine w_dc ?_
    | with_reducible refine w_eqI ?_
    | with_reducible refine w_neI ?_
    | with_reducible refine w_neT ?_
    | with_reducible refine w_eqT ?_
    | with_reducible refine w_eqB ?_
    | with_reducible refine w_neB ?_
    | with_reducible refine w_lt ?_
    | with_reducible refine w_le ?_
    | with_reducible refine w_ge ?_
    | with_reducible refine w_addI ?_
    | with_reducible refine w_subI ?_
    | with_reducible refine blQ.mk ?_
    | with_reducible refine w_anyT ?_
    | with_reducible refine w_anyC ?_)
/-! ### the machine as data -/
abbrev Row := List (Nat × List Int)
def sPV (s : Nat × List Int) : PV := .tup [.int s.1, .tup (vI s.2)]
def RowAt (st : St) (a : PV) (row : Row) : Prop := ∃ p w, a = .ref p ∧ At st p (.lst w (row.map sPV))
structure StsAt (st : St) (p : Nat) (m : List Row) : Prop where
  ex : ∃ w as, At st p (.lst w as) ∧ as.length = m.length ∧ ∀ (i : Nat) (row : Row), m[i]? = some row → ∃ a, as[i]? = some a ∧ RowAt st a row
structure MachAt (st : St) (p : Nat) (I O : Nat) (m : List Row) : Prop where
  ex : ∃ s, At st p (.ins 0 [(1, .int I), (4, .int O), (6, .ref s)]) ∧ StsAt st s m
structure Gm (I O : Nat) (m : List Row) : Prop where
  i1 : 1 ≤ I
  i4 : I ≤ 4
  o1 : 1 ≤ O
  o4 : O ≤ 4
  n1 : 1 ≤ m.length
  n60 : m.length ≤ 60
  row : ∀ r ∈ m, r.length = I
  stp : ∀ r ∈ m, ∀ s ∈ r, s.1 < m.length ∧ s.2.length = O
theorem RowAt.k {st st' : St} {a : PV} {row : Row} (h : RowAt st a row) (k : Kp st st') : RowAt st' a row := by
  obtain ⟨p, w, e, h⟩ := h
  exact ⟨p, w, e, h.k k⟩
theorem StsAt.k {st st' : St} {p : Nat} {m : List Row} (h : StsAt st p m) (k : Kp st st') : StsAt st' p m := by
  obtain ⟨w, as, h1, h2, h3⟩ := h.ex
  refine ⟨w, as, h1.k k, h2, fun i row e => ?_⟩
  obtain ⟨a, e1, e2⟩ := h3 i row e
  exact ⟨a, e1, e2.k k⟩
theorem MachAt.k {st st' : St} {p I O : Nat} {m : List Row} (h : MachAt st p I O m) (k : Kp st st') : MachAt st' p I O m := by
  obtain ⟨s, h1, h2⟩ := h.ex
  exact ⟨s, h1.k k, h2.k k⟩
/-- the step of state s at inlet i -/
def nx (m : List Row) (s i : Nat) : Nat × List Int := ((m[s]?.getD [])[i]?).getD (0, [])
theorem nx_row {m : List Row} {s : Nat} {row : Row} (h : m[s]? = some row) {i : Nat} {z : Nat × List Int} (hz : row[i]? = some z) : nx m s i = z := by
  unfold nx
  rw [h]
  show (row[i]?).getD _ = _
  rw [hz]
  rfl
theorem Gm.at {I O : Nat} {m : List Row} (G : Gm I O m) {s i : Nat} (hs : s < m.length) (hi : i < I) : ∃ row, m[s]? = some row ∧ row.length = I ∧ row[i]? = some (nx m s i) ∧ (nx m s i).1 < m.length ∧ (nx m s i).2.length = O := by
  have h := List.getElem?_eq_getElem hs
  have hm := List.mem_of_getElem? h
  have hl := G.row _ hm
  have h2 : (m[s])[i]? = some (m[s])[i] := List.getElem?_eq_getElem (by rw [hl]; exact hi)
  have e := nx_row h h2
  have g := G.stp _ hm _ (List.mem_of_getElem? h2)
  exact ⟨m[s], h, hl, by rw [e]; exact h2, by rw [e]; exact g.1, by rw [e]; exact g.2⟩
/-- a sequence of inlets, states -/
def WordAt (st : St) (v : PV) (xs : List PV) : Prop := v = .tup xs ∨ ∃ a w, v = .ref a ∧ At st a (.lst w xs)
theorem WordAt.k {st st' : St} {v : PV} {xs : List PV} (h : WordAt st v xs) (k : Kp st st') : WordAt st' v xs := by
  rcases h with h | ⟨a, w, e, h⟩
  · exact .inl h
  · exact .inr ⟨a, w, e, h.k k⟩
theorem WordAt.seq {st : St} {v : PV} {xs : List PV} (h : WordAt st v xs) : seqV st v = some xs := by
  rcases h with rfl | ⟨a, w, rfl, h⟩
  · rfl
  · exact seqV_at h
theorem w_anyW {st : St} {v : PV} {xs : List PV} {W : List PV × Gd → St → Prop} (h : WordAt st v xs) (q : ∀ gd, (∀ st', Kp st st' → gdOk gd st' = true) → W (xs, gd) st) : Wp (anyI v st) W := by
  rcases h with rfl | ⟨a, w, rfl, h⟩
  · exact w_anyT (q [] fun _ _ => rfl)
  · exact w_anyL h (q _ fun st' k => gd_lst (h.k k) rfl)
def vN (l : List Nat) : List PV := l.map fun i => .int (i : Nat)
theorem vN_get {l : List Nat} {i : Nat} {v : PV} (h : (vN l)[i]? = some v) : ∃ x, l[i]? = some x ∧ v = .int (x : Nat) := by
  unfold vN at h
  rw [List.getElem?_map] at h
  cases e : l[i]? with
  | none => rw [e] at h; cases h
  | some x => rw [e] at h; cases h; exact ⟨x, rfl, rfl⟩
def addO (a b : List Int) : List Int := List.zipWith (· + ·) a b
def run (m : List Row) : Nat → List Int → List Nat → Nat × List Int
  | s, o, [] => (s, o)
  | s, o, i :: w => run m (nx m s i).1 (addO o (nx m s i).2) w
theorem run_app (m : List Row) : ∀ (u v : List Nat) (s : Nat) (o : List Int), run m s o (u ++ v) = run m (run m s o u).1 (run m s o u).2 v
  | [], _, _, _ => rfl
  | i :: u, v, s, o => run_app m u v _ _
theorem run_ok {I O : Nat} {m : List Row} (G : Gm I O m) : ∀ (w : List Nat) (s : Nat) (o : List Int), (∀ i ∈ w, i < I) → s < m.length → o.length = O → (run m s o w).1 < m.length ∧ (run m s o w).2.length = O
  | [], s, o, _, hs, ho => ⟨hs, ho⟩
  | i :: w, s, o, hw, hs, ho => by
    obtain ⟨row, _, _, _, h1, h2⟩ := G.at hs (hw i List.mem_cons_self)
    exact run_ok G w _ _ (fun j hj => hw j (List.mem_cons_of_mem _ hj)) h1 (by unfold addO; rw [List.length_zipWith, ho, h2]; exact Nat.min_self O)
theorem take_succ {α : Type} {l : List α} {i : Nat} {x : α} (h : l[i]? = some x) : l.take (i + 1) = l.take i ++ [x] := by
  rw [List.take_succ, h]
  rfl
variable {F : Nat → Option Df} (T : Tbl F) {n : Nat} {st : St} {Q : PV → St → Prop}
include T
theorem s_both {a b : List Int} (hl : a.length = b.length) (hm : a.length ≤ 100) (q : ∀ st', Kp st st' → Q (.tup (vI (addO a b))) st') : Wp (ev F (n + 1) (.fn 8) [.tup (vI a), .tup (vI b)] st) Q := by
  refine w_fn T.f8 rfl ?_
  dsimp only [frame, nones, Nat.reduceSub]
  repeat infer_instance
  refine ⟨_, _, _, _, _, _, rfl, rfl, rfl, ?_⟩
  refine w_lcL (I := fun i ys s => Kp st s ∧ ys = vI ((addO a b).take i)) ⟨.refl, rfl⟩ (fun _ _ _ _ => rfl) (fun i v ys s hv ⟨k, e⟩ => ?_) (fun ys s ⟨k, e⟩ => ?_)
  · have hv : (List.zipWith (fun x y => PV.tup [x, y]) (vI a) (vI b))[i]? = some v := hv
    rw [List.getElem?_zipWith] at hv
    have ha : (vI a)[i]? = (a[i]?).map PV.int := List.getElem?_map ..
    have hb : (vI b)[i]? = (b[i]?).map PV.int := List.getElem?_map ..
    rw [ha, hb] at hv
    cases ea : a[i]? with
    | none => rw [ea] at hv; cases hv
    | some x =>
      cases eb : b[i]? with
      | none => rw [ea, eb] at hv; cases hv
      | some y =>
        rw [ea, eb] at hv
        cases hv
        repeat infer_instance
        refine ⟨fun _ => ?_, nofun⟩
        repeat infer_instance
        refine ⟨k, ?_⟩
        have : (addO a b)[i]? = some (x + y) := by unfold addO; rw [List.getElem?_zipWith, ea, eb]
        rw [take_succ this, e]
        simp [vI]
  · have hz : (List.zipWith (fun x y => PV.tup [x, y]) (vI a) (vI b)).length = (addO a b).length := by simp [vI, addO]
    have e : ys = vI (addO a b) := by rw [e, hz, List.take_length]
    subst e
    refine ⟨okLen_iff.mpr ?_, fun st' k2 h2 => ?_⟩
    · have : PySem.sizeLine = 16777216 := rfl
      simp only [vI, addO, List.length_map, List.length_zipWith]
      omega
    · repeat infer_instance
      exact w_tup1 (seqV_at h2) (q _ (k.trans k2))
end YL
end
section
set_option linter.all false
set_option maxRecDepth 100000
set_option maxHeartbeats 1000000
/-! S2: k21's plain law, walks. -/
namespace YL
open Y
local macro_rules
  | `(tactic| infer_instance) => `(tactic| first
    | with_reducible refine w_seq ?_
    | with_reducible refine w_asg ?_
    | with_reducible refine w_ret ?_
    | with_reducible refine w_if ?_
    | with_reducible refine w_ex ?_
    | with_reducible refine w_par2 ?_
    | with_reducible refine w_par3 ?_
    | with_reducible refine w_nil ?_
    | with_reducible refine w_for ?_
    | ((with_reducible apply w_var); (exact rfl))
    | with_reducible refine w_cst ?_
    | with_reducible refine w_aNil ?_
    | with_reducible refine w_aCons ?_
    | with_reducible refine w_bin ?_
    | with_reducible refine w_and ?_
    | with_reducible refine w_not ?_
    | with_reducible refine w_isi ?_
    | with_reducible refine w_call ?_
    | with_reducible refine w_sub ?_
    | with_reducible refine w_biR ?_
    | with_reducible refine w_cmp ?_
    | with_reducible refine w_attr ?_
    | with_reducible refine w_tup ?_
    | with_reducible refine w_lst ?_
    | with_reducible refine w_dct1 ?_
    | with_reducible refine w_lm ?_
    | with_reducible refine w_dm ?_
    | with_reducible refine w_in ?_
    | with_reducible refine w_ife ?_
    | with_reducible refine w_neg ?_
    | with_reducible refine w_negI ?_
    | with_reducible refine w_make ?_
    | with_reducible refine w_meth ?_
    | with_reducible refine w_val ?_
    | with_reducible refine w_bnot ?_
    | with_reducible refine w_bor ?_
    | with_reducible refine w_band ?_
    | with_reducible refine w_bcmp ?_
    | with_reducible refine w_bin2 ?_
    | with_reducible refine w_bchain ?_
    | with_reducible refine w_chain ?_
    | with_reducible refine w_bT ?_
    | with_reducible refine w_tv ?_
    | ((with_reducible refine w_ttup ?_ ?_); exact rfl)
    | with_reducible refine w_tsCons ?_
    | with_reducible refine w_tsNil ?_
    | with_reducible refine w_tattr ?_
    | with_reducible refine w_tsub ?_
    | with_reducible refine w_iany ?_
    | with_reducible refine w_ivals ?_
    | with_reducible refine w_iitems ?_
    | with_reducible refine w_rng1 ?_
    | with_reducible refine w_enum ?_
    | with_reducible refine w_zip2 ?_
    | with_reducible refine w_lstRg1 ?_
    | with_reducible refine w_on1 ?_
    | with_reducible refine w_truB ?_
    | with_reducible refine w_lc ?_
    | with_reducible refine w_dc ?_
    | with_reducible refine w_eqI ?_
    | with_reducible refine w_neI ?_
    | with_reducible refine w_neT ?_
    | with_reducible refine w_eqT ?_
    | with_reducible refine w_eqB ?_
    | with_reducible refine w_neB ?_
    | with_reducible refine w_lt ?_
    | with_reducible refine w_le ?_
    | with_reducible refine w_ge ?_
    | with_reducible refine w_addI ?_
    | with_reducible refine w_subI ?_
    | with_reducible refine blQ.mk ?_
    | with_reducible refine w_anyT ?_
    | with_reducible refine w_anyC ?_
    | refine And.intro (show okLen _ = true from rfl) ?_
    | (refine And.intro (isLst_at ?_) ?_; (assumption))
    | ((with_reducible apply w_fld); (assumption); (exact rfl); (exact rfl)))
variable {F : Nat → Option Df} {n : Nat} {st : St} {Q : PV → St → Prop} {I O : Nat} {m : List Row} {p : Nat}
theorem w_row {i : Nat} {row : Row} (S : StsAt st p m) (h : m[i]? = some row) (q : ∀ a, RowAt st a row → Q a st) : Wp (getV (.ref p) (.int i) st) Q := by
  obtain ⟨w, as, h1, h2, h3⟩ := S.ex
  obtain ⟨a, e1, e2⟩ := h3 i row h
  exact w_getL h1 e1 rfl (q a e2)
theorem w_cell {i : Nat} {row : Row} {a : PV} {z : Nat × List Int} (R : RowAt st a row) (h : row[i]? = some z) (q : Q (sPV z) st) : Wp (getV a (.int i) st) Q := by
  obtain ⟨p, w, rfl, h1⟩ := R
  exact w_getL h1 (by rw [List.getElem?_map, h]; rfl) rfl q
variable (T : Tbl F)
include T
theorem s_whole {i : Int} (q : Q (.bl true) st) : Wp (ev F (n + 1) (.fn 0) [.int i] st) Q := by
  refine w_fn T.f0 rfl ?_
  dsimp only [frame, nones, Nat.reduceSub]
  repeat infer_instance
  refine w_isiV (t := 0) rfl rfl ?_
  repeat infer_instance
  refine ⟨fun _ => ?_, nofun⟩
  repeat infer_instance
  refine w_isiV (t := 0) rfl rfl ?_
  repeat infer_instance
  exact q
theorem s_chkM (M : MachAt st p I O m) (q : Q .non st) : Wp (ev F (n + 1) (.fn 6) [.ref p] st) Q := by
  obtain ⟨s, h1, h2⟩ := M.ex
  refine w_fn T.f6 rfl ?_
  dsimp only [frame, nones, Nat.reduceSub]
  repeat infer_instance
  refine w_isiV (ty_ins h1 rfl) rfl ?_
  repeat infer_instance
  refine ⟨nofun, fun _ => ?_⟩
  repeat infer_instance
  exact q
theorem s_len (M : MachAt st p I O m) (q : Q (.int m.length) st) : Wp (ev F (n + 1) (.fn 5) [.ref p] st) Q := by
  obtain ⟨s, h1, S⟩ := M.ex
  obtain ⟨w, as, h2, h3, h4⟩ := S.ex
  refine w_fn T.f5 rfl ?_
  dsimp only [frame, nones, Nat.reduceSub]
  repeat infer_instance
  exact w_lenS (seqV_at h2) (by rw [h3]; exact q)
theorem s_chkW {wv : PV} {w : List Nat} (M : MachAt st p I O m) (W : WordAt st wv (vN w)) (hw : ∀ i ∈ w, i < I) (q : ∀ st', Kp st st' → Q .non st') : Wp (ev F (n + 2) (.fn 7) [.ref p, wv] st) Q := by
  obtain ⟨s, h1, h2⟩ := M.ex
  refine w_fn T.f7 rfl ?_
  dsimp only [frame, nones, Nat.reduceSub]
  repeat infer_instance
  have ht : ∃ t, tyCode IL st wv = some t ∧ isiAny IS t [3, 4] = some true := by
    rcases W with rfl | ⟨a, w, rfl, h⟩
    · exact ⟨4, rfl, rfl⟩
    · exact ⟨3, ty_lst h, rfl⟩
  obtain ⟨t, ht1, ht2⟩ := ht
  refine w_isiV ht1 ht2 ?_
  repeat infer_instance
  refine ⟨nofun, fun _ => ?_⟩
  repeat infer_instance
  have hg : ∃ gd, seqG st wv = some (vN w, gd) ∧ ∀ st', Kp st st' → gdOk gd st' = true := by
    rcases W with rfl | ⟨a, w, rfl, h⟩
    · exact ⟨[], rfl, fun _ _ => rfl⟩
    · exact ⟨_, seqG_at h, fun st' k => gd_lst (h.k k) rfl⟩
  obtain ⟨gd, hg1, hg2⟩ := hg
  refine ⟨_, _, hg1, ?_⟩
  refine w_forL (I := fun i fr s => Kp st s ∧ ∃ x y, fr = [some (.ref p), some wv, x, y]) ⟨.refl, _, _, rfl⟩ (fun _ _ s ⟨k, _⟩ => hg2 s k) (fun i v fr s hv ⟨k, x, y, e⟩ => ?_) (fun fr s ⟨k, _⟩ => q s k)
  subst e
  rw [enumL_get] at hv
  cases e1 : (vN w)[i]? with
  | none => rw [e1] at hv; cases hv
  | some z =>
    rw [e1] at hv
    cases hv
    obtain ⟨j, e2, rfl⟩ := vN_get e1
    have hj := hw j (List.mem_of_getElem? e2)
    have h1 := h1.k k
    repeat infer_instance
    refine s_whole T ?_
    repeat infer_instance
    refine ⟨nofun, fun _ => ?_⟩
    repeat infer_instance
    refine ⟨fun _ => ?_, fun c => absurd (of_decide_eq_false c) (by omega)⟩
    repeat infer_instance
    refine ⟨fun c => absurd c (by simp; omega), fun _ => ?_⟩
    repeat infer_instance
    exact ⟨k, _, _, rfl⟩
def zO (O : Nat) : List Int := List.replicate O 0
theorem s_walked {wv : PV} {w : List Nat} {s : Nat} (G : Gm I O m) (M : MachAt st p I O m) (W : WordAt st wv (vN w)) (hw : ∀ i ∈ w, i < I) (hs : s < m.length)
    (q : ∀ st', Kp st st' → Q (.tup [.int (run m s (zO O) w).1, .tup (vI (run m s (zO O) w).2)]) st') : Wp (ev F (n + 2) (.fn 9) [.ref p, wv, .int s] st) Q := by
  obtain ⟨sa, h1, S⟩ := M.ex
  refine w_fn T.f9 rfl ?_
  dsimp only [frame, nones, Nat.reduceSub]
  repeat infer_instance
  refine w_mulT1 (by have := G.o1; omega) (by have := G.o4; omega) ?_
  repeat infer_instance
  refine w_anyW W fun gd hg => ?_
  have hz : (List.replicate ((O : Nat) : Int).toNat (PV.int 0)) = vI (zO O) := by simp [vI, zO]
  rw [hz]
  refine w_forL (I := fun i fr t => Kp st t ∧ ∃ x y, fr = [some (.ref p), some wv, some (.int (run m s (zO O) (w.take i)).1), some (.tup (vI (run m s (zO O) (w.take i)).2)), x, y]) ⟨.refl, _, _, rfl⟩ (fun _ _ s ⟨k, _⟩ => hg s k) (fun i v fr t hv ⟨k, x, y, e⟩ => ?_) (fun fr t ⟨k, x, y, e⟩ => ?_)
  · subst e
    obtain ⟨j, e2, rfl⟩ := vN_get hv
    have hj := hw j (List.mem_of_getElem? e2)
    have hr := run_ok G (w.take i) s (zO O) (fun a ha => hw a (List.mem_of_mem_take ha)) hs (by simp [zO])
    obtain ⟨row, r1, r2, r3, r4, r5⟩ := G.at hr.1 hj
    have h1 := h1.k k
    have S := S.k k
    repeat infer_instance
    refine w_row S r1 fun a ha => ?_
    repeat infer_instance
    refine w_cell ha r3 ?_
    unfold sPV
    repeat infer_instance
    have ho := G.o4
    refine s_both T (by rw [hr.2, r5]) (by rw [hr.2]; omega) fun st2 k2 => ?_
    repeat infer_instance
    rw [take_succ e2, run_app]
    exact ⟨k.trans k2, _, _, rfl⟩
  · subst e
    have hl : w.take (vN w).length = w := by simp [vN]
    rw [hl]
    repeat infer_instance
    exact q t k
theorem s_walked2 {wv : PV} {w : List Nat} (G : Gm I O m) (M : MachAt st p I O m) (W : WordAt st wv (vN w)) (hw : ∀ i ∈ w, i < I)
    (q : ∀ st', Kp st st' → Q (.tup [.int (run m 0 (zO O) w).1, .tup (vI (run m 0 (zO O) w).2)]) st') : Wp (ev F (n + 2) (.fn 9) [.ref p, wv] st) Q := by
  have h := s_walked T (n := n) (s := 0) G M W hw (Nat.lt_of_lt_of_le Nat.zero_lt_one G.n1) q
  have e : ev F (n + 2) (.fn 9) [.ref p, wv] st = ev F (n + 2) (.fn 9) [.ref p, wv, .int (0 : Nat)] st := by
    show (match F 9 with | some d => runD d (ev F (n + 1)) [.ref p, wv] st | none => .stuck 132) = (match F 9 with | some d => runD d (ev F (n + 1)) [.ref p, wv, .int (0 : Nat)] st | none => .stuck 132)
    rw [T.f9]
    rfl
  rw [e]
  exact h
theorem s_fed {wv : PV} {w : List Nat} (G : Gm I O m) (M : MachAt st p I O m) (W : WordAt st wv (vN w)) (hw : ∀ i ∈ w, i < I) (q : ∀ st', Kp st st' → Q (.tup (vI (run m 0 (zO O) w).2)) st') : Wp (ev F (n + 3) (.fn 10) [.ref p, wv] st) Q := by
  refine w_fn T.f10 rfl ?_
  dsimp only [frame, nones, Nat.reduceSub]
  repeat infer_instance
  refine s_chkM T M ?_
  repeat infer_instance
  refine s_chkW T M W hw fun s1 k1 => ?_
  repeat infer_instance
  refine s_walked2 T G (M.k k1) (W.k k1) hw fun s2 k2 => ?_
  repeat infer_instance
  refine w_getT (i := 1) rfl rfl ?_
  exact q _ (k1.trans k2)
theorem s_after {wv : PV} {w : List Nat} (G : Gm I O m) (M : MachAt st p I O m) (W : WordAt st wv (vN w)) (hw : ∀ i ∈ w, i < I) (q : ∀ st', Kp st st' → Q (.int (run m 0 (zO O) w).1) st') : Wp (ev F (n + 3) (.fn 11) [.ref p, wv] st) Q := by
  refine w_fn T.f11 rfl ?_
  dsimp only [frame, nones, Nat.reduceSub]
  repeat infer_instance
  refine s_chkM T M ?_
  repeat infer_instance
  refine s_chkW T M W hw fun s1 k1 => ?_
  repeat infer_instance
  refine s_walked2 T G (M.k k1) (W.k k1) hw fun s2 k2 => ?_
  repeat infer_instance
  refine w_getT (i := 0) rfl rfl ?_
  exact q _ (k1.trans k2)
end YL
end
section
set_option linter.all false
set_option maxRecDepth 100000
/-! M1: machines, what serves any order, classes: plain theory. -/
namespace YL
open Y
/-! ### counting -/
theorem php {α : Type} [DecidableEq α] : ∀ (b l : List α), b.Nodup → (∀ x ∈ b, x ∈ l) → b.length ≤ l.length
  | [], l, _, _ => Nat.zero_le _
  | x :: b, l, h1, h2 => by
    have h1' := List.nodup_cons.mp h1
    have hx := h2 x List.mem_cons_self
    have := php b (l.erase x) h1'.2 fun y hy => (List.mem_erase_of_ne (fun e => h1'.1 (by rw [← e]; exact hy))).mpr (h2 y (List.mem_cons_of_mem _ hy))
    rw [List.length_erase_of_mem hx] at this
    have := List.length_pos_of_mem hx
    simp only [List.length_cons]
    omega
theorem nodup_lt {l : List Nat} {n : Nat} (h : l.Nodup) (hl : ∀ x ∈ l, x < n) : l.length ≤ n := by
  have := php l (List.range n) h fun x hx => List.mem_range.mpr (hl x hx)
  simpa using this
theorem nodup_lt2 {l : List (Nat × Nat)} {n : Nat} (h : l.Nodup) (hl : ∀ x ∈ l, x.1 < n ∧ x.2 < n) : l.length ≤ n * n := by
  have h2 : (l.map fun p => p.1 * n + p.2).Nodup := by
    refine List.pairwise_map.mpr (h.imp_of_mem ?_)
    intro x y hx hy ne e
    refine ne ?_
    have a := hl x hx
    have b := hl y hy
    have e : x.1 * n + x.2 = y.1 * n + y.2 := e
    have h1 : x.1 = y.1 := by
      have p : (x.1 * n + x.2) / n = x.1 := by rw [Nat.mul_comm, Nat.mul_add_div (by omega), Nat.div_eq_of_lt a.2]; omega
      have q : (y.1 * n + y.2) / n = y.1 := by rw [Nat.mul_comm, Nat.mul_add_div (by omega), Nat.div_eq_of_lt b.2]; omega
      rw [← p, e, q]
    rw [h1] at e
    exact Prod.ext h1 (by omega)
  have := nodup_lt (n := n * n) h2 fun x hx => by
    obtain ⟨p, hp, rfl⟩ := List.mem_map.mp hx
    have a := hl p hp
    have : p.1 * n + n ≤ n * n := by
      have := Nat.mul_le_mul_right n (show p.1 + 1 ≤ n from a.1)
      rw [Nat.add_mul] at this
      omega
    omega
  simpa using this
/-! ### runs -/
def go (m : List Row) (s i : Nat) : Nat := (nx m s i).1
def ou (m : List Row) (s i : Nat) : List Int := (nx m s i).2
def goW (m : List Row) : Nat → List Nat → Nat
  | s, [] => s
  | s, i :: w => goW m (go m s i) w
variable {I O : Nat} {m : List Row}
theorem run_fst : ∀ (w : List Nat) (s : Nat) (o : List Int), (run m s o w).1 = goW m s w
  | [], _, _ => rfl
  | i :: w, s, o => run_fst w _ _
theorem goW_app : ∀ (u v : List Nat) (s : Nat), goW m s (u ++ v) = goW m (goW m s u) v
  | [], _, _ => rfl
  | i :: u, v, s => goW_app u v _
theorem addO_len {a b : List Int} {n : Nat} (ha : a.length = n) (hb : b.length = n) : (addO a b).length = n := by
  unfold addO; rw [List.length_zipWith, ha, hb]; exact Nat.min_self n
theorem addO_cancel : ∀ {a b c : List Int}, a.length = b.length → a.length = c.length → addO a b = addO a c → b = c
  | [], [], [], _, _, _ => rfl
  | x :: a, y :: b, z :: c, h1, h2, h => by
    unfold addO at h
    simp only [List.zipWith_cons_cons, List.cons.injEq] at h
    rw [show y = z by omega, addO_cancel (by simpa using h1) (by simpa using h2) h.2]
  | [], _ :: _, _, h, _, _ => by simp at h
  | [], [], _ :: _, _, h, _ => by simp at h
  | _ :: _, [], _, h, _, _ => by simp at h
  | _ :: _, _ :: _, [], _, h, _ => by simp at h
theorem addO_cancel' : ∀ {a b c : List Int}, a.length = b.length → a.length = c.length → addO b a = addO c a → b = c
  | [], [], [], _, _, _ => rfl
  | x :: a, y :: b, z :: c, h1, h2, h => by
    unfold addO at h
    simp only [List.zipWith_cons_cons, List.cons.injEq] at h
    rw [show y = z by omega, addO_cancel' (by simpa using h1) (by simpa using h2) h.2]
  | [], _ :: _, _, h, _, _ => by simp at h
  | [], [], _ :: _, _, h, _ => by simp at h
  | _ :: _, [], _, h, _, _ => by simp at h
  | _ :: _, _ :: _, [], _, h, _ => by simp at h
theorem addO_assoc : ∀ (a b c : List Int), addO (addO a b) c = addO a (addO b c)
  | [], _, _ => by simp [addO]
  | _ :: _, [], _ => by simp [addO]
  | _ :: _, _ :: _, [] => by simp [addO]
  | x :: a, y :: b, z :: c => by
    have := addO_assoc a b c
    unfold addO at this ⊢
    simp only [List.zipWith_cons_cons, this]
    congr 1
    omega
theorem addO_zero : ∀ {a : List Int} {n : Nat}, a.length = n → addO (List.replicate n 0) a = a
  | [], 0, _ => rfl
  | x :: a, n + 1, h => by
    have := addO_zero (a := a) (n := n) (by simpa using h)
    unfold addO at this ⊢
    rw [List.replicate_succ, List.zipWith_cons_cons, this]
    congr 1
    omega
  | [], _ + 1, h => by simp at h
  | _ :: _, 0, h => by simp at h
theorem Gm.go_lt (G : Gm I O m) {s i : Nat} (hs : s < m.length) (hi : i < I) : go m s i < m.length := by
  obtain ⟨_, _, _, _, h, _⟩ := G.at hs hi; exact h
theorem Gm.ou_len (G : Gm I O m) {s i : Nat} (hs : s < m.length) (hi : i < I) : (ou m s i).length = O := by
  obtain ⟨_, _, _, _, _, h⟩ := G.at hs hi; exact h
theorem Gm.goW_lt (G : Gm I O m) : ∀ {w : List Nat} {s : Nat}, (∀ i ∈ w, i < I) → s < m.length → goW m s w < m.length
  | [], _, _, hs => hs
  | i :: w, s, hw, hs => G.goW_lt (w := w) (s := go m s i) (fun j hj => hw j (List.mem_cons_of_mem _ hj)) (G.go_lt hs (hw i List.mem_cons_self))
/-! ### reached states -/
inductive Rch (I : Nat) (m : List Row) : Nat → Prop
  | z : Rch I m 0
  | s {a i : Nat} : Rch I m a → i < I → Rch I m (go m a i)
theorem Rch.lt (G : Gm I O m) {a : Nat} (h : Rch I m a) : a < m.length := by
  induction h with
  | z => exact G.n1
  | s h hi ih => exact G.go_lt ih hi
theorem Rch.word' {w : List Nat} : ∀ {a : Nat}, Rch I m a → (∀ i ∈ w, i < I) → Rch I m (goW m a w) := by
  induction w with
  | nil => intro a h _; exact h
  | cons i w ih => intro a h hw; exact ih (h.s (hw i List.mem_cons_self)) fun j hj => hw j (List.mem_cons_of_mem _ hj)
/-! ### alike -/
def Al (I : Nat) (m : List Row) (a b : Nat) : Prop := ∀ w : List Nat, (∀ i ∈ w, i < I) → ∀ i, i < I → ou m (goW m a w) i = ou m (goW m b w) i
theorem Al.refl {a : Nat} : Al I m a a := fun _ _ _ _ => rfl
theorem Al.symm {a b : Nat} (h : Al I m a b) : Al I m b a := fun w hw i hi => (h w hw i hi).symm
theorem Al.trans {a b c : Nat} (h : Al I m a b) (k : Al I m b c) : Al I m a c := fun w hw i hi => (h w hw i hi).trans (k w hw i hi)
theorem Al.out {a b i : Nat} (h : Al I m a b) (hi : i < I) : ou m a i = ou m b i := h [] nofun i hi
theorem Al.go {a b i : Nat} (h : Al I m a b) (hi : i < I) : Al I m (go m a i) (go m b i) := fun w hw j hj => h (i :: w) (fun k hk => by
  rcases List.mem_cons.mp hk with rfl | hk
  · exact hi
  · exact hw k hk) j hj
theorem Al.coind (R : Nat → Nat → Prop) (step : ∀ a b, R a b → ∀ i, i < I → ou m a i = ou m b i ∧ R (YL.go m a i) (YL.go m b i)) {a b : Nat} (h : R a b) : Al I m a b := by
  intro w
  induction w generalizing a b with
  | nil => intro _ i hi; exact (step a b h i hi).1
  | cons j w ih => intro hw i hi; exact ih (step a b h j (hw j List.mem_cons_self)).2 (fun k hk => hw k (List.mem_cons_of_mem _ hk)) i hi
/-! ### what serves any order -/
def go2 (m : List Row) (s i j : Nat) : Nat := go m (go m s i) j
def ou2 (m : List Row) (s i j : Nat) : List Int := addO (ou m s i) (ou m (go m s i) j)
def Good (I : Nat) (m : List Row) : Prop := ∀ s, Rch I m s → ∀ i j, i < I → j < i → ou2 m s j i = ou2 m s i j ∧ Al I m (go2 m s j i) (go2 m s i j)
def Closed (I : Nat) (m : List Row) (c : Nat → Int) : Prop := ∀ a b, Rch I m a → Rch I m b → c a = c b → ∀ i, i < I → ou m a i = ou m b i ∧ c (go m a i) = c (go m b i)
def Noq (I : Nat) (m : List Row) (c : Nat → Int) : Prop := ∀ s, Rch I m s → ∀ i j, i < I → j < i → ou2 m s j i = ou2 m s i j ∧ c (go2 m s j i) = c (go2 m s i j)
theorem Closed.al {c : Nat → Int} (h : Closed I m c) {a b : Nat} (ha : Rch I m a) (hb : Rch I m b) (e : c a = c b) : Al I m a b :=
  Al.coind (fun a b => Rch I m a ∧ Rch I m b ∧ c a = c b) (fun a b ⟨ha, hb, e⟩ i hi => ⟨(h a b ha hb e i hi).1, ha.s hi, hb.s hi, (h a b ha hb e i hi).2⟩) ⟨ha, hb, e⟩
theorem Rch.two {s i j : Nat} (h : Rch I m s) (hi : i < I) (hj : j < I) : Rch I m (go2 m s i j) := (h.s hi).s hj
theorem good_of {c : Nat → Int} (h : Closed I m c) (k : Noq I m c) : Good I m := fun s hs i j hi hj =>
  ⟨(k s hs i j hi hj).1, h.al (hs.two (by omega) hi) (hs.two hi (by omega)) (k s hs i j hi hj).2⟩
def Cls (I : Nat) (m : List Row) (c : Nat → Int) : Prop := ∀ a b, Rch I m a → Rch I m b → (c a = c b ↔ Al I m a b)
theorem Cls.closed {c : Nat → Int} (h : Cls I m c) : Closed I m c := fun a b ha hb e i hi =>
  ⟨((h a b ha hb).mp e).out hi, (h _ _ (ha.s hi) (hb.s hi)).mpr (((h a b ha hb).mp e).go hi)⟩
theorem Cls.noq {c : Nat → Int} (h : Cls I m c) : Noq I m c ↔ Good I m :=
  ⟨fun k => good_of h.closed k, fun g s hs i j hi hj => ⟨(g s hs i j hi hj).1, (h _ _ (hs.two (by omega) hi) (hs.two hi (by omega))).mpr (g s hs i j hi hj).2⟩⟩
/-! ### numbers that show it -/
structure Shw (I : Nat) (m : List Row) (l : List Int) : Prop where
  len : l.length = m.length
  lo : ∀ s, s < m.length → -1 ≤ l.getD s 0
  m1 : ∀ s, s < m.length → (l.getD s 0 = -1 ↔ ¬ Rch I m s)
  cl : Closed I m fun s => l.getD s 0
  nq : Noq I m fun s => l.getD s 0
theorem Shw.good {l : List Int} (h : Shw I m l) : Good I m := good_of h.cl h.nq
theorem closed_congr {c d : Nat → Int} (e : ∀ s, Rch I m s → c s = d s) (h : Closed I m c) : Closed I m d := fun a b ha hb x i hi => by
  have := h a b ha hb (by rw [e a ha, e b hb]; exact x) i hi
  rw [e _ (ha.s hi), e _ (hb.s hi)] at this
  exact this
theorem noq_congr {c d : Nat → Int} (e : ∀ s, Rch I m s → c s = d s) (h : Noq I m c) : Noq I m d := fun s hs i j hi hj => by
  have := h s hs i j hi hj
  rw [e _ (hs.two (by omega) hi), e _ (hs.two hi (by omega))] at this
  exact this
theorem Shw.mk' (G : Gm I O m) {c : Nat → Int} (hc : Cls I m c) (g : Good I m) (h0 : ∀ s, Rch I m s → 0 ≤ c s) {l : List Int} (hl : l.length = m.length) (h1 : ∀ s, s < m.length → Rch I m s → l.getD s 0 = c s) (h2 : ∀ s, s < m.length → ¬ Rch I m s → l.getD s 0 = -1) : Shw I m l := by
  refine ⟨hl, fun s hs => ?_, fun s hs => ?_, closed_congr (fun s hs => (h1 s (hs.lt G) hs).symm) hc.closed, noq_congr (fun s hs => (h1 s (hs.lt G) hs).symm) (hc.noq.mpr g)⟩
  · by_cases r : Rch I m s
    · rw [h1 s hs r]; have := h0 s r; omega
    · rw [h2 s hs r]; exact Int.le_refl _
  · by_cases r : Rch I m s
    · rw [h1 s hs r]; have := h0 s r; exact ⟨fun e => by omega, fun e => absurd r e⟩
    · rw [h2 s hs r]; exact ⟨fun _ => r, fun _ => rfl⟩
/-! ### words that part -/
theorem run_snd (G : Gm I O m) : ∀ {w : List Nat} {s : Nat} {o : List Int}, (∀ i ∈ w, i < I) → s < m.length → o.length = O → (run m s o w).2 = addO o (run m s (zO O) w).2
  | [], s, o, _, _, ho => by
    show o = addO o (zO O)
    have : ∀ {a : List Int} {n : Nat}, a.length = n → addO a (List.replicate n 0) = a := by
      intro a
      induction a with
      | nil => intro n h; rfl
      | cons x a ih =>
        intro n h
        cases n with
        | zero => simp at h
        | succ n =>
          have := ih (n := n) (by simpa using h)
          unfold addO at this ⊢
          rw [List.replicate_succ, List.zipWith_cons_cons, this]
          congr 1
          omega
    exact (this ho).symm
  | i :: w, s, o, hw, hs, ho => by
    have hi := hw i List.mem_cons_self
    have hw' : ∀ j ∈ w, j < I := fun j hj => hw j (List.mem_cons_of_mem _ hj)
    have l1 := G.ou_len hs hi
    show (run m (go m s i) (addO o (ou m s i)) w).2 = addO o (run m (go m s i) (addO (zO O) (ou m s i)) w).2
    rw [run_snd G hw' (G.go_lt hs hi) (addO_len ho l1), run_snd G (o := addO (zO O) (ou m s i)) hw' (G.go_lt hs hi) (addO_len (by simp [zO]) l1), addO_assoc, addO_assoc]
    congr 1
    have e : addO (zO O) (ou m s i) = ou m s i := addO_zero l1
    rw [← addO_assoc, e]
theorem zO_len : (zO O).length = O := by simp [zO]
/-- w brings out different things from a and b -/
def Parts (I O : Nat) (m : List Row) (a b : Nat) (w : List Nat) : Prop := (∀ i ∈ w, i < I) ∧ (run m a (zO O) w).2 ≠ (run m b (zO O) w).2
theorem Parts.mk' (G : Gm I O m) {a b i : Nat} {u : List Nat} (ha : a < m.length) (hb : b < m.length) (hu : ∀ i ∈ u, i < I) (hi : i < I) (e : (run m a (zO O) u).2 = (run m b (zO O) u).2) (ne : ou m (goW m a u) i ≠ ou m (goW m b u) i) : Parts I O m a b (u ++ [i]) := by
  refine ⟨fun j hj => ?_, fun h => ?_⟩
  · rcases List.mem_append.mp hj with h | h
    · exact hu j h
    · rw [List.mem_singleton.mp h]; exact hi
  · rw [run_app, run_app, run_fst, run_fst, e] at h
    have h : addO (run m b (zO O) u).2 (ou m (goW m a u) i) = addO (run m b (zO O) u).2 (ou m (goW m b u) i) := h
    refine ne (addO_cancel ?_ ?_ h)
    · rw [(run_ok G u b _ hu hb zO_len).2, G.ou_len (G.goW_lt hu ha) hi]
    · rw [(run_ok G u b _ hu hb zO_len).2, G.ou_len (G.goW_lt hu hb) hi]
theorem run_step (G : Gm I O m) {a b i : Nat} {u : List Nat} (hu : ∀ i ∈ u, i < I) (e : (run m a (zO O) u).2 = (run m b (zO O) u).2) (e2 : ou m (goW m a u) i = ou m (goW m b u) i) : (run m a (zO O) (u ++ [i])).2 = (run m b (zO O) (u ++ [i])).2 := by
  rw [run_app, run_app, run_fst, run_fst, e]
  show addO _ (ou m (goW m a u) i) = addO _ (ou m (goW m b u) i)
  rw [e2]
theorem run_two (G : Gm I O m) {s i j : Nat} (hs : s < m.length) (hi : i < I) (hj : j < I) (v : List Nat) (hv : ∀ i ∈ v, i < I) : (run m s (zO O) (i :: j :: v)).2 = addO (ou2 m s i j) (run m (go2 m s i j) (zO O) v).2 := by
  show (run m (go2 m s i j) (addO (addO (zO O) (ou m s i)) (ou m (go m s i) j)) v).2 = _
  have l1 := G.ou_len hs hi
  have l2 := G.ou_len (G.go_lt hs hi) hj
  have e : addO (zO O) (ou m s i) = ou m s i := addO_zero l1
  rw [e]
  exact run_snd G hv (G.go_lt (G.go_lt hs hi) hj) (addO_len l1 l2)
theorem quarrel (G : Gm I O m) {s i j : Nat} {u v : List Nat} (hu : ∀ i ∈ u, i < I) (e : goW m 0 u = s) (hi : i < I) (hj : j < I)
    (h : (ou2 m s i j ≠ ou2 m s j i ∧ v = []) ∨ (ou2 m s i j = ou2 m s j i ∧ Parts I O m (go2 m s i j) (go2 m s j i) v)) :
    (run m 0 (zO O) (u ++ i :: j :: v)).2 ≠ (run m 0 (zO O) (u ++ j :: i :: v)).2 := by
  have hv : ∀ i ∈ v, i < I := by
    rcases h with ⟨_, rfl⟩ | ⟨_, h⟩
    · nofun
    · exact h.1
  have hs : s < m.length := by rw [← e]; exact G.goW_lt hu G.n1
  have l1 : (ou2 m s i j).length = O := addO_len (G.ou_len hs hi) (G.ou_len (G.go_lt hs hi) hj)
  have l2 : (ou2 m s j i).length = O := addO_len (G.ou_len hs hj) (G.ou_len (G.go_lt hs hj) hi)
  have r1 := run_ok G v (go2 m s i j) (zO O) hv (G.go_lt (G.go_lt hs hi) hj) zO_len
  have r2 := run_ok G v (go2 m s j i) (zO O) hv (G.go_lt (G.go_lt hs hj) hi) zO_len
  have r0 := run_ok G u 0 (zO O) hu G.n1 zO_len
  have k : ∀ i j : Nat, i < I → j < I → ∀ x ∈ i :: j :: v, x < I := fun i j hi hj x hx => by
    rcases List.mem_cons.mp hx with rfl | hx
    · exact hi
    · rcases List.mem_cons.mp hx with rfl | hx
      · exact hj
      · exact hv x hx
  rw [run_app, run_app, run_fst, e, run_snd G (k i j hi hj) hs r0.2, run_snd G (k j i hj hi) hs r0.2, run_two G hs hi hj v hv, run_two G hs hj hi v hv]
  intro x
  have x := addO_cancel (by rw [r0.2, addO_len l1 r1.2]) (by rw [r0.2, addO_len l2 r2.2]) x
  rcases h with ⟨ne, rfl⟩ | ⟨e2, h⟩
  · exact ne (addO_cancel' (a := zO O) (by rw [l1, zO_len]) (by rw [l2, zO_len]) x)
  · rw [e2] at x
    exact h.2 (addO_cancel (by rw [l2, r1.2]) (by rw [l2, r2.2]) x)
/-! ### refinement -/
def rowOf (m : List Row) (c : Nat → Int) (s : Nat) : Int × List (Int × List Int) := (c s, (m[s]?.getD []).map fun z => (c z.1, z.2))
theorem rowOf_iff (G : Gm I O m) {c : Nat → Int} {a b : Nat} (ha : a < m.length) (hb : b < m.length) : rowOf m c a = rowOf m c b ↔ c a = c b ∧ ∀ i, i < I → ou m a i = ou m b i ∧ c (go m a i) = c (go m b i) := by
  have key : ∀ s, s < m.length → ∀ i, i < I → (m[s]?.getD [])[i]? = some (go m s i, ou m s i) := fun s hs i hi => by
    obtain ⟨row, h1, h2, h3, _⟩ := G.at hs hi
    rw [h1]
    exact h3
  have len : ∀ s, s < m.length → (m[s]?.getD []).length = I := fun s hs => by
    obtain ⟨row, h1, h2, h3, _⟩ := G.at hs (Nat.lt_of_lt_of_le Nat.zero_lt_one G.i1)
    rw [h1]
    exact h2
  unfold rowOf
  rw [Prod.mk.injEq]
  refine and_congr Iff.rfl ⟨fun h i hi => ?_, fun h => List.ext_getElem? fun i => ?_⟩
  · have := congrArg (fun l => l[i]?) h
    rw [List.getElem?_map, List.getElem?_map, key a ha i hi, key b hb i hi] at this
    simp only [Option.map_some, Option.some.injEq, Prod.mk.injEq] at this
    exact ⟨this.2, this.1⟩
  · rcases Nat.lt_or_ge i I with hi | hi
    · rw [List.getElem?_map, List.getElem?_map, key a ha i hi, key b hb i hi]
      have := h i hi
      simp only [Option.map_some, this.1, this.2]
    · rw [List.getElem?_eq_none (by rw [List.length_map, len a ha]; exact hi), List.getElem?_eq_none (by rw [List.length_map, len b hb]; exact hi)]
/-- the numbers in use -/
structure Dst (rs : List Nat) (c : Nat → Int) (ks : List Int) : Prop where
  nd : ks.Nodup
  mem : ∀ x, x ∈ ks ↔ ∃ s ∈ rs, c s = x
/-- one round -/
def Rnd (m : List Row) (rs : List Nat) (c c' : Nat → Int) : Prop := ∀ a ∈ rs, ∀ b ∈ rs, (c' a = c' b ↔ rowOf m c a = rowOf m c b)
structure Rs (I : Nat) (m : List Row) (rs : List Nat) : Prop where
  nd : rs.Nodup
  mem : ∀ s, s ∈ rs ↔ Rch I m s
def gOf (rs : List Nat) (c c' : Nat → Int) (x : Int) : Int := match rs.find? (fun s => c' s == x) with
  | some s => c s
  | none => 0
theorem gOf_eq {rs : List Nat} {c c' : Nat → Int} (h : ∀ a ∈ rs, ∀ b ∈ rs, c' a = c' b → c a = c b) {s : Nat} (hs : s ∈ rs) : gOf rs c c' (c' s) = c s := by
  unfold gOf
  cases e : rs.find? (fun t => c' t == c' s) with
  | none =>
    have := List.find?_eq_none.mp e s hs
    simp at this
  | some t =>
    have h1 := List.find?_some e
    have h2 := List.mem_of_find?_eq_some e
    exact h t h2 s hs (by simpa using h1)
theorem ref_le {rs : List Nat} {c c' : Nat → Int} {ks ks' : List Int} (h : ∀ a ∈ rs, ∀ b ∈ rs, c' a = c' b → c a = c b) (d : Dst rs c ks) (d' : Dst rs c' ks') : ks.length ≤ ks'.length := by
  have := php ks (ks'.map (gOf rs c c')) d.nd fun x hx => by
    obtain ⟨s, hs, rfl⟩ := (d.mem x).mp hx
    exact List.mem_map.mpr ⟨c' s, (d'.mem _).mpr ⟨s, hs, rfl⟩, gOf_eq h hs⟩
  simpa using this
theorem ref_eq {rs : List Nat} {c c' : Nat → Int} {ks ks' : List Int} (h : ∀ a ∈ rs, ∀ b ∈ rs, c' a = c' b → c a = c b) (d : Dst rs c ks) (d' : Dst rs c' ks') (e : ks.length = ks'.length) {a b : Nat} (ha : a ∈ rs) (hb : b ∈ rs) (eq : c a = c b) : c' a = c' b := by
  refine Classical.byContradiction fun ne => ?_
  have ma := (d'.mem (c' a)).mpr ⟨a, ha, rfl⟩
  have mb := (d'.mem (c' b)).mpr ⟨b, hb, rfl⟩
  have := php ks ((ks'.erase (c' a)).map (gOf rs c c')) d.nd fun x hx => by
    obtain ⟨s, hs, rfl⟩ := (d.mem x).mp hx
    by_cases q : c' s = c' a
    · refine List.mem_map.mpr ⟨c' b, (List.mem_erase_of_ne fun z => ne z.symm).mpr mb, ?_⟩
      rw [gOf_eq h hb, ← eq, h s hs a ha q]
    · exact List.mem_map.mpr ⟨c' s, (List.mem_erase_of_ne q).mpr ((d'.mem _).mpr ⟨s, hs, rfl⟩), gOf_eq h hs⟩
  rw [List.length_map, List.length_erase_of_mem ma] at this
  have := List.length_pos_of_mem ma
  omega
theorem Dst.pos {rs : List Nat} {c : Nat → Int} {ks : List Int} (d : Dst rs c ks) {s : Nat} (h : s ∈ rs) : 0 < ks.length := List.length_pos_of_mem ((d.mem (c s)).mpr ⟨s, h, rfl⟩)
theorem Dst.le {rs : List Nat} {c : Nat → Int} {ks : List Int} (d : Dst rs c ks) : ks.length ≤ rs.length := by
  have := php ks (rs.map c) d.nd fun x hx => by
    obtain ⟨s, hs, e⟩ := (d.mem x).mp hx
    exact List.mem_map.mpr ⟨s, hs, e⟩
  simpa using this
theorem Rnd.ref {rs : List Nat} {c c' : Nat → Int} (h : Rnd m rs c c') : ∀ a ∈ rs, ∀ b ∈ rs, c' a = c' b → c a = c b := fun a ha b hb e => congrArg (·.1) ((h a ha b hb).mp e)
/-- alike states have one number -/
def Keeps (I : Nat) (m : List Row) (c : Nat → Int) : Prop := ∀ a b, Rch I m a → Rch I m b → Al I m a b → c a = c b
theorem Rnd.keeps (G : Gm I O m) {rs : List Nat} (R : Rs I m rs) {c c' : Nat → Int} (h : Rnd m rs c c') (k : Keeps I m c) : Keeps I m c' := fun a b ha hb l =>
  (h a ((R.mem a).mpr ha) b ((R.mem b).mpr hb)).mpr ((rowOf_iff G (ha.lt G) (hb.lt G)).mpr ⟨k a b ha hb l, fun i hi => ⟨l.out hi, k _ _ (ha.s hi) (hb.s hi) (l.go hi)⟩⟩)
theorem Rnd.fin (G : Gm I O m) {rs : List Nat} (R : Rs I m rs) {c c' : Nat → Int} (h : Rnd m rs c c') (k : Keeps I m c) {ks ks' : List Int} (d : Dst rs c ks) (d' : Dst rs c' ks') (e : ks.length = ks'.length) : Cls I m c' := by
  have hc : Closed I m c' := fun a b ha hb x i hi => by
    have ma := (R.mem a).mpr ha
    have mb := (R.mem b).mpr hb
    have q := ((rowOf_iff G (ha.lt G) (hb.lt G)).mp ((h a ma b mb).mp x)).2 i hi
    exact ⟨q.1, ref_eq h.ref d d' e ((R.mem _).mpr (ha.s hi)) ((R.mem _).mpr (hb.s hi)) q.2⟩
  exact fun a b ha hb => ⟨hc.al ha hb, h.keeps G R k a b ha hb⟩
end YL
end
section
set_option linter.all false
set_option maxRecDepth 100000
set_option maxHeartbeats 4000000
/-! P4: comprehensions that only add, lists of truths and of ints, slices. -/
namespace Y
open PySem
section
variable {L : List (Nat × Nat)} {r : Ev} {fr : Fr} {st : St} {Q : PV → St → Prop}
/-- a comprehension that only adds to the store: what holds of each item -/
theorem w_lcM {elt : Y.X} {t : XT} {gd : Gd} {items : List PV} {Q : List PV → St → Prop} (P : Nat → PV → St → Prop) (mono : ∀ i y s s', Kp s s' → P i y s → P i y s') (hg : ∀ s, Kp st s → gdOk gd s = true)
    (step : ∀ i v s, items[i]? = some v → Kp st s → Wp (t v r fr s) fun fr2 s2 => Wp (elt r fr2 s2) fun y s3 => Kp s s3 ∧ P i y s3)
    (fin : ∀ ys s, Kp st s → ys.length = items.length → (∀ i y, ys[i]? = some y → P i y s) → Q ys s) : Wp (lcL elt t bT gd r fr items st) Q := by
  refine w_lcL (I := fun i ys s => Kp st s ∧ ys.length = i ∧ ∀ j y, ys[j]? = some y → P j y s) ⟨.refl, rfl, nofun⟩ (fun _ _ s h => hg s h.1) (fun i v ys s hv ⟨k, hl, hp⟩ => ?_) (fun ys s ⟨k, hl, hp⟩ => fin ys s k hl hp)
  refine (step i v s hv k).mono fun fr2 s2 h => ?_
  refine w_bT ⟨fun _ => h.mono fun y s3 ⟨k3, hy⟩ => ?_, nofun⟩
  refine ⟨k.trans k3, by simp [hl], fun j z hz => ?_⟩
  rcases Nat.lt_trichotomy j i with c | c | c
  · rw [List.getElem?_append_left (by omega)] at hz
    exact mono _ _ _ _ k3 (hp j z hz)
  · subst c
    rw [List.getElem?_append_right (by omega), hl, Nat.sub_self] at hz
    cases hz
    exact hy
  · rw [List.getElem?_eq_none (by simp; omega)] at hz
    cases hz
/-- a comprehension whose items are known -/
theorem w_lcF {elt : Y.X} {t : XT} {gd : Gd} {items : List PV} {Q : List PV → St → Prop} (res : List PV) (hl : res.length = items.length) (hg : ∀ s, Kp st s → gdOk gd s = true)
    (step : ∀ (i : Nat) (v : PV) (s : St), items[i]? = some v → Kp st s → Wp (t v r fr s) fun fr2 s2 => Wp (elt r fr2 s2) fun y s3 => Kp s s3 ∧ res[i]? = some y)
    (fin : ∀ s, Kp st s → Q res s) : Wp (lcL elt t bT gd r fr items st) Q :=
  w_lcM (P := fun (i : Nat) (y : PV) (_ : St) => res[i]? = some y) (fun _ _ _ _ _ h => h) hg step fun ys s k h1 h2 => by
    have : ys = res := List.ext_getElem? fun i => by
      cases e : ys[i]? with
      | some y => exact (h2 i y e).symm
      | none =>
        have := List.getElem?_eq_none_iff.mp e
        exact (List.getElem?_eq_none (by omega)).symm
    rw [this]
    exact fin s k
theorem blsV_map : ∀ l : List Bool, blsV (l.map PV.bl) = some l
  | [] => rfl
  | b :: l => by
    show (match blsV (l.map PV.bl) with | some is => some (b :: is) | none => none) = _
    rw [blsV_map l]
theorem intsV_map : ∀ l : List Int, intsV (l.map PV.int) = some l
  | [] => rfl
  | b :: l => by
    show (match intsV (l.map PV.int) with | some is => some (b :: is) | none => none) = _
    rw [intsV_map l]
theorem lstV_at {a w : Nat} {xs : List PV} (h : At st a (.lst w xs)) : lstV st (.ref a) = some xs := by
  show (match st.get a with | some (.lst _ xs) => some xs | _ => none) = _
  rw [h.get]
theorem w_all1 {a w : Nat} {l : List Bool} (h : At st a (.lst w (l.map PV.bl))) (q : Q (.bl (l.all id)) st) : Wp (all1 (.ref a) st) Q := by
  unfold all1 lstBls
  rw [lstV_at h]
  dsimp only
  rw [blsV_map]
  dsimp only
  rw [allB_eq]
  exact q
theorem w_any1 {a w : Nat} {l : List Bool} (h : At st a (.lst w (l.map PV.bl))) (q : Q (.bl (l.any id)) st) : Wp (any1 (.ref a) st) Q := by
  unfold any1 lstBls
  rw [lstV_at h]
  dsimp only
  rw [blsV_map]
  dsimp only
  rw [anyB_eq]
  exact q
theorem w_sort1 {a w : Nat} {l : List Int} (h : At st a (.lst w (vI l))) (q : ∀ st', Kp st st' → At st' st.n (.lst 0 (vI (sortI l))) → Q (.ref st.n) st') : Wp (sort1 (.ref a) st) Q := by
  unfold sort1 lstInts
  rw [lstV_at h]
  dsimp only
  unfold vI
  rw [intsV_map]
  exact w_new q
theorem w_powN {a : Int} {n : Nat} (h : a.natAbs < b64) (hn : n ≤ 1000000) (q : Q (.int (a ^ n)) st) : Wp (bopV .pow (.int a) (.int (n : Nat)) st) Q := by
  show Wp (if natLt a.natAbs b64 && Nat.ble n 1000000 then .ok (.int (a ^ n)) st else .stuck 10) Q
  rw [if_pos]
  · exact q
  · rw [Bool.and_eq_true, natLt_iff, Nat.ble_eq]
    exact ⟨h, hn⟩
theorem w_int1 {i : Int} (q : Q (.int i) st) : Wp (int1 (.int i) st) Q := q
theorem fmod_nat {a b : Int} (h : 0 < b) : ∃ n : Nat, Int.fmod a b = n ∧ (n : Int) < b := by
  have h1 := Int.fmod_nonneg_of_pos a h
  have h2 := Int.fmod_lt_of_pos a h
  exact ⟨(Int.fmod a b).toNat, by omega, by omega⟩
theorem w_slL {a w : Nat} {xs : List PV} {lo hi : Option Int} (h : At st a (.lst w xs)) (q : ∀ st', Kp st st' → At st' st.n (.lst 0 (cutP xs lo hi)) → Q (.ref st.n) st') : Wp (slV (.ref a) lo hi st) Q := by
  show Wp (match st.get a with
    | some (.lst _ xs) => newC (.lst 0 (cutP xs lo hi)) st
    | _ => .stuck 74) Q
  rw [h.get]
  exact w_new q
theorem w_sl {x : Y.X} {lo hi : XP} (h : Wp (x r fr st) fun v st => Wp (lo r fr st) fun l st => Wp (hi r fr st) fun u st => Wp (slV v l u st) Q) : Wp (e_sl x lo hi r fr st) Q :=
  .bind (h.mono fun v st h => .bind (h.mono fun v st h => .bind h))
theorem w_oN {Q : Option Int → St → Prop} (q : Q none st) : Wp (oN r fr st) Q := q
theorem w_oS {x : Y.X} {Q : Option Int → St → Prop} (h : Wp (x r fr st) fun v st => ∃ i : Int, v = .int i ∧ Q (some i) st) : Wp (oS x r fr st) Q :=
  .bind (h.mono fun v st h => by
    obtain ⟨i, rfl, h⟩ := h
    exact h)
end
end Y
end
section
set_option linter.all false
set_option maxRecDepth 100000
set_option maxHeartbeats 4000000
/-! P5: comparisons of plain kinds, kinds of keys, slices, own ==, truth. -/
namespace Y
open PySem
theorem dec_inj {α β : Type} [DecidableEq α] [DecidableEq β] {f : α → β} (inj : ∀ x y, f x = f y → x = y) (x y : α) : decide (f x = f y) = decide (x = y) := by
  by_cases c : x = y
  · subst c; simp
  · rw [decide_eq_false c, decide_eq_false fun e => c (inj x y e)]
/-- values of one kind, read k deep -/
structure RE {α : Type} (k : Nat) (e : α → PV) (D : α → Dt) : Prop where
  rd : ∀ st x, Rd st k (e x) (D x)
  inj : ∀ x y, D x = D y → x = y
  cls : ∀ st x, clsAt st (e x) = none
theorem re_int {k : Nat} : RE (k + 1) PV.int Dt.int := ⟨fun _ _ => rd_int, fun x y h => by cases h; rfl, fun _ _ => rfl⟩
theorem re_nat {k : Nat} : RE (k + 1) (fun i : Nat => .int i) (fun i : Nat => .int i) := ⟨fun _ _ => rd_int, fun x y h => by injection h; omega, fun _ _ => rfl⟩
theorem map_inj' {α β : Type} {f : α → β} (inj : ∀ x y, f x = f y → x = y) : ∀ {a b : List α}, a.map f = b.map f → a = b
  | [], [], _ => rfl
  | x :: a, y :: b, h => by
    rw [List.map_cons, List.map_cons, List.cons.injEq] at h
    rw [inj _ _ h.1, map_inj' inj h.2]
  | [], _ :: _, h => by cases h
  | _ :: _, [], h => by cases h
section
variable {α β : Type} {k : Nat} {e : α → PV} {D : α → Dt} {e' : β → PV} {D' : β → Dt}
theorem RE.map {st : St} (R : RE k e D) (l : List α) (i : Nat) (v : PV) (z : Dt) (h1 : (l.map e)[i]? = some v) (h2 : (l.map D)[i]? = some z) : Rd st k v z := by
  rw [List.getElem?_map] at h1 h2
  cases g : l[i]? with
  | none => rw [g] at h1; cases h1
  | some x =>
    rw [g] at h1 h2
    cases h1
    cases h2
    exact R.rd st x
theorem re_tups (R : RE k e D) : RE (k + 1) (fun l : List α => .tup (l.map e)) (fun l => .tup (l.map D)) :=
  ⟨fun st l => rd_tup (by simp) (R.map l), fun a b h => (by injection h with h; exact map_inj' R.inj h), fun _ _ => rfl⟩
theorem re_pair (R : RE k e D) (R' : RE k e' D') : RE (k + 1) (fun p : α × β => .tup [e p.1, e' p.2]) (fun p => .tup [D p.1, D' p.2]) :=
  ⟨fun st p => rd_tup rfl fun i v z h1 h2 => (by
    match i, h1, h2 with
    | 0, h1, h2 => cases h1; cases h2; exact R.rd st p.1
    | 1, h1, h2 => cases h1; cases h2; exact R'.rd st p.2
    | i + 2, h1, h2 => cases h1), fun a b h => (by
    injection h with h
    rw [List.cons.injEq, List.cons.injEq] at h
    exact Prod.ext (R.inj _ _ h.1) (R'.inj _ _ h.2.1)), fun _ _ => rfl⟩
variable {L : List (Nat × Nat)} {r : Ev} {st : St} {Q : PV → St → Prop}
theorem w_neE [DecidableEq α] (R : RE DD e D) {x y : α} (q : Q (.bl (!decide (x = y))) st) : Wp (cmpV L .ne r (e x) (e y) st) Q := w_ne (R.cls st x) (R.rd st x) (R.rd st y) (by rw [dec_inj R.inj]; exact q)
theorem w_eqE [DecidableEq α] (R : RE DD e D) {x y : α} (q : Q (.bl (decide (x = y))) st) : Wp (cmpV L .eq r (e x) (e y) st) Q := w_eq (R.cls st x) (R.rd st x) (R.rd st y) (by rw [dec_inj R.inj]; exact q)
theorem rd_list (R : RE k e D) {a w : Nat} {l : List α} (h : At st a (.lst w (l.map e))) : Rd st (k + 1) (.ref a) (.lst (l.map D)) := rd_lst h (by simp) (R.map l)
theorem cls_lst {a w : Nat} {xs : List PV} (h : At st a (.lst w xs)) : clsAt st (.ref a) = none := by rw [clsAt_ref h]
theorem w_neLs [DecidableEq α] (R : RE k e D) (hk : k + 1 = DD) {a b w u : Nat} {x y : List α} (h1 : At st a (.lst w (x.map e))) (h2 : At st b (.lst u (y.map e))) (q : Q (.bl (!decide (x = y))) st) : Wp (cmpV L .ne r (.ref a) (.ref b) st) Q := by
  refine w_ne (cls_lst h1) (hk ▸ rd_list R h1) (hk ▸ rd_list R h2) ?_
  rw [show decide (Dt.lst (x.map D) = Dt.lst (y.map D)) = decide (x = y) from dec_inj (f := fun l => Dt.lst (l.map D)) (fun a b h => by injection h with h; exact map_inj' R.inj h) x y]
  exact q
theorem w_eqLs [DecidableEq α] (R : RE k e D) (hk : k + 1 = DD) {a b w u : Nat} {x y : List α} (h1 : At st a (.lst w (x.map e))) (h2 : At st b (.lst u (y.map e))) (q : Q (.bl (decide (x = y))) st) : Wp (cmpV L .eq r (.ref a) (.ref b) st) Q := by
  refine w_eq (cls_lst h1) (hk ▸ rd_list R h1) (hk ▸ rd_list R h2) ?_
  rw [show decide (Dt.lst (x.map D) = Dt.lst (y.map D)) = decide (x = y) from dec_inj (f := fun l => Dt.lst (l.map D)) (fun a b h => by injection h with h; exact map_inj' R.inj h) x y]
  exact q
/-- what stands in a list -/
theorem anyEq_mem (R : RE k e D) [DecidableEq α] (x : α) : ∀ l : List α, anyEq (D x).py ((l.map D).map Dt.py) = decide (x ∈ l)
  | [] => by simp [anyEq]
  | y :: l => by
    rw [List.map_cons, List.map_cons, anyEq, eqv_dec, dec_inj R.inj, anyEq_mem R x l]
    by_cases c : y = x
    · subst c; simp
    · have c' : ¬ x = y := fun h => c h.symm
      simp [c, c']
theorem w_inL [DecidableEq α] (R : RE k e D) (hk : k + 1 = DD) (R2 : RE DD e D) {neg : Bool} {a w : Nat} {l : List α} {x : α} (h : At st a (.lst w (l.map e))) (q : Q (.bl (if neg then !decide (x ∈ l) else decide (x ∈ l))) st) : Wp (inV neg (e x) (.ref a) st) Q := by
  show Wp (match dctV st (.ref a) with | some (_, _, kvs) => inK neg kvs (e x) st | none => okB (inD (e x) (.ref a) st) neg st 31) Q
  rw [dctV_lst h]
  dsimp only
  unfold inD
  have h1 : datS st DD (e x) = some (D x).py := R2.rd st x
  have h2 : datS st DD (.ref a) = some (Dt.lst (l.map D)).py := hk ▸ rd_list R h
  rw [h1, h2, Dt.py_lst]
  dsimp only
  rw [anyEq_mem R]
  exact q
end
/-! ### kinds of keys -/
theorem all2_dec {α : Type} [DecidableEq α] {f : PV → PV → Option Bool} {e : α → PV} (h : ∀ a b, f (e a) (e b) = some (decide (a = b))) : ∀ a b : List α, all2 f (a.map e) (b.map e) = some (decide (a = b))
  | [], [] => by simp [all2]
  | [], _ :: _ => by simp [all2]
  | _ :: _, [] => by simp [all2]
  | x :: a, y :: b => by
    rw [List.map_cons, List.map_cons]
    unfold all2
    rw [h]
    by_cases c : x = y
    · subst c
      simp [all2_dec h a b]
    · simp [c]
theorem all2_two {α β : Type} [DecidableEq α] [DecidableEq β] {f : PV → PV → Option Bool} {e : α → PV} {e' : β → PV} (h : ∀ a b, f (e a) (e b) = some (decide (a = b))) (h' : ∀ a b, f (e' a) (e' b) = some (decide (a = b))) (p q : α × β) : all2 f [e p.1, e' p.2] [e q.1, e' q.2] = some (decide (p = q)) := by
  obtain ⟨a, b⟩ := p
  obtain ⟨c, d⟩ := q
  unfold all2
  rw [h]
  by_cases x : a = c
  · subst x
    simp only [decide_true]
    unfold all2
    rw [h']
    by_cases y : b = d
    · subst y; simp [all2]
    · simp [y]
  · simp [x]
theorem deq_int {k : Nat} (a b : Int) : deq (k + 1) (.int a) (.int b) = some (decide (a = b)) := by show some (intEq a b) = _; rw [intEq_dec]
theorem deq_vI {k : Nat} (a b : List Int) : deq (k + 2) (.tup (vI a)) (.tup (vI b)) = some (decide (a = b)) := all2_dec deq_int a b
def stV (s : Int × List Int) : PV := .tup [.int s.1, .tup (vI s.2)]
theorem deq_st {k : Nat} (s t : Int × List Int) : deq (k + 3) (stV s) (stV t) = some (decide (s = t)) := all2_two (e := PV.int) (e' := fun l : List Int => .tup (vI l)) deq_int deq_vI s t
def rwV (p : Int × List (Int × List Int)) : PV := .tup (.int p.1 :: p.2.map stV)
theorem allV_map {α : Type} {f : PV → Bool} {e : α → PV} (h : ∀ a, f (e a) = true) : ∀ l : List α, allV f (l.map e) = true
  | [] => rfl
  | x :: l => by
    rw [List.map_cons]
    unfold allV
    rw [if_pos (h x)]
    exact allV_map h l
theorem key_st (s : Int × List Int) : isKey 7 (stV s) = true := by
  show allV (isKey 6) [.int s.1, .tup (vI s.2)] = true
  unfold allV
  rw [if_pos (show isKey 6 (.int s.1) = true from rfl)]
  unfold allV
  rw [if_pos]
  · rfl
  · exact allV_map (f := isKey 5) (fun a => rfl) s.2
theorem ke_row : KE rwV := ⟨fun p => by
  show allV (isKey 7) (.int p.1 :: p.2.map stV) = true
  unfold allV
  rw [if_pos (show isKey 7 (.int p.1) = true from rfl)]
  exact allV_map key_st p.2, fun p q => by
  obtain ⟨a, b⟩ := p
  obtain ⟨c, d⟩ := q
  show all2 (deq 7) (.int a :: b.map stV) (.int c :: d.map stV) = _
  unfold all2
  rw [deq_int]
  by_cases x : a = c
  · subst x
    simp only [decide_true]
    rw [all2_dec deq_st]
    simp
  · simp [x]⟩
def inV' (i : Nat) : PV := .int i
theorem natInt (a b : Nat) : decide ((a : Int) = (b : Int)) = decide (a = b) := by
  by_cases h : a = b
  · subst h; simp
  · rw [decide_eq_false h, decide_eq_false (by omega)]
theorem ke_nat : KE inV' := ⟨fun _ => rfl, fun a b => by
  show some (intEq a b) = _
  rw [intEq_dec, natInt]⟩
def nnV (p : Nat × Nat) : PV := .tup [.int p.1, .int p.2]
theorem deq_nat {k : Nat} (a b : Nat) : deq (k + 1) (.int a) (.int b) = some (decide (a = b)) := by rw [deq_int, natInt]
theorem ke_nn : KE nnV := ⟨fun _ => rfl, fun a b => all2_two (e := fun i : Nat => .int i) (e' := fun i : Nat => .int i) deq_nat deq_nat a b⟩
/-! ### slices -/
theorem cut_to {α : Type} (xs : List α) (n : Nat) : cutP xs none (some (n : Nat)) = xs.take n := by
  unfold cutP
  rw [takeN_eq, dropN_eq]
  show (xs.drop 0).take ((if Nat.ble n (len xs) then n else len xs) - 0) = _
  rw [List.drop_zero, Nat.sub_zero, len_eq]
  split
  · rfl
  · rename_i h
    rw [Nat.ble_eq] at h
    rw [List.take_length, List.take_of_length_le (by omega)]
theorem cut_from {α : Type} (xs : List α) (n : Nat) (h : n ≤ xs.length) : cutP xs (some (n : Nat)) none = xs.drop n := by
  unfold cutP
  rw [takeN_eq, dropN_eq]
  show (xs.drop (if Nat.ble n (len xs) then n else len xs)).take (len xs - (if Nat.ble n (len xs) then n else len xs)) = _
  rw [if_pos (by rw [Nat.ble_eq, len_eq]; exact h), len_eq, List.take_of_length_le (by simp)]
theorem cut_last {α : Type} (xs : List α) : cutP xs none (some (-1)) = xs.take (xs.length - 1) := by
  unfold cutP
  rw [takeN_eq, dropN_eq]
  show (xs.drop 0).take (len xs - (0 + 1) - 0) = _
  rw [List.drop_zero, len_eq]
  rfl
theorem choose_list {β : Type} (n : Nat) (P : Nat → β → Prop) (h : ∀ i, i < n → ∃ b, P i b) : ∃ l : List β, l.length = n ∧ ∀ (i : Nat) (b : β), l[i]? = some b → P i b := by
  induction n with
  | zero => exact ⟨[], rfl, nofun⟩
  | succ n ih =>
    obtain ⟨l, h1, h2⟩ := ih fun i hi => h i (by omega)
    obtain ⟨b, hb⟩ := h n (by omega)
    refine ⟨l ++ [b], by simp [h1], fun i c e => ?_⟩
    rcases Nat.lt_trichotomy i n with x | x | x
    · rw [List.getElem?_append_left (by omega)] at e
      exact h2 i c e
    · subst x
      rw [List.getElem?_append_right (by omega), h1, Nat.sub_self] at e
      cases e
      exact hb
    · rw [List.getElem?_eq_none (by simp; omega)] at e
      cases e
/-! ### own ==, truth -/
section
variable {L : List (Nat × Nat)} {r : Ev} {st : St} {Q : PV → St → Prop}
theorem clsAt_ins {a c : Nat} {fs : List (Nat × PV)} (h : At st a (.ins c fs)) : clsAt st (.ref a) = some c := by rw [clsAt_ref h]
theorem w_eqO' {neg : Bool} {a b c c2 i i2 : Nat} {fs gs : List (Nat × PV)} (h1 : At st a (.ins c fs)) (h2 : At st b (.ins c2 gs)) (e1 : look L c = some i) (e2 : look L c2 = some i2) (h : Wp (r (.fn i) [.ref a, .ref b] st) fun v st => ∃ t, v = .bl t ∧ Q (.bl (if neg then !t else t)) st) : Wp (eqX L neg r (.ref a) (.ref b) st) Q := by
  unfold eqX
  rw [clsAt_ins h1]
  show Wp (eqI L neg r c (.ref a) (.ref b) st) Q
  unfold eqI
  rw [e1]
  dsimp only
  rw [clsAt_ins h2]
  dsimp only
  rw [e2]
  dsimp only
  refine .bind (h.mono fun v st h => ?_)
  obtain ⟨t, rfl, h⟩ := h
  exact h
theorem w_eqO {a b c c2 i i2 : Nat} {fs gs : List (Nat × PV)} (h1 : At st a (.ins c fs)) (h2 : At st b (.ins c2 gs)) (e1 : look L c = some i) (e2 : look L c2 = some i2) (h : Wp (r (.fn i) [.ref a, .ref b] st) fun v st => ∃ t, v = .bl t ∧ Q (.bl t) st) : Wp (cmpV L .eq r (.ref a) (.ref b) st) Q := w_eqO' h1 h2 e1 e2 h
theorem w_neO {a b c c2 i i2 : Nat} {fs gs : List (Nat × PV)} (h1 : At st a (.ins c fs)) (h2 : At st b (.ins c2 gs)) (e1 : look L c = some i) (e2 : look L c2 = some i2) (h : Wp (r (.fn i) [.ref a, .ref b] st) fun v st => ∃ t, v = .bl t ∧ Q (.bl (!t)) st) : Wp (cmpV L .ne r (.ref a) (.ref b) st) Q := w_eqO' (neg := true) h1 h2 e1 e2 h
theorem w_truO {BL : List (Nat × Option Nat)} {a c i : Nat} {fs : List (Nat × PV)} {Q : Bool → St → Prop} (h1 : At st a (.ins c fs)) (e1 : look BL c = some (some i)) (h : Wp (r (.fn i) [.ref a] st) (blQ Q)) : Wp (truX BL r (.ref a) st) Q := by
  show Wp (truC BL r (.ref a) st (st.get a)) Q
  rw [h1.get]
  show Wp (truI BL r c (.ref a) st) Q
  unfold truI
  rw [e1]
  exact .bind (h.mono fun v st h => w_isBl h)
end
end Y
end
section
set_option linter.all false
set_option maxRecDepth 100000
set_option maxHeartbeats 1000000
/-! S3: k21's plain law: draws. -/
namespace YL
open Y
local macro_rules
  | `(tactic| infer_instance) => `(tactic| first
    | with_reducible refine w_seq ?_
    | with_reducible refine w_asg ?_
    | with_reducible refine w_ret ?_
    | with_reducible refine w_if ?_
    | with_reducible refine w_ex ?_
    | with_reducible refine w_par2 ?_
    | with_reducible refine w_par3 ?_
    | with_reducible refine w_nil ?_
    | with_reducible refine w_for ?_
    | ((with_reducible apply w_var); (exact rfl))
    | with_reducible refine w_cst ?_
    | with_reducible refine w_aNil ?_
    | with_reducible refine w_aCons ?_
    | with_reducible refine w_bin ?_
    | with_reducible refine w_and ?_
    | with_reducible refine w_not ?_
    | with_reducible refine w_isi ?_
    | with_reducible refine w_call ?_
    | with_reducible refine w_sub ?_
    | with_reducible refine w_biR ?_
    | with_reducible refine w_cmp ?_
    | with_reducible refine w_attr ?_
    | with_reducible refine w_tup ?_
    | with_reducible refine w_lst ?_
    | with_reducible refine w_dct1 ?_
    | with_reducible refine w_lm ?_
    | with_reducible refine w_dm ?_
    | with_reducible refine w_in ?_
    | with_reducible refine w_ife ?_
    | with_reducible refine w_neg ?_
    | with_reducible refine w_negI ?_
    | with_reducible refine w_make ?_
    | with_reducible refine w_meth ?_
    | with_reducible refine w_val ?_
    | with_reducible refine w_bnot ?_
    | with_reducible refine w_bor ?_
    | with_reducible refine w_band ?_
    | with_reducible refine w_bcmp ?_
    | with_reducible refine w_bin2 ?_
    | with_reducible refine w_bchain ?_
    | with_reducible refine w_chain ?_
    | with_reducible refine w_bT ?_
    | with_reducible refine w_tv ?_
    | ((with_reducible refine w_ttup ?_ ?_); exact rfl)
    | with_reducible refine w_tsCons ?_
    | with_reducible refine w_tsNil ?_
    | with_reducible refine w_tattr ?_
    | with_reducible refine w_tsub ?_
    | with_reducible refine w_iany ?_
    | with_reducible refine w_ivals ?_
    | with_reducible refine w_iitems ?_
    | with_reducible refine w_rng1 ?_
    | with_reducible refine w_enum ?_
    | with_reducible refine w_zip2 ?_
    | with_reducible refine w_lstRg1 ?_
    | with_reducible refine w_on1 ?_
    | with_reducible refine w_truB ?_
    | with_reducible refine w_lc ?_
    | with_reducible refine w_dc ?_
    | with_reducible refine w_eqI ?_
    | with_reducible refine w_neI ?_
    | with_reducible refine w_neT ?_
    | with_reducible refine w_eqT ?_
    | with_reducible refine w_eqB ?_
    | with_reducible refine w_neB ?_
    | with_reducible refine w_lt ?_
    | with_reducible refine w_le ?_
    | with_reducible refine w_ge ?_
    | with_reducible refine w_addI ?_
    | with_reducible refine w_subI ?_
    | with_reducible refine blQ.mk ?_
    | with_reducible refine w_anyT ?_
    | with_reducible refine w_anyC ?_
    | refine And.intro (show okLen _ = true from rfl) ?_
    | (refine And.intro (isLst_at ?_) ?_; (assumption))
    | ((with_reducible apply w_fld); (assumption); (exact rfl); (exact rfl))
    | refine w_isiV (t := 0) rfl rfl ?_
    | refine w_isiV (t := 4) rfl rfl ?_
    | with_reducible refine w_sl ?_
    | with_reducible refine w_aStarT ?_
    | with_reducible refine w_oN ?_
    | with_reducible refine w_oS ?_
    | with_reducible refine w_int1 ?_)
variable {F : Nat → Option Df} {n : Nat} {st : St} {Q : PV → St → Prop} {I O : Nat} {m : List Row} {p : Nat}
variable (T : Tbl F)
include T
theorem s_draw {ns : List Int} {at_ many : Int} (hm : 0 < many) (q : ∀ (d : Nat) st', (d : Int) < many → Kp st st' → Q (.int d) st') : Wp (ev F (n + 1) (.fn 27) [.cl (vI ns), .int at_, .int many] st) Q := by
  refine w_fn T.f27 rfl ?_
  dsimp only [frame, nones, Nat.reduceSub]
  refine w_seq (w_asg (Wp.mono (Q := fun v s => ∃ a w row, v = .ref a ∧ At s a (.lst w (vI row)) ∧ 0 < row.length ∧ row.length ≤ 60 ∧ Kp st s) ?_ ?_))
  · repeat infer_instance
    intro s1 k1 h1
    refine w_ne (d := .lst (dI ns)) (e := .lst []) rfl (rd_cl (by simp [vI, dI]) rd_ints) (rd_lst h1 rfl nofun) ?_
    repeat infer_instance
    refine ⟨fun c => ?_, fun c => ?_⟩
    · repeat infer_instance
      refine ⟨60, rfl, ?_⟩
      show Wp (newC (.lst 0 (cutP (vI ns) none (some ((60 : Nat) : Int)))) s1) _
      rw [cut_to]
      refine w_new fun s2 k2 h2 => ⟨_, _, ns.take 60, rfl, by simpa [vI] using h2, ?_, ?_, k1.trans k2⟩
      · cases ns with
        | nil => simp [dI] at c
        | cons x ns => simp
      · simp; omega
    · repeat infer_instance
      exact fun s2 k2 h2 => ⟨_, _, [7], rfl, h2, by decide, by decide, k1.trans k2⟩
  · rintro v s ⟨a, w, row, rfl, ha, h0, h60, k⟩
    have hl : (vI row).length = row.length := by simp [vI]
    repeat infer_instance
    refine w_lenS (seqV_at ha) ?_
    rw [hl]
    refine w_modI (by omega) ?_
    obtain ⟨j, e, hj⟩ := fmod_nat (a := at_) (b := (row.length : Int)) (by omega)
    rw [e]
    have hj : j < row.length := by omega
    refine w_getL (i := j) ha (v := .int row[j]) (by unfold vI; rw [List.getElem?_map, List.getElem?_eq_getElem hj]; rfl) rfl ?_
    generalize row[j] = cell
    repeat infer_instance
    refine w_lenS (seqV_at ha) ?_
    rw [hl]
    refine w_fdivI (by omega) (by omega) ?_
    generalize Int.fdiv at_ (row.length : Int) = turn
    repeat infer_instance
    refine w_powN (n := 18) (by decide) (by decide) ?_
    repeat infer_instance
    refine ⟨fun c => ?_, fun c => ?_⟩
    · repeat infer_instance
      refine w_powN (n := 40) (by decide) (by decide) ?_
      refine w_modI (by decide) ?_
      repeat infer_instance
      refine w_modI (by decide) ?_
      obtain ⟨t, e2, ht⟩ := fmod_nat (a := turn) (b := 40) (by decide)
      refine ⟨t, by rw [e2], by omega, ?_⟩
      refine w_forL (I := fun i fr s => Kp st s ∧ ∃ x y z, fr = [some (.cl (vI ns)), some (.int at_), some (.int many), some (.ref a), some (.int x), some (.int turn), y, z]) ⟨k, _, _, _, rfl⟩ (fun _ _ s _ => rfl) (fun i v fr s hv ⟨k, x, y, z, e⟩ => ?_) (fun fr s ⟨k, x, y, z, e⟩ => ?_)
      · subst e
        repeat infer_instance
        refine w_fdivI (by decide) (by decide) ?_
        repeat infer_instance
        exact ⟨k, _, _, _, rfl⟩
      · subst e
        repeat infer_instance
        refine w_modI (by decide) ?_
        repeat infer_instance
        refine w_modI (by omega) ?_
        obtain ⟨d, e3, hd⟩ := fmod_nat (a := Int.fmod x 97) (b := many) (by omega)
        rw [e3]
        exact q d _ hd k
    · repeat infer_instance
      refine w_mulI (.inl (by decide)) ?_
      repeat infer_instance
      refine w_modI (by decide) ?_
      repeat infer_instance
      refine w_mulI (.inl (by decide)) ?_
      repeat infer_instance
      refine w_mulI (.inr (by decide)) ?_
      repeat infer_instance
      refine w_fdivI (by decide) (by decide) ?_
      repeat infer_instance
      refine w_modI (by decide) ?_
      repeat infer_instance
      refine w_modI (by decide) ?_
      repeat infer_instance
      refine w_mulI (.inr (by decide)) ?_
      repeat infer_instance
      refine w_modI (by decide) ?_
      repeat infer_instance
      refine w_modI (by omega) ?_
      have fin : ∀ x : Int, Q (.int (Int.fmod x many)) s := fun x => by
        obtain ⟨d, e, h⟩ := fmod_nat (a := x) (b := many) (by omega)
        rw [e]
        exact q d _ h k
      exact fin _
end YL
end
section
set_option linter.all false
set_option maxRecDepth 100000
set_option maxHeartbeats 1000000
/-! S3b: k21's plain law: a machine made, compared. -/
namespace YL
open Y
local macro_rules
  | `(tactic| infer_instance) => `(tactic| first
    | with_reducible refine w_seq ?_
    | with_reducible refine w_asg ?_
    | with_reducible refine w_ret ?_
    | with_reducible refine w_if ?_
    | with_reducible refine w_ex ?_
    | with_reducible refine w_par2 ?_
    | with_reducible refine w_par3 ?_
    | with_reducible refine w_nil ?_
    | with_reducible refine w_for ?_
    | ((with_reducible apply w_var); (exact rfl))
    | with_reducible refine w_cst ?_
    | with_reducible refine w_aNil ?_
    | with_reducible refine w_aCons ?_
    | with_reducible refine w_bin ?_
    | with_reducible refine w_and ?_
    | with_reducible refine w_not ?_
    | with_reducible refine w_isi ?_
    | with_reducible refine w_call ?_
    | with_reducible refine w_sub ?_
    | with_reducible refine w_biR ?_
    | with_reducible refine w_cmp ?_
    | with_reducible refine w_attr ?_
    | with_reducible refine w_tup ?_
    | with_reducible refine w_lst ?_
    | with_reducible refine w_dct1 ?_
    | with_reducible refine w_lm ?_
    | with_reducible refine w_dm ?_
    | with_reducible refine w_in ?_
    | with_reducible refine w_ife ?_
    | with_reducible refine w_neg ?_
    | with_reducible refine w_negI ?_
    | with_reducible refine w_make ?_
    | with_reducible refine w_meth ?_
    | with_reducible refine w_val ?_
    | with_reducible refine w_bnot ?_
    | with_reducible refine w_bor ?_
    | with_reducible refine w_band ?_
    | with_reducible refine w_bcmp ?_
    | with_reducible refine w_bin2 ?_
    | with_reducible refine w_bchain ?_
    | with_reducible refine w_chain ?_
    | with_reducible refine w_bT ?_
    | with_reducible refine w_tv ?_
    | ((with_reducible refine w_ttup ?_ ?_); exact rfl)
    | with_reducible refine w_tsCons ?_
    | with_reducible refine w_tsNil ?_
    | with_reducible refine w_tattr ?_
    | with_reducible refine w_tsub ?_
    | with_reducible refine w_iany ?_
    | with_reducible refine w_ivals ?_
    | with_reducible refine w_iitems ?_
    | with_reducible refine w_rng1 ?_
    | with_reducible refine w_enum ?_
    | with_reducible refine w_zip2 ?_
    | with_reducible refine w_lstRg1 ?_
    | with_reducible refine w_on1 ?_
    | with_reducible refine w_truB ?_
    | with_reducible refine w_lc ?_
    | with_reducible refine w_dc ?_
    | with_reducible refine w_eqI ?_
    | with_reducible refine w_neI ?_
    | with_reducible refine w_neT ?_
    | with_reducible refine w_eqT ?_
    | with_reducible refine w_eqB ?_
    | with_reducible refine w_neB ?_
    | with_reducible refine w_lt ?_
    | with_reducible refine w_le ?_
    | with_reducible refine w_ge ?_
    | with_reducible refine w_addI ?_
    | with_reducible refine w_subI ?_
    | with_reducible refine blQ.mk ?_
    | with_reducible refine w_anyT ?_
    | with_reducible refine w_anyC ?_
    | refine And.intro (show okLen _ = true from rfl) ?_
    | (refine And.intro (isLst_at ?_) ?_; (assumption))
    | ((with_reducible apply w_fld); (assumption); (exact rfl); (exact rfl))
    | refine w_isiV (t := 0) rfl rfl ?_
    | refine w_isiV (t := 4) rfl rfl ?_
    | with_reducible refine w_sl ?_
    | with_reducible refine w_aStarT ?_
    | with_reducible refine w_oN ?_
    | with_reducible refine w_oS ?_
    | with_reducible refine w_int1 ?_)
variable {F : Nat → Option Df} {n : Nat} {st : St} {Q : PV → St → Prop} {I O : Nat} {m : List Row} {p : Nat}
def Pos (m : List Row) : Prop := ∀ r ∈ m, ∀ s ∈ r, ∀ x ∈ s.2, 0 ≤ x
/-- states told by lists or tuples -/
def StsW (st : St) (v : PV) (m : List Row) : Prop := ∃ rs, WordAt st v rs ∧ rs.length = m.length ∧ ∀ (i : Nat) (row : Row), m[i]? = some row → ∃ a, rs[i]? = some a ∧ WordAt st a (row.map sPV)
theorem StsW.k {st st' : St} {v : PV} {m : List Row} (h : StsW st v m) (k : Kp st st') : StsW st' v m := by
  obtain ⟨rs, h1, h2, h3⟩ := h
  refine ⟨rs, h1.k k, h2, fun i row e => ?_⟩
  obtain ⟨a, e1, e2⟩ := h3 i row e
  exact ⟨a, e1, e2.k k⟩
theorem StsAt.w {p : Nat} (h : StsAt st p m) : StsW st (.ref p) m := by
  obtain ⟨w, as, h1, h2, h3⟩ := h.ex
  refine ⟨as, .inr ⟨p, w, rfl, h1⟩, h2, fun i row e => ?_⟩
  obtain ⟨a, e1, q, w2, rfl, e2⟩ := h3 i row e
  exact ⟨_, e1, .inr ⟨q, w2, rfl, e2⟩⟩
theorem WordAt.ty {v : PV} {xs : List PV} (h : WordAt st v xs) : ∃ t, tyCode IL st v = some t ∧ isiAny IS t [3, 4] = some true := by
  rcases h with rfl | ⟨a, w, rfl, h⟩
  · exact ⟨4, rfl, rfl⟩
  · exact ⟨3, ty_lst h, rfl⟩
theorem all_true {l : List Bool} (h : ∀ b ∈ l, b = true) : l.all id = true := by rw [List.all_eq_true]; exact h
theorem WordAt.up {st' : St} {v : PV} {xs : List PV} {c : Nat} {fs : List (Nat × PV)} (h : WordAt st v xs) (hp : At st p (.ins c fs)) (u : Up p st st') : WordAt st' v xs := by
  rcases h with h | ⟨a, w, e, h⟩
  · exact .inl h
  · refine .inr ⟨a, w, e, h.up u fun x => ?_⟩
    subst x
    have := h.get.symm.trans hp.get
    cases this
theorem okL {α : Type} {xs : List α} (h : xs.length ≤ 16777216) : okLen xs = true := okLen_iff.mpr h
def sD (s : Nat × List Int) : Dt := .tup [.int s.1, .tup (dI s.2)]
def dM (m : List Row) : Dt := .lst (m.map fun row => .lst (row.map sD))
theorem re_s {k : Nat} : RE (k + 3) sPV sD := re_pair (e := fun i : Nat => .int i) (D := fun i : Nat => .int i) (e' := fun l : List Int => .tup (vI l)) (D' := fun l : List Int => .tup (dI l)) re_nat (re_tups re_int)
theorem StsAt.rd {k : Nat} (h : StsAt st p m) : Rd st (k + 5) (.ref p) (dM m) := by
  obtain ⟨w, as, h1, h2, h3⟩ := h.ex
  refine rd_lst h1 (by simpa using h2) fun i v d e1 e2 => ?_
  rw [List.getElem?_map] at e2
  cases g : m[i]? with
  | none => rw [g] at e2; cases e2
  | some row =>
    rw [g] at e2
    cases e2
    obtain ⟨a, e3, q, w2, rfl, e4⟩ := h3 i row g
    rw [e1] at e3
    cases e3
    exact rd_list re_s e4
variable (T : Tbl F)
include T
theorem s_meq {p2 : Nat} (M : MachAt st p I O m) (M2 : MachAt st p2 I O m) (q : Q (.bl true) st) : Wp (ev F (n + 1) (.fn 4) [.ref p, .ref p2] st) Q := by
  obtain ⟨s1, h1, S1⟩ := M.ex
  obtain ⟨s2, h2, S2⟩ := M2.ex
  refine w_fn T.f4 rfl ?_
  dsimp only [frame, nones, Nat.reduceSub]
  repeat infer_instance
  refine w_isiV (ty_ins h2 rfl) rfl ?_
  repeat infer_instance
  refine ⟨nofun, fun _ => ?_⟩
  repeat infer_instance
  have key : ∀ s, StsAt st s m → Rd st DD (.tup [.int I, .int O, .ref s]) (.tup [.int I, .int O, dM m]) := fun s S => rd_tup rfl fun i v z e1 e2 => by
    match i, e1, e2 with
    | 0, e1, e2 => cases e1; cases e2; exact rd_int
    | 1, e1, e2 => cases e1; cases e2; exact rd_int
    | 2, e1, e2 => cases e1; cases e2; exact S.rd
    | i + 3, e1, e2 => cases e1
  refine w_eq rfl (key _ S1) (key _ S2) ?_
  rw [decide_eq_true rfl]
  exact q
theorem s_step {z : Nat × List Int} {many : Nat} (h1 : z.1 < many) (h2 : z.2.length = O) (ho : O ≤ 100) (h3 : ∀ x ∈ z.2, 0 ≤ x) (q : ∀ st', Kp st st' → Q (.bl true) st') : Wp (ev F (n + 2) (.fn 1) [sPV z, .int O, .int many] st) Q := by
  obtain ⟨g, o⟩ := z
  refine w_fn T.f1 rfl ?_
  dsimp only [frame, nones, Nat.reduceSub]
  unfold sPV
  repeat infer_instance
  refine ⟨nofun, fun _ => ?_⟩
  repeat infer_instance
  refine w_lenS seqV_tup ?_
  repeat infer_instance
  refine ⟨nofun, fun _ => ?_⟩
  repeat infer_instance
  refine w_getT (i := 0) rfl rfl ?_
  refine s_whole T ?_
  repeat infer_instance
  refine ⟨nofun, fun _ => ?_⟩
  repeat infer_instance
  refine w_getT (i := 0) rfl rfl ?_
  repeat infer_instance
  refine ⟨fun _ => ?_, fun c => absurd (of_decide_eq_false c) (by omega)⟩
  repeat infer_instance
  refine ⟨fun c => absurd c (by simp; omega), fun _ => ?_⟩
  repeat infer_instance
  refine w_getT (i := 1) rfl rfl ?_
  repeat infer_instance
  refine ⟨nofun, fun _ => ?_⟩
  repeat infer_instance
  refine w_getT (i := 1) rfl rfl ?_
  repeat infer_instance
  refine w_lenS seqV_tup ?_
  repeat infer_instance
  refine ⟨fun c => absurd c (by have h2 : o.length = O := h2; simp [vI]; omega), fun _ => ?_⟩
  repeat infer_instance
  refine w_getT (i := 1) rfl rfl ?_
  repeat infer_instance
  refine w_lcF (res := (o.map fun _ => true).map PV.bl) (by simp [vI]) (fun _ _ => rfl) (fun i v s hv k => ?_) (fun s k => ?_)
  · have hv : (vI o)[i]? = some v := hv
    unfold vI at hv
    rw [List.getElem?_map] at hv
    cases e : o[i]? with
    | none => rw [e] at hv; cases hv
    | some x =>
      rw [e] at hv
      cases hv
      have hx := h3 x (List.mem_of_getElem? e)
      repeat infer_instance
      refine s_whole T ?_
      repeat infer_instance
      refine ⟨fun _ => ?_, nofun⟩
      repeat infer_instance
      refine ⟨.refl, ?_⟩
      rw [List.getElem?_map, List.getElem?_map, e, decide_eq_true hx]
      rfl
  · have h2 : o.length = O := h2
    refine ⟨okL (by simp; omega), fun s2 k2 a2 => ?_⟩
    repeat infer_instance
    refine w_all1 a2 ?_
    rw [all_true (by simp)]
    exact q _ (k.trans k2)
theorem s_state {v : PV} {row : Row} {N : Nat} (W : WordAt st v (row.map sPV)) (hr : row.length = I) (hi : I ≤ 100) (ho : O ≤ 100) (h : ∀ z ∈ row, z.1 < N ∧ z.2.length = O ∧ ∀ x ∈ z.2, 0 ≤ x) (q : ∀ st', Kp st st' → Q (.bl true) st') : Wp (ev F (n + 3) (.fn 2) [v, .int I, .int O, .int N] st) Q := by
  refine w_fn T.f2 rfl ?_
  dsimp only [frame, nones, Nat.reduceSub]
  repeat infer_instance
  obtain ⟨t, ht1, ht2⟩ := W.ty
  refine w_isiV ht1 ht2 ?_
  repeat infer_instance
  refine ⟨nofun, fun _ => ?_⟩
  repeat infer_instance
  refine w_lenS W.seq ?_
  repeat infer_instance
  refine ⟨fun c => absurd c (by simp; omega), fun _ => ?_⟩
  repeat infer_instance
  refine w_anyW W fun gd hg => ?_
  refine w_lcF (res := (row.map fun _ => true).map PV.bl) (by simp) (fun s k => hg s k) (fun i v s hv k => ?_) (fun s k => ?_)
  · rw [List.getElem?_map] at hv
    cases e : row[i]? with
    | none => rw [e] at hv; cases hv
    | some z =>
      rw [e] at hv
      cases hv
      have hz := h z (List.mem_of_getElem? e)
      repeat infer_instance
      refine s_step T hz.1 hz.2.1 ho hz.2.2 fun s2 k2 => ⟨k2, ?_⟩
      rw [List.getElem?_map, List.getElem?_map, e]
      rfl
  · refine ⟨okL (by simp; omega), fun s2 k2 a2 => ?_⟩
    repeat infer_instance
    refine w_all1 a2 ?_
    rw [all_true (by simp)]
    exact q _ (k.trans k2)
theorem s_init {s0 : St} {v : PV} (G : Gm I O m) (P : Pos m) (k0 : Kp s0 st) (h0 : s0.n ≤ p) (hp : At st p (.ins 0 [])) (S : StsW st v m) (q : ∀ st', Kp s0 st' → MachAt st' p I O m → Q .non st') : Wp (ev F (n + 4) (.fn 3) [.ref p, .int I, .int O, v] st) Q := by
  obtain ⟨rs, W, hl, hrow⟩ := S
  have hi4 := G.i4
  have ho4 := G.o4
  have h60 := G.n60
  refine w_fn T.f3 rfl ?_
  dsimp only [frame, nones, Nat.reduceSub]
  repeat infer_instance
  refine s_whole T ?_
  repeat infer_instance
  refine ⟨nofun, fun _ => ?_⟩
  repeat infer_instance
  refine ⟨fun _ => ?_, fun c => absurd (of_decide_eq_false c) (by have := G.i1; omega)⟩
  repeat infer_instance
  refine ⟨fun c => absurd c (by simp; omega), fun _ => ?_⟩
  repeat infer_instance
  refine s_whole T ?_
  repeat infer_instance
  refine ⟨nofun, fun _ => ?_⟩
  repeat infer_instance
  refine ⟨fun _ => ?_, fun c => absurd (of_decide_eq_false c) (by have := G.o1; omega)⟩
  repeat infer_instance
  refine ⟨fun c => absurd c (by simp; omega), fun _ => ?_⟩
  repeat infer_instance
  obtain ⟨t, ht1, ht2⟩ := W.ty
  refine w_isiV ht1 ht2 ?_
  repeat infer_instance
  refine ⟨nofun, fun _ => ?_⟩
  repeat infer_instance
  refine w_lenS W.seq ?_
  repeat infer_instance
  refine ⟨fun _ => ?_, fun c => absurd (of_decide_eq_false c) (by have := G.n1; omega)⟩
  repeat infer_instance
  refine ⟨fun c => absurd c (by simp; omega), fun _ => ?_⟩
  repeat infer_instance
  refine w_anyW W fun gd hg => ?_
  refine w_lcF (res := (rs.map fun _ => true).map PV.bl) (by simp) (fun s k => hg s k) (fun i v s hv k => ?_) (fun s k => ?_)
  · have hi : i < m.length := by rw [← hl]; exact (List.getElem?_eq_some_iff.mp hv).1
    obtain ⟨a, e1, e2⟩ := hrow i m[i] (List.getElem?_eq_getElem hi)
    rw [hv] at e1
    cases e1
    have hm := List.getElem_mem hi
    repeat infer_instance
    refine w_lenS (W.k k).seq ?_
    repeat infer_instance
    rw [hl]
    refine s_state T (e2.k k) (G.row _ hm) (by omega) (by omega) (fun z hz => ⟨(G.stp _ hm z hz).1, (G.stp _ hm z hz).2, P _ hm z hz⟩) fun s2 k2 => ⟨k2, ?_⟩
    rw [List.getElem?_map, List.getElem?_map, hv]
    rfl
  · refine ⟨okL (by simp; omega), fun s2 k2 a2 => ?_⟩
    repeat infer_instance
    refine w_all1 a2 ?_
    rw [all_true (by simp)]
    repeat infer_instance
    refine ⟨nofun, fun _ => ?_⟩
    repeat infer_instance
    have k3 := k.trans k2
    refine w_setF (hp.k k3) rfl fun s3 u3 a3 => ?_
    repeat infer_instance
    refine w_setF a3 rfl fun s4 u4 a4 => ?_
    repeat infer_instance
    have k4 : Kp s0 s4 := ((k0.trans k3).up u3 h0).up u4 h0
    have W4 := ((W.k k3).up (hp.k k3) u3).up a3 u4
    refine w_anyW W4 fun gd hg => ?_
    refine w_lcM (P := fun (i : Nat) (y : PV) (s : St) => ∀ row, m[i]? = some row → RowAt s y row) (fun i y s s' k h row e => (h row e).k k) (fun s k => hg s k) (fun i z s hv k => ?_) (fun ys s k h1 h2 => ?_)
    · have hi : i < m.length := by rw [← hl]; exact (List.getElem?_eq_some_iff.mp hv).1
      obtain ⟨a, e1, e2⟩ := hrow i m[i] (List.getElem?_eq_getElem hi)
      rw [hv] at e1
      cases e1
      have E4 := ((e2.k k3).up (hp.k k3) u3).up a3 u4
      repeat infer_instance
      refine w_lst1 (E4.k k).seq fun s5 k5 a5 => ⟨k5, fun row e => ?_⟩
      rw [List.getElem?_eq_getElem hi] at e
      cases e
      exact ⟨_, _, rfl, a5⟩
    · have h1 : ys.length = rs.length := h1
      refine ⟨okL (by omega), fun s6 k6 a6 => ?_⟩
      repeat infer_instance
      refine w_setF (a4.k (k.trans k6)) rfl fun s7 u7 a7 => ?_
      refine q _ ((k4.trans (k.trans k6)).up u7 h0) ⟨_, a7, ⟨_, ys, a6.up u7 ?_, by omega, fun i row e => ?_⟩⟩
      · have := (a4.k k).lt
        omega
      · have hi : i < m.length := (List.getElem?_eq_some_iff.mp e).1
        have e3 : ys[i]? = some ys[i] := List.getElem?_eq_getElem (by omega)
        obtain ⟨x, w, ex, hx⟩ := h2 i _ e3 row e
        refine ⟨_, e3, x, w, ex, (hx.k k6).up u7 fun z => ?_⟩
        subst z
        have := hx.get.symm.trans ((a4.k k).get)
        cases this
end YL
end
section
set_option linter.all false
set_option maxRecDepth 100000
set_option maxHeartbeats 1000000
/-! S3c: k21's plain law: a machine drawn. -/
namespace YL
open Y
local macro_rules
  | `(tactic| infer_instance) => `(tactic| first
    | with_reducible refine w_seq ?_
    | with_reducible refine w_asg ?_
    | with_reducible refine w_ret ?_
    | with_reducible refine w_if ?_
    | with_reducible refine w_ex ?_
    | with_reducible refine w_par2 ?_
    | with_reducible refine w_par3 ?_
    | with_reducible refine w_nil ?_
    | with_reducible refine w_for ?_
    | ((with_reducible apply w_var); (exact rfl))
    | with_reducible refine w_cst ?_
    | with_reducible refine w_aNil ?_
    | with_reducible refine w_aCons ?_
    | with_reducible refine w_bin ?_
    | with_reducible refine w_and ?_
    | with_reducible refine w_not ?_
    | with_reducible refine w_isi ?_
    | with_reducible refine w_call ?_
    | with_reducible refine w_sub ?_
    | with_reducible refine w_biR ?_
    | with_reducible refine w_cmp ?_
    | with_reducible refine w_attr ?_
    | with_reducible refine w_tup ?_
    | with_reducible refine w_lst ?_
    | with_reducible refine w_dct1 ?_
    | with_reducible refine w_lm ?_
    | with_reducible refine w_dm ?_
    | with_reducible refine w_in ?_
    | with_reducible refine w_ife ?_
    | with_reducible refine w_neg ?_
    | with_reducible refine w_negI ?_
    | with_reducible refine w_make ?_
    | with_reducible refine w_meth ?_
    | with_reducible refine w_val ?_
    | with_reducible refine w_bnot ?_
    | with_reducible refine w_bor ?_
    | with_reducible refine w_band ?_
    | with_reducible refine w_bcmp ?_
    | with_reducible refine w_bin2 ?_
    | with_reducible refine w_bchain ?_
    | with_reducible refine w_chain ?_
    | with_reducible refine w_bT ?_
    | with_reducible refine w_tv ?_
    | ((with_reducible refine w_ttup ?_ ?_); exact rfl)
    | with_reducible refine w_tsCons ?_
    | with_reducible refine w_tsNil ?_
    | with_reducible refine w_tattr ?_
    | with_reducible refine w_tsub ?_
    | with_reducible refine w_iany ?_
    | with_reducible refine w_ivals ?_
    | with_reducible refine w_iitems ?_
    | with_reducible refine w_rng1 ?_
    | with_reducible refine w_enum ?_
    | with_reducible refine w_zip2 ?_
    | with_reducible refine w_lstRg1 ?_
    | with_reducible refine w_on1 ?_
    | with_reducible refine w_truB ?_
    | with_reducible refine w_lc ?_
    | with_reducible refine w_dc ?_
    | with_reducible refine w_eqI ?_
    | with_reducible refine w_neI ?_
    | with_reducible refine w_neT ?_
    | with_reducible refine w_eqT ?_
    | with_reducible refine w_eqB ?_
    | with_reducible refine w_neB ?_
    | with_reducible refine w_lt ?_
    | with_reducible refine w_le ?_
    | with_reducible refine w_ge ?_
    | with_reducible refine w_addI ?_
    | with_reducible refine w_subI ?_
    | with_reducible refine blQ.mk ?_
    | with_reducible refine w_anyT ?_
    | with_reducible refine w_anyC ?_
    | refine And.intro (show okLen _ = true from rfl) ?_
    | (refine And.intro (isLst_at ?_) ?_; (assumption))
    | ((with_reducible apply w_fld); (assumption); (exact rfl); (exact rfl))
    | refine w_isiV (t := 0) rfl rfl ?_
    | refine w_isiV (t := 4) rfl rfl ?_
    | with_reducible refine w_sl ?_
    | with_reducible refine w_aStarT ?_
    | with_reducible refine w_oN ?_
    | with_reducible refine w_oS ?_
    | with_reducible refine w_int1 ?_)
variable {F : Nat → Option Df} {n : Nat} {st : St} {Q : PV → St → Prop} {I O N : Nat} {m : List Row} {p lo : Nat}
def StG (O N : Nat) (y : PV) : Prop := ∃ z : Nat × List Int, y = sPV z ∧ z.1 < N ∧ z.2.length = O ∧ ∀ x ∈ z.2, 0 ≤ x
def RowG (I O N lo : Nat) (y : PV) (s : St) : Prop := ∃ a w ys, y = .ref a ∧ lo ≤ a ∧ At s a (.lst w ys) ∧ ys.length = I ∧ ∀ (i : Nat) z, ys[i]? = some z → StG O N z
theorem RowG.k {y : PV} {s s' : St} (h : RowG I O N lo y s) (k : Kp s s') : RowG I O N lo y s' := by
  obtain ⟨a, w, ys, e, l, h, r⟩ := h
  exact ⟨a, w, ys, e, l, h.k k, r⟩
theorem RowG.up {y : PV} {s s' : St} (h : RowG I O N lo y s) {x : Nat} (u : Up x s s') (hx : x < lo) : RowG I O N lo y s' := by
  obtain ⟨a, w, ys, e, l, h, r⟩ := h
  exact ⟨a, w, ys, e, l, h.up u (by omega), r⟩
theorem RowG.row {y : PV} {s : St} (h : RowG I O N lo y s) : ∃ row : Row, RowAt s y row ∧ row.length = I ∧ ∀ z ∈ row, z.1 < N ∧ z.2.length = O ∧ ∀ x ∈ z.2, 0 ≤ x := by
  obtain ⟨a, w, ys, rfl, _, h, hl, r⟩ := h
  obtain ⟨row, h1, h2⟩ := choose_list (β := Nat × List Int) I (fun i z => ys[i]? = some (sPV z) ∧ z.1 < N ∧ z.2.length = O ∧ ∀ x ∈ z.2, 0 ≤ x) fun i hi => by
    have e : ys[i]? = some ys[i] := List.getElem?_eq_getElem (by omega)
    obtain ⟨z, e2, h⟩ := r i _ e
    exact ⟨z, by rw [e, e2], h⟩
  refine ⟨row, ⟨a, w, rfl, ?_⟩, h1, fun z hz => ?_⟩
  · have : ys = row.map sPV := List.ext_getElem? fun i => by
      rw [List.getElem?_map]
      cases e : row[i]? with
      | some z => exact (h2 i z e).1
      | none => exact List.getElem?_eq_none (by have := List.getElem?_eq_none_iff.mp e; omega)
    rw [← this]
    exact h
  · obtain ⟨i, hi, rfl⟩ := List.mem_iff_getElem.mp hz
    exact (h2 i _ (List.getElem?_eq_getElem hi)).2
theorem sts_of {s : St} {w : Nat} {as : List PV} (hi : 1 ≤ I) (hi4 : I ≤ 4) (ho : 1 ≤ O) (ho4 : O ≤ 4) (hn : 1 ≤ N) (hn60 : N ≤ 60) (h : At s p (.lst w as)) (hl : as.length = N) (hr : ∀ (i : Nat) a, as[i]? = some a → RowG I O N lo a s) : ∃ m, Gm I O m ∧ Pos m ∧ StsAt s p m := by
  obtain ⟨m, h1, h2⟩ := choose_list (β := Row) N (fun i row => ∃ a, as[i]? = some a ∧ RowAt s a row ∧ row.length = I ∧ ∀ z ∈ row, z.1 < N ∧ z.2.length = O ∧ ∀ x ∈ z.2, 0 ≤ x) fun i hi => by
    have e : as[i]? = some as[i] := List.getElem?_eq_getElem (by omega)
    obtain ⟨row, q⟩ := (hr i _ e).row
    exact ⟨row, _, e, q⟩
  have key : ∀ row ∈ m, row.length = I ∧ ∀ z ∈ row, z.1 < N ∧ z.2.length = O ∧ ∀ x ∈ z.2, 0 ≤ x := fun row hrow => by
    obtain ⟨i, hi, rfl⟩ := List.mem_iff_getElem.mp hrow
    obtain ⟨a, _, _, q⟩ := h2 i _ (List.getElem?_eq_getElem hi)
    exact q
  refine ⟨m, ⟨hi, hi4, ho, ho4, by omega, by omega, fun r hr => (key r hr).1, fun r hr z hz => ⟨by rw [h1]; exact ((key r hr).2 z hz).1, ((key r hr).2 z hz).2.1⟩⟩, fun r hr z hz => ((key r hr).2 z hz).2.2, ⟨w, as, h, by omega, fun i row e => ?_⟩⟩
  obtain ⟨a, e1, e2, _⟩ := h2 i row e
  exact ⟨a, e1, e2⟩
theorem ints_of {ys : List PV} {k : Nat} (hl : ys.length = k) (h : ∀ (i : Nat) y, ys[i]? = some y → ∃ d : Nat, y = .int d) : ∃ l : List Int, ys = vI l ∧ l.length = k ∧ ∀ x ∈ l, 0 ≤ x := by
  obtain ⟨l, h1, h2⟩ := choose_list (β := Int) k (fun i x => ys[i]? = some (.int x) ∧ 0 ≤ x) fun i hi => by
    have e : ys[i]? = some ys[i] := List.getElem?_eq_getElem (by omega)
    obtain ⟨d, e2⟩ := h i _ e
    exact ⟨d, by rw [e, e2], by omega⟩
  refine ⟨l, ?_, h1, fun x hx => ?_⟩
  · refine List.ext_getElem? fun i => ?_
    unfold vI
    rw [List.getElem?_map]
    cases e : l[i]? with
    | some z => exact (h2 i z e).1
    | none => exact List.getElem?_eq_none (by have := List.getElem?_eq_none_iff.mp e; omega)
  · obtain ⟨i, hi, rfl⟩ := List.mem_iff_getElem.mp hx
    exact (h2 i _ (List.getElem?_eq_getElem hi)).2
def ShG (W : Nat) (y : PV) (s : St) : Prop := ∃ a w xs, y = .ref a ∧ At s a (.lst w xs) ∧ xs.length = W ∧ ∀ (i : Nat) z, xs[i]? = some z → ∃ d : Nat, z = .int d
theorem ShG.k {W : Nat} {y : PV} {s s' : St} (h : ShG W y s) (k : Kp s s') : ShG W y s' := by
  obtain ⟨a, w, xs, e, h, r⟩ := h
  exact ⟨a, w, xs, e, h.k k, r⟩
variable (T : Tbl F)
include T
theorem s_lmach {ns : List Int} (q : ∀ I O m p st', Gm I O m → Pos m → StsAt st' p m → Q (.tup [.int (I : Nat), .int (O : Nat), .ref p]) st') : Wp (ev F (n + 2) (.fn 28) [.cl (vI ns), .int 0] st) Q := by
  refine w_fn T.f28 rfl ?_
  dsimp only [frame, nones, Nat.reduceSub]
  repeat infer_instance
  refine s_draw T (by decide) fun i0 s1 hi k1 => ?_
  repeat infer_instance
  refine s_draw T (by decide) fun o0 s2 ho k2 => ?_
  repeat infer_instance
  rw [show (1 : Int) + (i0 : Nat) = ((1 + i0 : Nat) : Int) by omega, show (1 : Int) + (o0 : Nat) = ((1 + o0 : Nat) : Int) by omega]
  have hI : 1 ≤ 1 + i0 := by omega
  have hI4 : 1 + i0 ≤ 4 := by omega
  have hO : 1 ≤ 1 + o0 := by omega
  have hO4 : 1 + o0 ≤ 4 := by omega
  generalize 1 + i0 = I at *
  generalize 1 + o0 = O at *
  refine s_draw T (by decide) fun d3 s3 h3 k3 => ?_
  repeat infer_instance
  refine ⟨fun _ => ?_, fun _ => ?_⟩
  · repeat infer_instance
    refine s_draw T (by decide) fun n0 s4 hn k4 => ?_
    repeat infer_instance
    rw [show (1 : Int) + (n0 : Nat) = ((1 + n0 : Nat) : Int) by omega]
    have hN : 1 ≤ 1 + n0 := by omega
    have hN4 : 1 + n0 ≤ 4 := by omega
    generalize 1 + n0 = N at *
    refine ⟨N, rfl, by omega, ?_⟩
    refine w_lcM (P := fun (i : Nat) (y : PV) (s : St) => RowG I O N 0 y s) (fun _ _ _ _ k h => h.k k) (fun _ _ => rfl) (fun i v s hv k => ?_) (fun ys s k hl hr => ?_)
    · obtain ⟨hi, rfl⟩ := rgN_get hv
      repeat infer_instance
      refine ⟨I, rfl, by omega, ?_⟩
      refine w_lcM (P := fun (i : Nat) (y : PV) (s : St) => StG O N y) (fun _ _ _ _ k h => h) (fun _ _ => rfl) (fun i2 v2 s5 hv2 k5 => ?_) (fun ys s6 k6 hl hr => ?_)
      · obtain ⟨hi2, rfl⟩ := rgN_get hv2
        repeat infer_instance
        refine w_mulI (.inl (by decide)) ?_
        repeat infer_instance
        refine s_draw T (by omega) fun g s6 hg k6 => ?_
        repeat infer_instance
        refine ⟨O, rfl, by omega, ?_⟩
        refine w_lcM (P := fun (i : Nat) (y : PV) (s : St) => ∃ d : Nat, y = .int d) (fun _ _ _ _ k h => h) (fun _ _ => rfl) (fun i3 v3 s7 hv3 k7 => ?_) (fun ys s8 k8 hl hr => ?_)
        · obtain ⟨hi3, rfl⟩ := rgN_get hv3
          repeat infer_instance
          refine w_mulI (.inl (by decide)) ?_
          repeat infer_instance
          refine w_mulI (.inl (by decide)) ?_
          repeat infer_instance
          refine s_draw T (by decide) fun g s6 hg k6 => ?_
          exact ⟨k6, _, rfl⟩
        · have hl : ys.length = O := hl.trans rgN_len
          obtain ⟨l, rfl, l1, l2⟩ := ints_of hl hr
          refine ⟨okL (by omega), fun s9 k9 a9 => ?_⟩
          repeat infer_instance
          refine w_tup1 (seqV_at a9) ?_
          repeat infer_instance
          exact ⟨k6.trans (k8.trans k9), (g, l), rfl, by simpa using hg, l1, l2⟩
      · have hl : ys.length = I := hl.trans rgN_len
        refine ⟨okL (by omega), fun s9 k9 a9 => ⟨k6.trans k9, _, _, ys, rfl, Nat.zero_le _, a9, hl, hr⟩⟩
    · have hl : ys.length = N := hl.trans rgN_len
      refine ⟨okL (by omega), fun s9 k9 a9 => ?_⟩
      obtain ⟨m, G, P, S⟩ := sts_of hI hI4 hO hO4 hN (by omega) a9 hl fun i a e => (hr i a e).k k9
      repeat infer_instance
      exact q I O m _ _ G P S
  · repeat infer_instance
    refine ⟨I, rfl, by omega, ?_⟩
    refine w_lcM (P := fun (i : Nat) (y : PV) (s : St) => ∃ d : Nat, y = .int d ∧ d < 3) (fun _ _ _ _ k h => h) (fun _ _ => rfl) (fun i v s hv k => ?_) (fun ws s4 k4 hwl hwr => ?_)
    · obtain ⟨hi, rfl⟩ := rgN_get hv
      repeat infer_instance
      exact s_draw T (by decide) fun g s6 hg k6 => ⟨k6, g, rfl, by omega⟩
    have hwl : ws.length = I := hwl.trans rgN_len
    refine ⟨okL (by omega), fun s5 k5 aw => ?_⟩
    generalize s4.n = ad7 at aw
    repeat infer_instance
    refine s_draw T (by decide) fun bg s6 hbg k6 => ?_
    repeat infer_instance
    refine s_draw T (by decide) fun pr s7 hpr k7 => ?_
    repeat infer_instance
    have aw7 := (aw.k k6).k k7
    refine ⟨O, rfl, by omega, ?_⟩
    rw [show (1 : Int) + (pr : Nat) = ((1 + pr : Nat) : Int) by omega]
    have hP : 1 ≤ 1 + pr ∧ 1 + pr ≤ 4 := by omega
    generalize 1 + pr = per at *
    have hbg : bg < 3 := by omega
    refine w_lcM (P := fun (i : Nat) (y : PV) (s : St) => ShG (bg + per + 2) y s) (fun _ _ _ _ k h => h.k k) (fun _ _ => rfl) (fun i v s hv k => ?_) (fun sh s8 k8 hsl hsr => ?_)
    · obtain ⟨hi, rfl⟩ := rgN_get hv
      repeat infer_instance
      refine ⟨bg + per + 2, by push_cast; rfl, by omega, ?_⟩
      refine w_lcM (P := fun (i : Nat) (y : PV) (s : St) => ∃ d : Nat, y = .int d) (fun _ _ _ _ k h => h) (fun _ _ => rfl) (fun i2 v2 s8 hv2 k8 => ?_) (fun ys s8 k8 hl hr => ?_)
      · obtain ⟨hi, rfl⟩ := rgN_get hv2
        repeat infer_instance
        refine w_mulI (.inl (by decide)) ?_
        repeat infer_instance
        exact s_draw T (by decide) fun g s6 hg k6 => ⟨k6, g, rfl⟩
      · have hl : ys.length = bg + per + 2 := hl.trans rgN_len
        exact ⟨okL (by omega), fun s9 k9 a9 => ⟨k8.trans k9, _, _, ys, rfl, a9, hl, hr⟩⟩
    have hsl : sh.length = O := hsl.trans rgN_len
    refine ⟨okL (by omega), fun s9 k9 ash => ?_⟩
    generalize s8.n = ad10 at ash
    have aw9 := (aw7.k k8).k k9
    have hsr9 : ∀ (i : Nat) y, sh[i]? = some y → ShG (bg + per + 2) y s9 := fun i y e => (hsr i y e).k k9
    clear hsr
    repeat infer_instance
    intro s10 k10 a11
    repeat infer_instance
    rw [show (bg : Int) + (per : Nat) = ((bg + per : Nat) : Int) by omega]
    have hN : 1 ≤ bg + per ∧ bg + per ≤ 6 := by omega
    generalize hNe : bg + per = N at *
    refine ⟨N, rfl, by omega, ?_⟩
    generalize had : s9.n = ad11 at a11
    refine w_forL (I := fun i fr s => Kp s9 s ∧ (∃ w as, At s ad11 (.lst w as) ∧ as.length = i ∧ ∀ (j : Nat) a, as[j]? = some a → RowG I O N (ad11 + 1) a s) ∧ ∃ x5 x6 x12 x13 x14 x15 x16 x17 x18 x19, fr = [some (.cl (vI ns)), some (.int 0), some (.int I), some (.int O), some (.int N), x5, x6, some (.ref ad7), some (.int bg), some (.int per), some (.ref ad10), some (.ref ad11), x12, x13, x14, x15, x16, x17, x18, x19]) ⟨k10, ⟨_, _, a11, rfl, nofun⟩, _, _, _, _, _, _, _, _, _, _, rfl⟩ (fun _ _ _ _ => rfl) (fun i v fr s hv ⟨k, ⟨w, as, ha, hal, har⟩, x5, x6, x12, x13, x14, x15, x16, x17, x18, x19, e⟩ => ?_) (fun fr s ⟨k, ⟨w, as, ha, hal, har⟩, x5, x6, x12, x13, x14, x15, x16, x17, x18, x19, e⟩ => ?_)
    · subst e
      obtain ⟨hi, rfl⟩ := rgN_get hv
      repeat infer_instance
      intro s11 k11 a12
      have hlt := ha.lt
      generalize had12 : s.n = ad12 at a12 hlt
      repeat infer_instance
      refine w_anyL ((aw9.k k).k k11) ?_
      refine w_forL (I := fun j fr s' => Kp s s' ∧ (∃ w ys, At s' ad12 (.lst w ys) ∧ ys.length = j ∧ ∀ (j : Nat) z, ys[j]? = some z → StG O N z) ∧ ∃ x6 x13 x14 x15 x16 x17 x18 x19, fr = [some (.cl (vI ns)), some (.int 0), some (.int I), some (.int O), some (.int N), some (.int i), x6, some (.ref ad7), some (.int bg), some (.int per), some (.ref ad10), some (.ref ad11), some (.ref ad12), x13, x14, x15, x16, x17, x18, x19]) ⟨k11, ⟨_, _, a12, rfl, nofun⟩, _, _, _, _, _, _, _, _, rfl⟩ (fun _ _ s' ⟨k', _⟩ => gd_lst ((aw9.k k).k k') rfl) (fun j v fr s12 hv ⟨k12, ⟨w2, ys, hy, hyl, hyr⟩, x6, x13, x14, x15, x16, x17, x18, x19, e⟩ => ?_) (fun fr s12 ⟨k12, ⟨w2, ys, hy, hyl, hyr⟩, x6, x13, x14, x15, x16, x17, x18, x19, e⟩ => ?_)
      · subst e
        obtain ⟨wt, rfl, hwt⟩ := hwr j v hv
        repeat infer_instance
        intro s13 k13 a13
        repeat infer_instance
        refine w_mulL1 a13 (by omega) (by omega) fun s14 k14 a14 => ?_
        repeat infer_instance
        refine ⟨wt, rfl, by omega, ?_⟩
        have hz : (List.replicate ((O : Nat) : Int).toNat (PV.int 0)) = vI (zO O) := by simp [vI, zO]
        rw [hz] at a14
        refine w_forL (I := fun u fr s' => Kp s12 s' ∧ ∃ g : Nat, ∃ a w os, g < N ∧ At s' a (.lst w (vI os)) ∧ os.length = O ∧ (∀ x ∈ os, 0 ≤ x) ∧ ∃ x6 x16 x17 x18 x19, fr = [some (.cl (vI ns)), some (.int 0), some (.int I), some (.int O), some (.int N), some (.int i), x6, some (.ref ad7), some (.int bg), some (.int per), some (.ref ad10), some (.ref ad11), some (.ref ad12), some (.int wt), some (.int g), some (.ref a), x16, x17, x18, x19]) ⟨k13.trans k14, i, _, _, _, hi, a14, zO_len, by simp [zO], _, _, _, _, _, rfl⟩ (fun _ _ _ _ => rfl) (fun u v fr s15 hv ⟨k15, g, a, w3, os, hg, hos, hol, hop, x6, x16, x17, x18, x19, e⟩ => ?_) (fun fr s15 ⟨k15, g, a, w3, os, hg, hos, hol, hop, x6, x16, x17, x18, x19, e⟩ => ?_)
        · subst e
          repeat infer_instance
          refine ⟨_, _, seqG_at hos, ?_⟩
          refine w_lcM (P := fun (i : Nat) (y : PV) (s : St) => ∃ d : Nat, y = .int d) (fun _ _ _ _ k h => h) (fun s' k' => gd_lst (hos.k k') rfl) (fun i2 v2 s16 hv2 k16 => ?_) (fun ys s16 k16 hl hr => ?_)
          · rw [enumL_get] at hv2
            unfold vI at hv2
            rw [List.getElem?_map] at hv2
            cases e1 : os[i2]? with
            | none => rw [e1] at hv2; cases hv2
            | some x =>
              rw [e1] at hv2
              cases hv2
              have hi2 : i2 < O := by rw [← hol]; exact (List.getElem?_eq_some_iff.mp e1).1
              have hx := hop x (List.mem_of_getElem? e1)
              have K9 : Kp s9 s16 := ((k.trans k12).trans k15).trans k16
              have e2 : sh[i2]? = some sh[i2] := List.getElem?_eq_getElem (by omega)
              obtain ⟨b, w4, xs, e3, hb, hbl, hbr⟩ := hsr9 i2 _ e2
              rw [e3] at e2
              have e4 : xs[g]? = some xs[g] := List.getElem?_eq_getElem (by omega)
              obtain ⟨d, e5⟩ := hbr g _ e4
              rw [e5] at e4
              repeat infer_instance
              refine w_getL (i := i2) (ash.k K9) e2 (by simp) ?_
              repeat infer_instance
              refine w_getL (i := g) (hb.k K9) e4 rfl ?_
              repeat infer_instance
              exact ⟨.refl, (x + d).toNat, by congr 1; omega⟩
          · have hl : ys.length = O := by rw [hl, enumL_len]; simpa [vI] using hol
            obtain ⟨l, rfl, l1, l2⟩ := ints_of hl hr
            refine ⟨okL (by omega), fun s17 k17 a17 => ?_⟩
            repeat infer_instance
            refine ⟨fun c => ?_, fun c => ?_⟩
            · have := of_decide_eq_true c
              repeat infer_instance
              exact ⟨(k15.trans k16).trans k17, g + 1, _, _, l, by omega, a17, l1, l2, _, _, _, _, _, rfl⟩
            · repeat infer_instance
              exact ⟨(k15.trans k16).trans k17, bg, _, _, l, by omega, a17, l1, l2, _, _, _, _, _, rfl⟩
        · subst e
          repeat infer_instance
          refine ⟨isLst_at (hy.k k15), ?_⟩
          repeat infer_instance
          refine w_tup1 (seqV_at hos) ?_
          repeat infer_instance
          refine w_append (hy.k k15) (by show ys.length < 16777216; have h : j < ws.length := (List.getElem?_eq_some_iff.mp hv).1; omega) fun s18 u18 a18 => ?_
          refine ⟨(k12.trans k15).up u18 (by omega), ⟨_, _, a18, by simp [hyl], fun t z hz => ?_⟩, _, _, _, _, _, _, _, _, rfl⟩
          rcases Nat.lt_trichotomy t ys.length with c | c | c
          · rw [List.getElem?_append_left c] at hz
            exact hyr t z hz
          · subst c
            rw [List.getElem?_append_right (Nat.le_refl _), Nat.sub_self] at hz
            cases hz
            exact ⟨(g, os), rfl, hg, hol, hop⟩
          · rw [List.getElem?_eq_none (by simp; omega)] at hz
            cases hz
      · subst e
        repeat infer_instance
        refine ⟨isLst_at (ha.k k12), ?_⟩
        repeat infer_instance
        refine w_append (ha.k k12) (by show as.length < 16777216; omega) fun s18 u18 a18 => ?_
        refine ⟨(k.trans k12).up u18 (by omega), ⟨_, _, a18, by simp [hal], fun t z hz => ?_⟩, _, _, _, _, _, _, _, _, _, _, rfl⟩
        rcases Nat.lt_trichotomy t as.length with c | c | c
        · rw [List.getElem?_append_left c] at hz
          exact ((har t z hz).k k12).up u18 (by omega)
        · subst c
          rw [List.getElem?_append_right (Nat.le_refl _), Nat.sub_self] at hz
          cases hz
          exact ⟨ad12, w2, ys, rfl, by omega, hy.up u18 (by omega), hyl.trans hwl, hyr⟩
        · rw [List.getElem?_eq_none (by simp; omega)] at hz
          cases hz
    · subst e
      have hal : as.length = N := hal.trans rgN_len
      have fin : ∀ s w as, At s ad11 (.lst w as) → as.length = N → (∀ (t : Nat) a, as[t]? = some a → RowG I O N (ad11 + 1) a s) → Q (.tup [.int (I : Nat), .int (O : Nat), .ref ad11]) s := fun s w as h1 h2 h3 => by
        obtain ⟨m, G, P, S⟩ := sts_of hI hI4 hO hO4 hN.1 (by omega) h1 h2 h3
        exact q I O m _ _ G P S
      repeat infer_instance
      refine s_draw T (by decide) fun d1 s19 hd1 k19 => ?_
      repeat infer_instance
      refine ⟨fun _ => ?_, fun _ => ?_⟩
      · repeat infer_instance
        refine s_draw T (by omega) fun r0 s20 hr0 k20 => ?_
        repeat infer_instance
        refine s_draw T (by omega) fun c0 s21 hc0 k21 => ?_
        repeat infer_instance
        have K := (k19.trans k20).trans k21
        have ha := ha.k K
        have har := fun (j : Nat) a e => (har j a e).k K
        have e1 : as[r0]? = some as[r0] := List.getElem?_eq_getElem (by omega)
        obtain ⟨ra, rw, ys, e2, hlo, hy, hyl, hyr⟩ := har r0 _ e1
        rw [e2] at e1
        refine w_getL (i := r0) ha e1 rfl ?_
        repeat infer_instance
        have e3 : ys[c0]? = some ys[c0] := List.getElem?_eq_getElem (by omega)
        obtain ⟨⟨g, os⟩, e4, hg, hol, hop⟩ := hyr c0 _ e3
        rw [e4] at e3
        refine w_getL (i := c0) hy e3 rfl ?_
        unfold sPV
        repeat infer_instance
        refine s_draw T (by decide) fun d2 s22 hd2 k22 => ?_
        have key : ∀ (s : St) (z : Nat × List Int), Kp s22 s → z.1 < N → z.2.length = O → (∀ x ∈ z.2, 0 ≤ x) → Wp (setV (.ref ra) (.int c0) (sPV z) s) fun _ s => Q (.tup [.int (I : Nat), .int (O : Nat), .ref ad11]) s := fun s z k hz1 hz2 hz3 => by
          have ha := (ha.k k22).k k
          have hy := (hy.k k22).k k
          refine w_setL (i := c0) hy (by omega) rfl fun s2 u2 a2 => ?_
          refine fin s2 _ as (ha.up u2 (by omega)) hal fun t a e => ?_
          obtain ⟨b, w5, zs, e5, hlo5, hz, hzl, hzr⟩ := ((har t a e).k k22).k k
          by_cases c : b = ra
          · subst c
            refine ⟨b, _, _, e5, hlo5, a2, by simp [hyl], fun x y hxy => ?_⟩
            rw [List.getElem?_set] at hxy
            split at hxy
            · split at hxy
              · cases hxy
                exact ⟨z, rfl, hz1, hz2, hz3⟩
              · cases hxy
            · exact hyr x y hxy
          · exact ⟨b, w5, zs, e5, hlo5, hz.up u2 c, hzl, hzr⟩
        repeat infer_instance
        refine ⟨fun _ => ?_, fun _ => ?_⟩
        · repeat infer_instance
          refine s_draw T (by omega) fun g2 s23 hg2 k23 => ?_
          repeat infer_instance
          refine w_getL (i := r0) ((ha.k k22).k k23) e1 rfl ?_
          repeat infer_instance
          exact (key s23 (g2, os) k23 (by show g2 < N; omega) hol hop).mono fun _ s h => by
            repeat infer_instance
            exact h
        · repeat infer_instance
          refine w_lcM (P := fun (i : Nat) (y : PV) (s : St) => ∃ d : Nat, y = .int d) (fun _ _ _ _ k h => h) (fun s' k' => rfl) (fun i2 v2 s16 hv2 k16 => ?_) (fun ys s16 k16 hl hr => ?_)
          · have hv2 : (vI os)[i2]? = some v2 := hv2
            unfold vI at hv2
            rw [List.getElem?_map] at hv2
            cases e1 : os[i2]? with
            | none => rw [e1] at hv2; cases hv2
            | some x =>
              rw [e1] at hv2
              cases hv2
              have hx := hop x (List.mem_of_getElem? e1)
              repeat infer_instance
              exact ⟨.refl, (x + 1).toNat, by congr 1; omega⟩
          · have hl : ys.length = O := by rw [hl]; simpa [vI] using hol
            obtain ⟨l, rfl, l1, l2⟩ := ints_of hl hr
            refine ⟨okL (by omega), fun s17 k17 a17 => ?_⟩
            repeat infer_instance
            refine w_tup1 (seqV_at a17) ?_
            repeat infer_instance
            refine w_getL (i := r0) ((ha.k k22).k (k16.trans k17)) e1 rfl ?_
            repeat infer_instance
            exact (key s17 (g, l) (k16.trans k17) hg l1 l2).mono fun _ s h => by
              repeat infer_instance
              exact h
      · repeat infer_instance
        exact fin s19 _ as (ha.k k19) hal fun t a e => (har t a e).k k19
end YL
end
section
set_option linter.all false
set_option maxRecDepth 100000
set_option maxHeartbeats 1000000
/-! S4: k21's plain law: the law's own walks. -/
namespace YL
open Y
local macro_rules
  | `(tactic| infer_instance) => `(tactic| first
    | with_reducible refine w_seq ?_
    | with_reducible refine w_asg ?_
    | with_reducible refine w_ret ?_
    | with_reducible refine w_if ?_
    | with_reducible refine w_ex ?_
    | with_reducible refine w_par2 ?_
    | with_reducible refine w_par3 ?_
    | with_reducible refine w_nil ?_
    | with_reducible refine w_for ?_
    | ((with_reducible apply w_var); (exact rfl))
    | with_reducible refine w_cst ?_
    | with_reducible refine w_aNil ?_
    | with_reducible refine w_aCons ?_
    | with_reducible refine w_bin ?_
    | with_reducible refine w_and ?_
    | with_reducible refine w_not ?_
    | with_reducible refine w_isi ?_
    | with_reducible refine w_call ?_
    | with_reducible refine w_sub ?_
    | with_reducible refine w_biR ?_
    | with_reducible refine w_cmp ?_
    | with_reducible refine w_attr ?_
    | with_reducible refine w_tup ?_
    | with_reducible refine w_lst ?_
    | with_reducible refine w_dct1 ?_
    | with_reducible refine w_lm ?_
    | with_reducible refine w_dm ?_
    | with_reducible refine w_in ?_
    | with_reducible refine w_ife ?_
    | with_reducible refine w_neg ?_
    | with_reducible refine w_negI ?_
    | with_reducible refine w_make ?_
    | with_reducible refine w_meth ?_
    | with_reducible refine w_val ?_
    | with_reducible refine w_bnot ?_
    | with_reducible refine w_bor ?_
    | with_reducible refine w_band ?_
    | with_reducible refine w_bcmp ?_
    | with_reducible refine w_bin2 ?_
    | with_reducible refine w_bchain ?_
    | with_reducible refine w_chain ?_
    | with_reducible refine w_bT ?_
    | with_reducible refine w_tv ?_
    | ((with_reducible refine w_ttup ?_ ?_); exact rfl)
    | with_reducible refine w_tsCons ?_
    | with_reducible refine w_tsNil ?_
    | with_reducible refine w_tattr ?_
    | with_reducible refine w_tsub ?_
    | with_reducible refine w_iany ?_
    | with_reducible refine w_ivals ?_
    | with_reducible refine w_iitems ?_
    | with_reducible refine w_rng1 ?_
    | with_reducible refine w_enum ?_
    | with_reducible refine w_zip2 ?_
    | with_reducible refine w_lstRg1 ?_
    | with_reducible refine w_on1 ?_
    | with_reducible refine w_truB ?_
    | with_reducible refine w_lc ?_
    | with_reducible refine w_dc ?_
    | with_reducible refine w_eqI ?_
    | with_reducible refine w_neI ?_
    | with_reducible refine w_neT ?_
    | with_reducible refine w_eqT ?_
    | with_reducible refine w_eqB ?_
    | with_reducible refine w_neB ?_
    | with_reducible refine w_lt ?_
    | with_reducible refine w_le ?_
    | with_reducible refine w_ge ?_
    | with_reducible refine w_addI ?_
    | with_reducible refine w_subI ?_
    | with_reducible refine blQ.mk ?_
    | with_reducible refine w_anyT ?_
    | with_reducible refine w_anyC ?_
    | refine And.intro (show okLen _ = true from rfl) ?_
    | (refine And.intro (isLst_at ?_) ?_; (assumption))
    | ((with_reducible apply w_fld); (assumption); (exact rfl); (exact rfl))
    | refine w_isiV (t := 0) rfl rfl ?_
    | refine w_isiV (t := 4) rfl rfl ?_
    | with_reducible refine w_sl ?_
    | with_reducible refine w_aStarT ?_
    | with_reducible refine w_oN ?_
    | with_reducible refine w_oS ?_
    | with_reducible refine w_int1 ?_)
variable {F : Nat → Option Df} {n : Nat} {st : St} {Q : PV → St → Prop} {I O : Nat} {m : List Row} {p : Nat}
theorem vI_get {l : List Int} {i : Nat} {v : PV} (h : (vI l)[i]? = some v) : ∃ x, l[i]? = some x ∧ v = .int x := by
  unfold vI at h
  rw [List.getElem?_map] at h
  cases e : l[i]? with
  | none => rw [e] at h; cases h
  | some x => rw [e] at h; cases h; exact ⟨x, rfl, rfl⟩
theorem zip_get {xs ys : List PV} {i : Nat} {v : PV} (h : (List.zipWith (fun x y => PV.tup [x, y]) xs ys)[i]? = some v) : ∃ x y, xs[i]? = some x ∧ ys[i]? = some y ∧ v = .tup [x, y] := by
  rw [List.getElem?_zipWith] at h
  cases ea : xs[i]? with
  | none => rw [ea] at h; cases h
  | some x =>
    cases eb : ys[i]? with
    | none => rw [ea, eb] at h; cases h
    | some y => rw [ea, eb] at h; cases h; exact ⟨x, y, rfl, rfl, rfl⟩
variable (T : Tbl F)
include T
theorem s_lfed {wv : PV} {w : List Nat} {s : Nat} (G : Gm I O m) (S : StsAt st p m) (W : WordAt st wv (vN w)) (hw : ∀ i ∈ w, i < I) (hs : s < m.length)
    (q : ∀ st', Kp st st' → Q (.tup [.int (run m s (zO O) w).1, .tup (vI (run m s (zO O) w).2)]) st') : Wp (ev F (n + 1) (.fn 29) [.ref p, .int O, wv, .int s] st) Q := by
  refine w_fn T.f29 rfl ?_
  dsimp only [frame, nones, Nat.reduceSub]
  repeat infer_instance
  intro s1 k1 a1
  repeat infer_instance
  have hz : (List.replicate ((O : Nat) : Int).toNat (PV.int 0)) = vI (zO O) := by simp [vI, zO]
  have ho4 := G.o4
  refine w_mulL1 a1 (by omega) (by omega) fun s2 k2 a2 => ?_
  rw [hz] at a2
  have K := k1.trans k2
  repeat infer_instance
  refine w_anyW (W.k K) fun gd hg => ?_
  refine w_forL (I := fun i fr t => Kp s2 t ∧ ∃ a w0 x y, At t a (.lst w0 (vI (run m s (zO O) (w.take i)).2)) ∧ fr = [some (.ref p), some (.int O), some wv, some (.int (run m s (zO O) (w.take i)).1), some (.ref a), x, y, none, none]) ⟨.refl, _, _, _, _, a2, rfl⟩ (fun _ _ s ⟨k, _⟩ => hg s k) (fun i v fr t hv ⟨k, a, w0, x, y, ha, e⟩ => ?_) (fun fr t ⟨k, a, w0, x, y, ha, e⟩ => ?_)
  · subst e
    obtain ⟨j, e2, rfl⟩ := vN_get hv
    have hj := hw j (List.mem_of_getElem? e2)
    have hr := run_ok G (w.take i) s (zO O) (fun a ha => hw a (List.mem_of_mem_take ha)) hs (by simp [zO])
    obtain ⟨row, r1, r2, r3, r4, r5⟩ := G.at hr.1 hj
    have S := (S.k K).k k
    repeat infer_instance
    refine w_row S r1 fun b hb => ?_
    repeat infer_instance
    refine w_cell hb r3 ?_
    unfold sPV
    repeat infer_instance
    refine ⟨_, _, _, _, _, _, rfl, seqG_at ha, rfl, ?_⟩
    refine w_lcF (res := vI (addO (run m s (zO O) (w.take i)).2 (nx m (run m s (zO O) (w.take i)).1 j).2)) (by simp [vI, addO]) (fun s k => gd_lst (ha.k k) rfl) (fun u v s hv k => ?_) (fun s3 k3 => ?_)
    · obtain ⟨x, y, h1, h2, rfl⟩ := zip_get hv
      obtain ⟨x, h3, rfl⟩ := vI_get h1
      obtain ⟨y, h4, rfl⟩ := vI_get h2
      repeat infer_instance
      refine ⟨.refl, ?_⟩
      unfold vI addO
      rw [List.getElem?_map, List.getElem?_zipWith, h3, h4]
      rfl
    · refine ⟨okL (by simp [vI, addO, hr.2]; omega), fun s4 k4 a4 => ?_⟩
      repeat infer_instance
      rw [take_succ e2, run_app]
      exact ⟨k.trans (k3.trans k4), _, _, _, _, a4, rfl⟩
  · subst e
    have hl : w.take (vN w).length = w := by simp [vN]
    have ha : At t a (.lst w0 (vI (run m s (zO O) (w.take (vN w).length)).2)) := ha
    show Wf (s_ret _ (ev F n) [some (.ref p), some (.int O), some wv, some (.int (run m s (zO O) (w.take (vN w).length)).1), some (.ref a), x, y, none, none] t) _ _
    rw [hl] at ha ⊢
    repeat infer_instance
    refine w_tup1 (seqV_at ha) ?_
    repeat infer_instance
    exact q t (K.trans k)
end YL
end
section
set_option linter.all false
set_option maxRecDepth 100000
set_option maxHeartbeats 1000000
/-! S4b: k21's plain law: reached states. -/
namespace YL
open Y
local macro_rules
  | `(tactic| infer_instance) => `(tactic| first
    | with_reducible refine w_seq ?_
    | with_reducible refine w_asg ?_
    | with_reducible refine w_ret ?_
    | with_reducible refine w_if ?_
    | with_reducible refine w_ex ?_
    | with_reducible refine w_par2 ?_
    | with_reducible refine w_par3 ?_
    | with_reducible refine w_nil ?_
    | with_reducible refine w_for ?_
    | ((with_reducible apply w_var); (exact rfl))
    | with_reducible refine w_cst ?_
    | with_reducible refine w_aNil ?_
    | with_reducible refine w_aCons ?_
    | with_reducible refine w_bin ?_
    | with_reducible refine w_and ?_
    | with_reducible refine w_not ?_
    | with_reducible refine w_isi ?_
    | with_reducible refine w_call ?_
    | with_reducible refine w_sub ?_
    | with_reducible refine w_biR ?_
    | with_reducible refine w_cmp ?_
    | with_reducible refine w_attr ?_
    | with_reducible refine w_tup ?_
    | with_reducible refine w_lst ?_
    | with_reducible refine w_dct1 ?_
    | with_reducible refine w_lm ?_
    | with_reducible refine w_dm ?_
    | with_reducible refine w_in ?_
    | with_reducible refine w_ife ?_
    | with_reducible refine w_neg ?_
    | with_reducible refine w_negI ?_
    | with_reducible refine w_make ?_
    | with_reducible refine w_meth ?_
    | with_reducible refine w_val ?_
    | with_reducible refine w_bnot ?_
    | with_reducible refine w_bor ?_
    | with_reducible refine w_band ?_
    | with_reducible refine w_bcmp ?_
    | with_reducible refine w_bin2 ?_
    | with_reducible refine w_bchain ?_
    | with_reducible refine w_chain ?_
    | with_reducible refine w_bT ?_
    | with_reducible refine w_tv ?_
    | ((with_reducible refine w_ttup ?_ ?_); exact rfl)
    | with_reducible refine w_tsCons ?_
    | with_reducible refine w_tsNil ?_
    | with_reducible refine w_tattr ?_
    | with_reducible refine w_tsub ?_
    | with_reducible refine w_iany ?_
    | with_reducible refine w_ivals ?_
    | with_reducible refine w_iitems ?_
    | with_reducible refine w_rng1 ?_
    | with_reducible refine w_enum ?_
    | with_reducible refine w_zip2 ?_
    | with_reducible refine w_lstRg1 ?_
    | with_reducible refine w_on1 ?_
    | with_reducible refine w_truB ?_
    | with_reducible refine w_lc ?_
    | with_reducible refine w_dc ?_
    | with_reducible refine w_eqI ?_
    | with_reducible refine w_neI ?_
    | with_reducible refine w_neT ?_
    | with_reducible refine w_eqT ?_
    | with_reducible refine w_eqB ?_
    | with_reducible refine w_neB ?_
    | with_reducible refine w_lt ?_
    | with_reducible refine w_le ?_
    | with_reducible refine w_ge ?_
    | with_reducible refine w_addI ?_
    | with_reducible refine w_subI ?_
    | with_reducible refine blQ.mk ?_
    | with_reducible refine w_anyT ?_
    | with_reducible refine w_anyC ?_
    | refine And.intro (show okLen _ = true from rfl) ?_
    | (refine And.intro (isLst_at ?_) ?_; (assumption))
    | ((with_reducible apply w_fld); (assumption); (exact rfl); (exact rfl))
    | refine w_isiV (t := 0) rfl rfl ?_
    | refine w_isiV (t := 4) rfl rfl ?_
    | with_reducible refine w_sl ?_
    | with_reducible refine w_aStarT ?_
    | with_reducible refine w_oN ?_
    | with_reducible refine w_oS ?_
    | with_reducible refine w_int1 ?_)
variable {F : Nat → Option Df} {n : Nat} {st : St} {Q : PV → St → Prop} {I O : Nat} {m : List Row} {p : Nat}
theorem w_rowA {s0 : St} {i : Nat} {row : Row} (S : StsAt s0 p m) (k : Kp s0 st) (h : m[i]? = some row) (q : ∀ b w, At s0 b (.lst w (row.map sPV)) → Q (.ref b) st) : Wp (getV (.ref p) (.int i) st) Q := by
  obtain ⟨w, as, h1, h2, h3⟩ := S.ex
  obtain ⟨a, e1, b, w2, rfl, e2⟩ := h3 i row h
  exact w_getL (h1.k k) e1 rfl (q b w2 e2)
theorem vN_app {a b : List Nat} : vN (a ++ b) = vN a ++ vN b := by simp [vN]
/-- what the search for reached states keeps: found f, rest r, the state in work x whose steps below i are done -/
structure Fnd (I : Nat) (m : List Row) (f r : List Nat) (x i : Nat) : Prop where
  nd : f.Nodup
  z : 0 ∈ f
  rch : ∀ y ∈ f, Rch I m y
  sub : ∀ y ∈ r, y ∈ f
  xf : x ∈ f
  cl : ∀ y ∈ f, y ∉ r → y ≠ x → ∀ j, j < I → go m y j ∈ f
  now : ∀ j, j < i → go m x j ∈ f
theorem Fnd.len {f r : List Nat} {x i : Nat} (G : Gm I O m) (h : Fnd I m f r x i) : f.length ≤ m.length := nodup_lt h.nd fun y hy => (h.rch y hy).lt G
theorem Fnd.keep {f r : List Nat} {x i : Nat} (h : Fnd I m f r x i) (g : go m x i ∈ f) : Fnd I m f r x (i + 1) :=
  ⟨h.nd, h.z, h.rch, h.sub, h.xf, h.cl, fun j hj => by
    rcases Nat.lt_or_ge j i with c | c
    · exact h.now j c
    · rw [show j = i by omega]; exact g⟩
theorem nodup_snoc {α : Type} {f : List α} {g : α} (h : f.Nodup) (n : g ∉ f) : (f ++ [g]).Nodup := by
  rw [List.nodup_append]
  refine ⟨h, by simp, fun a ha b hb => ?_⟩
  rw [List.mem_singleton.mp hb]
  exact fun e => n (e ▸ ha)
theorem Fnd.new {f r : List Nat} {x i : Nat} (h : Fnd I m f r x i) (hi : i < I) (g : go m x i ∉ f) : Fnd I m (f ++ [go m x i]) (r ++ [go m x i]) x (i + 1) := by
  refine ⟨nodup_snoc h.nd g, by simp [h.z], fun y hy => ?_, fun y hy => ?_, by simp [h.xf], fun y hy hr hx j hj => ?_, fun j hj => ?_⟩
  · rcases List.mem_append.mp hy with hy | hy
    · exact h.rch y hy
    · rw [List.mem_singleton.mp hy]; exact (h.rch x h.xf).s hi
  · rcases List.mem_append.mp hy with hy | hy
    · exact List.mem_append_left _ (h.sub y hy)
    · exact List.mem_append_right _ hy
  · rcases List.mem_append.mp hy with hy | hy
    · exact List.mem_append_left _ (h.cl y hy (fun z => hr (List.mem_append_left _ z)) hx j hj)
    · exact absurd (List.mem_append_right _ hy) hr
  · rcases Nat.lt_or_ge j i with c | c
    · exact List.mem_append_left _ (h.now j c)
    · rw [show j = i by omega]; simp
structure Fw (I : Nat) (m : List Row) (f r : List Nat) : Prop where
  nd : f.Nodup
  z : 0 ∈ f
  rch : ∀ y ∈ f, Rch I m y
  sub : ∀ y ∈ r, y ∈ f
  cl : ∀ y ∈ f, y ∉ r → ∀ j, j < I → go m y j ∈ f
theorem Fw.len {f r : List Nat} (G : Gm I O m) (h : Fw I m f r) : f.length ≤ m.length := nodup_lt h.nd fun y hy => (h.rch y hy).lt G
theorem Fnd.fw {f r : List Nat} {x : Nat} (h : Fnd I m f r x I) : Fw I m f r :=
  ⟨h.nd, h.z, h.rch, h.sub, fun a ha hr j hj => by
    by_cases c : a = x
    · subst c; exact h.now j hj
    · exact h.cl a ha hr c j hj⟩
theorem Fw.pop {f r : List Nat} {y : Nat} (h : Fw I m f (r ++ [y])) : Fnd I m f r y 0 :=
  ⟨h.nd, h.z, h.rch, fun a ha => h.sub a (List.mem_append_left _ ha), h.sub y (by simp), fun a ha hr hy j hj =>
    h.cl a ha (fun z => by rcases List.mem_append.mp z with z | z; exact hr z; exact hy (List.mem_singleton.mp z)) j hj, nofun⟩
theorem Fw.done {f : List Nat} (h : Fw I m f []) : Rs I m f := by
  refine ⟨h.nd, fun s => ⟨h.rch s, fun r => ?_⟩⟩
  induction r with
  | z => exact h.z
  | @s a i _ hi ih => exact h.cl a ih (by simp) i hi
theorem Fw.init : Fw I m [0] [0] := ⟨by simp, by simp, fun y hy => by rw [List.mem_singleton.mp hy]; exact .z, fun y hy => hy, fun y hy hn => absurd hy hn⟩
theorem snoc_of {α : Type} {l : List α} (h : l ≠ []) : ∃ r x, l = r ++ [x] := ⟨l.dropLast, l.getLast h, (List.dropLast_concat_getLast h).symm⟩
variable (T : Tbl F)
include T
theorem s_lreach (G : Gm I O m) (S : StsAt st p m) (q : ∀ a w l st', Kp st st' → At st' a (.lst w (vN l)) → Rs I m l → Q (.ref a) st') : Wp (ev F (n + 1) (.fn 30) [.ref p] st) Q := by
  have h60 := G.n60
  have hi1 := G.i1
  refine w_fn T.f30 rfl ?_
  dsimp only [frame, nones, Nat.reduceSub]
  repeat infer_instance
  intro s1 k1 a1
  repeat infer_instance
  intro s2 k2 a2
  have hne := a1.lt
  have hle := k1.n
  have a1 := a1.k k2
  generalize hA1 : st.n = A1 at a1 hne hle ⊢
  generalize hA2 : s1.n = A2 at a2 hne hle ⊢
  repeat infer_instance
  refine w_whl (n := 100000) (m := 2 * (m.length - 1) + 1) (I := fun k fr s => Kp st s ∧ ∃ w1 w2 f r x y, At s A1 (.lst w1 (vN f)) ∧ At s A2 (.lst w2 (vN r)) ∧ Fw I m f r ∧ (k = 2 * (m.length - f.length) + r.length ∧ k ≤ 200) ∧ fr = [some (.ref p), some (.ref A1), some (.ref A2), x, y]) (by omega) ⟨k1.trans k2, _, _, [0], [0], _, _, a1, a2, Fw.init, ⟨rfl, by omega⟩, rfl⟩ (fun k fr s ⟨K, w1, w2, f, r, x, y, h1, h2, hf, ⟨hk, hk2⟩, e⟩ => ?_)
  subst e
  repeat infer_instance
  intro s3 k3 a3
  refine w_neLs (k := 11) (y := []) re_nat rfl (h2.k k3) a3 ?_
  repeat infer_instance
  refine ⟨fun c => ?_, fun c => ?_⟩
  · have c : r ≠ [] := by simpa using c
    obtain ⟨r, t, rfl⟩ := snoc_of c
    have hl := hf.len G
    have hrl : (r ++ [t]).length = r.length + 1 := by simp
    have ht : t < m.length := (hf.rch t (hf.sub t (by simp))).lt G
    have K3 := K.trans k3
    have h1 := h1.k k3
    have h2 := h2.k k3
    repeat infer_instance
    refine ⟨isLst_at h2, ?_⟩
    repeat infer_instance
    rw [vN_app] at h2
    refine w_pop (xs := vN r) (v := .int t) h2 fun s4 u4 a4 => ?_
    have K4 := K3.up u4 (by omega)
    have h1 := h1.up u4 (by omega)
    obtain ⟨row, r1, r2, r3, r4, r5⟩ := G.at ht (show 0 < I by omega)
    refine w_rowA S K4 r1 fun b wb hb => ?_
    refine w_anyL (hb.k K4) ?_
    refine w_forL (I := fun i fr s => Kp st s ∧ ∃ w1 w2 f' r' x y, At s A1 (.lst w1 (vN f')) ∧ At s A2 (.lst w2 (vN r')) ∧ Fnd I m f' r' t i ∧ 2 * (m.length - f'.length) + r'.length ≤ 2 * (m.length - f.length) + r.length ∧ fr = [some (.ref p), some (.ref A1), some (.ref A2), x, y]) ⟨K4, _, _, f, r, _, _, h1, a4, hf.pop, Nat.le_refl _, rfl⟩ (fun _ _ s ⟨k, _⟩ => gd_lst (hb.k k) rfl) (fun i v fr s hv ⟨K5, w1, w2, f', r', x, y, g1, g2, hF, hle, e⟩ => ?_) (fun fr s ⟨K5, w1, w2, f', r', x, y, g1, g2, hF, hle, e⟩ => ?_)
    · subst e
      have hv : (row.map sPV)[i]? = some v := hv
      rw [List.getElem?_map] at hv
      cases e1 : row[i]? with
      | none => rw [e1] at hv; cases hv
      | some z =>
        rw [e1] at hv
        cases hv
        have hi : i < I := by rw [← r2]; exact (List.getElem?_eq_some_iff.mp e1).1
        have ez : nx m t i = z := nx_row r1 e1
        have eg : z.1 = go m t i := by rw [← ez]; rfl
        unfold sPV
        repeat infer_instance
        refine w_inL (k := 11) (e := fun i : Nat => PV.int i) re_nat rfl re_nat g1 ?_
        repeat infer_instance
        refine ⟨fun c => ?_, fun c => ?_⟩
        · have c : go m t i ∉ f' := by rw [← eg]; simpa using c
          have hF2 := hF.new hi c
          have hlen : f'.length + 1 ≤ m.length := by have := hF2.len G; simpa using this
          repeat infer_instance
          refine ⟨isLst_at g1, ?_⟩
          repeat infer_instance
          refine w_append g1 (by simp [vN, lim]; omega) fun s6 u6 a6 => ?_
          have g2 := g2.up u6 (by omega)
          repeat infer_instance
          refine ⟨isLst_at g2, ?_⟩
          repeat infer_instance
          refine w_append g2 (by simp [vN, lim]; omega) fun s7 u7 a7 => ?_
          rw [eg] at a6 a7
          have a6' : At s6 A1 (.lst (w1 + 1) (vN (f' ++ [go m t i]))) := by rw [vN_app]; exact a6
          have a7' : At s7 A2 (.lst (w2 + 1) (vN (r' ++ [go m t i]))) := by rw [vN_app]; exact a7
          exact ⟨(K5.up u6 (by omega)).up u7 (by omega), _, _, f' ++ [go m t i], r' ++ [go m t i], _, _, a6'.up u7 (by omega), a7', hF2, (by simp; omega), rfl⟩
        · have c : go m t i ∈ f' := by rw [← eg]; simpa using c
          repeat infer_instance
          exact ⟨K5, _, _, f', r', _, _, g1, g2, hF.keep c, hle, rfl⟩
    · subst e
      have hF : Fnd I m f' r' t (row.map sPV).length := hF
      rw [List.length_map, r2] at hF
      exact ⟨_, by omega, K5, _, _, f', r', _, _, g1, g2, hF.fw, ⟨rfl, by omega⟩, rfl⟩
  · have c : r = [] := by simpa using c
    subst c
    repeat infer_instance
    exact q A1 _ f _ (K.trans k3) (h1.k k3) hf.done
end YL
end
section
set_option linter.all false
set_option maxRecDepth 100000
set_option maxHeartbeats 1000000
/-! S4c: k21's plain law: alike. -/
namespace YL
open Y
local macro_rules
  | `(tactic| infer_instance) => `(tactic| first
    | with_reducible refine w_seq ?_
    | with_reducible refine w_asg ?_
    | with_reducible refine w_ret ?_
    | with_reducible refine w_if ?_
    | with_reducible refine w_ex ?_
    | with_reducible refine w_par2 ?_
    | with_reducible refine w_par3 ?_
    | with_reducible refine w_nil ?_
    | with_reducible refine w_for ?_
    | ((with_reducible apply w_var); (exact rfl))
    | with_reducible refine w_cst ?_
    | with_reducible refine w_aNil ?_
    | with_reducible refine w_aCons ?_
    | with_reducible refine w_bin ?_
    | with_reducible refine w_and ?_
    | with_reducible refine w_not ?_
    | with_reducible refine w_isi ?_
    | with_reducible refine w_call ?_
    | with_reducible refine w_sub ?_
    | with_reducible refine w_biR ?_
    | with_reducible refine w_cmp ?_
    | with_reducible refine w_attr ?_
    | with_reducible refine w_tup ?_
    | with_reducible refine w_lst ?_
    | with_reducible refine w_dct1 ?_
    | with_reducible refine w_lm ?_
    | with_reducible refine w_dm ?_
    | with_reducible refine w_in ?_
    | with_reducible refine w_ife ?_
    | with_reducible refine w_neg ?_
    | with_reducible refine w_negI ?_
    | with_reducible refine w_make ?_
    | with_reducible refine w_meth ?_
    | with_reducible refine w_val ?_
    | with_reducible refine w_bnot ?_
    | with_reducible refine w_bor ?_
    | with_reducible refine w_band ?_
    | with_reducible refine w_bcmp ?_
    | with_reducible refine w_bin2 ?_
    | with_reducible refine w_bchain ?_
    | with_reducible refine w_chain ?_
    | with_reducible refine w_bT ?_
    | with_reducible refine w_tv ?_
    | ((with_reducible refine w_ttup ?_ ?_); exact rfl)
    | with_reducible refine w_tsCons ?_
    | with_reducible refine w_tsNil ?_
    | with_reducible refine w_tattr ?_
    | with_reducible refine w_tsub ?_
    | with_reducible refine w_iany ?_
    | with_reducible refine w_ivals ?_
    | with_reducible refine w_iitems ?_
    | with_reducible refine w_rng1 ?_
    | with_reducible refine w_enum ?_
    | with_reducible refine w_zip2 ?_
    | with_reducible refine w_lstRg1 ?_
    | with_reducible refine w_on1 ?_
    | with_reducible refine w_truB ?_
    | with_reducible refine w_lc ?_
    | with_reducible refine w_dc ?_
    | with_reducible refine w_eqI ?_
    | with_reducible refine w_neI ?_
    | with_reducible refine w_neT ?_
    | with_reducible refine w_eqT ?_
    | with_reducible refine w_eqB ?_
    | with_reducible refine w_neB ?_
    | with_reducible refine w_lt ?_
    | with_reducible refine w_le ?_
    | with_reducible refine w_ge ?_
    | with_reducible refine w_addI ?_
    | with_reducible refine w_subI ?_
    | with_reducible refine blQ.mk ?_
    | with_reducible refine w_anyT ?_
    | with_reducible refine w_anyC ?_
    | refine And.intro (show okLen _ = true from rfl) ?_
    | (refine And.intro (isLst_at ?_) ?_; (assumption))
    | ((with_reducible apply w_fld); (assumption); (exact rfl); (exact rfl))
    | refine w_isiV (t := 0) rfl rfl ?_
    | refine w_isiV (t := 4) rfl rfl ?_
    | with_reducible refine w_sl ?_
    | with_reducible refine w_aStarT ?_
    | with_reducible refine w_oN ?_
    | with_reducible refine w_oS ?_
    | with_reducible refine w_int1 ?_)
variable {F : Nat → Option Df} {n : Nat} {st : St} {Q : PV → St → Prop} {I O : Nat} {m : List Row} {p : Nat}
structure Ak (I : Nat) (m : List Row) (a b : Nat) (f r : List (Nat × Nat)) : Prop where
  nd : f.Nodup
  z : (a, b) ∈ f
  lt : ∀ y ∈ f, y.1 < m.length ∧ y.2 < m.length
  al : ∀ y ∈ f, Al I m a b → Al I m y.1 y.2
  sub : ∀ y ∈ r, y ∈ f
  cl : ∀ y ∈ f, y ∉ r → ∀ j, j < I → ou m y.1 j = ou m y.2 j ∧ (go m y.1 j, go m y.2 j) ∈ f
structure Ank (I : Nat) (m : List Row) (a b : Nat) (f r : List (Nat × Nat)) (x : Nat × Nat) (i : Nat) : Prop where
  nd : f.Nodup
  z : (a, b) ∈ f
  lt : ∀ y ∈ f, y.1 < m.length ∧ y.2 < m.length
  al : ∀ y ∈ f, Al I m a b → Al I m y.1 y.2
  sub : ∀ y ∈ r, y ∈ f
  xf : x ∈ f
  cl : ∀ y ∈ f, y ∉ r → y ≠ x → ∀ j, j < I → ou m y.1 j = ou m y.2 j ∧ (go m y.1 j, go m y.2 j) ∈ f
  now : ∀ j, j < i → ou m x.1 j = ou m x.2 j ∧ (go m x.1 j, go m x.2 j) ∈ f
variable {a b : Nat} {f r : List (Nat × Nat)} {x : Nat × Nat} {i : Nat}
theorem Ak.init (ha : a < m.length) (hb : b < m.length) : Ak I m a b [(a, b)] [(a, b)] := ⟨by simp, by simp, fun y hy => by rw [List.mem_singleton.mp hy]; exact ⟨ha, hb⟩, fun y hy h => by rw [List.mem_singleton.mp hy]; exact h, fun y hy => hy, fun y hy hn => absurd hy hn⟩
theorem Ak.len (h : Ak I m a b f r) : f.length ≤ m.length * m.length := nodup_lt2 h.nd h.lt
theorem Ank.len (h : Ank I m a b f r x i) : f.length ≤ m.length * m.length := nodup_lt2 h.nd h.lt
theorem Ak.pop (h : Ak I m a b f (r ++ [x])) : Ank I m a b f r x 0 :=
  ⟨h.nd, h.z, h.lt, h.al, fun a ha => h.sub a (List.mem_append_left _ ha), h.sub x (by simp), fun a ha hr hy j hj =>
    h.cl a ha (fun z => by rcases List.mem_append.mp z with z | z; exact hr z; exact hy (List.mem_singleton.mp z)) j hj, nofun⟩
theorem Ank.ak (h : Ank I m a b f r x I) : Ak I m a b f r :=
  ⟨h.nd, h.z, h.lt, h.al, h.sub, fun a ha hr j hj => by
    by_cases c : a = x
    · subst c; exact h.now j hj
    · exact h.cl a ha hr c j hj⟩
theorem Ak.done (h : Ak I m a b f []) : Al I m a b := Al.coind (fun x y => (x, y) ∈ f) (fun x y hxy i hi => h.cl (x, y) hxy (by simp) i hi) h.z
theorem Ank.keep (h : Ank I m a b f r x i) (e : ou m x.1 i = ou m x.2 i) (g : (go m x.1 i, go m x.2 i) ∈ f) : Ank I m a b f r x (i + 1) :=
  ⟨h.nd, h.z, h.lt, h.al, h.sub, h.xf, h.cl, fun j hj => by
    rcases Nat.lt_or_ge j i with c | c
    · exact h.now j c
    · rw [show j = i by omega]; exact ⟨e, g⟩⟩
theorem Ank.new (G : Gm I O m) (h : Ank I m a b f r x i) (hi : i < I) (e : ou m x.1 i = ou m x.2 i) (g : (go m x.1 i, go m x.2 i) ∉ f) : Ank I m a b (f ++ [(go m x.1 i, go m x.2 i)]) (r ++ [(go m x.1 i, go m x.2 i)]) x (i + 1) := by
  refine ⟨nodup_snoc h.nd g, by simp [h.z], fun y hy => ?_, fun y hy l => ?_, fun y hy => ?_, by simp [h.xf], fun y hy hr hx j hj => ?_, fun j hj => ?_⟩
  · rcases List.mem_append.mp hy with hy | hy
    · exact h.lt y hy
    · rw [List.mem_singleton.mp hy]
      exact ⟨G.go_lt (h.lt x h.xf).1 hi, G.go_lt (h.lt x h.xf).2 hi⟩
  · rcases List.mem_append.mp hy with hy | hy
    · exact h.al y hy l
    · rw [List.mem_singleton.mp hy]; exact (h.al x h.xf l).go hi
  · rcases List.mem_append.mp hy with hy | hy
    · exact List.mem_append_left _ (h.sub y hy)
    · exact List.mem_append_right _ hy
  · rcases List.mem_append.mp hy with hy | hy
    · have := h.cl y hy (fun z => hr (List.mem_append_left _ z)) hx j hj
      exact ⟨this.1, List.mem_append_left _ this.2⟩
    · exact absurd (List.mem_append_right _ hy) hr
  · rcases Nat.lt_or_ge j i with c | c
    · exact ⟨(h.now j c).1, List.mem_append_left _ (h.now j c).2⟩
    · rw [show j = i by omega]; exact ⟨e, by simp⟩
variable (T : Tbl F)
include T
theorem s_lalike (G : Gm I O m) (S : StsAt st p m) (ha : a < m.length) (hb : b < m.length) (q : ∀ c st', Kp st st' → (c = true ↔ Al I m a b) → Q (.bl c) st') : Wp (ev F (n + 1) (.fn 31) [.ref p, .int a, .int b] st) Q := by
  have h60 := G.n60
  have hi1 := G.i1
  have hNN : m.length * m.length ≤ 3600 := Nat.mul_le_mul h60 h60
  refine w_fn T.f31 rfl ?_
  dsimp only [frame, nones, Nat.reduceSub]
  repeat infer_instance
  refine ⟨ke_nn.ok (a, b), fun s1 k1 a1 => ?_⟩
  repeat infer_instance
  intro s2 k2 a2
  have hne := a1.lt
  have hle := k1.n
  have a1 := a1.k k2
  generalize hA1 : st.n = A1 at a1 hne hle ⊢
  generalize hA2 : s1.n = A2 at a2 hne hle ⊢
  generalize hN : m.length * m.length = NN at hNN
  repeat infer_instance
  refine w_whl (n := 100000) (m := 2 * (NN - 1) + 1) (I := fun k fr s => Kp st s ∧ ∃ w1 w2 d r x5 x6 x7 x8, At s A1 (.dct w1 (emb nnV d)) ∧ At s A2 (.lst w2 (r.map nnV)) ∧ Ak I m a b (d.map (·.1)) r ∧ (k = 2 * (NN - d.length) + r.length ∧ k ≤ 8000) ∧ fr = [some (.ref p), some (.int a), some (.int b), some (.ref A1), some (.ref A2), x5, x6, x7, x8]) (by omega) ⟨k1.trans k2, _, _, [((a, b), .bl true)], [(a, b)], _, _, _, _, a1, a2, Ak.init ha hb, ⟨rfl, by omega⟩, rfl⟩ (fun k fr s ⟨K, w1, w2, d, r, x5, x6, x7, x8, h1, h2, hf, ⟨hk, hk2⟩, e⟩ => ?_)
  subst e
  repeat infer_instance
  intro s3 k3 a3
  refine w_neLs (k := 11) (y := []) (re_pair (k := 10) (e := fun i : Nat => PV.int i) (e' := fun i : Nat => PV.int i) re_nat re_nat) rfl (h2.k k3) a3 ?_
  repeat infer_instance
  refine ⟨fun c => ?_, fun c => ?_⟩
  · have c : r ≠ [] := by simpa using c
    obtain ⟨r, t, rfl⟩ := snoc_of c
    have hl := hf.len
    rw [List.length_map, hN] at hl
    have hrl : (r ++ [t]).length = r.length + 1 := by simp
    have ht := hf.lt t (hf.sub t (by simp))
    have K3 := K.trans k3
    have h1 := h1.k k3
    have h2 := h2.k k3
    repeat infer_instance
    refine ⟨isLst_at h2, ?_⟩
    repeat infer_instance
    rw [List.map_append] at h2
    refine w_pop (xs := r.map nnV) (v := nnV t) h2 fun s4 u4 a4 => ?_
    have K4 := K3.up u4 (by omega)
    have h1 := h1.up u4 (by omega)
    obtain ⟨row, r1, r2, _⟩ := G.at ht.1 (show 0 < I by omega)
    obtain ⟨row', r1', r2', _⟩ := G.at ht.2 (show 0 < I by omega)
    rw [show nnV t = .tup [.int t.1, .int t.2] from rfl]
    repeat infer_instance
    refine w_rowA S K4 r1 fun b1 wb1 hb1 => ?_
    repeat infer_instance
    refine w_rowA S K4 r1' fun b2 wb2 hb2 => ?_
    repeat infer_instance
    refine ⟨_, _, _, _, _, _, rfl, seqG_at (hb1.k K4), seqG_at (hb2.k K4), ?_⟩
    refine w_forL (I := fun i fr s => Kp st s ∧ ∃ w1 w2 d' r' x7 x8, At s A1 (.dct w1 (emb nnV d')) ∧ At s A2 (.lst w2 (r'.map nnV)) ∧ Ank I m a b (d'.map (·.1)) r' t i ∧ 2 * (NN - d'.length) + r'.length ≤ 2 * (NN - d.length) + r.length ∧ fr = [some (.ref p), some (.int a), some (.int b), some (.ref A1), some (.ref A2), some (.int t.1), some (.int t.2), x7, x8]) ⟨K4, _, _, d, r, _, _, h1, a4, hf.pop, Nat.le_refl _, rfl⟩ (fun _ _ s ⟨k, _⟩ => gd_lst (hb1.k k) (gd_lst (hb2.k k) rfl)) (fun i v fr s hv ⟨K5, w1, w2, d', r', x7, x8, g1, g2, hF, hle, e⟩ => ?_) (fun fr s ⟨K5, w1, w2, d', r', x7, x8, g1, g2, hF, hle, e⟩ => ?_)
    · subst e
      obtain ⟨y1, y2, e1, e2, rfl⟩ := zip_get hv
      rw [List.getElem?_map] at e1 e2
      cases e3 : row[i]? with
      | none => rw [e3] at e1; cases e1
      | some z1 =>
        cases e4 : row'[i]? with
        | none => rw [e4] at e2; cases e2
        | some z2 =>
          rw [e3] at e1
          rw [e4] at e2
          cases e1
          cases e2
          have hi : i < I := by rw [← r2]; exact (List.getElem?_eq_some_iff.mp e3).1
          have eg1 : z1.1 = go m t.1 i := by rw [← nx_row r1 e3]; rfl
          have eg2 : z2.1 = go m t.2 i := by rw [← nx_row r1' e4]; rfl
          have eo1 : z1.2 = ou m t.1 i := by rw [← nx_row r1 e3]; rfl
          have eo2 : z2.2 = ou m t.2 i := by rw [← nx_row r1' e4]; rfl
          unfold sPV
          repeat infer_instance
          refine w_getT (i := 1) rfl rfl ?_
          repeat infer_instance
          refine w_getT (i := 1) rfl rfl ?_
          repeat infer_instance
          rw [eo1, eo2]
          refine ⟨fun c => ?_, fun c => ?_⟩
          · have c : ou m t.1 i ≠ ou m t.2 i := by simpa using c
            repeat infer_instance
            exact q false _ K5 ⟨nofun, fun h => absurd ((hF.al t hF.xf h).out hi) c⟩
          · have c : ou m t.1 i = ou m t.2 i := by simpa using c
            repeat infer_instance
            rw [eg1, eg2]
            refine w_inD ke_nn (x := (go m t.1 i, go m t.2 i)) g1 ?_
            repeat infer_instance
            refine ⟨fun c2 => ?_, fun c2 => ?_⟩
            · have c2 : lkp d' (go m t.1 i, go m t.2 i) = none := by simpa using c2
              have c3 := lkp_none.mp c2
              have hF2 := hF.new G hi c c3
              have hlen : d'.length + 1 ≤ NN := by have := hF2.len; rw [hN] at this; simpa using this
              repeat infer_instance
              refine w_setD ke_nn (x := (go m t.1 i, go m t.2 i)) g1 (by show d'.length < 16777216; omega) fun s6 u6 a6 => ?_
              rw [put_new c2] at a6
              have g2 := g2.up u6 (by omega)
              repeat infer_instance
              refine ⟨isLst_at g2, ?_⟩
              repeat infer_instance
              refine w_append g2 (by show (r'.map nnV).length < 16777216; simp; omega) fun s7 u7 a7 => ?_
              have a7' : At s7 A2 (.lst (w2 + 1) ((r' ++ [(go m t.1 i, go m t.2 i)]).map nnV)) := by rw [List.map_append]; exact a7
              have hF3 : Ank I m a b ((d' ++ [((go m t.1 i, go m t.2 i), PV.bl true)]).map (·.1)) (r' ++ [(go m t.1 i, go m t.2 i)]) t (i + 1) := by rw [List.map_append]; exact hF2
              exact ⟨(K5.up u6 (by omega)).up u7 (by omega), _, _, d' ++ [((go m t.1 i, go m t.2 i), .bl true)], r' ++ [(go m t.1 i, go m t.2 i)], _, _, a6.up u7 (by omega), a7', hF3, (by simp; omega), rfl⟩
            · have c2 : lkp d' (go m t.1 i, go m t.2 i) ≠ none := by
                intro h; rw [h] at c2; cases c2
              have c3 : (go m t.1 i, go m t.2 i) ∈ d'.map (·.1) := Classical.byContradiction fun h => c2 (lkp_none.mpr h)
              repeat infer_instance
              exact ⟨K5, _, _, d', r', _, _, g1, g2, hF.keep c c3, hle, rfl⟩
    · subst e
      have hlz : (List.zipWith (fun x y => PV.tup [x, y]) (row.map sPV) (row'.map sPV)).length = I := by simp [r2, r2']
      have hF : Ank I m a b (d'.map (·.1)) r' t (List.zipWith (fun x y => PV.tup [x, y]) (row.map sPV) (row'.map sPV)).length := hF
      rw [hlz] at hF
      exact ⟨_, by omega, K5, _, _, d', r', _, _, _, _, g1, g2, hF.ak, ⟨rfl, by omega⟩, rfl⟩
  · have c : r = [] := by simpa using c
    subst c
    repeat infer_instance
    exact q true _ (K.trans k3) ⟨fun _ => hf.done, fun _ => rfl⟩
end YL
end
section
set_option linter.all false
set_option maxRecDepth 100000
set_option maxHeartbeats 1000000
/-! S4d: k21's plain law: what serves, fine numbers. -/
namespace YL
open Y
local macro_rules
  | `(tactic| infer_instance) => `(tactic| first
    | with_reducible refine w_seq ?_
    | with_reducible refine w_asg ?_
    | with_reducible refine w_ret ?_
    | with_reducible refine w_if ?_
    | with_reducible refine w_ex ?_
    | with_reducible refine w_par2 ?_
    | with_reducible refine w_par3 ?_
    | with_reducible refine w_nil ?_
    | with_reducible refine w_for ?_
    | ((with_reducible apply w_var); (exact rfl))
    | with_reducible refine w_cst ?_
    | with_reducible refine w_aNil ?_
    | with_reducible refine w_aCons ?_
    | with_reducible refine w_bin ?_
    | with_reducible refine w_and ?_
    | with_reducible refine w_not ?_
    | with_reducible refine w_isi ?_
    | with_reducible refine w_call ?_
    | with_reducible refine w_sub ?_
    | with_reducible refine w_biR ?_
    | with_reducible refine w_cmp ?_
    | with_reducible refine w_attr ?_
    | with_reducible refine w_tup ?_
    | with_reducible refine w_lst ?_
    | with_reducible refine w_dct1 ?_
    | with_reducible refine w_lm ?_
    | with_reducible refine w_dm ?_
    | with_reducible refine w_in ?_
    | with_reducible refine w_ife ?_
    | with_reducible refine w_neg ?_
    | with_reducible refine w_negI ?_
    | with_reducible refine w_make ?_
    | with_reducible refine w_meth ?_
    | with_reducible refine w_val ?_
    | with_reducible refine w_bnot ?_
    | with_reducible refine w_bor ?_
    | with_reducible refine w_band ?_
    | with_reducible refine w_bcmp ?_
    | with_reducible refine w_bin2 ?_
    | with_reducible refine w_bchain ?_
    | with_reducible refine w_chain ?_
    | with_reducible refine w_bT ?_
    | with_reducible refine w_tv ?_
    | ((with_reducible refine w_ttup ?_ ?_); exact rfl)
    | with_reducible refine w_tsCons ?_
    | with_reducible refine w_tsNil ?_
    | with_reducible refine w_tattr ?_
    | with_reducible refine w_tsub ?_
    | with_reducible refine w_iany ?_
    | with_reducible refine w_ivals ?_
    | with_reducible refine w_iitems ?_
    | with_reducible refine w_rng1 ?_
    | with_reducible refine w_enum ?_
    | with_reducible refine w_zip2 ?_
    | with_reducible refine w_lstRg1 ?_
    | with_reducible refine w_on1 ?_
    | with_reducible refine w_truB ?_
    | with_reducible refine w_lc ?_
    | with_reducible refine w_dc ?_
    | with_reducible refine w_eqI ?_
    | with_reducible refine w_neI ?_
    | with_reducible refine w_neT ?_
    | with_reducible refine w_eqT ?_
    | with_reducible refine w_eqB ?_
    | with_reducible refine w_neB ?_
    | with_reducible refine w_lt ?_
    | with_reducible refine w_le ?_
    | with_reducible refine w_ge ?_
    | with_reducible refine w_addI ?_
    | with_reducible refine w_subI ?_
    | with_reducible refine blQ.mk ?_
    | with_reducible refine w_anyT ?_
    | with_reducible refine w_anyC ?_
    | refine And.intro (show okLen _ = true from rfl) ?_
    | (refine And.intro (isLst_at ?_) ?_; (assumption))
    | ((with_reducible apply w_fld); (assumption); (exact rfl); (exact rfl))
    | refine w_isiV (t := 0) rfl rfl ?_
    | refine w_isiV (t := 4) rfl rfl ?_
    | with_reducible refine w_sl ?_
    | with_reducible refine w_aStarT ?_
    | with_reducible refine w_oN ?_
    | with_reducible refine w_oS ?_
    | with_reducible refine w_int1 ?_)
variable {F : Nat → Option Df} {n : Nat} {st : St} {Q : PV → St → Prop} {I O : Nat} {m : List Row} {p : Nat}
theorem run2 (G : Gm I O m) {s i j : Nat} (hs : s < m.length) (hi : i < I) : run m s (zO O) [i, j] = (go2 m s i j, ou2 m s i j) := by
  show (go2 m s i j, addO (addO (zO O) (ou m s i)) (ou m (go m s i) j)) = _
  rw [show addO (zO O) (ou m s i) = ou m s i from addO_zero (G.ou_len hs hi)]
  rfl
def OkP (I : Nat) (m : List Row) (s i j : Nat) : Prop := ou2 m s j i = ou2 m s i j ∧ Al I m (go2 m s j i) (go2 m s i j)
open Classical in
noncomputable def fcl (I : Nat) (m : List Row) (rs : List Nat) (s : Nat) : Int := match (rs.filter fun t => decide (Al I m t s)) with
  | t :: _ => t
  | [] => 0
theorem fcl_spec {rs : List Nat} {s : Nat} (R : Rs I m rs) (h : Rch I m s) : ∃ t : Nat, fcl I m rs s = t ∧ Al I m t s := by
  unfold fcl
  classical
  cases e : rs.filter fun t => decide (Al I m t s) with
  | nil =>
    have : s ∈ rs.filter fun t => decide (Al I m t s) := List.mem_filter.mpr ⟨(R.mem s).mpr h, decide_eq_true Al.refl⟩
    rw [e] at this
    cases this
  | cons t l =>
    have : t ∈ rs.filter fun t => decide (Al I m t s) := by rw [e]; exact List.mem_cons_self
    exact ⟨t, rfl, of_decide_eq_true (List.mem_filter.mp this).2⟩
theorem fcl_cls {rs : List Nat} (R : Rs I m rs) : Cls I m (fcl I m rs) := fun a b ha hb => by
  constructor
  · intro e
    obtain ⟨t, e1, h1⟩ := fcl_spec R ha
    obtain ⟨u, e2, h2⟩ := fcl_spec R hb
    have : t = u := by omega
    subst this
    exact h1.symm.trans h2
  · intro h
    unfold fcl
    have : (fun t => @decide (Al I m t a) (Classical.propDecidable _)) = fun t => @decide (Al I m t b) (Classical.propDecidable _) := by
      funext t
      have key : ∀ P Q : Prop, P = Q → @decide P (Classical.propDecidable P) = @decide Q (Classical.propDecidable Q) := by
        rintro P _ rfl; rfl
      exact key _ _ (propext ⟨fun x => x.trans h, fun x => x.trans h.symm⟩)
    rw [this]
/-- the law's own fine numbers -/
structure Fin' (I : Nat) (m : List Row) (l : List Int) : Prop where
  len : l.length = m.length
  ex : ∃ c, Cls I m c ∧ (∀ s, Rch I m s → 0 ≤ c s) ∧ (∀ s, s < m.length → Rch I m s → l.getD s 0 = c s) ∧ ∀ s, s < m.length → ¬ Rch I m s → l.getD s 0 = -1
variable (T : Tbl F)
include T
theorem s_lserves (G : Gm I O m) (S : StsAt st p m) (q : ∀ c st', Kp st st' → (c = true ↔ Good I m) → Q (.bl c) st') : Wp (ev F (n + 2) (.fn 32) [.ref p, .int O] st) Q := by
  have hi1 := G.i1
  have hi4 := G.i4
  refine w_fn T.f32 rfl ?_
  dsimp only [frame, nones, Nat.reduceSub]
  repeat infer_instance
  refine s_lreach T G S fun a w l s1 k1 a1 R => ?_
  refine w_anyL a1 ?_
  refine w_forL (I := fun k fr s => Kp s1 s ∧ (∀ (t s : Nat), t < k → l[t]? = some s → ∀ i j, i < I → j < i → OkP I m s i j) ∧ ∃ x2 x3 x4 x5 x6, fr = [some (.ref p), some (.int O), x2, x3, x4, x5, x6]) ⟨.refl, nofun, _, _, _, _, _, rfl⟩ (fun _ _ s ⟨k, _⟩ => gd_lst (a1.k k) rfl) (fun k v fr s2 hv ⟨k2, hd, x2, x3, x4, x5, x6, e⟩ => ?_) (fun fr s2 ⟨k2, hd, x2, x3, x4, x5, x6, e⟩ => ?_)
  · subst e
    obtain ⟨s, e1, rfl⟩ := vN_get hv
    have hr := (R.mem s).mp (List.mem_of_getElem? e1)
    have hs := hr.lt G
    obtain ⟨row, r1, r2, _⟩ := G.at G.n1 (show 0 < I by omega)
    repeat infer_instance
    refine w_rowA (i := 0) S (k1.trans k2) r1 fun b wb hb => ?_
    repeat infer_instance
    refine w_lenS (seqV_at (hb.k (k1.trans k2))) ?_
    rw [List.length_map, r2]
    refine ⟨I, rfl, by omega, ?_⟩
    refine w_forL (I := fun i fr s' => Kp s2 s' ∧ (∀ i' j, i' < i → j < i' → OkP I m s i' j) ∧ ∃ x3 x4 x5 x6, fr = [some (.ref p), some (.int O), some (.int s), x3, x4, x5, x6]) ⟨.refl, nofun, _, _, _, _, rfl⟩ (fun _ _ _ _ => rfl) (fun i v fr s3 hv ⟨k3, hd3, x3, x4, x5, x6, e⟩ => ?_) (fun fr s3 ⟨k3, hd3, x3, x4, x5, x6, e⟩ => ?_)
    · subst e
      obtain ⟨hi, rfl⟩ := rgN_get hv
      repeat infer_instance
      refine ⟨i, rfl, by omega, ?_⟩
      refine w_forL (I := fun j fr s' => Kp s3 s' ∧ (∀ j', j' < j → OkP I m s i j') ∧ ∃ x4 x5 x6, fr = [some (.ref p), some (.int O), some (.int s), some (.int i), x4, x5, x6]) ⟨.refl, nofun, _, _, _, rfl⟩ (fun _ _ _ _ => rfl) (fun j v fr s4 hv ⟨k4, hd4, x4, x5, x6, e⟩ => ?_) (fun fr s4 ⟨k4, hd4, x4, x5, x6, e⟩ => ?_)
      · subst e
        obtain ⟨hj, rfl⟩ := rgN_get hv
        have hji : j < I := by omega
        have K := ((k1.trans k2).trans k3).trans k4
        repeat infer_instance
        intro s5 k5 a5
        repeat infer_instance
        have W1 : WordAt s5 (.ref s4.n) (vN [i, j]) := .inr ⟨_, _, rfl, a5⟩
        refine s_lfed T G (S.k (K.trans k5)) W1 (by simp; omega) hs fun s6 k6 => ?_
        rw [run2 G hs hi]
        repeat infer_instance
        intro s7 k7 a7
        repeat infer_instance
        have W2 : WordAt s7 (.ref s6.n) (vN [j, i]) := .inr ⟨_, _, rfl, a7⟩
        have K7 := ((K.trans k5).trans k6).trans k7
        refine s_lfed T G (S.k K7) W2 (by simp; omega) hs fun s8 k8 => ?_
        rw [run2 G hs hji]
        have K8 := K7.trans k8
        have k38 := (((k4.trans k5).trans k6).trans k7).trans k8
        repeat infer_instance
        refine w_getT (i := 1) rfl rfl ?_
        repeat infer_instance
        refine w_getT (i := 1) rfl rfl ?_
        repeat infer_instance
        refine ⟨fun c => ?_, fun c => ?_⟩
        · have c : ou2 m s i j ≠ ou2 m s j i := by simpa using c
          refine ⟨fun _ => ?_, nofun⟩
          repeat infer_instance
          exact q false _ K8 ⟨nofun, fun g => absurd (g s hr i j hi hj).1.symm c⟩
        · have c : ou2 m s i j = ou2 m s j i := by simpa using c
          repeat infer_instance
          refine s_lalike T G (S.k K8) (hr.two hi hji |>.lt G) (hr.two hji hi |>.lt G) fun d s9 k9 hd9 => ?_
          repeat infer_instance
          refine ⟨fun c2 => ?_, fun c2 => ?_⟩
          · have c2 : ¬ Al I m (go2 m s i j) (go2 m s j i) := fun h => by rw [hd9.mpr h] at c2; cases c2
            repeat infer_instance
            exact q false _ (K8.trans k9) ⟨nofun, fun g => absurd (g s hr i j hi hj).2.symm c2⟩
          · have c2 : Al I m (go2 m s i j) (go2 m s j i) := hd9.mp (by simpa using c2)
            repeat infer_instance
            refine ⟨k38.trans k9, fun j' hj' => ?_, _, _, _, rfl⟩
            rcases Nat.lt_or_ge j' j with c3 | c3
            · exact hd4 j' c3
            · rw [show j' = j by omega]; exact ⟨c.symm, c2.symm⟩
      · subst e
        refine ⟨k3.trans k4, fun i' j' h1 h2 => ?_, _, _, _, _, rfl⟩
        rcases Nat.lt_or_ge i' i with c3 | c3
        · exact hd3 i' j' c3 h2
        · have : i' = i := by omega
          subst this
          exact hd4 j' (by simpa [rgN] using h2)
    · subst e
      refine ⟨k2.trans k3, fun t s' ht hs' i j hi hj => ?_, _, _, _, _, _, rfl⟩
      rcases Nat.lt_or_ge t k with c3 | c3
      · exact hd t s' c3 hs' i j hi hj
      · have : t = k := by omega
        subst this
        rw [e1] at hs'
        cases hs'
        exact hd3 i j (by simpa [rgN] using hi) hj
  · subst e
    repeat infer_instance
    refine q true _ (k1.trans k2) ⟨fun _ s hs i j hi hj => ?_, fun _ => rfl⟩
    obtain ⟨t, ht, e⟩ := List.mem_iff_getElem.mp ((R.mem s).mpr hs)
    exact hd t s (by simpa [vN] using ht) (by rw [List.getElem?_eq_getElem ht, e]) i j hi hj
theorem s_lfine {a w : Nat} {rs : List Nat} (G : Gm I O m) (S : StsAt st p m) (ha : At st a (.lst w (vN rs))) (R : Rs I m rs) (q : ∀ b w l st', Kp st st' → At st' b (.lst w (vI l)) → Fin' I m l → Q (.ref b) st') : Wp (ev F (n + 2) (.fn 33) [.ref p, .ref a] st) Q := by
  have h60 := G.n60
  refine w_fn T.f33 rfl ?_
  dsimp only [frame, nones, Nat.reduceSub]
  repeat infer_instance
  intro s1 k1 a1
  generalize hA : st.n = A at a1 ⊢
  have alt := ha.lt
  obtain ⟨w0, as, S1, S2, _⟩ := S.ex
  have hrl : rs.length ≤ m.length := nodup_lt R.nd fun x hx => ((R.mem x).mp hx).lt G
  classical
  repeat infer_instance
  refine w_lenS (seqV_at (S1.k k1)) ?_
  rw [S2]
  refine ⟨m.length, rfl, by omega, ?_⟩
  refine w_forL (I := fun i fr s => Kp st s ∧ (∃ w, At s A (.lst w (vI ((List.range i).map fun s => if Rch I m s then fcl I m rs s else -1)))) ∧ ∃ x3, fr = [some (.ref p), some (.ref a), some (.ref A), x3, none]) ⟨k1, ⟨_, a1⟩, _, rfl⟩ (fun _ _ _ _ => rfl) (fun i v fr s hv ⟨k, ⟨w2, h2⟩, x3, e⟩ => ?_) (fun fr s ⟨k, ⟨w2, h2⟩, x3, e⟩ => ?_)
  · subst e
    obtain ⟨hi, rfl⟩ := rgN_get hv
    repeat infer_instance
    refine ⟨isLst_at h2, ?_⟩
    repeat infer_instance
    refine w_inL (k := 11) (e := fun i : Nat => PV.int i) re_nat rfl re_nat (ha.k k) ?_
    repeat infer_instance
    have fin : ∀ s', Kp s s' → ∀ x : Int, x = (if Rch I m i then fcl I m rs i else -1) → Wp (m_append (.ref A) [.int x] s') fun _ s => Kp st s ∧ (∃ w, At s A (.lst w (vI ((List.range (i + 1)).map fun s => if Rch I m s then fcl I m rs s else -1)))) := fun s' k' x hx => by
      refine w_append (h2.k k') (by show (vI _).length < 16777216; simp [vI]; omega) fun s4 u4 a4 => ⟨(k.trans k').up u4 (by omega), w2 + 1, ?_⟩
      rw [List.range_succ, List.map_append]
      unfold vI at a4 ⊢
      rw [List.map_append]
      subst hx
      exact a4
    refine ⟨fun c => ?_, fun c => ?_⟩
    · have c : i ∈ rs := by simpa using c
      have hr := (R.mem i).mp c
      repeat infer_instance
      refine w_anyL (ha.k k) ?_
      refine w_lcL (I := fun j ys s' => Kp s s' ∧ ys = vN ((rs.take j).filter fun t => decide (Al I m t i))) ⟨.refl, rfl⟩ (fun _ _ s' h => gd_lst ((ha.k k).k h.1) rfl) (fun j v ys s' hv ⟨k', e⟩ => ?_) (fun ys s' ⟨k', e⟩ => ?_)
      · obtain ⟨t, e1, rfl⟩ := vN_get hv
        have ht := (R.mem t).mp (List.mem_of_getElem? e1)
        repeat infer_instance
        refine s_lalike T G (S.k (k.trans k')) (ht.lt G) hi fun d s9 k9 hd => ?_
        repeat infer_instance
        rw [take_succ e1, List.filter_append]
        refine ⟨fun c => ?_, fun c => ?_⟩
        · repeat infer_instance
          refine ⟨k'.trans k9, ?_⟩
          have hz : ([t].filter fun t => decide (Al I m t i)) = [t] := by simp [hd.mp c]
          rw [e, vN_app, hz]
          rfl
        · refine ⟨k'.trans k9, ?_⟩
          have hn : ¬ Al I m t i := fun h => by rw [hd.mpr h] at c; cases c
          have hz : ([t].filter fun t => decide (Al I m t i)) = [] := by simp [hn]
          rw [e, vN_app, hz]
          simp [vN]
      · have hl : rs.take (vN rs).length = rs := by simp [vN]
        have e : ys = vN ((rs.take (vN rs).length).filter fun t => decide (Al I m t i)) := e
        rw [hl] at e
        subst e
        have hf : fcl I m rs i = (match (rs.filter fun t => decide (Al I m t i)) with
          | t :: _ => (t : Int)
          | [] => 0) := rfl
        have hfl : (rs.filter fun t => decide (Al I m t i)).length ≤ rs.length := List.length_filter_le ..
        have hm : i ∈ rs.filter fun t => decide (Al I m t i) := List.mem_filter.mpr ⟨c, decide_eq_true Al.refl⟩
        refine ⟨okL (by simp [vN]; omega), fun s5 k5 a5 => ?_⟩
        repeat infer_instance
        generalize (rs.filter fun t => decide (Al I m t i)) = fl at hf hm a5
        cases fl with
        | nil => cases hm
        | cons t fl =>
          refine w_getL (i := 0) a5 rfl rfl ?_
          repeat infer_instance
          refine (fin s5 (k'.trans k5) t ?_).mono fun _ s h => ⟨h.1, h.2, _, rfl⟩
          rw [if_pos hr, hf]
    · have c : i ∉ rs := by simpa using c
      repeat infer_instance
      refine (fin s .refl (-1) ?_).mono fun _ s h => ⟨h.1, h.2, _, rfl⟩
      rw [if_neg fun h => c ((R.mem i).mpr h)]
  · subst e
    have h2 : At s A (.lst w2 (vI ((List.range (rgN m.length).length).map fun s => if Rch I m s then fcl I m rs s else -1))) := h2
    rw [rgN_len] at h2
    have hg : ∀ s, s < m.length → ((List.range m.length).map fun s => if Rch I m s then fcl I m rs s else -1).getD s 0 = if Rch I m s then fcl I m rs s else -1 := fun s hs => by
      rw [List.getD_eq_getElem?_getD, List.getElem?_map, List.getElem?_range hs]
      rfl
    repeat infer_instance
    refine q A _ _ _ k h2 ⟨by simp, fcl I m rs, fcl_cls R, fun s hs => ?_, fun s hs h => ?_, fun s hs h => ?_⟩
    · obtain ⟨t, e, _⟩ := fcl_spec R hs
      omega
    · rw [hg s hs, if_pos h]
    · rw [hg s hs, if_neg h]
end YL
end
section
set_option linter.all false
set_option maxRecDepth 100000
set_option maxHeartbeats 1000000
/-! S5: k21's plain law: words to the reached states. [d2] -/
namespace YL
open Y
local macro_rules
  | `(tactic| infer_instance) => `(tactic| first
    | with_reducible refine w_seq ?_
    | with_reducible refine w_asg ?_
    | with_reducible refine w_ret ?_
    | with_reducible refine w_if ?_
    | with_reducible refine w_ex ?_
    | with_reducible refine w_par2 ?_
    | with_reducible refine w_par3 ?_
    | with_reducible refine w_nil ?_
    | with_reducible refine w_for ?_
    | ((with_reducible apply w_var); (exact rfl))
    | with_reducible refine w_cst ?_
    | with_reducible refine w_aNil ?_
    | with_reducible refine w_aCons ?_
    | with_reducible refine w_bin ?_
    | with_reducible refine w_and ?_
    | with_reducible refine w_not ?_
    | with_reducible refine w_isi ?_
    | with_reducible refine w_call ?_
    | with_reducible refine w_sub ?_
    | with_reducible refine w_biR ?_
    | with_reducible refine w_cmp ?_
    | with_reducible refine w_attr ?_
    | with_reducible refine w_tup ?_
    | with_reducible refine w_lst ?_
    | with_reducible refine w_dct1 ?_
    | with_reducible refine w_lm ?_
    | with_reducible refine w_dm ?_
    | with_reducible refine w_in ?_
    | with_reducible refine w_ife ?_
    | with_reducible refine w_neg ?_
    | with_reducible refine w_negI ?_
    | with_reducible refine w_make ?_
    | with_reducible refine w_meth ?_
    | with_reducible refine w_val ?_
    | with_reducible refine w_bnot ?_
    | with_reducible refine w_bor ?_
    | with_reducible refine w_band ?_
    | with_reducible refine w_bcmp ?_
    | with_reducible refine w_bin2 ?_
    | with_reducible refine w_bchain ?_
    | with_reducible refine w_chain ?_
    | with_reducible refine w_bT ?_
    | with_reducible refine w_tv ?_
    | ((with_reducible refine w_ttup ?_ ?_); exact rfl)
    | with_reducible refine w_tsCons ?_
    | with_reducible refine w_tsNil ?_
    | with_reducible refine w_tattr ?_
    | with_reducible refine w_tsub ?_
    | with_reducible refine w_iany ?_
    | with_reducible refine w_ivals ?_
    | with_reducible refine w_iitems ?_
    | with_reducible refine w_rng1 ?_
    | with_reducible refine w_enum ?_
    | with_reducible refine w_zip2 ?_
    | with_reducible refine w_lstRg1 ?_
    | with_reducible refine w_on1 ?_
    | with_reducible refine w_truB ?_
    | with_reducible refine w_lc ?_
    | with_reducible refine w_dc ?_
    | with_reducible refine w_eqI ?_
    | with_reducible refine w_neI ?_
    | with_reducible refine w_neT ?_
    | with_reducible refine w_eqT ?_
    | with_reducible refine w_eqB ?_
    | with_reducible refine w_neB ?_
    | with_reducible refine w_lt ?_
    | with_reducible refine w_le ?_
    | with_reducible refine w_ge ?_
    | with_reducible refine w_addI ?_
    | with_reducible refine w_subI ?_
    | with_reducible refine blQ.mk ?_
    | with_reducible refine w_anyT ?_
    | with_reducible refine w_anyC ?_
    | refine And.intro (show okLen _ = true from rfl) ?_
    | (refine And.intro (isLst_at ?_) ?_; (assumption))
    | ((with_reducible apply w_fld); (assumption); (exact rfl); (exact rfl))
    | refine w_isiV (t := 0) rfl rfl ?_
    | refine w_isiV (t := 4) rfl rfl ?_
    | with_reducible refine w_sl ?_
    | with_reducible refine w_aStarT ?_
    | with_reducible refine w_oN ?_
    | with_reducible refine w_oS ?_
    | with_reducible refine w_int1 ?_
    | refine w_getT (i := 0) rfl rfl ?_
    | refine w_getT (i := 1) rfl rfl ?_)
variable {F : Nat → Option Df} {n : Nat} {st : St} {Q : PV → St → Prop} {I O : Nat} {m : List Row} {p : Nat}
structure Wd (I : Nat) (m : List Row) (d : List (Nat × PV)) : Prop where
  rs : Rs I m (d.map (·.1))
  wd : ∀ s v, lkp d s = some v → ∃ w : List Nat, v = .tup (vN w) ∧ (∀ i ∈ w, i < I) ∧ goW m 0 w = s ∧ w.length ≤ 60
/-- while words are looked for: the keys ahead of k are done -/
structure Wt (I : Nat) (m : List Row) (d : List (Nat × PV)) (k : Nat) : Prop where
  nd : (d.map (·.1)).Nodup
  z : 0 ∈ d.map (·.1)
  wd : ∀ q ∈ d, ∃ w : List Nat, q.2 = .tup (vN w) ∧ (∀ i ∈ w, i < I) ∧ goW m 0 w = q.1 ∧ w.length < d.length
  cl : ∀ t, t < k → ∀ y, (d.map (·.1))[t]? = some y → ∀ j, j < I → go m y j ∈ d.map (·.1)
variable {d : List (Nat × PV)} {k : Nat}
theorem Wt.rch (h : Wt I m d k) {y : Nat} (hy : y ∈ d.map (·.1)) : Rch I m y := by
  obtain ⟨q, hq, rfl⟩ := List.mem_map.mp hy
  obtain ⟨w, _, h1, h2, _⟩ := h.wd q hq
  rw [← h2]
  exact Rch.z.word' h1
theorem Wt.len (G : Gm I O m) (h : Wt I m d k) : d.length ≤ m.length := by
  have := nodup_lt h.nd fun y hy => (h.rch hy).lt G
  simpa using this
theorem lkp_some {α : Type} [DecidableEq α] {l : List (α × PV)} {x : α} (h : x ∈ l.map (·.1)) : ∃ v, lkp l x = some v := by
  cases e : lkp l x with
  | none => exact absurd h (lkp_none.mp e)
  | some v => exact ⟨v, rfl⟩
theorem Wt.init : Wt I m [(0, .tup [])] 0 := ⟨by simp, by simp, fun q hq => by rw [List.mem_singleton.mp hq]; exact ⟨[], rfl, nofun, rfl, Nat.zero_lt_one⟩, nofun⟩
theorem Wt.new {y i : Nat} {w : List Nat} (h : Wt I m d k) (hk : k ≤ d.length) (hw : ∀ i ∈ w, i < I) (e : goW m 0 w = y) (hl : w.length < d.length) (hi : i < I) (g : go m y i ∉ d.map (·.1)) : Wt I m (d ++ [(go m y i, .tup (vN w ++ [.int i]))]) k := by
  refine ⟨by rw [List.map_append]; exact nodup_snoc h.nd g, by simp only [List.map_append]; exact List.mem_append_left _ h.z, fun q hq => ?_, fun t ht y' hy j hj => ?_⟩
  · rcases List.mem_append.mp hq with hq | hq
    · obtain ⟨w, h1, h2, h3, h4⟩ := h.wd q hq
      exact ⟨w, h1, h2, h3, by simp; omega⟩
    · rw [List.mem_singleton.mp hq]
      refine ⟨w ++ [i], by simp [vN], fun j hj => ?_, by rw [goW_app, e]; rfl, by simp; omega⟩
      rcases List.mem_append.mp hj with hj | hj
      · exact hw j hj
      · rw [List.mem_singleton.mp hj]; exact hi
  · rw [List.map_append, List.getElem?_append_left (by simp; omega)] at hy
    simp only [List.map_append]
    exact List.mem_append_left _ (h.cl t ht y' hy j hj)
theorem Wt.next {y : Nat} (h : Wt I m d k) (hy : (d.map (·.1))[k]? = some y) (now : ∀ j, j < I → go m y j ∈ d.map (·.1)) : Wt I m d (k + 1) :=
  ⟨h.nd, h.z, h.wd, fun t ht y' hy' j hj => by
    rcases Nat.lt_or_ge t k with c | c
    · exact h.cl t c y' hy' j hj
    · have : t = k := by omega
      subst this
      rw [hy] at hy'
      cases hy'
      exact now j hj⟩
theorem Wt.done (G : Gm I O m) (h : Wt I m d d.length) : Wd I m d := by
  refine ⟨⟨h.nd, fun s => ⟨h.rch, fun r => ?_⟩⟩, fun s v e => ?_⟩
  · induction r with
    | z => exact h.z
    | @s a i _ hi ih =>
      obtain ⟨t, ht, e⟩ := List.mem_iff_getElem.mp ih
      exact h.cl t (by simpa using ht) a (by rw [List.getElem?_eq_getElem ht, e]) i hi
  · obtain ⟨w, h1, h2, h3, h4⟩ := h.wd _ (lkp_mem e)
    have := h.len G
    have := G.n60
    exact ⟨w, h1, h2, h3, by omega⟩
variable (T : Tbl F)
include T
theorem s_words (G : Gm I O m) (M : MachAt st p I O m) (q : ∀ a w d st', Kp st st' → At st' a (.dct w (emb inV' d)) → Wd I m d → Q (.ref a) st') : Wp (ev F (n + 1) (.fn 12) [.ref p] st) Q := by
  have h60 := G.n60
  have hi4 := G.i4
  obtain ⟨sa, hm, S⟩ := M.ex
  refine w_fn T.f12 rfl ?_
  dsimp only [frame, nones, Nat.reduceSub]
  repeat infer_instance
  refine ⟨rfl, fun s1 k1 a1 => ?_⟩
  repeat infer_instance
  intro s2 k2 a2
  have hne := a1.lt
  have hle := k1.n
  have a1 := a1.k k2
  generalize hA1 : st.n = A1 at a1 hne hle ⊢
  generalize hA2 : s1.n = A2 at a2 hne hle ⊢
  repeat infer_instance
  refine w_whl (n := 100000) (m := m.length) (I := fun k fr s => Kp st s ∧ ∃ w1 w2 d t x4 x5 x6, At s A1 (.dct w1 (emb inV' d)) ∧ At s A2 (.lst w2 (vN (d.map (·.1)))) ∧ Wt I m d t ∧ t ≤ d.length ∧ k = m.length - t ∧ fr = [some (.ref p), some (.ref A1), some (.ref A2), some (.int t), x4, x5, x6]) (by omega) ⟨k1.trans k2, _, _, [(0, .tup [])], 0, _, _, _, a1, a2, Wt.init, Nat.zero_le _, rfl, rfl⟩ (fun k fr s ⟨K, w1, w2, d, t, x4, x5, x6, h1, h2, hf, htl, hk, e⟩ => ?_)
  subst e
  repeat infer_instance
  refine w_lenS (seqV_at h2) ?_
  repeat infer_instance
  have hvl : (vN (d.map (·.1))).length = d.length := by simp [vN]
  have hl := hf.len G
  refine ⟨fun c => ?_, fun c => ?_⟩
  · have c := of_decide_eq_true c
    have ht : t < (d.map (·.1)).length := by simp; omega
    have e1 : (d.map (·.1))[t]? = some (d.map (·.1))[t] := List.getElem?_eq_getElem ht
    generalize (d.map (·.1))[t] = y at e1
    have hy := List.mem_of_getElem? e1
    have hr := hf.rch hy
    repeat infer_instance
    refine w_getL (i := t) h2 (v := .int y) (by unfold vN; rw [List.getElem?_map, e1]; rfl) rfl ?_
    have hm1 := hm.k K
    repeat infer_instance
    refine ⟨I, rfl, by omega, ?_⟩
    refine w_forL (I := fun i fr s => Kp st s ∧ ∃ w1 w2 d' x5 x6, At s A1 (.dct w1 (emb inV' d')) ∧ At s A2 (.lst w2 (vN (d'.map (·.1)))) ∧ Wt I m d' t ∧ d.length ≤ d'.length ∧ (d'.map (·.1))[t]? = some y ∧ (∀ j, j < i → go m y j ∈ d'.map (·.1)) ∧ fr = [some (.ref p), some (.ref A1), some (.ref A2), some (.int t), some (.int y), x5, x6]) ⟨K, _, _, d, _, _, h1, h2, hf, Nat.le_refl _, e1, nofun, rfl⟩ (fun _ _ _ _ => rfl) (fun i v fr s hv ⟨K5, w1, w2, d', x5, x6, g1, g2, hF, hle2, e2, now, e⟩ => ?_) (fun fr s ⟨K5, w1, w2, d', x5, x6, g1, g2, hF, hle2, e2, now, e⟩ => ?_)
    · subst e
      obtain ⟨hi, rfl⟩ := rgN_get hv
      have hm2 := hm.k K5
      obtain ⟨row, r1, r2, r3, r4, r5⟩ := G.at (hr.lt G) hi
      repeat infer_instance
      refine w_row (S.k K5) r1 fun b hb => ?_
      repeat infer_instance
      refine w_cell hb r3 ?_
      unfold sPV
      repeat infer_instance
      rw [show (nx m y i).1 = go m y i from rfl]
      refine w_inD ke_nat (x := go m y i) g1 ?_
      repeat infer_instance
      refine ⟨fun c2 => ?_, fun c2 => ?_⟩
      · have c2 : lkp d' (go m y i) = none := by simpa using c2
        have c3 := lkp_none.mp c2
        obtain ⟨v, ev⟩ := lkp_some (List.mem_of_getElem? e2)
        obtain ⟨w, rfl, hw, hgw, hwl⟩ := hF.wd _ (lkp_mem ev)
        have hgw : goW m 0 w = y := hgw
        have hF2 := hF.new (by omega) hw hgw hwl hi c3
        have hl2 := hF2.len G
        rw [List.length_append] at hl2
        have hl3 : d'.length + 1 ≤ m.length := hl2
        repeat infer_instance
        refine w_getD ke_nat (x := y) g1 ev ?_
        refine ⟨_, rfl, ?_⟩
        repeat infer_instance
        refine ⟨okL (by simp [vN]; omega), ?_⟩
        repeat infer_instance
        refine w_setD ke_nat (x := go m y i) g1 (by show d'.length < 16777216; omega) fun s6 u6 a6 => ?_
        rw [put_new c2] at a6
        have g2 := g2.up u6 (by omega)
        repeat infer_instance
        refine ⟨isLst_at g2, ?_⟩
        repeat infer_instance
        refine w_append g2 (by show (vN (d'.map (·.1))).length < 16777216; simp [vN]; omega) fun s7 u7 a7 => ?_
        have a7' : At s7 A2 (.lst (w2 + 1) (vN ((d' ++ [(go m y i, PV.tup (vN w ++ [.int i]))]).map (·.1)))) := by rw [List.map_append, vN_app]; exact a7
        refine ⟨(K5.up u6 (by omega)).up u7 (by omega), _, _, _, _, _, a6.up u7 (by omega), a7', hF2, (by simp; omega), ?_, fun j hj => ?_, rfl⟩
        · rw [List.map_append, List.getElem?_append_left (by simp; omega)]
          exact e2
        · rw [List.map_append]
          rcases Nat.lt_or_ge j i with c | c
          · exact List.mem_append_left _ (now j c)
          · rw [show j = i by omega]; simp
      · have c3 : go m y i ∈ d'.map (·.1) := Classical.byContradiction fun h => by rw [lkp_none.mpr h] at c2; cases c2
        repeat infer_instance
        refine ⟨K5, _, _, d', _, _, g1, g2, hF, hle2, e2, fun j hj => ?_, rfl⟩
        rcases Nat.lt_or_ge j i with c | c
        · exact now j c
        · rw [show j = i by omega]; exact c3
    · subst e
      have now : ∀ j, j < (rgN I).length → go m y j ∈ d'.map (·.1) := now
      rw [rgN_len] at now
      have hl2 := hF.len G
      refine w_aug rfl ?_
      repeat infer_instance
      exact ⟨m.length - (t + 1), by omega, K5, _, _, d', t + 1, _, _, _, g1, g2, hF.next e2 now, by omega, rfl, rfl⟩
  · have c := of_decide_eq_false c
    have : t = d.length := by omega
    subst this
    repeat infer_instance
    exact q A1 _ d _ K h1 (hf.done G)
end YL
end
section
set_option linter.all false
set_option maxRecDepth 100000
set_option maxHeartbeats 1000000
/-! S5b: k21's plain law: classes. [d2] -/
namespace YL
open Y
local macro_rules
  | `(tactic| infer_instance) => `(tactic| first
    | with_reducible refine w_seq ?_
    | with_reducible refine w_asg ?_
    | with_reducible refine w_ret ?_
    | with_reducible refine w_if ?_
    | with_reducible refine w_ex ?_
    | with_reducible refine w_par2 ?_
    | with_reducible refine w_par3 ?_
    | with_reducible refine w_nil ?_
    | with_reducible refine w_for ?_
    | ((with_reducible apply w_var); (exact rfl))
    | with_reducible refine w_cst ?_
    | with_reducible refine w_aNil ?_
    | with_reducible refine w_aCons ?_
    | with_reducible refine w_bin ?_
    | with_reducible refine w_and ?_
    | with_reducible refine w_not ?_
    | with_reducible refine w_isi ?_
    | with_reducible refine w_call ?_
    | with_reducible refine w_sub ?_
    | with_reducible refine w_biR ?_
    | with_reducible refine w_cmp ?_
    | with_reducible refine w_attr ?_
    | with_reducible refine w_tup ?_
    | with_reducible refine w_lst ?_
    | with_reducible refine w_dct1 ?_
    | with_reducible refine w_lm ?_
    | with_reducible refine w_dm ?_
    | with_reducible refine w_in ?_
    | with_reducible refine w_ife ?_
    | with_reducible refine w_neg ?_
    | with_reducible refine w_negI ?_
    | with_reducible refine w_make ?_
    | with_reducible refine w_meth ?_
    | with_reducible refine w_val ?_
    | with_reducible refine w_bnot ?_
    | with_reducible refine w_bor ?_
    | with_reducible refine w_band ?_
    | with_reducible refine w_bcmp ?_
    | with_reducible refine w_bin2 ?_
    | with_reducible refine w_bchain ?_
    | with_reducible refine w_chain ?_
    | with_reducible refine w_bT ?_
    | with_reducible refine w_tv ?_
    | ((with_reducible refine w_ttup ?_ ?_); exact rfl)
    | with_reducible refine w_tsCons ?_
    | with_reducible refine w_tsNil ?_
    | with_reducible refine w_tattr ?_
    | with_reducible refine w_tsub ?_
    | with_reducible refine w_iany ?_
    | with_reducible refine w_ivals ?_
    | with_reducible refine w_iitems ?_
    | with_reducible refine w_rng1 ?_
    | with_reducible refine w_enum ?_
    | with_reducible refine w_zip2 ?_
    | with_reducible refine w_lstRg1 ?_
    | with_reducible refine w_on1 ?_
    | with_reducible refine w_truB ?_
    | with_reducible refine w_lc ?_
    | with_reducible refine w_dc ?_
    | with_reducible refine w_eqI ?_
    | with_reducible refine w_neI ?_
    | with_reducible refine w_neT ?_
    | with_reducible refine w_eqT ?_
    | with_reducible refine w_eqB ?_
    | with_reducible refine w_neB ?_
    | with_reducible refine w_lt ?_
    | with_reducible refine w_le ?_
    | with_reducible refine w_ge ?_
    | with_reducible refine w_addI ?_
    | with_reducible refine w_subI ?_
    | with_reducible refine blQ.mk ?_
    | with_reducible refine w_anyT ?_
    | with_reducible refine w_anyC ?_
    | refine And.intro (show okLen _ = true from rfl) ?_
    | (refine And.intro (isLst_at ?_) ?_; (assumption))
    | ((with_reducible apply w_fld); (assumption); (exact rfl); (exact rfl))
    | refine w_isiV (t := 0) rfl rfl ?_
    | refine w_isiV (t := 4) rfl rfl ?_
    | with_reducible refine w_sl ?_
    | with_reducible refine w_aStarT ?_
    | with_reducible refine w_oN ?_
    | with_reducible refine w_oS ?_
    | with_reducible refine w_int1 ?_
    | refine w_getT (i := 0) rfl rfl ?_
    | refine w_getT (i := 1) rfl rfl ?_)
variable {F : Nat → Option Df} {n : Nat} {st : St} {Q : PV → St → Prop} {I O : Nat} {m : List Row} {p : Nat}
def cD (rs : List Nat) (c : Nat → Int) : List (Nat × PV) := rs.map fun s => (s, PV.int (c s))
theorem cD_keys {rs : List Nat} {c : Nat → Int} : (cD rs c).map (·.1) = rs := by simp [cD, Function.comp_def]
theorem cD_lkp {c : Nat → Int} {s : Nat} : ∀ {rs : List Nat}, s ∈ rs → lkp (cD rs c) s = some (.int (c s))
  | r :: rs, h => by
    show (if r = s then some (.int (c r)) else lkp (cD rs c) s) = _
    by_cases e : r = s
    · subst e; rw [if_pos rfl]
    · rw [if_neg e]
      exact cD_lkp (by rcases List.mem_cons.mp h with h | h; exact absurd h.symm e; exact h)
theorem cD_none {rs : List Nat} {c : Nat → Int} {s : Nat} (h : s ∉ rs) : lkp (cD rs c) s = none := lkp_none.mpr (by rw [cD_keys]; exact h)
theorem cD_take {rs : List Nat} {c : Nat → Int} {s i : Nat} (h : rs[i]? = some s) : cD (rs.take (i + 1)) c = cD (rs.take i) c ++ [(s, .int (c s))] := by
  unfold cD
  rw [take_succ h, List.map_append]
  rfl
theorem cD_congr {rs : List Nat} {c d : Nat → Int} (h : ∀ s ∈ rs, c s = d s) : cD rs c = cD rs d := by
  unfold cD
  exact List.map_congr_left fun s hs => by rw [h s hs]
theorem nodup_take {α : Type} {l : List α} {i : Nat} {x : α} (nd : l.Nodup) (h : l[i]? = some x) : x ∉ l.take i := by
  intro hx
  rw [← List.take_append_drop i l, List.nodup_append] at nd
  refine nd.2.2 x hx x ?_ rfl
  refine List.mem_of_getElem? (i := 0) ?_
  rw [List.getElem?_drop, Nat.add_zero]
  exact h
/-! ### numbers of rows -/
section
variable {α : Type} [DecidableEq α]
def kyF (k : Nat) : List α → List (α × PV)
  | [] => []
  | u :: us => (u, .int k) :: kyF (k + 1) us
def ix : List α → α → Nat
  | [], _ => 0
  | u :: us, x => if u = x then 0 else ix us x + 1
theorem kyF_lkp {x : α} : ∀ {us : List α} {k : Nat}, lkp (kyF k us) x = if x ∈ us then some (.int (k + ix us x : Nat)) else none
  | [], _ => rfl
  | u :: us, k => by
    show (if u = x then some (PV.int k) else lkp (kyF (k + 1) us) x) = _
    by_cases e : u = x
    · subst e
      rw [if_pos rfl, if_pos List.mem_cons_self]
      simp [ix]
    · rw [if_neg e, kyF_lkp]
      have e' : ¬ x = u := fun h => e h.symm
      simp only [List.mem_cons, e', false_or]
      split
      · simp only [ix, if_neg e]
        congr 2
        omega
      · rfl
theorem kyF_app {x : α} : ∀ {us : List α} {k : Nat}, kyF k (us ++ [x]) = kyF k us ++ [(x, .int (k + us.length : Nat))]
  | [], k => rfl
  | u :: us, k => by
    show (u, PV.int k) :: kyF (k + 1) (us ++ [x]) = (u, PV.int k) :: kyF (k + 1) us ++ _
    rw [kyF_app, List.cons_append]
    congr 4
    simp
    omega
theorem kyF_len : ∀ {us : List α} {k : Nat}, (kyF k us).length = us.length
  | [], _ => rfl
  | u :: us, k => by
    show (kyF (k + 1) us).length + 1 = us.length + 1
    rw [kyF_len]
theorem ix_app {x : α} {vs : List α} : ∀ {us : List α}, x ∈ us → ix (us ++ vs) x = ix us x
  | u :: us, h => by
    show (if u = x then 0 else ix (us ++ vs) x + 1) = if u = x then 0 else ix us x + 1
    by_cases e : u = x
    · rw [if_pos e, if_pos e]
    · rw [if_neg e, if_neg e, ix_app (by rcases List.mem_cons.mp h with h | h; exact absurd h.symm e; exact h)]
theorem ix_new {x : α} : ∀ {us : List α}, x ∉ us → ix (us ++ [x]) x = us.length
  | [], _ => by simp [ix]
  | u :: us, h => by
    rw [List.mem_cons, not_or] at h
    show (if u = x then 0 else ix (us ++ [x]) x + 1) = us.length + 1
    rw [if_neg fun e => h.1 e.symm, ix_new h.2]
theorem ix_inj {x y : α} : ∀ {us : List α}, x ∈ us → y ∈ us → ix us x = ix us y → x = y
  | u :: us, hx, hy, e => by
    have e : (if u = x then 0 else ix us x + 1) = (if u = y then 0 else ix us y + 1) := e
    by_cases ex : u = x
    · by_cases ey : u = y
      · rw [← ex, ey]
      · rw [if_pos ex, if_neg ey] at e; omega
    · by_cases ey : u = y
      · rw [if_neg ex, if_pos ey] at e; omega
      · rw [if_neg ex, if_neg ey] at e
        exact ix_inj (by rcases List.mem_cons.mp hx with h | h; exact absurd h.symm ex; exact h) (by rcases List.mem_cons.mp hy with h | h; exact absurd h.symm ey; exact h) (by omega)
end
theorem rnd_ix {rs : List Nat} {c : Nat → Int} {us : List (Int × List (Int × List Int))} (h : ∀ s ∈ rs, rowOf m c s ∈ us) : Rnd m rs c fun s => (ix us (rowOf m c s) : Nat) := fun a ha b hb =>
  ⟨fun e => ix_inj (h a ha) (h b hb) (by have e : ((ix us (rowOf m c a) : Nat) : Int) = (ix us (rowOf m c b) : Nat) := e; omega), fun e => by show ((ix us (rowOf m c a) : Nat) : Int) = (ix us (rowOf m c b) : Nat); rw [e]⟩
theorem keN_get {d : List (Nat × PV)} {i : Nat} {v : PV} (h : (fstL (emb inV' d))[i]? = some v) : ∃ s, (d.map (·.1))[i]? = some s ∧ v = .int s := by
  rw [emb_fst, List.getElem?_map] at h
  rw [List.getElem?_map]
  cases e : d[i]? with
  | none => rw [e] at h; cases h
  | some q => rw [e] at h; cases h; exact ⟨q.1, rfl, rfl⟩
theorem w_nums {r : Ev} {fr : Fr} {a w : Nat} {rs : List Nat} {c : Nat → Int} {Q : List (PV × PV) → St → Prop} (h11 : ∀ v, nth (setNth fr 11 (some v)) 11 = some (some v)) (h : At st a (.dct w (emb inV' (cD rs c)))) (hl : rs.length ≤ 60) (q : ∀ ks : List Int, Dst rs c ks → Q (emb (fun i : Int => PV.int i) (ks.map fun k => (k, PV.bl true))) st) : Wp (dcL (e_var 11) (e_cst (.bl true)) (t_v 11) bT ((a, w) :: []) r fr (sndL (emb inV' (cD rs c))) [] st) Q := by
  have hi : sndL (emb inV' (cD rs c)) = rs.map fun s => PV.int (c s) := by rw [emb_snd]; simp [cD]
  rw [hi]
  refine w_dcL (I := fun i ys s => s = st ∧ ∃ ks : List Int, ys = emb (fun i : Int => PV.int i) (ks.map fun k => (k, PV.bl true)) ∧ ks.Nodup ∧ ks.length ≤ i ∧ ∀ x, x ∈ ks ↔ ∃ s ∈ rs.take i, c s = x) ⟨rfl, [], rfl, by simp, by simp, by simp⟩ (fun _ _ s ⟨e, _⟩ => by subst e; exact gd_dct h rfl) (fun i v ys s hv ⟨hs, ks, e, nd, hkl, hm⟩ => ?_) (fun ys s ⟨hs, ks, e, nd, hkl, hm⟩ => ?_)
  · subst hs
    rw [List.getElem?_map] at hv
    cases e1 : rs[i]? with
    | none => rw [e1] at hv; cases hv
    | some x =>
      rw [e1] at hv
      cases hv
      have hil : i < rs.length := (List.getElem?_eq_some_iff.mp e1).1
      refine w_tv (w_bT ⟨fun _ => w_var (h11 _) (w_cst ?_), nofun⟩)
      refine ⟨rfl, emb (fun i : Int => PV.int i) (put (ks.map fun k => (k, PV.bl true)) (c x) (.bl true)), ?_, ?_, rfl, ?_⟩
      · rw [e]; exact kput_emb ke_int _ (c x) _
      · refine okL ?_
        rw [emb_len]
        have := put_len (l := ks.map fun k => (k, PV.bl true)) (x := c x) (v := .bl true)
        rw [List.length_map] at this
        omega
      · rw [take_succ e1]
        by_cases hx : c x ∈ ks
        · refine ⟨ks, ?_, nd, by omega, fun y => ?_⟩
          · congr 1
            clear hm nd e hkl
            induction ks with
            | nil => cases hx
            | cons k ks ih =>
              show (if k = c x then (k, PV.bl true) :: ks.map (fun k => (k, PV.bl true)) else (k, PV.bl true) :: put (ks.map fun k => (k, PV.bl true)) (c x) (.bl true)) = _
              by_cases ek : k = c x
              · rw [if_pos ek]; rfl
              · rw [if_neg ek, ih (by rcases List.mem_cons.mp hx with h | h; exact absurd h.symm ek; exact h)]; rfl
          · rw [hm]
            constructor
            · rintro ⟨s, h1, h2⟩; exact ⟨s, List.mem_append_left _ h1, h2⟩
            · rintro ⟨s, h1, h2⟩
              rcases List.mem_append.mp h1 with h1 | h1
              · exact ⟨s, h1, h2⟩
              · rw [List.mem_singleton.mp h1] at h2
                rw [← h2]
                exact (hm _).mp hx
        · refine ⟨ks ++ [c x], ?_, nodup_snoc nd hx, by simp; omega, fun y => ?_⟩
          · rw [put_new (lkp_none.mpr (by simpa using hx))]
            simp
          · rw [List.mem_append, List.mem_singleton, hm]
            constructor
            · rintro (⟨s, h1, h2⟩ | h)
              · exact ⟨s, List.mem_append_left _ h1, h2⟩
              · exact ⟨x, by simp, h.symm⟩
            · rintro ⟨s, h1, h2⟩
              rcases List.mem_append.mp h1 with h1 | h1
              · exact .inl ⟨s, h1, h2⟩
              · rw [List.mem_singleton.mp h1] at h2; exact .inr h2.symm
  · subst hs
    subst e
    refine q ks ⟨nd, fun x => ?_⟩
    rw [hm, List.length_map, List.take_length]
/-- one row's tuple -/
theorem rowV_eq {c : Nat → Int} {s : Nat} {row : Row} (h : m[s]? = some row) : rwV (rowOf m c s) = .tup (.int (c s) :: row.map fun z => stV (c z.1, z.2)) := by
  unfold rowOf rwV
  rw [h]
  simp
variable (T : Tbl F)
include T
theorem s_classes {a1 w1 : Nat} (G : Gm I O m) (M : MachAt st p I O m) (h1 : At st a1 (.lst w1 (rgN O))) (q : ∀ A w rs c st', Kp st st' → At st' A (.dct w (emb inV' (cD rs c))) → Rs I m rs → Cls I m c → (∀ s, 0 ≤ c s) → Q (.ref A) st') : Wp (ev F (n + 2) (.fn 13) [.ref p, .ref a1] st) Q := by
  have h60 := G.n60
  have hi4 := G.i4
  have ho4 := G.o4
  obtain ⟨sa, hm, S⟩ := M.ex
  refine w_fn T.f13 rfl ?_
  dsimp only [frame, nones, Nat.reduceSub]
  repeat infer_instance
  refine s_words T G M fun ad wd d s1 k1 hd W => ?_
  have R := W.rs
  generalize hrs : d.map (·.1) = rs at R
  have hrl : rs.length ≤ m.length := nodup_lt R.nd fun x hx => ((R.mem x).mp hx).lt G
  have hdl : d.length = rs.length := by rw [← hrs]; simp
  repeat infer_instance
  refine w_anyD hd ?_
  refine w_dcL (I := fun i ys s => s = s1 ∧ ys = emb inV' (cD (rs.take i) fun _ => 0)) ⟨rfl, rfl⟩ (fun _ _ s ⟨e, _⟩ => by subst e; exact gd_dct hd rfl) (fun i v ys s hv ⟨hs, e⟩ => ?_) (fun ys s ⟨hs, e⟩ => ?_)
  · subst hs
    obtain ⟨x, e1, rfl⟩ := keN_get hv
    rw [hrs] at e1
    repeat infer_instance
    refine ⟨fun _ => ?_, nofun⟩
    repeat infer_instance
    refine ⟨rfl, emb inV' (cD (rs.take (i + 1)) fun _ => 0), ?_, okL ?_, rfl, rfl⟩
    · rw [e, cD_take e1, ← put_new (cD_none (nodup_take R.nd e1))]
      exact kput_emb ke_nat _ x _
    · rw [emb_len]
      simp [cD]
      omega
  · subst hs
    have hl : rs.take (fstL (emb inV' d)).length = rs := by rw [emb_fst, List.length_map, hdl, List.take_length]
    have e : ys = emb inV' (cD (rs.take (fstL (emb inV' d)).length) fun _ => 0) := e
    rw [hl] at e
    subst e
    intro s2 k2 a2
    generalize hA : s.n = A0 at a2
    repeat infer_instance
    refine w_whl (n := 100000) (m := rs.length) (I := fun k fr s' => Kp s s' ∧ ∃ A w, ∃ M : Nat, ∃ c : Nat → Int, ∃ x3 x6 x7 x8 x9 x10 x11 x12, At s' A (.dct w (emb inV' (cD rs c))) ∧ Keeps I m c ∧ (∀ s, 0 ≤ c s) ∧ (M = 0 ∨ ∃ c0 ks0, Keeps I m c0 ∧ Rnd m rs c0 c ∧ Dst rs c0 ks0 ∧ ks0.length = M) ∧ (M ≤ rs.length ∧ k = rs.length - M) ∧ fr = [some (.ref p), some (.ref a1), some (.ref ad), x3, some (.ref A), some (.int M), x6, x7, x8, x9, x10, x11, x12]) (by omega) ⟨k2, A0, 0, 0, fun _ => 0, _, _, _, _, _, _, _, _, a2, fun _ _ _ _ _ => rfl, fun _ => Int.le_refl _, .inl rfl, ⟨Nat.zero_le _, rfl⟩, rfl⟩ (fun k fr s3 ⟨K, A, w, M, c, x3, x6, x7, x8, x9, x10, x11, x12, hc, hk, hc0, hM, ⟨hMl, hkk⟩, e⟩ => ?_)
    subst e
    repeat infer_instance
    refine w_valsD hc ?_
    refine w_nums (fun _ => rfl) hc (by omega) fun ks dk => ?_
    intro s4 k4 a4
    repeat infer_instance
    refine w_lenD a4 ?_
    rw [List.length_map]
    repeat infer_instance
    refine ⟨fun cd => ?_, fun cd => ?_⟩
    · have hne : M ≠ ks.length := fun e => by rw [e] at cd; simp at cd
      have hMk : M < ks.length := by
        rcases hM with rfl | ⟨c0, ks0, _, hR, d0, rfl⟩
        · omega
        · have := ref_le hR.ref d0 dk; omega
      have hkl := dk.le
      repeat infer_instance
      refine w_valsD (hc.k k4) ?_
      refine w_nums (fun _ => rfl) (hc.k k4) (by omega) fun ks' dk' => ?_
      have hkk' : ks'.length = ks.length := Nat.le_antisymm (ref_le (fun _ _ _ _ e => e) dk' dk) (ref_le (fun _ _ _ _ e => e) dk dk')
      intro s5 k5 a5
      repeat infer_instance
      refine w_lenD a5 ?_
      rw [List.length_map, hkk']
      repeat infer_instance
      refine w_dct0 fun s6 k6 a6 => ?_
      refine w_dct0 fun s7 k7 a7 => ?_
      have K5 := (K.trans k4).trans k5
      have hc5 := (hc.k k4).k k5
      have hlt5 := hc5.lt
      have hle6 := a6.lt
      have hle7 := a7.lt
      have a6 := a6.k k7
      have hK5n := K5.n
      have hk6n := k6.n
      generalize hA6 : s5.n = A6 at a6 hle6 hlt5 hK5n hk6n ⊢
      generalize hA7 : s6.n = A7 at a7 hle6 hle7 hk6n ⊢
      repeat infer_instance
      refine w_anyD (hd.k ((K5.trans k6).trans k7)) ?_
      refine w_forL (I := fun i fr s' => Kp s5 s' ∧ ∃ w6 w7, ∃ us : List (Int × List (Int × List Int)), ∃ x3 x8 x9 x10 x11 x12, At s' A6 (.dct w6 (emb rwV (kyF 0 us))) ∧ At s' A7 (.dct w7 (emb inV' (cD (rs.take i) fun s => (ix us (rowOf m c s) : Nat)))) ∧ us.length ≤ i ∧ (∀ s ∈ rs.take i, rowOf m c s ∈ us) ∧ fr = [some (.ref p), some (.ref a1), some (.ref ad), x3, some (.ref A), some (.int ks.length), some (.ref A6), some (.ref A7), x8, x9, x10, x11, x12]) ⟨k6.trans k7, _, _, [], _, _, _, _, _, _, a6, a7, Nat.zero_le _, by simp, rfl⟩ (fun _ _ s' ⟨k', _⟩ => gd_dct (hd.k (K5.trans k')) rfl) (fun i v fr s8 hv ⟨k8, w6, w7, us, x3, x8, x9, x10, x11, x12, h6, h7, hul, hus, e⟩ => ?_) (fun fr s8 ⟨k8, w6, w7, us, x3, x8, x9, x10, x11, x12, h6, h7, hul, hus, e⟩ => ?_)
      · subst e
        obtain ⟨x, e1, rfl⟩ := keN_get hv
        rw [hrs] at e1
        have hx := List.mem_of_getElem? e1
        have hxr := (R.mem x).mp hx
        have hil : i < rs.length := (List.getElem?_eq_some_iff.mp e1).1
        obtain ⟨row, r1, r2, _⟩ := G.at (hxr.lt G) (show 0 < I by have := G.i1; omega)
        repeat infer_instance
        refine w_getD ke_nat (x := x) (hc5.k k8) (cD_lkp hx) ?_
        repeat infer_instance
        intro s9 k9 a9
        have hlt6 := h6.lt
        have hlt7 := h7.lt
        have hle9 := a9.lt
        generalize hA8 : s8.n = A8 at a9 hle9 hlt6 hlt7 ⊢
        repeat infer_instance
        have K9 := (K5.trans k8).trans k9
        have hm9 := hm.k (k1.trans K9)
        repeat infer_instance
        refine w_rowA S (k1.trans K9) r1 fun b wb hb => ?_
        refine w_anyL (hb.k (k1.trans K9)) ?_
        refine w_forL (I := fun j fr s' => Kp s8 s' ∧ ∃ w8 x9 x10 x11 x12, At s' A8 (.lst w8 (.int (c x) :: (row.take j).map fun z => stV (c z.1, z.2))) ∧ fr = [some (.ref p), some (.ref a1), some (.ref ad), some (.int x), some (.ref A), some (.int ks.length), some (.ref A6), some (.ref A7), some (.ref A8), x9, x10, x11, x12]) ⟨k9, _, _, _, _, _, a9, rfl⟩ (fun _ _ s' ⟨k', _⟩ => gd_lst (hb.k (k1.trans ((K5.trans k8).trans k'))) rfl) (fun j v fr s10 hv ⟨k10, w8, x9, x10, x11, x12, h8, e⟩ => ?_) (fun fr s10 ⟨k10, w8, x9, x10, x11, x12, h8, e⟩ => ?_)
        · subst e
          rw [List.getElem?_map] at hv
          cases e3 : row[j]? with
          | none => rw [e3] at hv; cases hv
          | some z =>
            rw [e3] at hv
            cases hv
            have hj : j < I := by rw [← r2]; exact (List.getElem?_eq_some_iff.mp e3).1
            have ez : nx m x j = z := nx_row r1 e3
            have hzr : Rch I m z.1 := by rw [← ez]; exact hxr.s hj
            have hzo : z.2.length = O := by rw [← ez]; exact G.ou_len (hxr.lt G) hj
            obtain ⟨g, o⟩ := z
            unfold sPV
            repeat infer_instance
            refine ⟨isLst_at h8, ?_⟩
            repeat infer_instance
            refine w_getD ke_nat (x := g) ((hc5.k k8).k k10) (cD_lkp ((R.mem g).mpr hzr)) ?_
            repeat infer_instance
            have K10 := k1.trans ((K5.trans k8).trans k10)
            refine w_anyL (h1.k K10) ?_
            refine w_lcF (res := vI o) (by rw [rgN_len]; simpa [vI] using hzo) (fun s' k' => gd_lst ((h1.k K10).k k') rfl) (fun u v s11 hv k11 => ?_) (fun s11 k11 => ?_)
            · obtain ⟨hu, rfl⟩ := rgN_get hv
              have hul2 : u < (vI o).length := by simp [vI]; have hzo : o.length = O := hzo; omega
              have e4 : (vI o)[u]? = some (vI o)[u] := List.getElem?_eq_getElem hul2
              repeat infer_instance
              refine w_getT (i := u) e4 rfl ?_
              exact ⟨.refl, e4⟩
            · have hzo : o.length = O := hzo
              refine ⟨okL (by simp [vI]; omega), fun s12 k12 a12 => ?_⟩
              repeat infer_instance
              refine w_tup1 (seqV_at a12) ?_
              repeat infer_instance
              refine w_append ((h8.k k11).k k12) (by show List.length _ < 16777216; simp; omega) fun s13 u13 a13 => ?_
              refine ⟨((k10.trans k11).trans k12).up u13 (by omega), w8 + 1, _, _, _, _, ?_, rfl⟩
              rw [take_succ e3, List.map_append, ← List.cons_append]
              exact a13
        · subst e
          have h8 : At s10 A8 (.lst w8 (.int (c x) :: (row.take (row.map sPV).length).map fun z => stV (c z.1, z.2))) := h8
          rw [List.length_map, List.take_length] at h8
          repeat infer_instance
          have h6 := h6.k k10
          have h7 := h7.k k10
          have hdm : ∀ a w kvs, At s10 a (.dct w kvs) → (dctV s10 (.ref a)).isSome = true := fun a w kvs h => by rw [dctV_dct h]; rfl
          refine ⟨hdm _ _ _ h6, ?_⟩
          repeat infer_instance
          refine w_tup1 (seqV_at h8) ?_
          repeat infer_instance
          refine w_lenD h6 ?_
          rw [kyF_len]
          repeat infer_instance
          rw [← rowV_eq r1]
          have hnt := nodup_take R.nd e1
          have fin : ∀ s' us' w6', Kp s5 s' → At s' A6 (.dct w6' (emb rwV (kyF 0 us'))) → At s' A7 (.dct w7 (emb inV' (cD (rs.take i) fun s => (ix us' (rowOf m c s) : Nat)))) → us'.length ≤ i + 1 → (∀ s ∈ rs.take i, rowOf m c s ∈ us') → rowOf m c x ∈ us' → ∀ Z : St → Prop, (∀ s'', Kp s5 s'' → (∃ w6 w7, ∃ us : List (Int × List (Int × List Int)), At s'' A6 (.dct w6 (emb rwV (kyF 0 us))) ∧ At s'' A7 (.dct w7 (emb inV' (cD (rs.take (i + 1)) fun s => (ix us (rowOf m c s) : Nat)))) ∧ us.length ≤ i + 1 ∧ (∀ s ∈ rs.take (i + 1), rowOf m c s ∈ us)) → Z s'') → Wp (setV (.ref A7) (inV' x) (.int (ix us' (rowOf m c x) : Nat)) s') fun _ s => Z s := fun s' us' w6' k' h6' h7' hl' hu' hx' Z hZ => by
            refine w_setD ke_nat (x := x) h7' (by show List.length _ < 16777216; simp [cD]; omega) fun s'' u'' a'' => ?_
            rw [put_new (cD_none hnt)] at a''
            refine hZ s'' (k'.up u'' (by omega)) ⟨w6', w7 + 1, us', h6'.up u'' (by omega), ?_, hl', fun s hs => ?_⟩
            · rw [cD_take e1]; exact a''
            · rw [take_succ e1] at hs
              rcases List.mem_append.mp hs with hs | hs
              · exact hu' s hs
              · rw [List.mem_singleton.mp hs]; exact hx'
          refine w_setdef ke_row (x := rowOf m c x) h6 (by rw [kyF_len]; show us.length < 16777216; omega) (fun v hv => ?_) (fun hn s11 u11 a11 => ?_)
          · rw [kyF_lkp] at hv
            split at hv
            · rename_i hin
              cases hv
              rw [Nat.zero_add]
              repeat infer_instance
              refine (fin s10 us w6 (k8.trans k10) h6 h7 (by omega) hus hin _ fun s'' k'' h'' => ?_).mono fun _ s h => h
              obtain ⟨w6', w7', us', g1, g2, g3, g4⟩ := h''
              exact ⟨k'', w6', w7', us', _, _, _, _, _, _, g1, g2, g3, g4, rfl⟩
            · cases hv
          · have hin : rowOf m c x ∉ us := fun h => by rw [kyF_lkp, if_pos h] at hn; cases hn
            rw [put_new hn] at a11
            have a11' : At s11 A6 (.dct (w6 + 1) (emb rwV (kyF 0 (us ++ [rowOf m c x])))) := by rw [kyF_app, Nat.zero_add]; exact a11
            have h7' : At s11 A7 (.dct w7 (emb inV' (cD (rs.take i) fun s => (ix (us ++ [rowOf m c x]) (rowOf m c s) : Nat)))) := by
              rw [cD_congr (d := fun s => (ix us (rowOf m c s) : Nat)) fun s hs => by rw [ix_app (hus s hs)]]
              exact h7.up u11 (by omega)
            repeat infer_instance
            have fin2 := fin s11 (us ++ [rowOf m c x]) _ ((k8.trans k10).up u11 (by omega)) a11' h7' (by simp; omega) (fun s hs => List.mem_append_left _ (hus s hs)) (by simp)
            rw [ix_new hin] at fin2
            refine (fin2 _ fun s'' k'' h'' => ?_).mono fun _ s h => h
            obtain ⟨w6', w7', us', g1, g2, g3, g4⟩ := h''
            exact ⟨k'', w6', w7', us', _, _, _, _, _, _, g1, g2, g3, g4, rfl⟩
      · subst e
        have hl : rs.take (fstL (emb inV' d)).length = rs := by rw [emb_fst, List.length_map, hdl, List.take_length]
        have h7 : At s8 A7 (.dct w7 (emb inV' (cD (rs.take (fstL (emb inV' d)).length) fun s => (ix us (rowOf m c s) : Nat)))) := h7
        have hus : ∀ s ∈ rs.take (fstL (emb inV' d)).length, rowOf m c s ∈ us := hus
        rw [hl] at h7 hus
        repeat infer_instance
        have rnd := rnd_ix hus
        exact ⟨rs.length - ks.length, by omega, K5.trans k8, _, _, _, _, _, _, _, _, _, _, _, _, h7, rnd.keeps G R hk, fun _ => Int.natCast_nonneg _, .inr ⟨c, ks, hk, rnd, dk, rfl⟩, ⟨hkl, rfl⟩, rfl⟩
    · have e : M = ks.length := by
        have := of_decide_eq_true (by simpa using cd : decide ((M : Int) = (ks.length : Nat)) = true)
        omega
      have h0 := dk.pos ((R.mem 0).mpr .z)
      rcases hM with rfl | ⟨c0, ks0, hk0, hR, d0, rfl⟩
      · omega
      · repeat infer_instance
        exact q A w rs c _ (k1.trans (K.trans k4)) (hc.k k4) R (hR.fin G R hk0 d0 dk e) hc0
end YL
end
section
set_option linter.all false
set_option maxRecDepth 100000
set_option maxHeartbeats 1000000
/-! S5c: k21's plain law: after two, first quarrel, closed. [d2] -/
namespace YL
open Y
local macro_rules
  | `(tactic| infer_instance) => `(tactic| first
    | with_reducible refine w_seq ?_
    | with_reducible refine w_asg ?_
    | with_reducible refine w_ret ?_
    | with_reducible refine w_if ?_
    | with_reducible refine w_ex ?_
    | with_reducible refine w_par2 ?_
    | with_reducible refine w_par3 ?_
    | with_reducible refine w_nil ?_
    | with_reducible refine w_for ?_
    | ((with_reducible apply w_var); (exact rfl))
    | with_reducible refine w_cst ?_
    | with_reducible refine w_aNil ?_
    | with_reducible refine w_aCons ?_
    | with_reducible refine w_bin ?_
    | with_reducible refine w_and ?_
    | with_reducible refine w_not ?_
    | with_reducible refine w_isi ?_
    | with_reducible refine w_call ?_
    | with_reducible refine w_sub ?_
    | with_reducible refine w_biR ?_
    | with_reducible refine w_cmp ?_
    | with_reducible refine w_attr ?_
    | with_reducible refine w_tup ?_
    | with_reducible refine w_lst ?_
    | with_reducible refine w_dct1 ?_
    | with_reducible refine w_lm ?_
    | with_reducible refine w_dm ?_
    | with_reducible refine w_in ?_
    | with_reducible refine w_ife ?_
    | with_reducible refine w_neg ?_
    | with_reducible refine w_negI ?_
    | with_reducible refine w_make ?_
    | with_reducible refine w_meth ?_
    | with_reducible refine w_val ?_
    | with_reducible refine w_bnot ?_
    | with_reducible refine w_bor ?_
    | with_reducible refine w_band ?_
    | with_reducible refine w_bcmp ?_
    | with_reducible refine w_bin2 ?_
    | with_reducible refine w_bchain ?_
    | with_reducible refine w_chain ?_
    | with_reducible refine w_bT ?_
    | with_reducible refine w_tv ?_
    | ((with_reducible refine w_ttup ?_ ?_); exact rfl)
    | with_reducible refine w_tsCons ?_
    | with_reducible refine w_tsNil ?_
    | with_reducible refine w_tattr ?_
    | with_reducible refine w_tsub ?_
    | with_reducible refine w_iany ?_
    | with_reducible refine w_ivals ?_
    | with_reducible refine w_iitems ?_
    | with_reducible refine w_rng1 ?_
    | with_reducible refine w_enum ?_
    | with_reducible refine w_zip2 ?_
    | with_reducible refine w_lstRg1 ?_
    | with_reducible refine w_on1 ?_
    | with_reducible refine w_truB ?_
    | with_reducible refine w_lc ?_
    | with_reducible refine w_dc ?_
    | with_reducible refine w_eqI ?_
    | with_reducible refine w_neI ?_
    | with_reducible refine w_neT ?_
    | with_reducible refine w_eqT ?_
    | with_reducible refine w_eqB ?_
    | with_reducible refine w_neB ?_
    | with_reducible refine w_lt ?_
    | with_reducible refine w_le ?_
    | with_reducible refine w_ge ?_
    | with_reducible refine w_addI ?_
    | with_reducible refine w_subI ?_
    | with_reducible refine blQ.mk ?_
    | with_reducible refine w_anyT ?_
    | with_reducible refine w_anyC ?_
    | refine And.intro (show okLen _ = true from rfl) ?_
    | (refine And.intro (isLst_at ?_) ?_; (assumption))
    | ((with_reducible apply w_fld); (assumption); (exact rfl); (exact rfl))
    | refine w_isiV (t := 0) rfl rfl ?_
    | refine w_isiV (t := 4) rfl rfl ?_
    | with_reducible refine w_sl ?_
    | with_reducible refine w_aStarT ?_
    | with_reducible refine w_oN ?_
    | with_reducible refine w_oS ?_
    | with_reducible refine w_int1 ?_
    | refine w_getT (i := 0) rfl rfl ?_
    | refine w_getT (i := 1) rfl rfl ?_)
variable {F : Nat → Option Df} {n : Nat} {st : St} {Q : PV → St → Prop} {I O : Nat} {m : List Row} {p : Nat}
theorem re_st {k : Nat} : RE (k + 3) stV (fun s : Int × List Int => .tup [.int s.1, .tup (dI s.2)]) := re_pair (e := fun i : Int => PV.int i) (D := fun i : Int => .int i) (e' := fun l : List Int => .tup (vI l)) (D' := fun l : List Int => .tup (dI l)) re_int (re_tups re_int)
theorem closed_iff (G : Gm I O m) {rs : List Nat} (R : Rs I m rs) {c : Nat → Int} : Closed I m c ↔ ∀ a ∈ rs, ∀ b ∈ rs, c a = c b → (rowOf m c a).2 = (rowOf m c b).2 := by
  constructor
  · intro h a ha b hb e
    have := (rowOf_iff G (((R.mem a).mp ha).lt G) (((R.mem b).mp hb).lt G)).mpr ⟨e, h a b ((R.mem a).mp ha) ((R.mem b).mp hb) e⟩
    exact congrArg (·.2) this
  · intro h a b ha hb e
    have e2 := h a ((R.mem a).mpr ha) b ((R.mem b).mpr hb) e
    exact ((rowOf_iff G (ha.lt G) (hb.lt G)).mp (Prod.ext e e2)).2
theorem rowOf_snd {c : Nat → Int} {s : Nat} {row : Row} (h : m[s]? = some row) : (rowOf m c s).2 = row.map fun z => (c z.1, z.2) := by
  unfold rowOf
  rw [h]
  rfl
variable (T : Tbl F)
include T
theorem s_two {s i j : Nat} (G : Gm I O m) (M : MachAt st p I O m) (hs : s < m.length) (hi : i < I) (hj : j < I) (q : ∀ st', Kp st st' → Q (.tup [.int (go2 m s i j), .tup (vI (ou2 m s i j))]) st') : Wp (ev F (n + 2) (.fn 23) [.ref p, .int s, .int i, .int j] st) Q := by
  have ho4 := G.o4
  obtain ⟨sa, hm, S⟩ := M.ex
  obtain ⟨row, r1, _, r3, r4, r5⟩ := G.at hs hi
  obtain ⟨row', r1', _, r3', r4', r5'⟩ := G.at (G.go_lt hs hi) hj
  refine w_fn T.f23 rfl ?_
  dsimp only [frame, nones, Nat.reduceSub]
  repeat infer_instance
  refine w_row S r1 fun b hb => ?_
  repeat infer_instance
  refine w_cell hb r3 ?_
  rw [show sPV (nx m s i) = .tup [.int (go m s i), .tup (vI (ou m s i))] from rfl]
  repeat infer_instance
  refine w_row S r1' fun b hb => ?_
  repeat infer_instance
  refine w_cell hb r3' ?_
  rw [show sPV (nx m (go m s i) j) = .tup [.int (go2 m s i j), .tup (vI (ou m (go m s i) j))] from rfl]
  repeat infer_instance
  refine s_both T (by rw [G.ou_len hs hi, G.ou_len (G.go_lt hs hi) hj]) (by rw [G.ou_len hs hi]; omega) fun st2 k2 => ?_
  repeat infer_instance
  exact q _ k2
theorem s_firstq {A w : Nat} {rs : List Nat} {c : Nat → Int} (G : Gm I O m) (M : MachAt st p I O m) (hc : At st A (.dct w (emb inV' (cD rs c)))) (R : Rs I m rs)
    (q1 : ∀ st', Kp st st' → Noq I m c → Q .non st') (q2 : ∀ s j i st', Kp st st' → Rch I m s → i < I → j < i → ¬ (ou2 m s j i = ou2 m s i j ∧ c (go2 m s j i) = c (go2 m s i j)) → Q (.tup [.int (s : Nat), .int (j : Nat), .int (i : Nat)]) st') : Wp (ev F (n + 3) (.fn 24) [.ref p, .ref A] st) Q := by
  have hi4 := G.i4
  obtain ⟨sa, hm, S⟩ := M.ex
  refine w_fn T.f24 rfl ?_
  dsimp only [frame, nones, Nat.reduceSub]
  repeat infer_instance
  refine w_anyD hc ?_
  refine w_forL (I := fun k fr s' => Kp st s' ∧ (∀ s ∈ rs.take k, ∀ i j, i < I → j < i → ou2 m s j i = ou2 m s i j ∧ c (go2 m s j i) = c (go2 m s i j)) ∧ ∃ x2 x3 x4 x5 x6 x7 x8, fr = [some (.ref p), some (.ref A), x2, x3, x4, x5, x6, x7, x8]) ⟨.refl, by simp, _, _, _, _, _, _, _, rfl⟩ (fun _ _ s ⟨k, _⟩ => gd_dct (hc.k k) rfl) (fun k v fr s2 hv ⟨k2, hd, x2, x3, x4, x5, x6, x7, x8, e⟩ => ?_) (fun fr s2 ⟨k2, hd, x2, x3, x4, x5, x6, x7, x8, e⟩ => ?_)
  · subst e
    obtain ⟨s, e1, rfl⟩ := keN_get hv
    rw [cD_keys] at e1
    have hr := (R.mem s).mp (List.mem_of_getElem? e1)
    have hs := hr.lt G
    have hm2 := hm.k k2
    repeat infer_instance
    refine ⟨I, rfl, by omega, ?_⟩
    refine w_forL (I := fun i fr s' => Kp st s' ∧ (∀ i' j, i' < i → j < i' → ou2 m s j i' = ou2 m s i' j ∧ c (go2 m s j i') = c (go2 m s i' j)) ∧ ∃ x3 x4 x5 x6 x7 x8, fr = [some (.ref p), some (.ref A), some (.int s), x3, x4, x5, x6, x7, x8]) ⟨k2, nofun, _, _, _, _, _, _, rfl⟩ (fun _ _ _ _ => rfl) (fun i v fr s3 hv ⟨k3, hd3, x3, x4, x5, x6, x7, x8, e⟩ => ?_) (fun fr s3 ⟨k3, hd3, x3, x4, x5, x6, x7, x8, e⟩ => ?_)
    · subst e
      obtain ⟨hi, rfl⟩ := rgN_get hv
      repeat infer_instance
      refine ⟨i, rfl, by omega, ?_⟩
      refine w_forL (I := fun j fr s' => Kp st s' ∧ (∀ j', j' < j → ou2 m s j' i = ou2 m s i j' ∧ c (go2 m s j' i) = c (go2 m s i j')) ∧ ∃ x4 x5 x6 x7 x8, fr = [some (.ref p), some (.ref A), some (.int s), some (.int i), x4, x5, x6, x7, x8]) ⟨k3, nofun, _, _, _, _, _, rfl⟩ (fun _ _ _ _ => rfl) (fun j v fr s4 hv ⟨k4, hd4, x4, x5, x6, x7, x8, e⟩ => ?_) (fun fr s4 ⟨k4, hd4, x4, x5, x6, x7, x8, e⟩ => ?_)
      · subst e
        obtain ⟨hj, rfl⟩ := rgN_get hv
        have hji : j < I := by omega
        repeat infer_instance
        refine s_two T G (M.k k4) hs hji hi fun s5 k5 => ?_
        repeat infer_instance
        refine s_two T G ((M.k k4).k k5) hs hi hji fun s6 k6 => ?_
        repeat infer_instance
        have K := (k4.trans k5).trans k6
        refine ⟨fun cd => ?_, fun cd => ?_⟩
        · refine ⟨fun _ => ?_, nofun⟩
          repeat infer_instance
          exact q2 s j i _ K hr hi hj fun h => by rw [h.1] at cd; simp at cd
        · have cd : ou2 m s j i = ou2 m s i j := by simpa using cd
          repeat infer_instance
          refine w_getD ke_nat (x := go2 m s j i) (hc.k K) (cD_lkp ((R.mem _).mpr (hr.two hji hi))) ?_
          repeat infer_instance
          refine w_getD ke_nat (x := go2 m s i j) (hc.k K) (cD_lkp ((R.mem _).mpr (hr.two hi hji))) ?_
          repeat infer_instance
          refine ⟨fun cd2 => ?_, fun cd2 => ?_⟩
          · repeat infer_instance
            exact q2 s j i _ K hr hi hj fun h => by rw [h.2] at cd2; simp at cd2
          · have cd2 : c (go2 m s j i) = c (go2 m s i j) := by simpa using cd2
            repeat infer_instance
            refine ⟨K, fun j' hj' => ?_, _, _, _, _, _, rfl⟩
            rcases Nat.lt_or_ge j' j with x | x
            · exact hd4 j' x
            · rw [show j' = j by omega]; exact ⟨cd, cd2⟩
      · subst e
        refine ⟨k4, fun i' j' h1 h2 => ?_, _, _, _, _, _, _, rfl⟩
        rcases Nat.lt_or_ge i' i with x | x
        · exact hd3 i' j' x h2
        · have : i' = i := by omega
          subst this
          exact hd4 j' (by simpa [rgN] using h2)
    · subst e
      refine ⟨k3, fun s' hs' i j hi hj => ?_, _, _, _, _, _, _, _, rfl⟩
      rw [take_succ e1] at hs'
      rcases List.mem_append.mp hs' with x | x
      · exact hd s' x i j hi hj
      · rw [List.mem_singleton.mp x]
        exact hd3 i j (by simpa [rgN] using hi) hj
  · subst e
    have hl : rs.take (fstL (emb inV' (cD rs c))).length = rs := by
      rw [emb_fst]
      simp [cD]
    have hd : ∀ s ∈ rs.take (fstL (emb inV' (cD rs c))).length, ∀ i j, i < I → j < i → ou2 m s j i = ou2 m s i j ∧ c (go2 m s j i) = c (go2 m s i j) := hd
    rw [hl] at hd
    repeat infer_instance
    exact q1 _ k2 fun s hs i j hi hj => hd s ((R.mem s).mpr hs) i j hi hj
theorem s_closed {A w : Nat} {rs : List Nat} {c : Nat → Int} (G : Gm I O m) (M : MachAt st p I O m) (hc : At st A (.dct w (emb inV' (cD rs c)))) (R : Rs I m rs)
    (q : ∀ t st', Kp st st' → (t = true ↔ Closed I m c) → Q (.bl t) st') : Wp (ev F (n + 1) (.fn 22) [.ref p, .ref A] st) Q := by
  have hi4 := G.i4
  have h60 := G.n60
  obtain ⟨sa, hm, S⟩ := M.ex
  have hrl : rs.length ≤ m.length := nodup_lt R.nd fun x hx => ((R.mem x).mp hx).lt G
  refine w_fn T.f22 rfl ?_
  dsimp only [frame, nones, Nat.reduceSub]
  repeat infer_instance
  refine w_dct0 fun s1 k1 a1 => ?_
  have ltA := hc.lt
  generalize hA : st.n = A1 at a1 ltA ⊢
  repeat infer_instance
  refine w_pairD (hc.k k1) ?_
  have hit : pairL (emb inV' (cD rs c)) = rs.map fun s => .tup [.int (s : Nat), .int (c s)] := by
    rw [emb_pair]
    simp [cD, inV', Function.comp_def]
  rw [hit]
  refine w_forL (I := fun i fr s' => Kp st s' ∧ ∃ w2, ∃ ky : List (Int × PV), ∃ x3 x4 x5 x6 x7, At s' A1 (.dct w2 (emb (fun i : Int => PV.int i) ky)) ∧ (∀ x v, lkp ky x = some v → ∃ b wb, ∃ s ∈ rs.take i, v = .ref b ∧ At s' b (.lst wb ((rowOf m c s).2.map stV)) ∧ A1 < b ∧ c s = x) ∧ (∀ s ∈ rs.take i, ∃ v, lkp ky (c s) = some v) ∧ (∀ a ∈ rs.take i, ∀ b ∈ rs.take i, c a = c b → (rowOf m c a).2 = (rowOf m c b).2) ∧ ky.length ≤ i ∧ fr = [some (.ref p), some (.ref A), some (.ref A1), x3, x4, x5, x6, x7]) ⟨k1, _, [], _, _, _, _, _, a1, nofun, by simp, by simp, Nat.zero_le _, rfl⟩ (fun _ _ s ⟨k, _⟩ => gd_dct (hc.k k) rfl) (fun i v fr s2 hv ⟨k2, w2, ky, x3, x4, x5, x6, x7, h2, hv1, hv2, hp, hkl, e⟩ => ?_) (fun fr s2 ⟨k2, w2, ky, x3, x4, x5, x6, x7, h2, hv1, hv2, hp, hkl, e⟩ => ?_)
  · subst e
    rw [List.getElem?_map] at hv
    cases e1 : rs[i]? with
    | none => rw [e1] at hv; cases hv
    | some s =>
      rw [e1] at hv
      cases hv
      have hr := (R.mem s).mp (List.mem_of_getElem? e1)
      have hs := hr.lt G
      have hil : i < rs.length := (List.getElem?_eq_some_iff.mp e1).1
      obtain ⟨row, r1, r2, _⟩ := G.at hs (show 0 < I by have := G.i1; omega)
      have hm2 := hm.k k2
      repeat infer_instance
      refine w_rowA S k2 r1 fun b wb hb => ?_
      refine w_anyL (hb.k k2) ?_
      refine w_lcF (res := (rowOf m c s).2.map stV) (by rw [rowOf_snd r1]; simp) (fun s' k' => gd_lst ((hb.k k2).k k') rfl) (fun j v s3 hv k3 => ?_) (fun s3 k3 => ?_)
      · rw [List.getElem?_map] at hv
        cases e3 : row[j]? with
        | none => rw [e3] at hv; cases hv
        | some z =>
          rw [e3] at hv
          cases hv
          have hj : j < I := by rw [← r2]; exact (List.getElem?_eq_some_iff.mp e3).1
          have ez : nx m s j = z := nx_row r1 e3
          have hzr : Rch I m z.1 := by rw [← ez]; exact hr.s hj
          unfold sPV
          repeat infer_instance
          refine w_getD ke_nat (x := z.1) ((hc.k k2).k k3) (cD_lkp ((R.mem _).mpr hzr)) ?_
          repeat infer_instance
          refine ⟨.refl, ?_⟩
          rw [rowOf_snd r1, List.map_map, List.getElem?_map, e3]
          rfl
      · refine ⟨okL (by rw [rowOf_snd r1]; simp; omega), fun s4 k4 a4 => ?_⟩
        have hlt3 := (h2.k k3).lt
        generalize hA2 : s3.n = A2 at a4 hlt3 ⊢
        have K4 := k2.trans (k3.trans k4)
        have h4 := h2.k (k3.trans k4)
        repeat infer_instance
        refine ⟨by rw [dctV_dct h4]; rfl, ?_⟩
        repeat infer_instance
        refine w_setdef ke_int (x := c s) h4 (by show ky.length < 16777216; omega) (fun v hv => ?_) (fun hn s5 u5 a5 => ?_)
        · obtain ⟨b', wb', s', hs', rfl, hb', hlt', hcs⟩ := hv1 _ _ hv
          repeat infer_instance
          refine w_neLs (k := 11) re_st rfl (hb'.k (k3.trans k4)) a4 ?_
          repeat infer_instance
          refine ⟨fun cd => ?_, fun cd => ?_⟩
          · have cd : (rowOf m c s').2 ≠ (rowOf m c s).2 := by simpa using cd
            repeat infer_instance
            exact q false _ K4 ⟨nofun, fun h => absurd ((closed_iff G R).mp h s' (List.mem_of_mem_take hs') s (List.mem_of_getElem? e1) hcs) cd⟩
          · have cd : (rowOf m c s').2 = (rowOf m c s).2 := by simpa using cd
            repeat infer_instance
            refine ⟨K4, w2, ky, _, _, _, _, _, h4, fun x v hx => ?_, fun y hy => ?_, fun a ha b hb e => ?_, by omega, rfl⟩
            · obtain ⟨b, wb, t, ht, h1, h2, h3⟩ := hv1 x v hx
              exact ⟨b, wb, t, by rw [take_succ e1]; exact List.mem_append_left _ ht, h1, h2.k (k3.trans k4), h3⟩
            · rw [take_succ e1] at hy
              rcases List.mem_append.mp hy with hy | hy
              · exact hv2 y hy
              · rw [List.mem_singleton.mp hy]; exact ⟨_, hv⟩
            · rw [take_succ e1] at ha hb
              have key : ∀ a ∈ rs.take i, c a = c s → (rowOf m c a).2 = (rowOf m c s).2 := fun a ha e => (hp a ha s' hs' (e.trans hcs.symm)).trans cd
              rcases List.mem_append.mp ha with ha | ha
              · rcases List.mem_append.mp hb with hb | hb
                · exact hp a ha b hb e
                · rw [List.mem_singleton.mp hb] at e ⊢; exact key a ha e
              · rw [List.mem_singleton.mp ha] at e ⊢
                rcases List.mem_append.mp hb with hb | hb
                · exact (key b hb e.symm).symm
                · rw [List.mem_singleton.mp hb]
        · rw [put_new hn] at a5
          have a4' := a4.up u5 (by omega)
          have hno : ∀ a ∈ rs.take i, c a ≠ c s := fun a ha e => by
            obtain ⟨v, hv⟩ := hv2 a ha
            rw [e, hn] at hv
            cases hv
          repeat infer_instance
          refine w_neLs (k := 11) re_st rfl a4' a4' ?_
          repeat infer_instance
          refine ⟨fun cd => by simp at cd, fun cd => ?_⟩
          repeat infer_instance
          refine ⟨K4.up u5 (by omega), _, ky ++ [(c s, .ref A2)], _, _, _, _, _, a5, fun x v hx => ?_, fun y hy => ?_, fun a ha b hb e => ?_, by simp; omega, rfl⟩
          · rw [← put_new hn, lkp_put] at hx
            by_cases ex : c s = x
            · rw [if_pos ex] at hx
              cases hx
              exact ⟨A2, _, s, by rw [take_succ e1]; simp, rfl, a4', by omega, ex⟩
            · rw [if_neg ex] at hx
              obtain ⟨b, wb, t, ht, h1, h2, h3, h4⟩ := hv1 x v hx
              exact ⟨b, wb, t, by rw [take_succ e1]; exact List.mem_append_left _ ht, h1, (h2.k (k3.trans k4)).up u5 (by omega), h3, h4⟩
          · rw [← put_new hn, lkp_put]
            by_cases ex : c s = c y
            · exact ⟨_, by rw [if_pos ex]⟩
            · rw [if_neg ex]
              rw [take_succ e1] at hy
              rcases List.mem_append.mp hy with hy | hy
              · exact hv2 y hy
              · rw [List.mem_singleton.mp hy] at ex; exact absurd rfl ex
          · rw [take_succ e1] at ha hb
            rcases List.mem_append.mp ha with ha | ha
            · rcases List.mem_append.mp hb with hb | hb
              · exact hp a ha b hb e
              · rw [List.mem_singleton.mp hb] at e; exact absurd e (hno a ha)
            · rw [List.mem_singleton.mp ha] at e ⊢
              rcases List.mem_append.mp hb with hb | hb
              · exact absurd e.symm (hno b hb)
              · rw [List.mem_singleton.mp hb]
  · subst e
    have hl : rs.take (rs.map fun s => PV.tup [.int (s : Nat), .int (c s)]).length = rs := by simp
    have hp : ∀ a ∈ rs.take (rs.map fun s => PV.tup [.int (s : Nat), .int (c s)]).length, ∀ b ∈ rs.take (rs.map fun s => PV.tup [.int (s : Nat), .int (c s)]).length, c a = c b → (rowOf m c a).2 = (rowOf m c b).2 := hp
    rw [hl] at hp
    repeat infer_instance
    exact q true _ k2 ⟨fun _ => (closed_iff G R).mpr hp, fun _ => rfl⟩
end YL
end
section
set_option linter.all false
set_option maxRecDepth 100000
set_option maxHeartbeats 1000000
/-! S5d: k21's plain law: parting. [d2] -/
namespace YL
open Y
local macro_rules
  | `(tactic| infer_instance) => `(tactic| first
    | with_reducible refine w_seq ?_
    | with_reducible refine w_asg ?_
    | with_reducible refine w_ret ?_
    | with_reducible refine w_if ?_
    | with_reducible refine w_ex ?_
    | with_reducible refine w_par2 ?_
    | with_reducible refine w_par3 ?_
    | with_reducible refine w_nil ?_
    | with_reducible refine w_for ?_
    | ((with_reducible apply w_var); (exact rfl))
    | with_reducible refine w_cst ?_
    | with_reducible refine w_aNil ?_
    | with_reducible refine w_aCons ?_
    | with_reducible refine w_bin ?_
    | with_reducible refine w_and ?_
    | with_reducible refine w_not ?_
    | with_reducible refine w_isi ?_
    | with_reducible refine w_call ?_
    | with_reducible refine w_sub ?_
    | with_reducible refine w_biR ?_
    | with_reducible refine w_cmp ?_
    | with_reducible refine w_attr ?_
    | with_reducible refine w_tup ?_
    | with_reducible refine w_lst ?_
    | with_reducible refine w_dct1 ?_
    | with_reducible refine w_lm ?_
    | with_reducible refine w_dm ?_
    | with_reducible refine w_in ?_
    | with_reducible refine w_ife ?_
    | with_reducible refine w_neg ?_
    | with_reducible refine w_negI ?_
    | with_reducible refine w_make ?_
    | with_reducible refine w_meth ?_
    | with_reducible refine w_val ?_
    | with_reducible refine w_bnot ?_
    | with_reducible refine w_bor ?_
    | with_reducible refine w_band ?_
    | with_reducible refine w_bcmp ?_
    | with_reducible refine w_bin2 ?_
    | with_reducible refine w_bchain ?_
    | with_reducible refine w_chain ?_
    | with_reducible refine w_bT ?_
    | with_reducible refine w_tv ?_
    | ((with_reducible refine w_ttup ?_ ?_); exact rfl)
    | with_reducible refine w_tsCons ?_
    | with_reducible refine w_tsNil ?_
    | with_reducible refine w_tattr ?_
    | with_reducible refine w_tsub ?_
    | with_reducible refine w_iany ?_
    | with_reducible refine w_ivals ?_
    | with_reducible refine w_iitems ?_
    | with_reducible refine w_rng1 ?_
    | with_reducible refine w_enum ?_
    | with_reducible refine w_zip2 ?_
    | with_reducible refine w_lstRg1 ?_
    | with_reducible refine w_on1 ?_
    | with_reducible refine w_truB ?_
    | with_reducible refine w_lc ?_
    | with_reducible refine w_dc ?_
    | with_reducible refine w_eqI ?_
    | with_reducible refine w_neI ?_
    | with_reducible refine w_neT ?_
    | with_reducible refine w_eqT ?_
    | with_reducible refine w_eqB ?_
    | with_reducible refine w_neB ?_
    | with_reducible refine w_lt ?_
    | with_reducible refine w_le ?_
    | with_reducible refine w_ge ?_
    | with_reducible refine w_addI ?_
    | with_reducible refine w_subI ?_
    | with_reducible refine blQ.mk ?_
    | with_reducible refine w_anyT ?_
    | with_reducible refine w_anyC ?_
    | refine And.intro (show okLen _ = true from rfl) ?_
    | (refine And.intro (isLst_at ?_) ?_; (assumption))
    | ((with_reducible apply w_fld); (assumption); (exact rfl); (exact rfl))
    | refine w_isiV (t := 0) rfl rfl ?_
    | refine w_isiV (t := 4) rfl rfl ?_
    | with_reducible refine w_sl ?_
    | with_reducible refine w_aStarT ?_
    | with_reducible refine w_oN ?_
    | with_reducible refine w_oS ?_
    | with_reducible refine w_int1 ?_
    | refine w_getT (i := 0) rfl rfl ?_
    | refine w_getT (i := 1) rfl rfl ?_)
variable {F : Nat → Option Df} {n : Nat} {st : St} {Q : PV → St → Prop} {I O : Nat} {m : List Row} {p : Nat}
structure Pt (I O : Nat) (m : List Row) (a b : Nat) (d : List ((Nat × Nat) × PV)) (k : Nat) : Prop where
  nd : (d.map (·.1)).Nodup
  z : (a, b) ∈ d.map (·.1)
  wd : ∀ q ∈ d, ∃ w : List Nat, q.2 = .tup (vN w) ∧ (∀ i ∈ w, i < I) ∧ goW m a w = q.1.1 ∧ goW m b w = q.1.2 ∧ (run m a (zO O) w).2 = (run m b (zO O) w).2 ∧ w.length < d.length
  cl : ∀ t, t < k → ∀ y, (d.map (·.1))[t]? = some y → ∀ j, j < I → ou m y.1 j = ou m y.2 j ∧ (go m y.1 j, go m y.2 j) ∈ d.map (·.1)
variable {a b : Nat} {d : List ((Nat × Nat) × PV)} {k : Nat}
theorem Pt.lt (G : Gm I O m) (ha : a < m.length) (hb : b < m.length) (h : Pt I O m a b d k) : ∀ y ∈ d.map (·.1), y.1 < m.length ∧ y.2 < m.length := fun y hy => by
  obtain ⟨q, hq, rfl⟩ := List.mem_map.mp hy
  obtain ⟨w, _, h1, h2, h3, _⟩ := h.wd q hq
  exact ⟨by rw [← h2]; exact G.goW_lt h1 ha, by rw [← h3]; exact G.goW_lt h1 hb⟩
theorem Pt.len (G : Gm I O m) (ha : a < m.length) (hb : b < m.length) (h : Pt I O m a b d k) : d.length ≤ m.length * m.length := by
  have := nodup_lt2 h.nd (h.lt G ha hb)
  simpa using this
theorem Pt.init : Pt I O m a b [((a, b), .tup [])] 0 := ⟨by simp, by simp, fun q hq => by rw [List.mem_singleton.mp hq]; exact ⟨[], rfl, nofun, rfl, rfl, rfl, Nat.zero_lt_one⟩, nofun⟩
theorem Pt.open_ (h : Pt I O m a b d k) (hk : k ≤ d.length) (na : ¬ Al I m a b) : k < d.length := by
  rcases Nat.lt_or_ge k d.length with c | c
  · exact c
  · refine absurd (Al.coind (fun x y => (x, y) ∈ d.map (·.1)) (fun x y hxy i hi => ?_) h.z) na
    obtain ⟨t, ht, e⟩ := List.mem_iff_getElem.mp hxy
    have := h.cl t (by simp at ht; omega) (x, y) (by rw [List.getElem?_eq_getElem ht, e]) i hi
    exact this
theorem Pt.new (G : Gm I O m) {y : Nat × Nat} {i : Nat} {w : List Nat} (h : Pt I O m a b d k) (hk : k ≤ d.length) (hw : ∀ i ∈ w, i < I) (e1 : goW m a w = y.1) (e2 : goW m b w = y.2) (er : (run m a (zO O) w).2 = (run m b (zO O) w).2) (hl : w.length < d.length) (hi : i < I) (eo : ou m y.1 i = ou m y.2 i) (g : (go m y.1 i, go m y.2 i) ∉ d.map (·.1)) : Pt I O m a b (d ++ [((go m y.1 i, go m y.2 i), .tup (vN w ++ [.int i]))]) k := by
  refine ⟨by rw [List.map_append]; exact nodup_snoc h.nd g, by simp only [List.map_append]; exact List.mem_append_left _ h.z, fun q hq => ?_, fun t ht y' hy j hj => ?_⟩
  · rcases List.mem_append.mp hq with hq | hq
    · obtain ⟨w, h1, h2, h3, h4, h5, h6⟩ := h.wd q hq
      exact ⟨w, h1, h2, h3, h4, h5, by simp; omega⟩
    · rw [List.mem_singleton.mp hq]
      refine ⟨w ++ [i], by simp [vN], fun j hj => ?_, by rw [goW_app, e1]; rfl, by rw [goW_app, e2]; rfl, run_step G hw er (by rw [e1, e2]; exact eo), by simp; omega⟩
      rcases List.mem_append.mp hj with hj | hj
      · exact hw j hj
      · rw [List.mem_singleton.mp hj]; exact hi
  · rw [List.map_append, List.getElem?_append_left (by simp; omega)] at hy
    simp only [List.map_append]
    have := h.cl t ht y' hy j hj
    exact ⟨this.1, List.mem_append_left _ this.2⟩
theorem Pt.next {y : Nat × Nat} (h : Pt I O m a b d k) (hy : (d.map (·.1))[k]? = some y) (now : ∀ j, j < I → ou m y.1 j = ou m y.2 j ∧ (go m y.1 j, go m y.2 j) ∈ d.map (·.1)) : Pt I O m a b d (k + 1) :=
  ⟨h.nd, h.z, h.wd, fun t ht y' hy' j hj => by
    rcases Nat.lt_or_ge t k with c | c
    · exact h.cl t c y' hy' j hj
    · have : t = k := by omega
      subst this
      rw [hy] at hy'
      cases hy'
      exact now j hj⟩
variable (T : Tbl F)
include T
theorem s_parting (G : Gm I O m) (M : MachAt st p I O m) (ha : a < m.length) (hb : b < m.length) (na : ¬ Al I m a b) (q : ∀ w st', Kp st st' → Parts I O m a b w → w.length ≤ 4000 → Q (.tup (vN w)) st') : Wp (ev F (n + 1) (.fn 25) [.ref p, .int a, .int b] st) Q := by
  have h60 := G.n60
  have hi4 := G.i4
  have hNN : m.length * m.length ≤ 3600 := Nat.mul_le_mul h60 h60
  obtain ⟨sa, hm, S⟩ := M.ex
  refine w_fn T.f25 rfl ?_
  dsimp only [frame, nones, Nat.reduceSub]
  repeat infer_instance
  refine ⟨ke_nn.ok (a, b), fun s1 k1 a1 => ?_⟩
  repeat infer_instance
  intro s2 k2 a2
  have hne := a1.lt
  have hle := k1.n
  have a1 := a1.k k2
  generalize hA1 : st.n = A1 at a1 hne hle ⊢
  generalize hA2 : s1.n = A2 at a2 hne hle ⊢
  generalize hN : m.length * m.length = NN at hNN
  repeat infer_instance
  refine w_whl (n := 100000) (m := NN) (I := fun k fr s => Kp st s ∧ ∃ w1 w2 d t x6 x7 x8 x9 x10 x11, At s A1 (.dct w1 (emb nnV d)) ∧ At s A2 (.lst w2 ((d.map (·.1)).map nnV)) ∧ Pt I O m a b d t ∧ t ≤ d.length ∧ k = NN - t ∧ fr = [some (.ref p), some (.int a), some (.int b), some (.ref A1), some (.ref A2), some (.int t), x6, x7, x8, x9, x10, x11]) (by omega) ⟨k1.trans k2, _, _, [((a, b), .tup [])], 0, _, _, _, _, _, _, a1, a2, Pt.init, Nat.zero_le _, rfl, rfl⟩ (fun k fr s ⟨K, w1, w2, d, t, x6, x7, x8, x9, x10, x11, h1, h2, hf, htl, hk, e⟩ => ?_)
  subst e
  repeat infer_instance
  have hl := hf.len G ha hb
  rw [hN] at hl
  refine ⟨fun _ => ?_, nofun⟩
  have c := hf.open_ htl na
  have ht : t < (d.map (·.1)).length := by simp; omega
  have e1 : (d.map (·.1))[t]? = some (d.map (·.1))[t] := List.getElem?_eq_getElem ht
  generalize (d.map (·.1))[t] = y at e1
  have hy := List.mem_of_getElem? e1
  have hylt := hf.lt G ha hb y hy
  repeat infer_instance
  refine w_getL (i := t) h2 (v := nnV y) (by rw [List.getElem?_map, e1]; rfl) rfl ?_
  have hm1 := hm.k K
  repeat infer_instance
  refine ⟨I, rfl, by omega, ?_⟩
  refine w_forL (I := fun i fr s => Kp st s ∧ ∃ w1 w2 d' x7 x8 x9 x10 x11, At s A1 (.dct w1 (emb nnV d')) ∧ At s A2 (.lst w2 ((d'.map (·.1)).map nnV)) ∧ Pt I O m a b d' t ∧ d.length ≤ d'.length ∧ (d'.map (·.1))[t]? = some y ∧ (∀ j, j < i → ou m y.1 j = ou m y.2 j ∧ (go m y.1 j, go m y.2 j) ∈ d'.map (·.1)) ∧ fr = [some (.ref p), some (.int a), some (.int b), some (.ref A1), some (.ref A2), some (.int t), some (nnV y), x7, x8, x9, x10, x11]) ⟨K, _, _, d, _, _, _, _, _, h1, h2, hf, Nat.le_refl _, e1, nofun, rfl⟩ (fun _ _ _ _ => rfl) (fun i v fr s hv ⟨K5, w1, w2, d', x7, x8, x9, x10, x11, g1, g2, hF, hle2, e2, now, e⟩ => ?_) (fun fr s ⟨K5, w1, w2, d', x7, x8, x9, x10, x11, g1, g2, hF, hle2, e2, now, e⟩ => ?_)
  · subst e
    obtain ⟨hi, rfl⟩ := rgN_get hv
    have hm2 := hm.k K5
    obtain ⟨row, r1, r2, r3, r4, r5⟩ := G.at hylt.1 hi
    obtain ⟨row', r1', r2', r3', r4', r5'⟩ := G.at hylt.2 hi
    have n0 : nnV y = .tup [.int y.1, .int y.2] := rfl
    repeat infer_instance
    refine w_row (S.k K5) r1 fun b1 hb1 => ?_
    repeat infer_instance
    refine w_cell hb1 r3 ?_
    rw [show sPV (nx m y.1 i) = .tup [.int (go m y.1 i), .tup (vI (ou m y.1 i))] from rfl]
    repeat infer_instance
    refine w_row (S.k K5) r1' fun b2 hb2 => ?_
    repeat infer_instance
    refine w_cell hb2 r3' ?_
    rw [show sPV (nx m y.2 i) = .tup [.int (go m y.2 i), .tup (vI (ou m y.2 i))] from rfl]
    repeat infer_instance
    obtain ⟨v, ev⟩ := lkp_some (List.mem_of_getElem? e2)
    obtain ⟨w, rfl, hw, hg1, hg2, hru, hwl⟩ := hF.wd _ (lkp_mem ev)
    have hg1 : goW m a w = y.1 := hg1
    have hg2 : goW m b w = y.2 := hg2
    have hl2 := hF.len G ha hb
    rw [hN] at hl2
    refine ⟨fun c2 => ?_, fun c2 => ?_⟩
    · have c2 : ou m y.1 i ≠ ou m y.2 i := by simpa using c2
      repeat infer_instance
      refine w_getD ke_nn (x := y) g1 ev ?_
      refine ⟨_, rfl, ?_⟩
      repeat infer_instance
      refine ⟨okL (by simp [vN]; omega), ?_⟩
      rw [show vN w ++ [PV.int (i : Nat)] = vN (w ++ [i]) by simp [vN]]
      exact q (w ++ [i]) _ K5 (Parts.mk' G ha hb hw hi hru (by rw [hg1, hg2]; exact c2)) (by simp; omega)
    · have c2 : ou m y.1 i = ou m y.2 i := by simpa using c2
      repeat infer_instance
      refine w_inD ke_nn (x := (go m y.1 i, go m y.2 i)) g1 ?_
      repeat infer_instance
      refine ⟨fun c3 => ?_, fun c3 => ?_⟩
      · have c3 : lkp d' (go m y.1 i, go m y.2 i) = none := by simpa using c3
        have c4 := lkp_none.mp c3
        have hF2 := hF.new G (by omega) hw hg1 hg2 hru hwl hi c2 c4
        have hl3 := hF2.len G ha hb
        rw [hN, List.length_append] at hl3
        have hl4 : d'.length + 1 ≤ NN := hl3
        repeat infer_instance
        refine w_getD ke_nn (x := y) g1 ev ?_
        refine ⟨_, rfl, ?_⟩
        repeat infer_instance
        refine ⟨okL (by simp [vN]; omega), ?_⟩
        repeat infer_instance
        refine w_setD ke_nn (x := (go m y.1 i, go m y.2 i)) g1 (by show d'.length < 16777216; omega) fun s6 u6 a6 => ?_
        rw [put_new c3] at a6
        have g2 := g2.up u6 (by omega)
        repeat infer_instance
        refine ⟨isLst_at g2, ?_⟩
        repeat infer_instance
        refine w_append g2 (by show ((d'.map (·.1)).map nnV).length < 16777216; simp; omega) fun s7 u7 a7 => ?_
        have a7' : At s7 A2 (.lst (w2 + 1) (((d' ++ [((go m y.1 i, go m y.2 i), PV.tup (vN w ++ [.int i]))]).map (·.1)).map nnV)) := by rw [List.map_append, List.map_append]; exact a7
        refine ⟨(K5.up u6 (by omega)).up u7 (by omega), _, _, _, _, _, _, _, _, a6.up u7 (by omega), a7', hF2, (by simp; omega), ?_, fun j hj => ?_, rfl⟩
        · rw [List.map_append, List.getElem?_append_left (by simp; omega)]
          exact e2
        · rw [List.map_append]
          rcases Nat.lt_or_ge j i with c | c
          · exact ⟨(now j c).1, List.mem_append_left _ (now j c).2⟩
          · rw [show j = i by omega]; exact ⟨c2, by simp⟩
      · have c4 : (go m y.1 i, go m y.2 i) ∈ d'.map (·.1) := Classical.byContradiction fun h => by rw [lkp_none.mpr h] at c3; cases c3
        repeat infer_instance
        refine ⟨K5, _, _, d', _, _, _, _, _, g1, g2, hF, hle2, e2, fun j hj => ?_, rfl⟩
        rcases Nat.lt_or_ge j i with c | c
        · exact now j c
        · rw [show j = i by omega]; exact ⟨c2, c4⟩
  · subst e
    have now : ∀ j, j < (rgN I).length → ou m y.1 j = ou m y.2 j ∧ (go m y.1 j, go m y.2 j) ∈ d'.map (·.1) := now
    rw [rgN_len] at now
    refine w_aug rfl ?_
    repeat infer_instance
    exact ⟨NN - (t + 1), by omega, K5, _, _, d', t + 1, _, _, _, _, _, _, g1, g2, hF.next e2 now, by omega, rfl, rfl⟩
end YL
end
section
set_option linter.all false
set_option maxRecDepth 100000
set_option maxHeartbeats 1000000
/-! S5e: k21's plain law: judge_order. [d2] -/
namespace YL
open Y
local macro_rules
  | `(tactic| infer_instance) => `(tactic| first
    | with_reducible refine w_seq ?_
    | with_reducible refine w_asg ?_
    | with_reducible refine w_ret ?_
    | with_reducible refine w_if ?_
    | with_reducible refine w_ex ?_
    | with_reducible refine w_par2 ?_
    | with_reducible refine w_par3 ?_
    | with_reducible refine w_nil ?_
    | with_reducible refine w_for ?_
    | ((with_reducible apply w_var); (exact rfl))
    | with_reducible refine w_cst ?_
    | with_reducible refine w_aNil ?_
    | with_reducible refine w_aCons ?_
    | with_reducible refine w_bin ?_
    | with_reducible refine w_and ?_
    | with_reducible refine w_not ?_
    | with_reducible refine w_isi ?_
    | with_reducible refine w_call ?_
    | with_reducible refine w_sub ?_
    | with_reducible refine w_biR ?_
    | with_reducible refine w_cmp ?_
    | with_reducible refine w_attr ?_
    | with_reducible refine w_tup ?_
    | with_reducible refine w_lst ?_
    | with_reducible refine w_dct1 ?_
    | with_reducible refine w_lm ?_
    | with_reducible refine w_dm ?_
    | with_reducible refine w_in ?_
    | with_reducible refine w_ife ?_
    | with_reducible refine w_neg ?_
    | with_reducible refine w_negI ?_
    | with_reducible refine w_make ?_
    | with_reducible refine w_meth ?_
    | with_reducible refine w_val ?_
    | with_reducible refine w_bnot ?_
    | with_reducible refine w_bor ?_
    | with_reducible refine w_band ?_
    | with_reducible refine w_bcmp ?_
    | with_reducible refine w_bin2 ?_
    | with_reducible refine w_bchain ?_
    | with_reducible refine w_chain ?_
    | with_reducible refine w_bT ?_
    | with_reducible refine w_tv ?_
    | ((with_reducible refine w_ttup ?_ ?_); exact rfl)
    | with_reducible refine w_tsCons ?_
    | with_reducible refine w_tsNil ?_
    | with_reducible refine w_tattr ?_
    | with_reducible refine w_tsub ?_
    | with_reducible refine w_iany ?_
    | with_reducible refine w_ivals ?_
    | with_reducible refine w_iitems ?_
    | with_reducible refine w_rng1 ?_
    | with_reducible refine w_enum ?_
    | with_reducible refine w_zip2 ?_
    | with_reducible refine w_lstRg1 ?_
    | with_reducible refine w_on1 ?_
    | with_reducible refine w_truB ?_
    | with_reducible refine w_lc ?_
    | with_reducible refine w_dc ?_
    | with_reducible refine w_eqI ?_
    | with_reducible refine w_neI ?_
    | with_reducible refine w_neT ?_
    | with_reducible refine w_eqT ?_
    | with_reducible refine w_eqB ?_
    | with_reducible refine w_neB ?_
    | with_reducible refine w_lt ?_
    | with_reducible refine w_le ?_
    | with_reducible refine w_ge ?_
    | with_reducible refine w_addI ?_
    | with_reducible refine w_subI ?_
    | with_reducible refine blQ.mk ?_
    | with_reducible refine w_anyT ?_
    | with_reducible refine w_anyC ?_
    | refine And.intro (show okLen _ = true from rfl) ?_
    | (refine And.intro (isLst_at ?_) ?_; (assumption))
    | ((with_reducible apply w_fld); (assumption); (exact rfl); (exact rfl))
    | refine w_isiV (t := 0) rfl rfl ?_
    | refine w_isiV (t := 4) rfl rfl ?_
    | with_reducible refine w_sl ?_
    | with_reducible refine w_aStarT ?_
    | with_reducible refine w_oN ?_
    | with_reducible refine w_oS ?_
    | with_reducible refine w_int1 ?_
    | refine w_getT (i := 0) rfl rfl ?_
    | refine w_getT (i := 1) rfl rfl ?_)
variable {F : Nat → Option Df} {n : Nat} {st : St} {Q : PV → St → Prop} {I O : Nat} {m : List Row} {p : Nat}
theorem dctV_ins {a c : Nat} {fs : List (Nat × PV)} (h : At st a (.ins c fs)) : dctV st (.ref a) = none := by
  show (match st.get a with | some (.dct w kvs) => some (a, w, kvs) | _ => none) = none
  rw [h.get]
theorem w_lenO {L : List (Nat × Nat)} {r : Ev} {a c i : Nat} {fs : List (Nat × PV)} (h1 : At st a (.ins c fs)) (e1 : look L c = some i) (h : Wp (r (.fn i) [.ref a] st) fun v st => ∃ k : Nat, v = .int k ∧ k ≤ lim ∧ Q (.int k) st) : Wp (lenB' L r [.ref a] st) Q := by
  show Wp (match dctV st (.ref a) with | some (_, _, kvs) => .ok (.int (len kvs)) st | none => len1 L r (.ref a) st) Q
  rw [dctV_ins h1]
  show Wp (lenC L r (.ref a) st (st.get a)) Q
  rw [h1.get]
  show Wp (lenI L r (.ref a) c st) Q
  unfold lenI
  rw [e1]
  refine .bind (h.mono fun v st h => ?_)
  obtain ⟨k, rfl, hk, h⟩ := h
  show Wp (if Nat.ble ((k : Nat) : Int).toNat lim && intLt (-1) k then .ok (.int k) st else .stuck 80) Q
  rw [if_pos]
  · exact h
  · rw [Bool.and_eq_true, Nat.ble_eq, intLt_dec]
    exact ⟨by simpa using hk, by simp; omega⟩
structure SrvAt (st : St) (a : Nat) (l : List Int) : Prop where
  ex : ∃ b w, At st a (.ins 1 [(0, .ref b)]) ∧ At st b (.lst w (vI l))
structure QuaAt (st : St) (a : Nat) (u v : List Nat) : Prop where
  ex : ∃ b1 b2 w1 w2, At st a (.ins 2 [(2, .ref b1), (3, .ref b2)]) ∧ At st b1 (.lst w1 (vN u)) ∧ At st b2 (.lst w2 (vN v))
theorem SrvAt.k {st st' : St} {a : Nat} {l : List Int} (h : SrvAt st a l) (k : Kp st st') : SrvAt st' a l := by
  obtain ⟨b, w, h1, h2⟩ := h.ex
  exact ⟨b, w, h1.k k, h2.k k⟩
theorem QuaAt.k {st st' : St} {a : Nat} {u v : List Nat} (h : QuaAt st a u v) (k : Kp st st') : QuaAt st' a u v := by
  obtain ⟨b, b2, w, w2, h1, h2, h3⟩ := h.ex
  exact ⟨b, b2, w, w2, h1.k k, h2.k k, h3.k k⟩
structure Qok (I O : Nat) (m : List Row) (u v : List Nat) : Prop where
  hu : ∀ i ∈ u, i < I
  hv : ∀ i ∈ v, i < I
  pm : u.Perm v
  ne : (run m 0 (zO O) u).2 ≠ (run m 0 (zO O) v).2
  lu : u.length ≤ 5000
  lv : v.length ≤ 5000
variable (T : Tbl F)
include T
theorem s_mkS {Z : St → Prop} {v : PV} {l : List Int} (W : WordAt st v (vI l)) (q : ∀ st', Kp st st' → SrvAt st' st.n l → Z st') : Wp (ev F (n + 1) (.fn 14) [.ref st.n, v] (st.new (.ins 1 []))) fun v st' => v = .non ∧ Z st' := by
  have hp : At (st.new (.ins 1 [])) st.n (.ins 1 []) := at_new
  refine w_fn T.f14 rfl ?_
  dsimp only [frame, nones, Nat.reduceSub]
  repeat infer_instance
  refine w_lst1 (W.k kp_new).seq fun s2 k2 a2 => ?_
  repeat infer_instance
  refine w_setF (hp.k k2) rfl fun s3 u3 a3 => ⟨rfl, q s3 ((kp_new.trans k2).up u3 (Nat.le_refl _)) ⟨_, _, a3, a2.up u3 ?_⟩⟩
  have := hp.lt
  omega
theorem s_mkQ {Z : St → Prop} {x y : PV} {u v : List Nat} (W1 : WordAt st x (vN u)) (W2 : WordAt st y (vN v)) (q : ∀ st', Kp st st' → QuaAt st' st.n u v → Z st') : Wp (ev F (n + 1) (.fn 18) [.ref st.n, x, y] (st.new (.ins 2 []))) fun v st' => v = .non ∧ Z st' := by
  have hp : At (st.new (.ins 2 [])) st.n (.ins 2 []) := at_new
  refine w_fn T.f18 rfl ?_
  dsimp only [frame, nones, Nat.reduceSub]
  repeat infer_instance
  refine w_lst1 (W1.k kp_new).seq fun s2 k2 a2 => ?_
  repeat infer_instance
  refine w_setF (hp.k k2) rfl fun s3 u3 a3 => ?_
  repeat infer_instance
  have K3 : Kp st s3 := (kp_new.trans k2).up u3 (Nat.le_refl _)
  have hl := hp.lt
  have hl2 := k2.n
  have a2' := a2.up u3 (by omega)
  refine w_lst1 (W2.k K3).seq fun s4 k4 a4 => ?_
  repeat infer_instance
  have hl3 := a3.lt
  refine w_setF (a3.k k4) rfl fun s5 u5 a5 => ⟨rfl, q s5 ((K3.trans k4).up u5 (Nat.le_refl _)) ⟨_, _, _, _, a5, (a2'.k k4).up u5 (by omega), a4.up u5 (by omega)⟩⟩
theorem s_judge (G : Gm I O m) (M : MachAt st p I O m) (q1 : Good I m → ∀ a l st', Kp st st' → SrvAt st' a l → Fin' I m l → Q (.ref a) st') (q2 : ¬ Good I m → ∀ a u v st', Kp st st' → QuaAt st' a u v → Qok I O m u v → Q (.ref a) st') : Wp (ev F (n + 4) (.fn 26) [.ref p] st) Q := by
  have h60 := G.n60
  have hi4 := G.i4
  have ho4 := G.o4
  obtain ⟨sa, hm, S⟩ := M.ex
  refine w_fn T.f26 rfl ?_
  dsimp only [frame, nones, Nat.reduceSub]
  repeat infer_instance
  refine s_chkM T M ?_
  repeat infer_instance
  refine ⟨O, rfl, by show O ≤ 16777216; omega, fun s1 k1 a1 => ?_⟩
  repeat infer_instance
  refine s_classes T G (M.k k1) a1 fun A w rs c s2 k2 hc R hC h0 => ?_
  have K2 := k1.trans k2
  repeat infer_instance
  refine s_firstq T G (M.k K2) hc R (fun s3 k3 hN => ?_) (fun s j i s3 k3 hr hi hj hq => ?_)
  · have K3 := K2.trans k3
    have hg := hC.noq.mp hN
    repeat infer_instance
    refine w_isNon (.inl rfl) ?_
    repeat infer_instance
    refine ⟨fun _ => ?_, nofun⟩
    repeat infer_instance
    refine w_lenO (hm.k K3) rfl ?_
    refine s_len T (M.k K3) ⟨m.length, rfl, by show m.length ≤ 16777216; omega, ?_⟩
    refine ⟨m.length, rfl, by omega, ?_⟩
    classical
    refine w_lcF (res := vI ((List.range m.length).map fun s => if Rch I m s then c s else -1)) (by simp [vI, rgN]) (fun _ _ => rfl) (fun i v s4 hv k4 => ?_) (fun s4 k4 => ?_)
    · obtain ⟨hi, rfl⟩ := rgN_get hv
      have hc4 := (hc.k k3).k k4
      repeat infer_instance
      refine ⟨by rw [dctV_dct hc4]; rfl, ?_⟩
      repeat infer_instance
      refine w_getOr ke_nat (x := i) hc4 ?_
      refine ⟨.refl, ?_⟩
      unfold vI
      rw [List.getElem?_map, List.getElem?_map, List.getElem?_range hi]
      show some (PV.int (if Rch I m i then c i else -1)) = _
      by_cases r : Rch I m i
      · rw [if_pos r, cD_lkp ((R.mem i).mpr r)]; rfl
      · rw [if_neg r, cD_none fun h => r ((R.mem i).mp h)]; rfl
    · refine ⟨okL (by simp [vI]; omega), fun s5 k5 a5 => ?_⟩
      repeat infer_instance
      refine s_mkS T (.inr ⟨_, _, rfl, a5⟩) fun s6 k6 h6 => ?_
      have hg' : ∀ s, s < m.length → ((List.range m.length).map fun s => if Rch I m s then c s else -1).getD s 0 = if Rch I m s then c s else -1 := fun s hs => by
        rw [List.getD_eq_getElem?_getD, List.getElem?_map, List.getElem?_range hs]
        rfl
      refine q1 hg _ _ _ (K3.trans (k4.trans (k5.trans k6))) h6 ⟨by simp, c, hC, fun s _ => h0 s, fun s hs h => ?_, fun s hs h => ?_⟩
      · rw [hg' s hs, if_pos h]
      · rw [hg' s hs, if_neg h]
  · have K3 := K2.trans k3
    have hji : j < I := by omega
    have hs := hr.lt G
    have hng : ¬ Good I m := fun g => hq (hC.noq.mpr g s hr i j hi hj)
    repeat infer_instance
    refine w_isNon (.inr ⟨_, rfl⟩) ?_
    repeat infer_instance
    refine ⟨nofun, fun _ => ?_⟩
    repeat infer_instance
    refine s_words T G (M.k K3) fun ad wd d s4 k4 hd W => ?_
    obtain ⟨wv, ew⟩ := lkp_some ((W.rs.mem s).mpr hr)
    obtain ⟨w, rfl, hw, hgw, hwl⟩ := W.wd s _ ew
    refine w_getD ke_nat (x := s) hd ew ?_
    have K4 := K3.trans k4
    repeat infer_instance
    refine s_two T G (M.k K4) hs hji hi fun s5 k5 => ?_
    repeat infer_instance
    refine s_two T G ((M.k K4).k k5) hs hi hji fun s6 k6 => ?_
    have K6 := K4.trans (k5.trans k6)
    refine w_ttup rfl (w_tsCons (w_tv (w_tsCons (w_tv (w_tsNil ?_)))))
    refine w_seq (w_asg (Wp.mono (Q := fun v s' => ∃ bw, v = .tup (vN bw) ∧ Kp st s' ∧ bw.length ≤ 4000 ∧ ((ou2 m s j i ≠ ou2 m s i j ∧ bw = []) ∨ (ou2 m s j i = ou2 m s i j ∧ Parts I O m (go2 m s j i) (go2 m s i j) bw))) ?_ ?_))
    · repeat infer_instance
      refine ⟨fun cd => ?_, fun cd => ?_⟩
      · have cd : ou2 m s j i ≠ ou2 m s i j := by simpa using cd
        repeat infer_instance
        exact ⟨[], rfl, K6, by simp, .inl ⟨cd, rfl⟩⟩
      · have cd : ou2 m s j i = ou2 m s i j := by simpa using cd
        have na : ¬ Al I m (go2 m s j i) (go2 m s i j) := fun h => hq ⟨cd, (hC _ _ (hr.two hji hi) (hr.two hi hji)).mpr h⟩
        repeat infer_instance
        exact s_parting T G (M.k K6) ((hr.two hji hi).lt G) ((hr.two hi hji).lt G) na fun w s7 k7 hP hl => ⟨w, rfl, K6.trans k7, hl, .inr ⟨cd, hP⟩⟩
    · rintro v s7 ⟨bw, rfl, K7, hbl, hb⟩
      have hbI : ∀ i ∈ bw, i < I := by
        rcases hb with ⟨_, rfl⟩ | ⟨_, h⟩
        · nofun
        · exact h.1
      refine w_tv ?_
      dsimp only [setNth]
      repeat infer_instance
      refine ⟨_, rfl, ?_⟩
      repeat infer_instance
      refine ⟨_, rfl, ?_⟩
      repeat infer_instance
      refine ⟨okL (by simp [vN]; omega), fun s8 k8 a8 => ?_⟩
      repeat infer_instance
      refine ⟨_, rfl, ?_⟩
      repeat infer_instance
      refine ⟨_, rfl, ?_⟩
      repeat infer_instance
      refine ⟨okL (by simp [vN]; omega), fun s9 k9 a9 => ?_⟩
      repeat infer_instance
      have e8 : vN w ++ PV.int (j : Nat) :: PV.int (i : Nat) :: (vN bw ++ []) = vN (w ++ j :: i :: bw) := by simp [vN]
      have e9 : vN w ++ PV.int (i : Nat) :: PV.int (j : Nat) :: (vN bw ++ []) = vN (w ++ i :: j :: bw) := by simp [vN]
      rw [e8] at a8
      rw [e9] at a9
      have hin : ∀ a b : Nat, a < I → b < I → ∀ x ∈ w ++ a :: b :: bw, x < I := fun a b ha hb x hx => by
        rcases List.mem_append.mp hx with h | h
        · exact hw x h
        · rcases List.mem_cons.mp h with rfl | h
          · exact ha
          · rcases List.mem_cons.mp h with rfl | h
            · exact hb
            · exact hbI x h
      refine s_mkQ T (.inr ⟨_, _, rfl, a8.k k9⟩) (.inr ⟨_, _, rfl, a9⟩) fun s10 k10 h10 => ?_
      refine q2 hng _ _ _ _ (K7.trans (k8.trans (k9.trans k10))) h10 ⟨hin j i hji hi, hin i j hi hji, List.Perm.append_left _ (List.Perm.swap i j bw), quarrel G hw hgw hji hi hb, by simp; omega, by simp; omega⟩
end YL
end
section
set_option linter.all false
set_option maxRecDepth 100000
set_option maxHeartbeats 1000000
/-! S6: k21's plain law: Served and Quarrels. [d2] -/
namespace YL
open Y
local macro_rules
  | `(tactic| infer_instance) => `(tactic| first
    | with_reducible refine w_seq ?_
    | with_reducible refine w_asg ?_
    | with_reducible refine w_ret ?_
    | with_reducible refine w_if ?_
    | with_reducible refine w_ex ?_
    | with_reducible refine w_par2 ?_
    | with_reducible refine w_par3 ?_
    | with_reducible refine w_nil ?_
    | with_reducible refine w_for ?_
    | ((with_reducible apply w_var); (exact rfl))
    | with_reducible refine w_cst ?_
    | with_reducible refine w_aNil ?_
    | with_reducible refine w_aCons ?_
    | with_reducible refine w_bin ?_
    | with_reducible refine w_and ?_
    | with_reducible refine w_not ?_
    | with_reducible refine w_isi ?_
    | with_reducible refine w_call ?_
    | with_reducible refine w_sub ?_
    | with_reducible refine w_biR ?_
    | with_reducible refine w_cmp ?_
    | with_reducible refine w_attr ?_
    | with_reducible refine w_tup ?_
    | with_reducible refine w_lst ?_
    | with_reducible refine w_dct1 ?_
    | with_reducible refine w_lm ?_
    | with_reducible refine w_dm ?_
    | with_reducible refine w_in ?_
    | with_reducible refine w_ife ?_
    | with_reducible refine w_neg ?_
    | with_reducible refine w_negI ?_
    | with_reducible refine w_make ?_
    | with_reducible refine w_meth ?_
    | with_reducible refine w_val ?_
    | with_reducible refine w_bnot ?_
    | with_reducible refine w_bor ?_
    | with_reducible refine w_band ?_
    | with_reducible refine w_bcmp ?_
    | with_reducible refine w_bin2 ?_
    | with_reducible refine w_bchain ?_
    | with_reducible refine w_chain ?_
    | with_reducible refine w_bT ?_
    | with_reducible refine w_tv ?_
    | ((with_reducible refine w_ttup ?_ ?_); exact rfl)
    | with_reducible refine w_tsCons ?_
    | with_reducible refine w_tsNil ?_
    | with_reducible refine w_tattr ?_
    | with_reducible refine w_tsub ?_
    | with_reducible refine w_iany ?_
    | with_reducible refine w_ivals ?_
    | with_reducible refine w_iitems ?_
    | with_reducible refine w_rng1 ?_
    | with_reducible refine w_enum ?_
    | with_reducible refine w_zip2 ?_
    | with_reducible refine w_lstRg1 ?_
    | with_reducible refine w_on1 ?_
    | with_reducible refine w_truB ?_
    | with_reducible refine w_lc ?_
    | with_reducible refine w_dc ?_
    | with_reducible refine w_eqI ?_
    | with_reducible refine w_neI ?_
    | with_reducible refine w_neT ?_
    | with_reducible refine w_eqT ?_
    | with_reducible refine w_eqB ?_
    | with_reducible refine w_neB ?_
    | with_reducible refine w_lt ?_
    | with_reducible refine w_le ?_
    | with_reducible refine w_ge ?_
    | with_reducible refine w_addI ?_
    | with_reducible refine w_subI ?_
    | with_reducible refine blQ.mk ?_
    | with_reducible refine w_anyT ?_
    | with_reducible refine w_anyC ?_
    | refine And.intro (show okLen _ = true from rfl) ?_
    | (refine And.intro (isLst_at ?_) ?_; (assumption))
    | ((with_reducible apply w_fld); (assumption); (exact rfl); (exact rfl))
    | refine w_isiV (t := 0) rfl rfl ?_
    | refine w_isiV (t := 4) rfl rfl ?_
    | with_reducible refine w_sl ?_
    | with_reducible refine w_aStarT ?_
    | with_reducible refine w_oN ?_
    | with_reducible refine w_oS ?_
    | with_reducible refine w_int1 ?_
    | refine w_getT (i := 0) rfl rfl ?_
    | refine w_getT (i := 1) rfl rfl ?_)
variable {F : Nat → Option Df} {n : Nat} {st : St} {Q : PV → St → Prop} {I O : Nat} {m : List Row} {p : Nat}
theorem vN_vI (u : List Nat) : vN u = vI (u.map fun i : Nat => (i : Int)) := by simp [vN, vI]
theorem castI_inj {u v : List Nat} (h : (u.map fun i : Nat => (i : Int)) = v.map fun i : Nat => (i : Int)) : u = v := map_inj' (fun x y e => by omega) h
theorem sort_iff {u v : List Nat} : sortI (u.map fun i : Nat => (i : Int)) = sortI (v.map fun i : Nat => (i : Int)) ↔ u.Perm v := by
  constructor
  · intro h
    have h1 := ((sortI_perm (u.map fun i : Nat => (i : Int))).symm.trans (h ▸ List.Perm.refl _)).trans (sortI_perm (v.map fun i : Nat => (i : Int)))
    have h2 := h1.map Int.toNat
    simpa [List.map_map, Function.comp_def] using h2
  · intro h
    have h2 : (u.map fun i : Nat => (i : Int)).Perm (v.map fun i : Nat => (i : Int)) := h.map _
    exact ((sortI_perm _).trans (h2.trans (sortI_perm _).symm)).eq_of_pairwise (fun a b _ _ h1 h2 => Int.le_antisymm h1 h2) (sortI_sorted _) (sortI_sorted _)
variable (T : Tbl F)
include T
theorem s_sbool {a : Nat} (q : Q (.bl true) st) : Wp (ev F (n + 1) (.fn 16) [.ref a] st) Q := by
  refine w_fn T.f16 rfl ?_
  dsimp only [frame, nones, Nat.reduceSub]
  repeat infer_instance
  exact q
theorem s_qbool {a : Nat} (q : Q (.bl false) st) : Wp (ev F (n + 1) (.fn 20) [.ref a] st) Q := by
  refine w_fn T.f20 rfl ?_
  dsimp only [frame, nones, Nat.reduceSub]
  repeat infer_instance
  exact q
theorem s_seqS {a b : Nat} {l l' : List Int} (h1 : SrvAt st a l) (h2 : SrvAt st b l') (q : Q (.bl (decide (l = l'))) st) : Wp (ev F (n + 1) (.fn 15) [.ref a, .ref b] st) Q := by
  obtain ⟨x, w, g1, g2⟩ := h1.ex
  obtain ⟨y, w', g3, g4⟩ := h2.ex
  refine w_fn T.f15 rfl ?_
  dsimp only [frame, nones, Nat.reduceSub]
  repeat infer_instance
  refine w_isiV (ty_ins g3 rfl) rfl ?_
  repeat infer_instance
  refine ⟨fun _ => ?_, nofun⟩
  repeat infer_instance
  exact w_eqLs (k := 11) re_int rfl g2 g4 q
theorem s_qeqS {a b : Nat} {u v : List Nat} {l : List Int} (h1 : QuaAt st a u v) (h2 : SrvAt st b l) (q : Q (.bl false) st) : Wp (ev F (n + 1) (.fn 19) [.ref a, .ref b] st) Q := by
  obtain ⟨y, w', g3, g4⟩ := h2.ex
  refine w_fn T.f19 rfl ?_
  dsimp only [frame, nones, Nat.reduceSub]
  repeat infer_instance
  refine w_isiV (ty_ins g3 rfl) rfl ?_
  repeat infer_instance
  refine ⟨nofun, fun _ => ?_⟩
  exact q
theorem s_qeqQ {a b : Nat} {u v u' v' : List Nat} (h1 : QuaAt st a u v) (h2 : QuaAt st b u' v') (q : Q (.bl (decide (u = u' ∧ v = v'))) st) : Wp (ev F (n + 1) (.fn 19) [.ref a, .ref b] st) Q := by
  obtain ⟨x1, x2, w1, w2, g1, g2, g3⟩ := h1.ex
  obtain ⟨y1, y2, w3, w4, g4, g5, g6⟩ := h2.ex
  refine w_fn T.f19 rfl ?_
  dsimp only [frame, nones, Nat.reduceSub]
  repeat infer_instance
  refine w_isiV (ty_ins g4 rfl) rfl ?_
  repeat infer_instance
  refine ⟨fun _ => ?_, nofun⟩
  repeat infer_instance
  have key : ∀ x1 x2 w1 w2 u v, At st x1 (.lst w1 (vN u)) → At st x2 (.lst w2 (vN v)) → Rd st DD (.tup [.ref x1, .ref x2]) (.tup [.lst (u.map fun i : Nat => Dt.int i), .lst (v.map fun i : Nat => Dt.int i)]) := fun x1 x2 w1 w2 u v g2 g3 => rd_tup rfl fun i v z e1 e2 => by
    match i, e1, e2 with
    | 0, e1, e2 => cases e1; cases e2; exact rd_list re_nat g2
    | 1, e1, e2 => cases e1; cases e2; exact rd_list re_nat g3
    | i + 2, e1, e2 => cases e1
  refine w_eq rfl (key _ _ _ _ _ _ g2 g3) (key _ _ _ _ _ _ g5 g6) ?_
  have e : decide (Dt.tup [.lst (u.map fun i : Nat => Dt.int i), .lst (v.map fun i : Nat => Dt.int i)] = Dt.tup [.lst (u'.map fun i : Nat => Dt.int i), .lst (v'.map fun i : Nat => Dt.int i)]) = decide (u = u' ∧ v = v') := by
    rw [decide_eq_decide]
    constructor
    · intro h
      injection h with h
      rw [List.cons.injEq, List.cons.injEq] at h
      have h1 := h.1
      have h2 := h.2.1
      injection h1 with h1
      injection h2 with h2
      exact ⟨map_inj' (fun x y e => by injection e; omega) h1, map_inj' (fun x y e => by injection e; omega) h2⟩
    · rintro ⟨rfl, rfl⟩; rfl
  rw [e]
  exact q
theorem s_qshow {a : Nat} {u v : List Nat} (G : Gm I O m) (M : MachAt st p I O m) (h : QuaAt st a u v) (hl : u.length + v.length ≤ 20000) (q : ∀ t st', Kp st st' → (t = true ↔ (∀ i ∈ u ++ v, i < I) ∧ u.Perm v ∧ (run m 0 (zO O) u).2 ≠ (run m 0 (zO O) v).2) → Q (.bl t) st') : Wp (ev F (n + 3) (.fn 21) [.ref a, .ref p] st) Q := by
  obtain ⟨x1, x2, w1, w2, g1, g2, g3⟩ := h.ex
  obtain ⟨sa, hm, S⟩ := M.ex
  refine w_fn T.f21 rfl ?_
  dsimp only [frame, nones, Nat.reduceSub]
  repeat infer_instance
  refine s_chkM T M ?_
  repeat infer_instance
  refine w_addL g2 g3 (okL (by simp [vN]; omega)) fun s1 k1 a1 => ?_
  rw [show vN u ++ vN v = vN (u ++ v) by simp [vN]] at a1
  refine w_anyL a1 ?_
  refine w_lcF (res := ((u ++ v).map fun i => decide (i < I)).map PV.bl) (by simp [vN]) (fun s k => gd_lst (a1.k k) rfl) (fun i w s2 hv k2 => ?_) (fun s2 k2 => ?_)
  · obtain ⟨j, e1, rfl⟩ := vN_get hv
    have hm2 := (hm.k k1).k k2
    repeat infer_instance
    refine s_whole T ?_
    repeat infer_instance
    refine ⟨fun _ => ?_, nofun⟩
    repeat infer_instance
    refine ⟨fun _ => ?_, fun c => absurd (of_decide_eq_false c) (by omega)⟩
    repeat infer_instance
    refine ⟨.refl, ?_⟩
    rw [List.getElem?_map, List.getElem?_map, e1]
    show some (PV.bl (decide (j < I))) = some (PV.bl (decide ((j : Int) < (I : Int))))
    rw [show decide ((j : Int) < (I : Int)) = decide (j < I) by rw [decide_eq_decide]; omega]
  · refine ⟨okL (by simp; omega), fun s3 k3 a3 => ?_⟩
    have K3 := k1.trans (k2.trans k3)
    repeat infer_instance
    refine w_all1 a3 ?_
    repeat infer_instance
    have hall : (((u ++ v).map fun i => decide (i < I)).all id = true) ↔ ∀ i ∈ u ++ v, i < I := by
      rw [List.all_eq_true]
      constructor
      · intro h i hi
        have := h _ (List.mem_map.mpr ⟨i, hi, rfl⟩)
        exact of_decide_eq_true this
      · intro h b hb
        obtain ⟨i, hi, rfl⟩ := List.mem_map.mp hb
        exact decide_eq_true (h i hi)
    refine ⟨fun c => ?_, fun c => ?_⟩
    · have c : ¬ ∀ i ∈ u ++ v, i < I := fun h => by rw [hall.mpr h] at c; cases c
      repeat infer_instance
      exact q false _ K3 ⟨nofun, fun h => absurd h.1 c⟩
    · have c : ∀ i ∈ u ++ v, i < I := hall.mp (by simpa using c)
      have g1 := g1.k K3
      have g2 := g2.k K3
      have g3 := g3.k K3
      have g2' := g2
      have g3' := g3
      rw [vN_vI] at g2' g3'
      repeat infer_instance
      refine w_sort1 g2' fun s4 k4 a4 => ?_
      have g1 := g1.k k4
      repeat infer_instance
      refine w_sort1 (g3'.k k4) fun s5 k5 a5 => ?_
      have g1 := g1.k k5
      repeat infer_instance
      refine w_neLs (k := 11) re_int rfl (a4.k k5) a5 ?_
      repeat infer_instance
      have K5 := K3.trans (k4.trans k5)
      refine ⟨fun c2 => ?_, fun c2 => ?_⟩
      · have c2 : ¬ u.Perm v := fun h => by rw [decide_eq_true (sort_iff.mpr h)] at c2; cases c2
        repeat infer_instance
        exact q false _ K5 ⟨nofun, fun h => absurd h.2.1 c2⟩
      · have c2 : u.Perm v := sort_iff.mp (by simpa using c2)
        repeat infer_instance
        have hu : ∀ i ∈ u, i < I := fun i hi => c i (List.mem_append_left _ hi)
        have hv : ∀ i ∈ v, i < I := fun i hi => c i (List.mem_append_right _ hi)
        refine s_walked2 T G (M.k K5) (.inr ⟨_, _, rfl, (g2.k k4).k k5⟩) hu fun s6 k6 => ?_
        have g1 := g1.k k6
        repeat infer_instance
        refine s_walked2 T G ((M.k K5).k k6) (.inr ⟨_, _, rfl, ((g3.k k4).k k5).k k6⟩) hv fun s7 k7 => ?_
        repeat infer_instance
        exact q _ _ (K5.trans (k6.trans k7)) ⟨fun e => ⟨c, c2, by simpa using e⟩, fun h => by simpa using h.2.2⟩
theorem s_sshow {a : Nat} {l : List Int} (G : Gm I O m) (M : MachAt st p I O m) (h : SrvAt st a l) (hl : l.length ≤ 1000) (q : ∀ t st', Kp st st' → (t = true ↔ Shw I m l) → Q (.bl t) st') : Wp (ev F (n + 4) (.fn 17) [.ref a, .ref p] st) Q := by
  have h60 := G.n60
  obtain ⟨x, wx, g1, g2⟩ := h.ex
  obtain ⟨sa, hm, S⟩ := M.ex
  refine w_fn T.f17 rfl ?_
  dsimp only [frame, nones, Nat.reduceSub]
  repeat infer_instance
  refine s_chkM T M ?_
  repeat infer_instance
  refine s_words T G M fun ad wd d s1 k1 hd W => ?_
  have R := W.rs
  generalize hrs : d.map (·.1) = rs at R
  have hrl : rs.length ≤ m.length := nodup_lt R.nd fun x hx => ((R.mem x).mp hx).lt G
  have hdl : d.length = rs.length := by rw [← hrs]; simp
  have g1 := g1.k k1
  have g2 := g2.k k1
  have hm := hm.k k1
  repeat infer_instance
  refine w_lenS (seqV_at g2) ?_
  repeat infer_instance
  refine w_lenO hm rfl ?_
  refine s_len T (M.k k1) ⟨m.length, rfl, by show m.length ≤ 16777216; omega, ?_⟩
  rw [show (vI l).length = l.length by simp [vI]]
  repeat infer_instance
  refine ⟨fun c => ?_, fun c => ?_⟩
  · have c : l.length ≠ m.length := fun e => by rw [e] at c; simp at c
    refine ⟨fun _ => ?_, nofun⟩
    repeat infer_instance
    exact q false _ k1 ⟨nofun, fun h => absurd h.len c⟩
  · have c : l.length = m.length := by
      have : ((l.length : Nat) : Int) = (m.length : Nat) := by simpa using c
      omega
    repeat infer_instance
    refine w_anyL g2 ?_
    refine w_lcF (res := (l.map fun _ => true).map PV.bl) (by simp [vI]) (fun s k => gd_lst (g2.k k) rfl) (fun i w s2 hv k2 => ?_) (fun s2 k2 => ?_)
    · obtain ⟨j, e1, rfl⟩ := vI_get hv
      repeat infer_instance
      refine s_whole T ?_
      refine ⟨.refl, ?_⟩
      rw [List.getElem?_map, List.getElem?_map, e1]
      rfl
    · refine ⟨okL (by simp; omega), fun s3 k3 a3 => ?_⟩
      repeat infer_instance
      refine w_all1 a3 ?_
      rw [all_true (by simp)]
      repeat infer_instance
      refine ⟨nofun, fun _ => ?_⟩
      have k23 := k2.trans k3
      have g1 := g1.k k23
      have g2 := g2.k k23
      have hm := hm.k k23
      have hd := hd.k k23
      have K3 := k1.trans k23
      repeat infer_instance
      refine ⟨_, _, seqG_at g2, ?_⟩
      refine w_forL (I := fun i fr s => s = s3 ∧ (∀ t, t < i → -1 ≤ l.getD t 0 ∧ (l.getD t 0 = -1 ↔ ¬ Rch I m t)) ∧ ∃ x3 x4 x5, fr = [some (.ref a), some (.ref p), some (.ref ad), x3, x4, x5]) ⟨rfl, nofun, _, _, _, rfl⟩ (fun _ _ s ⟨e, _⟩ => by subst e; exact gd_lst g2 rfl) (fun i v fr s hv ⟨es, hI, x3, x4, x5, e⟩ => ?_) (fun fr s ⟨es, hI, x3, x4, x5, e⟩ => ?_)
      · subst e
        subst es
        rw [enumL_get] at hv
        cases e1 : (vI l)[i]? with
        | none => rw [e1] at hv; cases hv
        | some z =>
          rw [e1] at hv
          cases hv
          obtain ⟨y, e2, rfl⟩ := vI_get e1
          have hi : i < l.length := (List.getElem?_eq_some_iff.mp e2).1
          have ey : l.getD i 0 = y := by rw [List.getD_eq_getElem?_getD, e2]; rfl
          repeat infer_instance
          refine ⟨fun c2 => ?_, fun c2 => ?_⟩
          · have c2 := of_decide_eq_true c2
            refine ⟨fun _ => ?_, nofun⟩
            repeat infer_instance
            exact q false _ K3 ⟨nofun, fun h => absurd (h.lo i (by omega)) (by omega)⟩
          · have c2 := of_decide_eq_false c2
            repeat infer_instance
            rw [show PV.int ((0 + i : Nat) : Int) = inV' i by rw [Nat.zero_add]; rfl]
            refine w_inD ke_nat (x := i) hd ?_
            repeat infer_instance
            have hs : ((lkp d i).isSome = true ↔ Rch I m i) := by
              rw [← R.mem, ← hrs]
              cases el : lkp d i with
              | none => exact ⟨nofun, fun h => absurd h (lkp_none.mp el)⟩
              | some v => simp only [Option.isSome_some, true_iff]; exact List.mem_map.mpr ⟨_, lkp_mem el, rfl⟩
            refine ⟨fun c3 => ?_, fun c3 => ?_⟩
            · repeat infer_instance
              refine q false _ K3 ⟨nofun, fun h => ?_⟩
              have h1 := h.m1 i (by omega)
              rw [ey] at h1
              have c3 : decide (y = -1) = (lkp d i).isSome := by simpa using c3
              by_cases r : Rch I m i
              · have := hs.mpr r
                rw [this] at c3
                exact absurd r (h1.mp (of_decide_eq_true c3))
              · have : decide (y = -1) = true := decide_eq_true (h1.mpr r)
                rw [this] at c3
                exact absurd (hs.mp c3.symm) r
            · have c3 : decide (y = -1) ≠ (lkp d i).isSome := by simpa using c3
              repeat infer_instance
              refine ⟨rfl, fun t ht => ?_, _, _, _, rfl⟩
              rcases Nat.lt_or_ge t i with x | x
              · exact hI t x
              · have : t = i := by omega
                subst this
                rw [ey]
                refine ⟨by omega, fun e hr => c3 ?_, fun hr => ?_⟩
                · rw [hs.mpr hr, decide_eq_true e]
                · by_cases e : y = -1
                  · exact e
                  · refine absurd ?_ c3
                    rw [decide_eq_false e]
                    cases el : (lkp d t).isSome with
                    | false => rfl
                    | true => exact absurd (hs.mp el) hr
      · subst e
        subst es
        have hI : ∀ t, t < (enumL 0 (vI l)).length → -1 ≤ l.getD t 0 ∧ (l.getD t 0 = -1 ↔ ¬ Rch I m t) := hI
        rw [enumL_len, show (vI l).length = l.length by simp [vI], c] at hI
        repeat infer_instance
        refine w_anyD hd ?_
        refine w_dcL (I := fun i ys s' => s' = s ∧ ys = emb inV' (cD (rs.take i) fun t => l.getD t 0)) ⟨rfl, rfl⟩ (fun _ _ s ⟨e, _⟩ => by subst e; exact gd_dct hd rfl) (fun i v ys s' hv ⟨hs, e⟩ => ?_) (fun ys s' ⟨hs, e⟩ => ?_)
        · subst hs
          obtain ⟨y, e1, rfl⟩ := keN_get hv
          rw [hrs] at e1
          have hy := ((R.mem y).mp (List.mem_of_getElem? e1)).lt G
          repeat infer_instance
          refine ⟨fun _ => ?_, nofun⟩
          have e4 : (vI l)[y]? = some (.int (l.getD y 0)) := by
            unfold vI
            rw [List.getElem?_map, List.getD_eq_getElem?_getD, List.getElem?_eq_getElem (by omega)]
            rfl
          repeat infer_instance
          refine w_getL (i := y) g2 e4 rfl ?_
          refine ⟨rfl, emb inV' (cD (rs.take (i + 1)) fun t => l.getD t 0), ?_, okL ?_, rfl, rfl⟩
          · rw [e, cD_take e1, ← put_new (cD_none (nodup_take R.nd e1))]
            exact kput_emb ke_nat _ y _
          · rw [emb_len]
            simp [cD]
            omega
        · subst hs
          have hl2 : rs.take (fstL (emb inV' d)).length = rs := by rw [emb_fst, List.length_map, hdl, List.take_length]
          have e : ys = emb inV' (cD (rs.take (fstL (emb inV' d)).length) fun t => l.getD t 0) := e
          rw [hl2] at e
          subst e
          intro s4 k4 a4
          repeat infer_instance
          have K4 := K3.trans k4
          refine s_closed T G (M.k K4) a4 R fun t s5 k5 ht => ?_
          repeat infer_instance
          refine ⟨fun e => ?_, fun e => ?_⟩
          · subst e
            have hc := ht.mp rfl
            repeat infer_instance
            refine s_firstq T G ((M.k K4).k k5) (a4.k k5) R (fun s6 k6 hN => ?_) (fun s j i s6 k6 hr hi hj hq => ?_)
            · repeat infer_instance
              refine w_isNon (.inl rfl) ?_
              exact q true _ (K4.trans (k5.trans k6)) ⟨fun _ => ⟨c, fun s hs => (hI s hs).1, fun s hs => (hI s hs).2, hc, hN⟩, fun _ => rfl⟩
            · repeat infer_instance
              refine w_isNon (.inr ⟨_, rfl⟩) ?_
              exact q false _ (K4.trans (k5.trans k6)) ⟨nofun, fun h => absurd (h.nq s hr i j hi hj) hq⟩
          · subst e
            refine q false _ (K4.trans k5) ⟨nofun, fun h => ?_⟩
            have := ht.mpr h.cl
            cases this
end YL
end
section
set_option linter.all false
set_option maxRecDepth 100000
set_option maxHeartbeats 1000000
/-! S7: k21's plain law: the law's look at the numbers. [d2] -/
namespace YL
open Y
local macro_rules
  | `(tactic| infer_instance) => `(tactic| first
    | with_reducible refine w_seq ?_
    | with_reducible refine w_asg ?_
    | with_reducible refine w_ret ?_
    | with_reducible refine w_if ?_
    | with_reducible refine w_ex ?_
    | with_reducible refine w_par2 ?_
    | with_reducible refine w_par3 ?_
    | with_reducible refine w_nil ?_
    | with_reducible refine w_for ?_
    | ((with_reducible apply w_var); (exact rfl))
    | with_reducible refine w_cst ?_
    | with_reducible refine w_aNil ?_
    | with_reducible refine w_aCons ?_
    | with_reducible refine w_bin ?_
    | with_reducible refine w_and ?_
    | with_reducible refine w_not ?_
    | with_reducible refine w_isi ?_
    | with_reducible refine w_call ?_
    | with_reducible refine w_sub ?_
    | with_reducible refine w_biR ?_
    | with_reducible refine w_cmp ?_
    | with_reducible refine w_attr ?_
    | with_reducible refine w_tup ?_
    | with_reducible refine w_lst ?_
    | with_reducible refine w_dct1 ?_
    | with_reducible refine w_lm ?_
    | with_reducible refine w_dm ?_
    | with_reducible refine w_in ?_
    | with_reducible refine w_ife ?_
    | with_reducible refine w_neg ?_
    | with_reducible refine w_negI ?_
    | with_reducible refine w_make ?_
    | with_reducible refine w_meth ?_
    | with_reducible refine w_val ?_
    | with_reducible refine w_bnot ?_
    | with_reducible refine w_bor ?_
    | with_reducible refine w_band ?_
    | with_reducible refine w_bcmp ?_
    | with_reducible refine w_bin2 ?_
    | with_reducible refine w_bchain ?_
    | with_reducible refine w_chain ?_
    | with_reducible refine w_bT ?_
    | with_reducible refine w_tv ?_
    | ((with_reducible refine w_ttup ?_ ?_); exact rfl)
    | with_reducible refine w_tsCons ?_
    | with_reducible refine w_tsNil ?_
    | with_reducible refine w_tattr ?_
    | with_reducible refine w_tsub ?_
    | with_reducible refine w_iany ?_
    | with_reducible refine w_ivals ?_
    | with_reducible refine w_iitems ?_
    | with_reducible refine w_rng1 ?_
    | with_reducible refine w_enum ?_
    | with_reducible refine w_zip2 ?_
    | with_reducible refine w_lstRg1 ?_
    | with_reducible refine w_on1 ?_
    | with_reducible refine w_truB ?_
    | with_reducible refine w_lc ?_
    | with_reducible refine w_dc ?_
    | with_reducible refine w_eqI ?_
    | with_reducible refine w_neI ?_
    | with_reducible refine w_neT ?_
    | with_reducible refine w_eqT ?_
    | with_reducible refine w_eqB ?_
    | with_reducible refine w_neB ?_
    | with_reducible refine w_lt ?_
    | with_reducible refine w_le ?_
    | with_reducible refine w_ge ?_
    | with_reducible refine w_addI ?_
    | with_reducible refine w_subI ?_
    | with_reducible refine blQ.mk ?_
    | with_reducible refine w_anyT ?_
    | with_reducible refine w_anyC ?_
    | refine And.intro (show okLen _ = true from rfl) ?_
    | (refine And.intro (isLst_at ?_) ?_; (assumption))
    | ((with_reducible apply w_fld); (assumption); (exact rfl); (exact rfl))
    | refine w_isiV (t := 0) rfl rfl ?_
    | refine w_isiV (t := 4) rfl rfl ?_
    | with_reducible refine w_sl ?_
    | with_reducible refine w_aStarT ?_
    | with_reducible refine w_oN ?_
    | with_reducible refine w_oS ?_
    | with_reducible refine w_int1 ?_
    | refine w_getT (i := 0) rfl rfl ?_
    | refine w_getT (i := 1) rfl rfl ?_)
variable {F : Nat → Option Df} {n : Nat} {st : St} {Q : PV → St → Prop} {I O : Nat} {m : List Row} {p : Nat}
theorem SrvAt.met {a : Nat} {l : List Int} (h : SrvAt st a l) : metV 5 ((1, 17) :: ((2, 21) :: [])) (.ref a) st = some 17 := by
  obtain ⟨b, w, h1, _⟩ := h.ex
  exact metV_at h1 rfl rfl
theorem QuaAt.met {a : Nat} {u v : List Nat} (h : QuaAt st a u v) : metV 5 ((1, 17) :: ((2, 21) :: [])) (.ref a) st = some 21 := by
  obtain ⟨b, _, w, _, h1, _⟩ := h.ex
  exact metV_at h1 rfl rfl
theorem Fin'.shw (G : Gm I O m) {l : List Int} (h : Fin' I m l) (g : Good I m) : Shw I m l := by
  obtain ⟨c, h1, h2, h3, h4⟩ := h.ex
  exact Shw.mk' G h1 g h2 h.len h3 h4
theorem Fin'.al (G : Gm I O m) {l : List Int} (h : Fin' I m l) {a b : Nat} (ha : Rch I m a) (hb : Rch I m b) : l.getD a 0 = l.getD b 0 ↔ Al I m a b := by
  obtain ⟨c, h1, h2, h3, h4⟩ := h.ex
  rw [h3 a (ha.lt G) ha, h3 b (hb.lt G) hb]
  exact h1 a b ha hb
theorem Fin'.m1 (G : Gm I O m) {l : List Int} (h : Fin' I m l) {a : Nat} (ha : a < m.length) : l.getD a 0 = -1 ↔ ¬ Rch I m a := by
  obtain ⟨c, h1, h2, h3, h4⟩ := h.ex
  by_cases r : Rch I m a
  · rw [h3 a ha r]; have := h2 a r; exact ⟨fun e => by omega, fun e => absurd r e⟩
  · rw [h4 a ha r]; exact ⟨fun _ => r, fun _ => rfl⟩
theorem vI_at {l : List Int} {i : Nat} (h : i < l.length) : (vI l)[i]? = some (.int (l.getD i 0)) := by
  unfold vI
  rw [List.getElem?_map, List.getD_eq_getElem?_getD, List.getElem?_eq_getElem h]
  rfl
structure Lc (I O : Nat) (m : List Row) (p ps a b ar wb wr : Nat) (l : List Int) (rs : List Nat) (st : St) : Prop where
  M : MachAt st p I O m
  S : StsAt st ps m
  V : SrvAt st a l
  L : At st b (.lst wb (vI l))
  A : At st ar (.lst wr (vN rs))
theorem Lc.k {ps a b ar wb wr : Nat} {l : List Int} {rs : List Nat} {s s' : St} (h : Lc I O m p ps a b ar wb wr l rs s) (k : Kp s s') : Lc I O m p ps a b ar wb wr l rs s' := ⟨h.M.k k, h.S.k k, h.V.k k, h.L.k k, h.A.k k⟩
theorem any_false {l : List Bool} (h : ∀ b ∈ l, b = false) : l.any id = false := by
  rw [List.any_eq_false]
  intro b hb
  rw [h b hb]
  simp
theorem w_lenSts {L : List (Nat × Nat)} {r : Ev} (S : StsAt st p m) (q : Q (.int (m.length : Nat)) st) : Wp (lenB' L r [.ref p] st) Q := by
  obtain ⟨w, as, h1, h2, _⟩ := S.ex
  exact w_lenS (seqV_at h1) (by rw [h2]; exact q)
variable (T : Tbl F)
include T
theorem s_lcend {fr : Fr} {N : Fr → St → Prop} (h0 : nth fr 0 = some (some (.ref p))) (G : Gm I O m) (M : MachAt st p I O m) (q : ∀ st', Q (.bl true) st') : Wf (s_ret (e_not BL (e_meth (e_make 2 18 (aCons (e_lst aNil) (aCons (e_lst aNil) aNil))) 5 ((1, 17) :: ((2, 21) :: [])) (aCons (e_var 0) aNil))) (ev F (n + 4)) fr st) N Q := by
  refine w_ret (w_not (w_meth (w_make (w_aCons (w_lst (w_aNil ⟨rfl, fun s1 k1 a1 => w_aCons (w_lst (w_aNil ⟨rfl, fun s2 k2 a2 => w_aNil ?_⟩))⟩))))))
  refine s_mkQ T (u := []) (v := []) (.inr ⟨_, _, rfl, a1.k k2⟩) (.inr ⟨_, _, rfl, a2⟩) fun s3 k3 h3 => ?_
  refine ⟨21, h3.met, w_aCons (w_var h0 (w_aNil ?_))⟩
  refine s_qshow T G (M.k (k1.trans (k2.trans k3))) h3 (by simp) fun t s4 k4 ht => ?_
  have tf : t = false := by
    cases t with
    | false => rfl
    | true => exact absurd rfl (ht.mp rfl).2.2
  subst tf
  exact w_truB (q _)
theorem s_lclasses {ps a ar wr : Nat} {l : List Int} {rs : List Nat} (G : Gm I O m) (M : MachAt st p I O m) (S : StsAt st ps m) (V : SrvAt st a l) (A : At st ar (.lst wr (vN rs))) (R : Rs I m rs) (g : Good I m) (fl : Fin' I m l) (q : ∀ st', Q (.bl true) st') : Wp (ev F (n + 5) (.fn 34) [.ref p, .ref a, .ref ps, .ref ar] st) Q := by
  have h60 := G.n60
  have hn1 := G.n1
  have hll := fl.len
  have hrl : rs.length ≤ m.length := nodup_lt R.nd fun x hx => ((R.mem x).mp hx).lt G
  obtain ⟨b, wb, g1, L⟩ := V.ex
  have B : Lc I O m p ps a b ar wb wr l rs st := ⟨M, S, V, L, A⟩
  clear M S V L A
  have hvl : (vI l).length = m.length := by simp [vI, hll]
  refine w_fn T.f34 rfl ?_
  dsimp only [frame, nones, Nat.reduceSub]
  repeat infer_instance
  refine w_lenS (seqV_at B.L) ?_
  repeat infer_instance
  refine w_lenSts B.S ?_
  rw [hvl]
  repeat infer_instance
  refine ⟨fun c => by simp at c, fun _ => ?_⟩
  repeat infer_instance
  refine w_lenSts B.S ?_
  refine ⟨m.length, rfl, by omega, ?_⟩
  refine w_lcF (res := ((List.range m.length).map fun _ => false).map PV.bl) (by simp [rgN]) (fun _ _ => rfl) (fun i v s1 hv k1 => ?_) (fun s1 k1 => ?_)
  · obtain ⟨hi, rfl⟩ := rgN_get hv
    repeat infer_instance
    refine w_getL (i := i) (B.k k1).L (vI_at (by omega)) rfl ?_
    repeat infer_instance
    refine w_inL (k := 11) (e := fun i : Nat => PV.int i) re_nat rfl re_nat (B.k k1).A ?_
    repeat infer_instance
    refine ⟨.refl, ?_⟩
    rw [List.getElem?_map, List.getElem?_map, List.getElem?_range hi]
    have hm := fl.m1 G hi
    have e : (decide (l.getD i 0 = -1) == (if false = true then !decide (i ∈ rs) else decide (i ∈ rs))) = false := by
      by_cases r : Rch I m i
      · have h1 : ¬ l.getD i 0 = -1 := fun e => hm.mp e r
        have h2 : i ∈ rs := (R.mem i).mpr r
        rw [decide_eq_false h1, decide_eq_true h2]
        rfl
      · have h1 : l.getD i 0 = -1 := hm.mpr r
        have h2 : i ∉ rs := fun h => r ((R.mem i).mp h)
        rw [decide_eq_true h1, decide_eq_false h2]
        rfl
    exact congrArg (fun x => some (PV.bl x)) e.symm
  refine ⟨okL (by simp; omega), fun s2 k2 a2 => ?_⟩
  repeat infer_instance
  refine w_any1 a2 ?_
  rw [any_false (by simp)]
  repeat infer_instance
  refine ⟨nofun, fun _ => ?_⟩
  have B := B.k (k1.trans k2)
  repeat infer_instance
  refine w_anyL B.A ?_
  refine w_forL (I := fun i fr s => Lc I O m p ps a b ar wb wr l rs s ∧ ∃ x5 x6 x7 x8, fr = [some (.ref p), some (.ref a), some (.ref ps), some (.ref ar), some (.ref b), x5, x6, x7, x8]) ⟨B, _, _, _, _, rfl⟩ (fun _ _ s ⟨B, _⟩ => gd_lst B.A rfl) (fun i v fr s1 hv ⟨B, x5, x6, x7, x8, e⟩ => ?_) (fun fr s1 ⟨B, x5, x6, x7, x8, e⟩ => ?_)
  · subst e
    obtain ⟨x, e1, rfl⟩ := vN_get hv
    have hx := (R.mem x).mp (List.mem_of_getElem? e1)
    repeat infer_instance
    refine w_anyL B.A ?_
    refine w_forL (I := fun i fr s => Lc I O m p ps a b ar wb wr l rs s ∧ ∃ x6 x7 x8, fr = [some (.ref p), some (.ref a), some (.ref ps), some (.ref ar), some (.ref b), some (.int x), x6, x7, x8]) ⟨B, _, _, _, rfl⟩ (fun _ _ s ⟨B, _⟩ => gd_lst B.A rfl) (fun i v fr s1 hv ⟨B, x6, x7, x8, e⟩ => ?_) (fun fr s1 ⟨B, x6, x7, x8, e⟩ => ?_)
    · subst e
      obtain ⟨y, e2, rfl⟩ := vN_get hv
      have hy := (R.mem y).mp (List.mem_of_getElem? e2)
      have hxl := hx.lt G
      have hyl := hy.lt G
      repeat infer_instance
      refine w_getL (i := x) B.L (vI_at (by omega)) rfl ?_
      repeat infer_instance
      refine w_getL (i := y) B.L (vI_at (by omega)) rfl ?_
      repeat infer_instance
      refine ⟨fun c => ?_, fun c => ?_⟩
      · have c := (fl.al G hx hy).mp (of_decide_eq_true c)
        repeat infer_instance
        refine s_lalike T G B.S hxl hyl fun d s9 k9 hd => ?_
        rw [hd.mpr c]
        repeat infer_instance
        refine ⟨nofun, fun _ => ?_⟩
        repeat infer_instance
        exact ⟨B.k k9, _, _, _, rfl⟩
      · refine ⟨nofun, fun _ => ?_⟩
        repeat infer_instance
        exact ⟨B, _, _, _, rfl⟩
    · subst e
      exact ⟨B, _, _, _, _, rfl⟩
  subst e
  repeat infer_instance
  refine s_lfine T G B.S B.A R fun b7 w7 l7 s2 k2 a7 f7 => ?_
  have B := B.k k2
  have hl7 := f7.len
  -- fine numbers show
  repeat infer_instance
  refine s_mkS T (.inr ⟨_, _, rfl, a7⟩) fun s3 k3 h3 => ?_
  refine ⟨17, h3.met, ?_⟩
  repeat infer_instance
  refine s_sshow T G (B.k k3).M h3 (by omega) fun t s4 k4 ht => ?_
  rw [ht.mpr (f7.shw G g)]
  repeat infer_instance
  refine ⟨nofun, fun _ => ?_⟩
  have B := B.k (k3.trans k4)
  have a7 := a7.k (k3.trans k4)
  -- its own show
  repeat infer_instance
  refine w_tup1 (seqV_at B.L) ?_
  repeat infer_instance
  refine s_mkS T (.inl rfl) fun s5 k5 h5 => ?_
  refine ⟨17, h5.met, ?_⟩
  repeat infer_instance
  refine s_sshow T G (B.k k5).M h5 (by omega) fun t s6 k6 ht => ?_
  rw [ht.mpr (fl.shw G g)]
  repeat infer_instance
  refine ⟨nofun, fun _ => ?_⟩
  have B := B.k (k5.trans k6)
  have a7 := a7.k (k5.trans k6)
  -- one more
  repeat infer_instance
  intro s7 k7 a8
  repeat infer_instance
  refine w_addL (B.k k7).L a8 (okL (by simp [vI]; omega)) fun s8 k8 a9 => ?_
  repeat infer_instance
  have B := B.k (k7.trans k8)
  have a7 := a7.k (k7.trans k8)
  rw [show vI l ++ [PV.int 0] = vI (l ++ [0]) by simp [vI]] at a9
  refine s_mkS T (.inr ⟨_, _, rfl, a9⟩) fun s9 k9 h9 => ?_
  refine ⟨17, h9.met, ?_⟩
  repeat infer_instance
  refine s_sshow T G (B.k k9).M h9 (by simp; omega) fun t s10 k10 ht => ?_
  have tf : t = false := by
    cases t with
    | false => rfl
    | true =>
      have := (ht.mp rfl).len
      simp at this
      omega
  subst tf
  repeat infer_instance
  refine ⟨nofun, fun _ => ?_⟩
  have B := B.k (k9.trans k10)
  have a7 := a7.k (k9.trans k10)
  -- the same again
  repeat infer_instance
  refine w_tup1 (seqV_at B.L) ?_
  repeat infer_instance
  refine s_mkS T (.inl rfl) fun s11 k11 h11 => ?_
  have B := B.k k11
  have a7 := a7.k k11
  repeat infer_instance
  obtain ⟨_, _, i1, _⟩ := h11.ex
  obtain ⟨_, _, i2, _⟩ := B.V.ex
  refine w_neO i1 i2 rfl rfl ?_
  refine s_seqS T h11 B.V ⟨_, rfl, ?_⟩
  rw [decide_eq_true rfl]
  repeat infer_instance
  refine ⟨nofun, fun _ => ?_⟩
  -- a changed first one
  repeat infer_instance
  intro s12 k12 a12
  have B := B.k k12
  have a7 := a7.k k12
  repeat infer_instance
  refine ⟨1, rfl, ?_⟩
  refine w_slL B.L fun s13 k13 a13 => ?_
  rw [show ((1 : Int)) = ((1 : Nat) : Int) from rfl, cut_from _ _ (by rw [hvl]; omega)] at a13
  have B := B.k k13
  have a7 := a7.k k13
  repeat infer_instance
  refine w_addL (a12.k k13) a13 (okL (by simp [vI]; omega)) fun s14 k14 a14 => ?_
  have B := B.k k14
  have a7 := a7.k k14
  repeat infer_instance
  rw [show [PV.int (-1)] ++ (vI l).drop 1 = vI (-1 :: l.drop 1) by simp [vI]] at a14
  refine s_mkS T (.inr ⟨_, _, rfl, a14⟩) fun s15 k15 h15 => ?_
  refine ⟨17, h15.met, ?_⟩
  repeat infer_instance
  refine s_sshow T G (B.k k15).M h15 (by simp; omega) fun t s16 k16 ht => ?_
  have tf : t = false := by
    cases t with
    | false => rfl
    | true => exact absurd .z (((ht.mp rfl).m1 0 (by omega)).mp rfl)
  subst tf
  repeat infer_instance
  refine ⟨nofun, fun _ => ?_⟩
  have B := B.k (k15.trans k16)
  have a7 := a7.k (k15.trans k16)
  -- one less
  repeat infer_instance
  refine ⟨-1, rfl, ?_⟩
  refine w_slL B.L fun s17 k17 a17 => ?_
  rw [cut_last, hvl] at a17
  have B := B.k k17
  have a7 := a7.k k17
  repeat infer_instance
  rw [show (vI l).take (m.length - 1) = vI (l.take (m.length - 1)) by simp [vI]] at a17
  refine s_mkS T (.inr ⟨_, _, rfl, a17⟩) fun s18 k18 h18 => ?_
  refine ⟨17, h18.met, ?_⟩
  repeat infer_instance
  refine s_sshow T G (B.k k18).M h18 (by simp; omega) fun t s19 k19 ht => ?_
  have tf : t = false := by
    cases t with
    | false => rfl
    | true =>
      have := (ht.mp rfl).len
      simp at this
      omega
  subst tf
  repeat infer_instance
  refine ⟨nofun, fun _ => ?_⟩
  have B := B.k (k18.trans k19)
  have a7 := a7.k (k18.trans k19)
  -- others
  dsimp only [setNth]
  repeat infer_instance
  refine w_anyL B.A ?_
  refine w_lcL (I := fun i ys s => Kp s19 s ∧ ∃ ls : List Nat, ys = vN ls ∧ ls.length ≤ i ∧ ∀ t ∈ ls, Rch I m t ∧ ¬ Al I m t 0) ⟨.refl, [], rfl, Nat.le_refl _, nofun⟩ (fun _ _ s ⟨k, _⟩ => gd_lst (B.k k).A rfl) (fun i v ys s hv ⟨k, ls, e, hl, hI⟩ => ?_) (fun ys s ⟨k, ls, e, hl, hI⟩ => ?_)
  · subst e
    obtain ⟨x, e1, rfl⟩ := vN_get hv
    have hx := (R.mem x).mp (List.mem_of_getElem? e1)
    repeat infer_instance
    refine s_lalike T G (B.k k).S (hx.lt G) (show 0 < m.length by omega) fun d s9 k9 hd => ?_
    repeat infer_instance
    refine ⟨fun c => ?_, fun c => ⟨k.trans k9, ls, rfl, by omega, hI⟩⟩
    repeat infer_instance
    refine ⟨k.trans k9, ls ++ [x], by simp [vN], by simp; omega, fun t ht => ?_⟩
    rcases List.mem_append.mp ht with h | h
    · exact hI t h
    · rw [List.mem_singleton.mp h]
      exact ⟨hx, fun h => by rw [hd.mpr h] at c; cases c⟩
  subst e
  have hl : ls.length ≤ (vN rs).length := hl
  rw [show (vN rs).length = rs.length by simp [vN]] at hl
  refine ⟨okL (by simp [vN]; omega), fun s20 k20 a20 => ?_⟩
  have B := B.k (k.trans k20)
  have a7 := a7.k (k.trans k20)
  repeat infer_instance
  intro s21 k21 a21
  have B := B.k k21
  have a7 := a7.k k21
  have a20 := a20.k k21
  refine w_neLs (k := 11) (y := ([] : List Nat)) re_nat rfl a20 a21 ?_
  repeat infer_instance
  refine ⟨fun c => ?_, fun c => ?_⟩
  · have c : ls ≠ [] := by simpa using c
    obtain ⟨o, ls, rfl⟩ : ∃ o r, ls = o :: r := by
      cases ls with
      | nil => exact absurd rfl c
      | cons o r => exact ⟨o, r, rfl⟩
    obtain ⟨ho, hno⟩ := hI o List.mem_cons_self
    have hol := ho.lt G
    have e0 : (vN (o :: ls))[0]? = some (.int (o : Nat)) := rfl
    repeat infer_instance
    refine w_lenSts B.S ?_
    refine ⟨m.length, rfl, by omega, ?_⟩
    generalize hl' : ((List.range m.length).map fun i => if i = o then l7.getD 0 0 else l7.getD i 0) = l'
    have hll' : l'.length = m.length := by rw [← hl']; simp
    have hg' : ∀ i, i < m.length → l'.getD i 0 = if i = o then l7.getD 0 0 else l7.getD i 0 := fun i hi => by
      rw [← hl', List.getD_eq_getElem?_getD, List.getElem?_map, List.getElem?_range hi]
      rfl
    refine w_lcF (res := vI l') (by simp [vI, rgN, hll']) (fun _ _ => rfl) (fun i v s22 hv k22 => ?_) (fun s22 k22 => ?_)
    · obtain ⟨hi, rfl⟩ := rgN_get hv
      have a7 := a7.k k22
      have a20 := a20.k k22
      have ev := hg' i hi
      have key : ∀ x : Int, x = l'.getD i 0 → Kp s22 s22 ∧ (vI l')[i]? = some (PV.int x) := fun x hx => ⟨.refl, by rw [hx]; exact vI_at (by omega)⟩
      repeat infer_instance
      refine w_getL (i := 0) a20 e0 rfl ?_
      repeat infer_instance
      refine ⟨fun c => ?_, fun c => ?_⟩
      · have c : i = o := by have := of_decide_eq_true c; omega
        repeat infer_instance
        refine w_getL (i := 0) a7 (vI_at (by omega)) rfl ?_
        exact key _ (by rw [ev, if_pos c])
      · have c : i ≠ o := by have := of_decide_eq_false c; omega
        repeat infer_instance
        refine w_getL (i := i) a7 (vI_at (by omega)) rfl ?_
        exact key _ (by rw [ev, if_neg c])
    · refine ⟨okL (by simp [vI]; omega), fun s23 k23 a23 => ?_⟩
      have B := B.k (k22.trans k23)
      repeat infer_instance
      refine s_mkS T (.inr ⟨_, _, rfl, a23⟩) fun s24 k24 h24 => ?_
      refine ⟨17, h24.met, ?_⟩
      repeat infer_instance
      refine s_sshow T G (B.k k24).M h24 (by omega) fun t s25 k25 ht => ?_
      have tf : t = false := by
        cases t with
        | false => rfl
        | true =>
          have h := (ht.mp rfl).cl
          refine absurd (h.al ho .z ?_) hno
          show l'.getD o 0 = l'.getD 0 0
          rw [hg' o hol, if_pos rfl, hg' 0 (by omega)]
          split
          · rfl
          · rfl
      subst tf
      repeat infer_instance
      refine ⟨nofun, fun _ => ?_⟩
      refine w_nil ?_
      exact s_lcend T rfl G (B.k (k24.trans k25)).M q
  · refine ⟨nofun, fun _ => ?_⟩
    refine w_nil ?_
    exact s_lcend T rfl G B.M q
end YL
end
section
set_option linter.all false
set_option maxRecDepth 100000
set_option maxHeartbeats 1000000
/-! S8: k21's plain law: the law. [d2] -/
namespace YL
open Y
local macro_rules
  | `(tactic| infer_instance) => `(tactic| first
    | with_reducible refine w_seq ?_
    | with_reducible refine w_asg ?_
    | with_reducible refine w_ret ?_
    | with_reducible refine w_if ?_
    | with_reducible refine w_ex ?_
    | with_reducible refine w_par2 ?_
    | with_reducible refine w_par3 ?_
    | with_reducible refine w_nil ?_
    | with_reducible refine w_for ?_
    | ((with_reducible apply w_var); (exact rfl))
    | with_reducible refine w_cst ?_
    | with_reducible refine w_aNil ?_
    | with_reducible refine w_aCons ?_
    | with_reducible refine w_bin ?_
    | with_reducible refine w_and ?_
    | with_reducible refine w_not ?_
    | with_reducible refine w_isi ?_
    | with_reducible refine w_call ?_
    | with_reducible refine w_sub ?_
    | with_reducible refine w_biR ?_
    | with_reducible refine w_cmp ?_
    | with_reducible refine w_attr ?_
    | with_reducible refine w_tup ?_
    | with_reducible refine w_lst ?_
    | with_reducible refine w_dct1 ?_
    | with_reducible refine w_lm ?_
    | with_reducible refine w_dm ?_
    | with_reducible refine w_in ?_
    | with_reducible refine w_ife ?_
    | with_reducible refine w_neg ?_
    | with_reducible refine w_negI ?_
    | with_reducible refine w_make ?_
    | with_reducible refine w_meth ?_
    | with_reducible refine w_val ?_
    | with_reducible refine w_bnot ?_
    | with_reducible refine w_bor ?_
    | with_reducible refine w_band ?_
    | with_reducible refine w_bcmp ?_
    | with_reducible refine w_bin2 ?_
    | with_reducible refine w_bchain ?_
    | with_reducible refine w_chain ?_
    | with_reducible refine w_bT ?_
    | with_reducible refine w_tv ?_
    | ((with_reducible refine w_ttup ?_ ?_); exact rfl)
    | with_reducible refine w_tsCons ?_
    | with_reducible refine w_tsNil ?_
    | with_reducible refine w_tattr ?_
    | with_reducible refine w_tsub ?_
    | with_reducible refine w_iany ?_
    | with_reducible refine w_ivals ?_
    | with_reducible refine w_iitems ?_
    | with_reducible refine w_rng1 ?_
    | with_reducible refine w_enum ?_
    | with_reducible refine w_zip2 ?_
    | with_reducible refine w_lstRg1 ?_
    | with_reducible refine w_on1 ?_
    | with_reducible refine w_truB ?_
    | with_reducible refine w_lc ?_
    | with_reducible refine w_dc ?_
    | with_reducible refine w_eqI ?_
    | with_reducible refine w_neI ?_
    | with_reducible refine w_neT ?_
    | with_reducible refine w_eqT ?_
    | with_reducible refine w_eqB ?_
    | with_reducible refine w_neB ?_
    | with_reducible refine w_lt ?_
    | with_reducible refine w_le ?_
    | with_reducible refine w_ge ?_
    | with_reducible refine w_addI ?_
    | with_reducible refine w_subI ?_
    | with_reducible refine blQ.mk ?_
    | with_reducible refine w_anyT ?_
    | with_reducible refine w_anyC ?_
    | refine And.intro (show okLen _ = true from rfl) ?_
    | (refine And.intro (isLst_at ?_) ?_; (assumption))
    | ((with_reducible apply w_fld); (assumption); (exact rfl); (exact rfl))
    | refine w_isiV (t := 0) rfl rfl ?_
    | refine w_isiV (t := 4) rfl rfl ?_
    | with_reducible refine w_sl ?_
    | with_reducible refine w_aStarT ?_
    | with_reducible refine w_oN ?_
    | with_reducible refine w_oS ?_
    | with_reducible refine w_int1 ?_
    | refine w_getT (i := 0) rfl rfl ?_
    | refine w_getT (i := 1) rfl rfl ?_)
variable {F : Nat → Option Df} {n : Nat} {st : St} {Q : PV → St → Prop} {I O : Nat} {m : List Row} {p : Nat}
structure Found (I O : Nat) (m : List Row) (st : St) (a : Nat) (c : Bool) : Prop where
  ex : (c = true ∧ ∃ l, SrvAt st a l ∧ Fin' I m l) ∨ (c = false ∧ ∃ u v, QuaAt st a u v ∧ Qok I O m u v)
theorem Found.k {a : Nat} {c : Bool} {s s' : St} (h : Found I O m s a c) (k : Kp s s') : Found I O m s' a c := by
  rcases h.ex with ⟨e, l, h1, h2⟩ | ⟨e, u, v, h1, h2⟩
  · exact ⟨.inl ⟨e, l, h1.k k, h2⟩⟩
  · exact ⟨.inr ⟨e, u, v, h1.k k, h2⟩⟩
theorem sort_nat (w : List Nat) : ∃ w' : List Nat, sortI (w.map fun i : Nat => (i : Int)) = w'.map (fun i : Nat => (i : Int)) ∧ w.Perm w' := by
  have h := sortI_perm (w.map fun i : Nat => (i : Int))
  refine ⟨(sortI (w.map fun i : Nat => (i : Int))).map Int.toNat, ?_, ?_⟩
  · have key : ∀ l : List Int, (∀ x ∈ l, ∃ i : Nat, x = i) → l = (l.map Int.toNat).map fun i : Nat => (i : Int) := by
      intro l
      induction l with
      | nil => intro _; rfl
      | cons x l ih =>
        intro hx
        obtain ⟨i, rfl⟩ := hx x List.mem_cons_self
        rw [List.map_cons, List.map_cons, ← ih fun y hy => hx y (List.mem_cons_of_mem _ hy)]
        rfl
    refine key _ fun x hx => ?_
    obtain ⟨i, _, rfl⟩ := List.mem_map.mp (h.mem_iff.mp hx)
    exact ⟨i, rfl⟩
  · have h2 := h.symm.map Int.toNat
    simpa [List.map_map, Function.comp_def] using h2
variable (T : Tbl F)
include T
theorem s_mkM {Z : St → Prop} {v : PV} (G : Gm I O m) (P : Pos m) (V : StsW st v m) (q : ∀ st', Kp st st' → MachAt st' st.n I O m → Z st') : Wp (ev F (n + 4) (.fn 3) [.ref st.n, .int I, .int O, v] (st.new (.ins 0 []))) fun v st' => v = .non ∧ Z st' :=
  s_init T (s0 := st) G P kp_new (Nat.le_refl _) at_new (V.k kp_new) fun st' k M => ⟨rfl, q st' k M⟩
theorem s_found {c : Bool} (G : Gm I O m) (M : MachAt st p I O m) (hg : c = true ↔ Good I m) (q : ∀ a st', Kp st st' → Found I O m st' a c → Q (.ref a) st') : Wp (ev F (n + 4) (.fn 26) [.ref p] st) Q := by
  refine s_judge T G M (fun g a l st' k h f => q a st' k ⟨.inl ⟨hg.mpr g, l, h, f⟩⟩) (fun g a u v st' k h f => q a st' k ⟨.inr ⟨?_, u, v, h, f⟩⟩)
  cases c with
  | false => rfl
  | true => exact absurd (hg.mp rfl) g
theorem s_fbool {a : Nat} {c : Bool} (h : Found I O m st a c) (q : Q (.bl c) st) : Wp (on1 (boolX BL (ev F (n + 1))) [.ref a] st) Q := by
  show Wp ((truX BL (ev F (n + 1)) (.ref a) st).bind fun c st => .ok (.bl c) st) Q
  refine .bind ?_
  rcases h.ex with ⟨rfl, l, h1, h2⟩ | ⟨rfl, u, v, h1, h2⟩
  · obtain ⟨b, w, g1, _⟩ := h1.ex
    exact w_truO g1 rfl (s_sbool T (blQ.mk q))
  · obtain ⟨b, _, w, _, g1, _⟩ := h1.ex
    exact w_truO g1 rfl (s_qbool T (blQ.mk q))
omit T in
theorem s_fisi {a : Nat} {c : Bool} (h : Found I O m st a c) : ∃ t, tyCode IL st (.ref a) = some t ∧ isiAny IS t (101 :: []) = some c := by
  rcases h.ex with ⟨rfl, l, h1, h2⟩ | ⟨rfl, u, v, h1, h2⟩
  · obtain ⟨b, w, g1, _⟩ := h1.ex
    exact ⟨_, ty_ins g1 rfl, rfl⟩
  · obtain ⟨b, _, w, _, g1, _⟩ := h1.ex
    exact ⟨_, ty_ins g1 rfl, rfl⟩
theorem s_fshow {a : Nat} {c : Bool} (G : Gm I O m) (M : MachAt st p I O m) (hg : c = true ↔ Good I m) (h : Found I O m st a c) : ∃ i, metV 5 ((1, 17) :: ((2, 21) :: [])) (.ref a) st = some i ∧ ∀ Q : PV → St → Prop, (∀ st', Kp st st' → Q (.bl true) st') → Wp (ev F (n + 4) (.fn i) [.ref a, .ref p] st) Q := by
  have h60 := G.n60
  rcases h.ex with ⟨rfl, l, h1, h2⟩ | ⟨rfl, u, v, h1, h2⟩
  · refine ⟨17, h1.met, fun Q q => s_sshow T G M h1 (by rw [h2.len]; omega) fun t st' k ht => ?_⟩
    rw [ht.mpr (h2.shw G (hg.mp rfl))]
    exact q st' k
  · have := h2.lu
    have := h2.lv
    refine ⟨21, h1.met, fun Q q => s_qshow T G M h1 (by omega) fun t st' k ht => ?_⟩
    rw [ht.mpr ⟨fun i hi => by rcases List.mem_append.mp hi with h | h; exact h2.hu i h; exact h2.hv i h, h2.pm, h2.ne⟩]
    exact q st' k
omit T in
structure Lb (I O : Nat) (m : List Row) (p ps aw ww : Nat) (w : List Nat) (st : St) : Prop where
  M : MachAt st p I O m
  S : StsAt st ps m
  W : At st aw (.lst ww (vN w))
omit T in
theorem Lb.k {ps aw ww : Nat} {w : List Nat} {s s' : St} (h : Lb I O m p ps aw ww w s) (k : Kp s s') : Lb I O m p ps aw ww w s' := ⟨h.M.k k, h.S.k k, h.W.k k⟩
omit T in
theorem StsAt.cls (S : StsAt st p m) : clsAt st (.ref p) = none := by
  obtain ⟨w, as, h1, _⟩ := S.ex
  exact cls_lst h1
theorem s_law {ns : List Int} (q : ∀ st', Q (.bl true) st') : Wp (ev F (n + 6) (.fn 35) [.cl (vI ns)] st) Q := by
  refine w_fn T.f35 rfl ?_
  dsimp only [frame, nones, Nat.reduceSub]
  repeat infer_instance
  refine s_lmach T fun I O m ps s1 G P S => ?_
  have h60 := G.n60
  have hi4 := G.i4
  have ho4 := G.o4
  have hi1 := G.i1
  have ho1 := G.o1
  have hn1 := G.n1
  obtain ⟨ws, as, hS, hal, har⟩ := S.ex
  repeat infer_instance
  refine w_anyL hS ?_
  refine w_lcM (P := fun (i : Nat) (y : PV) (s : St) => ∀ row, m[i]? = some row → y = .tup (row.map sPV)) (fun _ _ _ _ _ h => h) (fun s k => gd_lst (hS.k k) rfl) (fun i v s2 hv k2 => ?_) (fun ys s2 k2 hyl hys => ?_)
  · have hi : i < m.length := by rw [← hal]; exact (List.getElem?_eq_some_iff.mp hv).1
    obtain ⟨a, e1, b, wb, e2, hb⟩ := har i m[i] (List.getElem?_eq_getElem hi)
    rw [hv] at e1
    cases e1
    subst e2
    repeat infer_instance
    refine w_tup1 (seqV_at (hb.k k2)) ?_
    refine ⟨.refl, fun row e => ?_⟩
    rw [List.getElem?_eq_getElem hi] at e
    cases e
    rfl
  have hyl : ys.length = as.length := hyl
  refine ⟨okL (by omega), fun s3 k3 a3 => ?_⟩
  repeat infer_instance
  refine w_tup1 (seqV_at a3) ?_
  repeat infer_instance
  have V : StsW s3 (.tup ys) m := ⟨ys, .inl rfl, by omega, fun i row e => by
    have hi : i < ys.length := by have := (List.getElem?_eq_some_iff.mp e).1; omega
    exact ⟨ys[i], List.getElem?_eq_getElem hi, .inl (hys i _ (List.getElem?_eq_getElem hi) row e)⟩⟩
  refine s_mkM T G P V fun s4 k4 M => ?_
  have S := S.k (k2.trans (k3.trans k4))
  generalize s3.n = p at M
  repeat infer_instance
  refine s_lserves T G S fun c s5 k5 hg => ?_
  have S := S.k k5
  have M := M.k k5
  obtain ⟨sa, hm, S2⟩ := M.ex
  try dsimp only [setNth]
  repeat infer_instance
  refine w_ne S2.cls S2.rd S.rd ?_
  rw [decide_eq_true rfl]
  repeat infer_instance
  refine ⟨nofun, fun _ => ?_⟩
  repeat infer_instance
  refine w_lenO hm rfl ?_
  refine s_len T M ⟨m.length, rfl, by show m.length ≤ 16777216; omega, ?_⟩
  repeat infer_instance
  refine w_lenSts S ?_
  repeat infer_instance
  refine ⟨fun c => by simp at c, fun _ => ?_⟩
  repeat infer_instance
  refine s_mkM T G P S.w fun s6 k6 M6 => ?_
  have S := S.k k6
  have M := M.k k6
  repeat infer_instance
  obtain ⟨_, i1, _⟩ := M.ex
  obtain ⟨_, i2, _⟩ := M6.ex
  refine w_neO i1 i2 rfl rfl ?_
  refine s_meq T M M6 ⟨true, rfl, ?_⟩
  repeat infer_instance
  refine ⟨nofun, fun _ => ?_⟩
  repeat infer_instance
  refine s_draw T (by decide) fun wl s7 hwl k7 => ?_
  refine ⟨wl, rfl, by omega, ?_⟩
  refine w_lcM (P := fun (i : Nat) (y : PV) (s : St) => ∃ x : Nat, y = .int x ∧ x < I) (fun _ _ _ _ _ h => h) (fun s k => rfl) (fun i v s8 hv k8 => ?_) (fun ys s8 k8 hyl hys => ?_)
  · obtain ⟨hi, rfl⟩ := rgN_get hv
    repeat infer_instance
    exact s_draw T (by omega) fun d s9 hd k9 => ⟨k9, d, rfl, by omega⟩
  obtain ⟨w, hw1, hw2⟩ := choose_list (β := Nat) ys.length (fun i x => ys[i]? = some (.int x) ∧ x < I) fun i hi => by
    obtain ⟨x, e, h⟩ := hys i _ (List.getElem?_eq_getElem hi)
    exact ⟨x, by rw [List.getElem?_eq_getElem hi, e], h⟩
  have hw : ∀ i ∈ w, i < I := fun i hi => by
    obtain ⟨j, hj, e⟩ := List.mem_iff_getElem.mp hi
    exact (hw2 j i (by rw [List.getElem?_eq_getElem hj, e])).2
  have ey : ys = vN w := List.ext_getElem? fun i => by
    unfold vN
    rw [List.getElem?_map]
    cases e : w[i]? with
    | some x => exact (hw2 i x e).1
    | none => exact List.getElem?_eq_none (by have := List.getElem?_eq_none_iff.mp e; omega)
  subst ey
  have hwlen : w.length ≤ 12 := by
    have h : (vN w).length = wl := hyl.trans rgN_len
    simp [vN] at h
    omega
  refine ⟨okL (by simp [vN]; omega), fun s9 k9 a9 => ?_⟩
  have B : Lb I O m p ps s8.n 0 w s9 := ⟨M.k (k7.trans (k8.trans k9)), S.k (k7.trans (k8.trans k9)), a9⟩
  generalize s8.n = aw at B a9
  clear a9
  try dsimp only [setNth]
  repeat infer_instance
  refine s_lfed T G B.S (.inr ⟨_, _, rfl, B.W⟩) hw hn1 fun s10 k10 => ?_
  have B := B.k k10
  repeat infer_instance
  refine s_fed T G B.M (.inr ⟨_, _, rfl, B.W⟩) hw fun s11 k11 => ?_
  have B := B.k k11
  repeat infer_instance
  refine ⟨fun c => by simp at c, fun _ => ?_⟩
  repeat infer_instance
  refine w_tup1 (seqV_at B.W) ?_
  repeat infer_instance
  refine s_after T G B.M (.inl rfl) hw fun s12 k12 => ?_
  have B := B.k k12
  repeat infer_instance
  refine ⟨fun c => by simp at c, fun _ => ?_⟩
  try dsimp only [setNth]
  repeat infer_instance
  refine s_found T G B.M hg fun af s13 k13 hf => ?_
  have B := B.k k13
  repeat infer_instance
  refine s_lreach T G B.S fun ar wr rs s14 k14 A R => ?_
  have B := B.k k14
  have hf := hf.k k14
  try dsimp only [setNth]
  repeat infer_instance
  refine s_fbool T hf ?_
  repeat infer_instance
  refine ⟨fun e => by simp at e, fun _ => ?_⟩
  obtain ⟨ft, ft1, ft2⟩ := s_fisi hf
  repeat infer_instance
  refine w_isiV ft1 ft2 ?_
  repeat infer_instance
  refine ⟨fun e => by simp at e, fun _ => ?_⟩
  obtain ⟨fi, fi1, fi2⟩ := s_fshow T (n := n + 1) G B.M hg hf
  repeat infer_instance
  refine ⟨fi, fi1, ?_⟩
  repeat infer_instance
  refine fi2 _ fun s15 k15 => ?_
  have B := B.k k15
  have hf := hf.k k15
  have A := A.k k15
  repeat infer_instance
  refine ⟨nofun, fun _ => ?_⟩
  repeat infer_instance
  have hW := B.W
  rw [vN_vI] at hW
  refine w_sort1 hW fun s16 k16 a16 => ?_
  have B := B.k k16
  have hf := hf.k k16
  have A := A.k k16
  obtain ⟨w', ew', pw'⟩ := sort_nat w
  rw [ew', ← vN_vI] at a16
  have hw' : ∀ i ∈ w', i < I := fun i hi => hw i (pw'.mem_iff.mpr hi)
  have hwlen' : w'.length = w.length := pw'.length_eq.symm
  generalize s15.n = al at a16
  try dsimp only [setNth]
  repeat infer_instance
  refine s_mkQ T (.inr ⟨_, _, rfl, B.W⟩) (.inr ⟨_, _, rfl, a16⟩) fun s17 k17 h17 => ?_
  have B := B.k k17
  have hf := hf.k k17
  have A := A.k k17
  have a16 := a16.k k17
  refine ⟨21, h17.met, ?_⟩
  repeat infer_instance
  refine s_qshow T G B.M h17 (by omega) fun t s18 k18 ht => ?_
  have B := B.k k18
  have hf := hf.k k18
  have A := A.k k18
  have a16 := a16.k k18
  repeat infer_instance
  refine s_lfed T G B.S (.inr ⟨_, _, rfl, a16⟩) hw' hn1 fun s19 k19 => ?_
  have B := B.k k19
  have hf := hf.k k19
  have A := A.k k19
  repeat infer_instance
  have et : t = !decide ((run m 0 (zO O) w').2 = (run m 0 (zO O) w).2) := by
    have hin : ∀ i ∈ w ++ w', i < I := fun i hi => by rcases List.mem_append.mp hi with h | h; exact hw i h; exact hw' i h
    by_cases e : (run m 0 (zO O) w').2 = (run m 0 (zO O) w).2
    · rw [decide_eq_true e]
      cases t with
      | false => rfl
      | true => exact absurd e.symm (ht.mp rfl).2.2
    · rw [decide_eq_false e]
      exact ht.mpr ⟨hin, pw', fun h => e h.symm⟩
  refine ⟨fun e => by rw [et] at e; simp at e, fun _ => ?_⟩
  repeat infer_instance
  intro s20 k20 a20
  repeat infer_instance
  refine w_addL (B.k k20).W a20 (okL (by simp [vN]; omega)) fun s21 k21 a21 => ?_
  rw [show vN w ++ [PV.int 0] = vN (w ++ [0]) by simp [vN]] at a21
  have B := B.k (k20.trans k21)
  have hf := hf.k (k20.trans k21)
  have A := A.k (k20.trans k21)
  repeat infer_instance
  refine s_mkQ T (.inr ⟨_, _, rfl, a21⟩) (.inr ⟨_, _, rfl, B.W⟩) fun s22 k22 h22 => ?_
  have B := B.k k22
  have hf := hf.k k22
  have A := A.k k22
  refine ⟨21, h22.met, ?_⟩
  repeat infer_instance
  refine s_qshow T G B.M h22 (by simp; omega) fun t2 s23 k23 ht2 => ?_
  have B := B.k k23
  have hf := hf.k k23
  have A := A.k k23
  have tf : t2 = false := by
    cases t2 with
    | false => rfl
    | true =>
      have := (ht2.mp rfl).2.1.length_eq
      simp at this
  subst tf
  repeat infer_instance
  refine ⟨nofun, fun _ => ?_⟩
  repeat infer_instance
  intro s24 k24 a24
  repeat infer_instance
  intro s25 k25 a25
  repeat infer_instance
  refine s_mkQ T (u := [I]) (v := [I]) (.inr ⟨_, _, rfl, a24.k k25⟩) (.inr ⟨_, _, rfl, a25⟩) fun s26 k26 h26 => ?_
  have K := k24.trans (k25.trans k26)
  have B := B.k K
  have hf := hf.k K
  have A := A.k K
  refine ⟨21, h26.met, ?_⟩
  repeat infer_instance
  refine s_qshow T G B.M h26 (by simp) fun t3 s27 k27 ht3 => ?_
  have B := B.k k27
  have hf := hf.k k27
  have A := A.k k27
  have tf : t3 = false := by
    cases t3 with
    | false => rfl
    | true =>
      have := (ht3.mp rfl).1 I (by simp)
      omega
  subst tf
  repeat infer_instance
  refine ⟨nofun, fun _ => ?_⟩
  try dsimp only [setNth]
  repeat infer_instance
  refine ⟨fun e => ?_, fun e => ?_⟩
  · have e : c = false := by simpa using e
    subst e
    have ng : ¬ Good I m := fun g => by have := hg.mpr g; cases this
    rcases hf.ex with ⟨e, _⟩ | ⟨_, u, v, hq, qok⟩
    · cases e
    have hu5 := qok.lu
    have hv5 := qok.lv
    obtain ⟨b1, b2, w1, w2, g1, g2, g3⟩ := hq.ex
    have g2' := g2
    have g3' := g3
    rw [vN_vI] at g2' g3'
    repeat infer_instance
    try dsimp only [setNth]
    refine w_sort1 g2' fun s28 k28 a28 => ?_
    repeat infer_instance
    refine w_sort1 (g3'.k k28) fun s29 k29 a29 => ?_
    repeat infer_instance
    refine w_neLs (k := 11) re_int rfl (a28.k k29) a29 ?_
    rw [decide_eq_true (sort_iff.mpr qok.pm)]
    repeat infer_instance
    refine ⟨nofun, fun _ => ?_⟩
    have K := k28.trans k29
    have B := B.k K
    have A := A.k K
    have hq := hq.k K
    have g2 := g2.k K
    have g3 := g3.k K
    repeat infer_instance
    refine s_lfed T G B.S (.inr ⟨_, _, rfl, g2⟩) qok.hu hn1 fun s30 k30 => ?_
    have B := B.k k30
    have A := A.k k30
    have hq := hq.k k30
    have g2 := g2.k k30
    have g3 := g3.k k30
    repeat infer_instance
    refine s_lfed T G B.S (.inr ⟨_, _, rfl, g3⟩) qok.hv hn1 fun s31 k31 => ?_
    have B := B.k k31
    have A := A.k k31
    have hq := hq.k k31
    have g2 := g2.k k31
    have g3 := g3.k k31
    repeat infer_instance
    refine ⟨fun e => absurd (of_decide_eq_true e) qok.ne, fun _ => ?_⟩
    repeat infer_instance
    refine s_lfine T G B.S A R fun b7 w7 l7 s32 k32 a32 f7 => ?_
    have hl7 := f7.len
    have B := B.k k32
    have hq := hq.k k32
    have g2 := g2.k k32
    have g3 := g3.k k32
    repeat infer_instance
    refine s_mkS T (.inr ⟨_, _, rfl, a32⟩) fun s33 k33 h33 => ?_
    have B := B.k k33
    have hq := hq.k k33
    have g2 := g2.k k33
    have g3 := g3.k k33
    refine ⟨17, h33.met, ?_⟩
    repeat infer_instance
    refine s_sshow T G B.M h33 (by omega) fun t4 s34 k34 ht4 => ?_
    have B := B.k k34
    have hq := hq.k k34
    have g2 := g2.k k34
    have g3 := g3.k k34
    have tf : t4 = false := by
      cases t4 with
      | false => rfl
      | true => exact absurd (ht4.mp rfl).good ng
    subst tf
    repeat infer_instance
    refine ⟨nofun, fun _ => ?_⟩
    repeat infer_instance
    refine w_tup1 (seqV_at g2) ?_
    repeat infer_instance
    refine s_mkQ T (.inl rfl) (.inr ⟨_, _, rfl, g3⟩) fun s35 k35 h35 => ?_
    have B := B.k k35
    have hq := hq.k k35
    have g2 := g2.k k35
    have g3 := g3.k k35
    repeat infer_instance
    obtain ⟨_, _, _, _, j1, _⟩ := h35.ex
    obtain ⟨_, _, _, _, j2, _⟩ := hq.ex
    refine w_eqO j1 j2 rfl rfl ?_
    refine s_qeqQ T h35 hq ⟨_, rfl, ?_⟩
    rw [decide_eq_true ⟨rfl, rfl⟩]
    repeat infer_instance
    refine ⟨fun _ => ?_, nofun⟩
    repeat infer_instance
    refine s_mkQ T (.inr ⟨_, _, rfl, g3⟩) (.inr ⟨_, _, rfl, g2⟩) fun s36 k36 h36 => ?_
    have B := B.k k36
    have hq := hq.k k36
    repeat infer_instance
    obtain ⟨_, _, _, _, j1, _⟩ := h36.ex
    obtain ⟨_, _, _, _, j2, _⟩ := hq.ex
    refine w_neO j1 j2 rfl rfl ?_
    refine s_qeqQ T h36 hq ⟨_, rfl, ?_⟩
    rw [decide_eq_false fun h => qok.ne (by rw [h.2])]
    repeat infer_instance
    refine ⟨fun _ => ?_, nofun⟩
    repeat infer_instance
    intro s37 k37 a37
    repeat infer_instance
    refine w_lenSts (B.k k37).S ?_
    repeat infer_instance
    refine w_mulL1 a37 (by omega) (by omega) fun s38 k38 a38 => ?_
    have B := B.k (k37.trans k38)
    have hq := hq.k (k37.trans k38)
    rw [show List.replicate ((m.length : Nat) : Int).toNat (PV.int 0) = vI (List.replicate m.length 0) by simp [vI]] at a38
    repeat infer_instance
    refine s_mkS T (.inr ⟨_, _, rfl, a38⟩) fun s39 k39 h39 => ?_
    have B := B.k k39
    have hq := hq.k k39
    refine ⟨17, h39.met, ?_⟩
    repeat infer_instance
    refine s_sshow T G B.M h39 (by simp; omega) fun t5 s40 k40 ht5 => ?_
    have hq := hq.k k40
    have tf : t5 = false := by
      cases t5 with
      | false => rfl
      | true => exact absurd (ht5.mp rfl).good ng
    subst tf
    repeat infer_instance
    refine ⟨fun _ => ?_, nofun⟩
    repeat infer_instance
    intro s41 k41 a41
    repeat infer_instance
    refine s_mkS T (l := []) (.inr ⟨_, _, rfl, a41⟩) fun s42 k42 h42 => ?_
    have hq := hq.k (k41.trans k42)
    repeat infer_instance
    obtain ⟨_, _, j1, _⟩ := h42.ex
    obtain ⟨_, _, _, _, j2, _⟩ := hq.ex
    refine w_neO j2 j1 rfl rfl ?_
    refine s_qeqS T hq h42 ⟨_, rfl, ?_⟩
    exact q _
  · have e : c = true := by simpa using e
    subst e
    rcases hf.ex with ⟨_, l, hs, fl⟩ | ⟨e, _⟩
    · repeat infer_instance
      exact s_lclasses T G B.M B.S hs A R (hg.mp rfl) fl q
    · cases e
end YL
end
section
set_option Elab.async false
set_option linter.all false
set_option maxRecDepth 100000
set_option maxHeartbeats 0
namespace YL
open PySem PySem.Spec PyProof.Rows L2
def top (i : Nat) : Stmt := PySem.Challenge.pw_tallygates_k21_whole_machines.main.body.getD i (.Pass ⟨0, 0, 0, 0⟩)
def clsAt (s : Stmt) (j : Nat) : Stmt := (C8.clsBody s).getD j (.Pass ⟨0, 0, 0, 0⟩)
def d0 : Y.De := ⟨⟨("is_whole", none), "is_whole", "is_whole", defArgs (top 5), defBody (top 5), defScope (top 5), [], []⟩, []⟩
def d1 : Y.De := ⟨⟨("is_step", none), "is_step", "is_step", defArgs (top 10), defBody (top 10), defScope (top 10), [], []⟩, ["number"]⟩
def d2 : Y.De := ⟨⟨("is_state", none), "is_state", "is_state", defArgs (top 11), defBody (top 11), defScope (top 11), [], []⟩, ["step"]⟩
def d3 : Y.De := ⟨⟨("Machine", some "__init__"), "__init__", "Machine.__init__", defArgs (clsAt (top 12) 0), defBody (clsAt (top 12) 0), defScope (clsAt (top 12) 0), [], []⟩, ["state"]⟩
def d4 : Y.De := ⟨⟨("Machine", some "__eq__"), "__eq__", "Machine.__eq__", defArgs (clsAt (top 12) 1), defBody (clsAt (top 12) 1), defScope (clsAt (top 12) 1), [], []⟩, []⟩
def d5 : Y.De := ⟨⟨("Machine", some "__len__"), "__len__", "Machine.__len__", defArgs (clsAt (top 12) 2), defBody (clsAt (top 12) 2), defScope (clsAt (top 12) 2), [], []⟩, []⟩
def d6 : Y.De := ⟨⟨("check_machine", none), "check_machine", "check_machine", defArgs (top 13), defBody (top 13), defScope (top 13), [], []⟩, []⟩
def d7 : Y.De := ⟨⟨("check_word", none), "check_word", "check_word", defArgs (top 14), defBody (top 14), defScope (top 14), [], []⟩, []⟩
def d8 : Y.De := ⟨⟨("both", none), "both", "both", defArgs (top 15), defBody (top 15), defScope (top 15), [], []⟩, ["first", "second"]⟩
def d9 : Y.De := ⟨⟨("walked", none), "walked", "walked", defArgs (top 16), defBody (top 16), defScope (top 16), [.int (0)], []⟩, []⟩
def d10 : Y.De := ⟨⟨("fed", none), "fed", "fed", defArgs (top 17), defBody (top 17), defScope (top 17), [], []⟩, []⟩
def d11 : Y.De := ⟨⟨("state_after", none), "state_after", "state_after", defArgs (top 18), defBody (top 18), defScope (top 18), [], []⟩, []⟩
def d12 : Y.De := ⟨⟨("words_to", none), "words_to", "words_to", defArgs (top 19), defBody (top 19), defScope (top 19), [], []⟩, []⟩
def d13 : Y.De := ⟨⟨("classes_of", none), "classes_of", "classes_of", defArgs (top 20), defBody (top 20), defScope (top 20), [], []⟩, ["number", "outlet"]⟩
def d14 : Y.De := ⟨⟨("Served", some "__init__"), "__init__", "Served.__init__", defArgs (clsAt (top 22) 0), defBody (clsAt (top 22) 0), defScope (clsAt (top 22) 0), [], []⟩, []⟩
def d15 : Y.De := ⟨⟨("Served", some "__eq__"), "__eq__", "Served.__eq__", defArgs (clsAt (top 22) 1), defBody (clsAt (top 22) 1), defScope (clsAt (top 22) 1), [], []⟩, []⟩
def d16 : Y.De := ⟨⟨("Served", some "__bool__"), "__bool__", "Served.__bool__", defArgs (clsAt (top 22) 2), defBody (clsAt (top 22) 2), defScope (clsAt (top 22) 2), [], []⟩, []⟩
def d17 : Y.De := ⟨⟨("Served", some "shows"), "shows", "Served.shows", defArgs (clsAt (top 22) 3), defBody (clsAt (top 22) 3), defScope (clsAt (top 22) 3), [], []⟩, []⟩
def d18 : Y.De := ⟨⟨("Quarrels", some "__init__"), "__init__", "Quarrels.__init__", defArgs (clsAt (top 23) 0), defBody (clsAt (top 23) 0), defScope (clsAt (top 23) 0), [], []⟩, []⟩
def d19 : Y.De := ⟨⟨("Quarrels", some "__eq__"), "__eq__", "Quarrels.__eq__", defArgs (clsAt (top 23) 1), defBody (clsAt (top 23) 1), defScope (clsAt (top 23) 1), [], []⟩, []⟩
def d20 : Y.De := ⟨⟨("Quarrels", some "__bool__"), "__bool__", "Quarrels.__bool__", defArgs (clsAt (top 23) 2), defBody (clsAt (top 23) 2), defScope (clsAt (top 23) 2), [], []⟩, []⟩
def d21 : Y.De := ⟨⟨("Quarrels", some "shows"), "shows", "Quarrels.shows", defArgs (clsAt (top 23) 3), defBody (clsAt (top 23) 3), defScope (clsAt (top 23) 3), [], []⟩, ["inlet"]⟩
def d22 : Y.De := ⟨⟨("is_closed", none), "is_closed", "is_closed", defArgs (top 24), defBody (top 24), defScope (top 24), [], []⟩, ["goal", "outputs"]⟩
def d23 : Y.De := ⟨⟨("after_two", none), "after_two", "after_two", defArgs (top 25), defBody (top 25), defScope (top 25), [], []⟩, []⟩
def d24 : Y.De := ⟨⟨("first_quarrel", none), "first_quarrel", "first_quarrel", defArgs (top 26), defBody (top 26), defScope (top 26), [], []⟩, []⟩
def d25 : Y.De := ⟨⟨("parting", none), "parting", "parting", defArgs (top 27), defBody (top 27), defScope (top 27), [], []⟩, []⟩
def d26 : Y.De := ⟨⟨("judge_order", none), "judge_order", "judge_order", defArgs (top 28), defBody (top 28), defScope (top 28), [], []⟩, []⟩
def d27 : Y.De := ⟨⟨("_law_draw", none), "_law_draw", "_law_draw", defArgs (top 30), defBody (top 30), defScope (top 30), [], []⟩, []⟩
def d28 : Y.De := ⟨⟨("_law_machine", none), "_law_machine", "_law_machine", defArgs (top 31), defBody (top 31), defScope (top 31), [], []⟩, ["_law_outlet", "_law_spot", "_law_one"]⟩
def d29 : Y.De := ⟨⟨("_law_fed", none), "_law_fed", "_law_fed", defArgs (top 32), defBody (top 32), defScope (top 32), [], []⟩, ["_law_one", "_law_more"]⟩
def d30 : Y.De := ⟨⟨("_law_reached", none), "_law_reached", "_law_reached", defArgs (top 33), defBody (top 33), defScope (top 33), [], []⟩, []⟩
def d31 : Y.De := ⟨⟨("_law_alike", none), "_law_alike", "_law_alike", defArgs (top 34), defBody (top 34), defScope (top 34), [], []⟩, []⟩
def d32 : Y.De := ⟨⟨("_law_serves", none), "_law_serves", "_law_serves", defArgs (top 35), defBody (top 35), defScope (top 35), [], []⟩, []⟩
def d33 : Y.De := ⟨⟨("_law_fine", none), "_law_fine", "_law_fine", defArgs (top 36), defBody (top 36), defScope (top 36), [], []⟩, ["_law_one"]⟩
def d34 : Y.De := ⟨⟨("_law_classes", none), "_law_classes", "_law_classes", defArgs (top 37), defBody (top 37), defScope (top 37), [], []⟩, ["_law_state"]⟩
def d35 : Y.De := ⟨⟨("law", none), "law", "law", defArgs (top 38), defBody (top 38), defScope (top 38), [], []⟩, ["_law_spot", "_law_row"]⟩
def fn0 : List Y.De := [d0, d1, d2, d3, d4, d5, d6, d7, d8, d9, d10, d11, d12, d13, d14, d15, d16, d17, d18, d19, d20, d21, d22, d23, d24, d25, d26, d27, d28, d29]
def fn1 : List Y.De := [d30, d31, d32, d33, d34, d35]
def ds : List Y.De := fn0 ++ fn1
def ls0 : List PySem.Str := ["__name__", "TallyError", "BadMachine", "BadWord", "is_whole", "MOST_INLETS", "MOST_OUTLETS", "MOST_STATES", "is_step", "is_state", "Machine", "check_machine", "check_word", "both", "walked", "fed", "state_after", "words_to", "classes_of", "Served", "Quarrels", "is_closed", "after_two", "first_quarrel", "parting", "judge_order", "_law_draw", "_law_machine", "_law_fed", "_law_reached"]
def ls1 : List PySem.Str := ["_law_alike", "_law_serves", "_law_fine", "_law_classes"]
def ls : List PySem.Str := ls0 ++ ls1
abbrev R : PySem.W.OpenRow := PySem.W.OpenLaw.row PySem.Challenge.rw_tallygates_k21_whole_machines
def as0 : List Nat := [3, 6, 4, 24, 46, 67, 76, 81, 86, 115, 126, 133, 138, 146, 153, 160, 167, 172, 208, 248, 257, 264, 271, 278, 283, 290, 295, 300, 307, 314, 321, 326, 331, 336, 0, 23, 45, 66, 75, 80, 85, 114, 125, 132, 137, 145, 139, 152, 159, 166, 171, 207, 247, 256, 263, 270, 277, 282, 289, 294, 299, 306, 313, 320, 325, 330, 335, 22, 25, 43, 44, 64, 65, 70, 71, 72, 73, 74, 77, 78, 79, 82, 83, 84, 98, 105, 112, 113, 116, 117, 120, 121, 122, 123, 124, 127, 128, 129, 130, 131, 134, 135, 136, 140, 141, 142, 143, 144, 147, 148, 149, 150, 151, 154, 155, 156, 157, 158, 161, 162, 163, 164, 165, 168, 169, 170, 186, 193, 200, 205, 206, 209, 210, 226, 233, 240, 245, 246, 249, 250, 253, 254, 255, 258, 259, 260, 261, 262, 265, 266, 267, 268, 269, 272, 273, 274, 275, 276, 279, 280, 281, 284, 285, 286, 287, 288, 291, 292, 293, 296, 297, 298, 301, 302, 303, 304, 305, 308, 309, 310, 311, 312, 315, 316, 317, 318, 319, 322, 323, 324, 327, 328, 329, 332, 333, 334, 42, 31, 63, 52]
def as1 : List Nat := [97, 104, 111, 185, 192, 199, 204, 225, 232, 239, 244]
def Wl : Y.Lw where
  as := as0 ++ as1
  fa := [76, 81, 86, 98, 105, 112, 126, 133, 138, 146, 153, 160, 167, 172, 186, 193, 200, 205, 226, 233, 240, 245, 257, 264, 271, 278, 283, 290, 295, 300, 307, 314, 321, 326, 331, 336]
  ca := [115, 208, 248]
  nm := ["classes", "inlets", "one", "other", "outlets", "shows", "states"]
  fn := [("is_whole", 0), ("is_step", 1), ("is_state", 2), ("check_machine", 6), ("check_word", 7), ("both", 8), ("walked", 9), ("fed", 10), ("state_after", 11), ("words_to", 12), ("classes_of", 13), ("is_closed", 22), ("after_two", 23), ("first_quarrel", 24), ("parting", 25), ("judge_order", 26), ("_law_draw", 27), ("_law_machine", 28), ("_law_fed", 29), ("_law_reached", 30), ("_law_alike", 31), ("_law_serves", 32), ("_law_fine", 33), ("_law_classes", 34), ("law", 35)]
  cl := [("Machine", 0), ("Served", 1), ("Quarrels", 2)]
  ini := [(0, 3), (1, 14), (2, 18)]
  ct := [("MOST_INLETS", .int (4)), ("MOST_OUTLETS", .int (4)), ("MOST_STATES", .int (60))]
  free := [0, 1, 2, 3, 4, 5, 6, 7, 8, 9, 10, 11, 12, 13, 14, 15, 16, 17, 18, 19]
  nms := [("classes", 0), ("inlets", 1), ("one", 2), ("other", 3), ("outlets", 4), ("shows", 5), ("states", 6)]
  fld := [(1, [0]), (4, [0]), (6, [0]), (0, [1]), (2, [2]), (3, [2])]
  met := [(5, [(1, 17), (2, 21)])]
  BL := [(1, some 16), (2, some 20)]
  EQ := [(0, 4), (1, 15), (2, 19)]
  LN := [(0, 5)]
  IL := [0, 1, 2]
  IS := [(0, [(0, true), (1, false), (3, false), (4, false), (100, false), (101, false), (102, false)]), (1, [(0, true), (1, true), (3, false), (4, false), (100, false), (101, false), (102, false)]), (2, [(0, false), (1, false), (3, false), (4, false), (100, false), (101, false), (102, false)]), (3, [(0, false), (1, false), (3, true), (4, false), (100, false), (101, false), (102, false)]), (4, [(0, false), (1, false), (3, false), (4, true), (100, false), (101, false), (102, false)]), (5, [(0, false), (1, false), (3, false), (4, false), (100, false), (101, false), (102, false)]), (6, [(0, false), (1, false), (3, false), (4, false), (100, false), (101, false), (102, false)]), (100, [(0, false), (1, false), (3, false), (4, false), (100, true), (101, false), (102, false)]), (101, [(0, false), (1, false), (3, false), (4, false), (100, false), (101, true), (102, false)]), (102, [(0, false), (1, false), (3, false), (4, false), (100, false), (101, false), (102, true)])]
abbrev hk : PySem.W.Hook := Y.hookW Wl ds
def ob (s : PySem.W.SharedT) : Y.Al := Y.obsW Wl ds (HandSHeadRun.getT s)
theorem ob_eq (s : PySem.W.SharedT) : ob s = hk.obs s.abs := Y.obsW_eq (HandSHeadRun.getT_eq s)
theorem texts : Y.textsOk Wl ds = true := by kernel_rfl
theorem hrun (w : World) : HandSHeadRun.RunEq R (PySem.W.view R.prog [38]) hk ob 80000 ls w := by
  intro os
  kernel_rfl
end YL
end
section
set_option linter.all false
set_option maxRecDepth 100000
set_option maxHeartbeats 0
open PySem PySem.W PySem.Calls PyProof.Rows
namespace YL
theorem tbl : Tbl (Y.fnsOf Wl.G ds) := ⟨by kernel_rfl, by kernel_rfl, by kernel_rfl, by kernel_rfl, by kernel_rfl, by kernel_rfl, by kernel_rfl, by kernel_rfl, by kernel_rfl, by kernel_rfl, by kernel_rfl, by kernel_rfl, by kernel_rfl, by kernel_rfl, by kernel_rfl, by kernel_rfl, by kernel_rfl, by kernel_rfl, by kernel_rfl, by kernel_rfl, by kernel_rfl, by kernel_rfl, by kernel_rfl, by kernel_rfl, by kernel_rfl, by kernel_rfl, by kernel_rfl, by kernel_rfl, by kernel_rfl, by kernel_rfl, by kernel_rfl, by kernel_rfl, by kernel_rfl, by kernel_rfl, by kernel_rfl, by kernel_rfl⟩
theorem plain21 (ns : List Int) : ∃ st', Y.lawRun Wl.G ds 30 35 ns = .ok (.bl true) st' := by
  have h := s_law tbl (n := 25) (st := ⟨0, .nil⟩) (ns := ns) (Q := fun v _ => v = .bl true) (fun _ => rfl)
  obtain ⟨v, st', e, rfl⟩ := h.ex
  have hF : Y.fnsOf Wl.G ds 35 = some (Y.dfOf Wl.G d35) := by kernel_rfl
  have hd := Option.some.inj (hF.symm.trans tbl.f35)
  refine ⟨st', ?_⟩
  show Y.endV ((Y.dfOf Wl.G d35).body (Y.ev (Y.fnsOf Wl.G ds) 30) (Y.frame [.cl (ns.map Y.PV.int)] (Y.dfOf Wl.G d35).ns) ⟨0, .nil⟩) = _
  rw [hd]
  have e : (match Y.fnsOf Wl.G ds 35 with | some d => Y.runD d (Y.ev (Y.fnsOf Wl.G ds) 30) [.cl (Y.vI ns)] ⟨0, .nil⟩ | none => .stuck 132) = Y.R.ok (Y.PV.bl true) st' := e
  rw [tbl.f35] at e
  exact e
end YL
theorem PySem.Challenge.cw_tallygates_k21_whole_machines_holds : PySem.Challenge.rw_tallygates_k21_whole_machines.Holds := by
  w_on; o_law
  refine HandSHeadRun.head_any (r := OpenLaw.row PySem.Challenge.rw_tallygates_k21_whole_machines) (q := view (OpenLaw.row PySem.Challenge.rw_tallygates_k21_whole_machines).prog [38]) (H := YL.hk) (ob := YL.ob) (M := 80000) (loose := YL.ls) (d := HandSHeadRun.topDef (OpenLaw.row PySem.Challenge.rw_tallygates_k21_whole_machines).prog 38) (kwd := []) YL.ob_eq
    (by kernel_rfl) (fun s => by kernel_rfl) YL.hrun (by kernel_rfl) (by kernel_rfl) (by kernel_rfl) (by rfl) (by first | assumption | decide +kernel) (by decide +kernel) ⟨rfl, rfl, rfl, rfl, rfl, by decide +kernel⟩ ?hw ?hc
  case hw => w_witness2
  case hc => exact Y.law_walk (l := PySem.Challenge.rw_tallygates_k21_whole_machines) (W := YL.Wl) (ds := YL.ds) (n := 30) (iL := 35) (d := YL.d35) (x := "_law_script") rfl (by kernel_rfl) (by kernel_rfl) YL.texts rfl (by kernel_rfl) rfl (by kernel_rfl) ⟨rfl, by decide, by decide⟩ fun ns _ => YL.plain21 ns
end
