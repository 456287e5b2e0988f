import PyProof.Rows.All
import Wide.All
import OpenK.AllK
import Wide.FinOn
import KE.DataEq
import HandS.Base
import HandS.HeadEnd
import HandS.HeadHook1
import HandS.HeadHook2
import HandS.Words
import HandS.Call
import HandS.List
import HandS.WordsList
import HandS.ForMost
import HandS.TupMul
import HandS.Flow
import HandS.Exc
import HandS.ExcOwn
import HandS.TupAny
import HandS.Wide
import HandS.Gcd
import HandS.IsInst
import HandS.Deep
import KE.DataCmp
import KE.SortData
import PyProof.TupleOfSeq
import PyProof.Rows.SortWalk
import HandS.SortRule
import HandS.Dict
import HandS.Zip
import KE.GoesMore
import KE.GoesZip
import KE.GoesEnum
import HandS.Star
import HandS.Comp
import HandS.Style
import HandS.AnyAll
import KE.KMathGC
import PyProof.SumAnyB
import HandS.Iter
import HandS.WordsExc
import HandS.ExcIs
import HandS.TryMany
import HandS.ExcBuiltin
import HandS.IterVal
import PyProof.ExcBaseAll.ValueError
import HandS.Defaults
import KE.KStateDown
import HandS.Ends
import HandS.More
import HandS.Head0
import HandS.Head1
import HandS.Head2
import HandS.Head3
import PySem.Challenge.RW_keepcompany_k66_spots_by_hand_and_refuse
set_option Elab.async false
set_option linter.all false
set_option maxRecDepth 100000
set_option maxHeartbeats 0
namespace Mi
open PySem
inductive MV where
  | und | opq | non | bl (b : Bool) | int (i : Int) | str (x : Str) | fn (k : Nat) | lref (n : Nat) | tup (d : Nat) (xs : List MV) | zipv (a b : MV)
inductive MO where
  | lst (xs : List MV) | ro (xs : List MV) | dic (kvs : List (Int × MV))
abbrev Hm := List MO
abbrev Rho := List MV
inductive R (α : Type) where
  | ok (v : α) (h : Hm) | exc (c : Nat) (h : Hm) | bad
abbrev RE := R MV
abbrev RL := R (List MV)
inductive RS where
  | nx (r : Rho) (h : Hm) | ret (v : MV) (h : Hm) | brk (r : Rho) (h : Hm) | ct (r : Rho) (h : Hm) | exc (c : Nat) (r : Rho) (h : Hm) | bad
abbrev SE := Rho → Hm → RE
abbrev SL := Rho → Hm → RL
abbrev SS := Rho → Hm → RS
def R.bind {α β : Type} (r : R α) (k : α → Hm → R β) : R β := match r with
  | .ok v h => k v h
  | .exc c h => .exc c h
  | .bad => .bad
def R.bindS {α : Type} (r : R α) (ρ : Rho) (k : α → Hm → RS) : RS := match r with
  | .ok v h => k v h
  | .exc c h => .exc c ρ h
  | .bad => .bad
def ieq : Int → Int → Bool
  | .ofNat a, .ofNat b => Nat.beq a b
  | .negSucc a, .negSucc b => Nat.beq a b
  | _, _ => false
def ilt : Int → Int → Bool
  | .ofNat a, .ofNat b => Nat.blt a b
  | .negSucc a, .negSucc b => Nat.blt b a
  | .negSucc _, .ofNat _ => true
  | .ofNat _, .negSucc _ => false
def inz : Int → Bool
  | .ofNat 0 => false
  | _ => true
theorem ieq_eq (a b : Int) : ieq a b = decide (a = b) := by
  have key : ∀ m n : Nat, Nat.beq m n = decide (m = n) := fun m n => by
    rw [Bool.eq_iff_iff, decide_eq_true_iff]
    exact ⟨fun h => Nat.eq_of_beq_eq_true h, fun h => by subst h; exact Nat.beq_refl _⟩
  cases a <;> cases b <;> simp only [ieq, key, decide_eq_decide, Int.ofNat_eq_natCast]
  · omega
  · rw [eq_comm, decide_eq_false_iff_not]; omega
  · rw [eq_comm, decide_eq_false_iff_not]; omega
  · omega
theorem ilt_eq (a b : Int) : ilt a b = decide (a < b) := by
  have key : ∀ m n : Nat, Nat.blt m n = decide (m < n) := fun m n => by
    rw [Bool.eq_iff_iff, decide_eq_true_iff]
    exact ⟨fun h => Nat.le_of_ble_eq_true h, fun h => Nat.ble_eq_true_of_le h⟩
  cases a <;> cases b <;> simp only [ilt, key, decide_eq_decide, Int.ofNat_eq_natCast]
  · omega
  · rw [eq_comm, decide_eq_false_iff_not]; omega
  · rw [eq_comm, decide_eq_true_iff]; omega
  · omega
def iz (i : Int) : Nat := match i with
  | .ofNat n => n
  | .negSucc n => n + 1
theorem iz_eq (i : Int) : iz i = i.natAbs := by cases i <;> rfl
def cap : Nat := 100000
def fits (xs : List MV) : Bool := Nat.ble xs.length cap
def rk : MV → Nat
  | .non | .bl _ | .int _ | .str _ => 1
  | .tup d _ => d
  | _ => 0
def rkc (a b : Nat) : Nat := match Nat.ble 1 a && (Nat.ble 1 b && Nat.ble (a + 1) 60) with
  | true => (match Nat.ble (a + 1) b with
    | true => b
    | false => a + 1)
  | false => 0
def rkL : List MV → Nat
  | [] => 2
  | x :: xs => rkc (rk x) (rkL xs)
def isP (v : MV) : Bool := Nat.ble 1 (rk v)
def mkT (xs : List MV) : MV := .tup (rkL xs) xs
mutual
def shV (n : Nat) : MV → MV
  | .lref m => .lref (n + m)
  | .tup p xs => .tup p (shL n xs)
  | v => v
def shL (n : Nat) : List MV → List MV
  | [] => []
  | x :: xs => shV n x :: shL n xs
end
def shK (n : Nat) : List (Int × MV) → List (Int × MV)
  | [] => []
  | (k, x) :: r => (k, shV n x) :: shK n r
def shO (n : Nat) : MO → MO
  | .lst xs => .lst (shL n xs)
  | .ro xs => .ro (shL n xs)
  | .dic kvs => .dic (shK n kvs)
def geth : Hm → Nat → Option MO
  | [], _ => none
  | o :: _, 0 => some o
  | _ :: r, n + 1 => geth r n
def seth : Hm → Nat → MO → Hm
  | [], _, _ => []
  | _ :: r, 0, o => o :: r
  | p :: r, n + 1, o => p :: seth r n o
theorem geth_eq : ∀ (h : Hm) (n : Nat), geth h n = h[n]?
  | [], n => by simp [geth]
  | o :: r, 0 => by simp [geth]
  | o :: r, n + 1 => by simp [geth, geth_eq r n]
theorem seth_eq : ∀ (h : Hm) (n : Nat) (o : MO), seth h n o = h.set n o
  | [], n, o => by simp [seth]
  | p :: r, 0, o => by simp [seth]
  | p :: r, n + 1, o => by simp [seth, seth_eq r n o]
def seqOf (h : Hm) : MV → Option (List MV)
  | .tup _ xs => some xs
  | .lref n => match geth h n with
    | some (.lst xs) => some xs
    | some (.ro xs) => some xs
    | _ => none
  | _ => none
def lstOf (h : Hm) : MV → Option (List MV)
  | .lref n => match geth h n with
    | some (.lst xs) => some xs
    | _ => none
  | _ => none
def newL (xs : List MV) (h : Hm) : RE := .ok (.lref h.length) (h ++ [.lst xs])
def bint (b : Bool) : Int := match b with
  | true => .ofNat 1
  | false => .ofNat 0
def eqL (f : MV → MV → Bool) : List MV → List MV → Bool
  | [], [] => true
  | x :: xs, y :: ys => (match f x y with
    | true => eqL f xs ys
    | false => false)
  | _, _ => false
def seqD (h : Hm) (v : MV) : List MV := match seqOf h v with
  | some xs => xs
  | none => []
def beqB (a b : Bool) : Bool := match a with
  | true => b
  | false => (match b with
    | true => false
    | false => true)
def eqB (h : Hm) : Nat → MV → MV → Bool
  | 0, _, _ => false
  | n + 1, x, y => match x with
    | .int i => (match y with
      | .int j => ieq i j
      | .bl b => ieq i (bint b)
      | _ => false)
    | .tup _ xs => (match y with
      | .tup _ ys => eqL (eqB h n) xs ys
      | _ => false)
    | .lref a => (match y with
      | .lref b => eqL (eqB h n) (seqD h (.lref a)) (seqD h (.lref b))
      | _ => false)
    | .bl b => (match y with
      | .int i => ieq (bint b) i
      | .bl c => beqB b c
      | _ => false)
    | .non => (match y with
      | .non => true
      | _ => false)
    | .str a => (match y with
      | .str b => decide (a = b)
      | _ => false)
    | _ => false
def okD (h : Hm) : Nat → MV → Bool
  | 0, _ => false
  | n + 1, x => match x with
    | .int _ | .bl _ | .non | .str _ => true
    | .tup d xs => (match Nat.ble 1 d && Nat.ble d (n + 1) with
      | true => true
      | false => xs.all (okD h n))
    | .lref a => (match seqOf h (.lref a) with
      | some xs => xs.all (okD h n)
      | none => false)
    | _ => false
def eqM (h : Hm) (x y : MV) : Option Bool := match okD h 64 x && okD h 64 y with
  | true => some (eqB h 64 x y)
  | false => none
def ltL (e l : MV → MV → Bool) : List MV → List MV → Bool
  | [], [] => false
  | [], _ :: _ => true
  | _ :: _, [] => false
  | x :: xs, y :: ys => (match e x y with
    | true => ltL e l xs ys
    | false => l x y)
def ltB (h : Hm) : Nat → MV → MV → Bool
  | 0, _, _ => false
  | n + 1, x, y => match x with
    | .int i => (match y with
      | .int j => ilt i j
      | _ => false)
    | .tup _ xs => (match y with
      | .tup _ ys => ltL (eqB h n) (ltB h n) xs ys
      | _ => false)
    | _ => false
def shpL (f : MV → MV → Bool) : List MV → List MV → Bool
  | x :: xs, y :: ys => f x y && shpL f xs ys
  | _, _ => true
def shp : Nat → MV → MV → Bool
  | 0, _, _ => false
  | n + 1, x, y => match x with
    | .int _ => (match y with
      | .int _ => true
      | _ => false)
    | .tup d xs => (match y with
      | .tup c ys => Nat.ble 1 d && (Nat.ble d (n + 1) && (Nat.ble 1 c && (Nat.ble c (n + 1) && shpL (shp n) xs ys)))
      | _ => false)
    | _ => false
def ltM (h : Hm) (x y : MV) : Option Bool := match shp 20 x y with
  | true => some (ltB h 20 x y)
  | false => none
inductive BOp where
  | add | sub | mul | fdiv | mod | pow
inductive COp where
  | lt | le | gt | ge | eq | ne | isN | notN | inn | notin
def rbl (b : Bool) (h : Hm) : RE := .ok (.bl b) h
def rint (i : Int) (h : Hm) : RE := .ok (.int i) h
def rep (xs : List MV) : Nat → List MV
  | 0 => []
  | n + 1 => xs ++ rep xs n
def vAdd (x y : MV) (h : Hm) : RE := match x with
  | .int i => (match y with
    | .int j => .ok (.int (i + j)) h
    | _ => .bad)
  | .tup _ xs => (match y with
    | .tup _ ys => (match fits (xs ++ ys) with
      | true => .ok (mkT (xs ++ ys)) h
      | false => .bad)
    | _ => .bad)
  | .lref _ => (match lstOf h x, lstOf h y with
    | some xs, some ys => (match fits (xs ++ ys) with
      | true => newL (xs ++ ys) h
      | false => .bad)
    | _, _ => .bad)
  | _ => .bad
def vMul (x y : MV) (h : Hm) : RE := match y with
  | .int j => (match x with
    | .int i => (match Nat.ble (Nat.log2 (iz i) + Nat.log2 (iz j)) 999999 with
      | true => .ok (.int (i * j)) h
      | false => .bad)
    | .tup _ xs => (match Nat.ble (iz j) 1000 && Nat.ble xs.length 1000 with
      | true => .ok (mkT (rep xs j.toNat)) h
      | false => .bad)
    | .lref _ => (match lstOf h x with
      | some xs => (match Nat.ble (iz j) 1000 && Nat.ble xs.length 1000 with
        | true => newL (rep xs j.toNat) h
        | false => .bad)
      | none => .bad)
    | _ => .bad)
  | _ => .bad
def vBin (op : BOp) (x y : MV) (h : Hm) : RE := match op with
  | .add => vAdd x y h
  | .mul => vMul x y h
  | .sub => (match x with
    | .int i => (match y with
      | .int j => .ok (.int (i - j)) h
      | _ => .bad)
    | _ => .bad)
  | .fdiv => (match x with
    | .int i => (match y with
      | .int j => (match inz j && Nat.ble (Nat.log2 (iz j)) 8999 with
        | true => .ok (.int (i.fdiv j)) h
        | false => .bad)
      | _ => .bad)
    | _ => .bad)
  | .mod => (match x with
    | .int i => (match y with
      | .int (.ofNat 0) => .bad
      | .int (.ofNat j) => .ok (.int (i % .ofNat j)) h
      | _ => .bad)
    | _ => .bad)
  | .pow => (match x with
    | .int (.ofNat i) => (match y with
      | .int (.ofNat j) => (match Nat.ble j 1000 && Nat.ble i 1000 with
        | true => .ok (.int (.ofNat (i ^ j))) h
        | false => .bad)
      | _ => .bad)
    | _ => .bad)
def cInt (op : COp) (i j : Int) : Option Bool := match op with
  | .lt => some (ilt i j)
  | .le => some (!ilt j i)
  | .gt => some (ilt j i)
  | .ge => some (!ilt i j)
  | .eq => some (ieq i j)
  | .ne => some (!ieq i j)
  | _ => none
def obl (o : Option Bool) (h : Hm) : RE := match o with
  | some b => .ok (.bl b) h
  | none => .bad
def onot (o : Option Bool) : Option Bool := match o with
  | some b => some (!b)
  | none => none
def vIn (x y : MV) (h : Hm) : Option Bool := match seqOf h y with
  | some ys => (match okD h 60 x && ys.all (okD h 60) with
    | true => some (ys.any fun z => eqB h 60 z x)
    | false => none)
  | none => none
def vCmp (op : COp) (x y : MV) (h : Hm) : RE := match op with
  | .eq => obl (eqM h x y) h
  | .ne => obl (onot (eqM h x y)) h
  | .lt => (match x with
    | .int i => (match y with
      | .int j => .ok (.bl (ilt i j)) h
      | _ => .bad)
    | .tup _ _ => obl (ltM h x y) h
    | _ => .bad)
  | .le => (match x with
    | .int i => (match y with
      | .int j => .ok (.bl (!ilt j i)) h
      | _ => .bad)
    | _ => .bad)
  | .gt => (match x with
    | .int i => (match y with
      | .int j => .ok (.bl (ilt j i)) h
      | _ => .bad)
    | _ => .bad)
  | .ge => (match x with
    | .int i => (match y with
      | .int j => .ok (.bl (!ilt i j)) h
      | _ => .bad)
    | _ => .bad)
  | .isN => (match y with
    | .non => (match x with
      | .und | .opq => .bad
      | .non => .ok (.bl true) h
      | _ => .ok (.bl false) h)
    | _ => .bad)
  | .notN => (match y with
    | .non => (match x with
      | .und | .opq => .bad
      | .non => .ok (.bl false) h
      | _ => .ok (.bl true) h)
    | _ => .bad)
  | .inn => obl (vIn x y h) h
  | .notin => obl (onot (vIn x y h)) h
def vNeg (x : MV) (h : Hm) : RE := match x with
  | .int i => .ok (.int (-i)) h
  | _ => .bad
def vNot (x : MV) (h : Hm) : RE := match x with
  | .bl b => .ok (.bl (!b)) h
  | _ => .bad
def tru (x : MV) (h : Hm) : Option Bool := match x with
  | .bl b => some b
  | .int i => some (inz i)
  | .non => some false
  | _ => (match seqOf h x with
    | some [] => some false
    | some (_ :: _) => some true
    | none => none)
def ixOf (n : Nat) (i : Int) : Nat := match i with
  | .ofNat k => k
  | .negSucc k => (match Nat.blt k n with
    | true => n - (k + 1)
    | false => n)
def getn : List MV → Nat → Option MV
  | [], _ => none
  | x :: _, 0 => some x
  | _ :: r, n + 1 => getn r n
def setn : List MV → Nat → MV → List MV
  | [], _, _ => []
  | _ :: r, 0, v => v :: r
  | x :: r, n + 1, v => x :: setn r n v
def vIx (x y : MV) (h : Hm) : RE := match y with
  | .int i => (match seqOf h x with
    | some xs => (match getn xs (ixOf xs.length i) with
      | some v => .ok v h
      | none => .bad)
    | none => .bad)
  | _ => .bad
def cut1 (n d : Nat) : Option Int → Nat
  | none => d
  | some (.ofNat k) => (match Nat.ble k n with
    | true => k
    | false => n)
  | some (.negSucc k) => n - (k + 1)
def cutM (xs : List MV) (lo hi : Nat) : List MV := (xs.drop lo).take (hi - lo)
def reM (x : MV) (xs : List MV) (h : Hm) : RE := match x with
  | .tup _ _ => .ok (mkT xs) h
  | _ => newL xs h
def vSl (x : MV) (lo hi : Option Int) (h : Hm) : RE := match seqOf h x with
  | some xs => reM x (cutM xs (cut1 xs.length 0 lo) (cut1 xs.length xs.length hi)) h
  | none => .bad
def toI (r : RE) : R (Option Int) := match r with
  | .ok (.int i) h => .ok (some i) h
  | .ok _ _ => .bad
  | .exc c h => .exc c h
  | .bad => .bad
def aOf (n : Nat) : Option Int → Nat
  | none => n
  | some k => min (k.toNat + 1) n
def bOf (n : Nat) : Option Int → Nat
  | none => 0
  | some _ => min 1 n
def revV {α : Type} (vs : List α) (l u : Option Int) : List α := ((vs.take (aOf vs.length l)).drop (bOf vs.length u)).reverse
def okA : Option Int → Bool
  | none => true
  | some (.ofNat _) => true
  | _ => false
def okB : Option Int → Bool
  | none => true
  | some (.ofNat 0) => true
  | _ => false
def vBack (x : MV) (l u : Option Int) (h : Hm) : RE := match okA l && okB u with
  | true => (match seqOf h x with
    | some xs => reM x (revV xs l u) h
    | none => .bad)
  | false => .bad
inductive Bi where
  | len | abs | gcd | lcm | min | max | sum | all | any | int | tuple | list | dict | sorted
inductive Ty where
  | int | bool | str | tuple | list
def Ty.i : Ty → Bool
  | .int => true
  | _ => false
def Ty.b : Ty → Bool
  | .int => true
  | .bool => true
  | _ => false
def Ty.s : Ty → Bool
  | .str => true
  | _ => false
def Ty.t : Ty → Bool
  | .tuple => true
  | _ => false
def Ty.l : Ty → Bool
  | .list => true
  | _ => false
def tyIs (t : Ty) (x : MV) (h : Hm) : Option Bool := match x with
  | .non => some false
  | .bl _ => some t.b
  | .int _ => some t.i
  | .str _ => some t.s
  | .tup _ _ => some t.t
  | .lref n => (match geth h n with
    | some (.lst _) => some t.l
    | some (.ro _) => some t.l
    | _ => none)
  | _ => none
def tyAny : List Ty → MV → Hm → Option Bool
  | [], _, _ => some false
  | t :: ts, x, h => (match tyIs t x h with
    | some true => some true
    | some false => tyAny ts x h
    | none => none)
def isums : List MV → Option Int
  | [] => some 0
  | .int i :: r => (match isums r with
    | some s => some (i + s)
    | none => none)
  | .bl b :: r => (match isums r with
    | some s => some (bint b + s)
    | none => none)
  | _ => none
def ball : List MV → Option Bool
  | [] => some true
  | .bl b :: r => (match ball r with
    | some s => some (b && s)
    | none => none)
  | _ => none
def bany : List MV → Option Bool
  | [] => some false
  | .bl b :: r => (match bany r with
    | some s => some (b || s)
    | none => none)
  | _ => none
def isTupV : MV → Bool
  | .tup _ (_ :: _) => true
  | _ => false
def dHas (k : Int) : List (Int × MV) → Bool
  | [] => false
  | p :: r => (match ieq p.1 k with
    | true => true
    | false => dHas k r)
def dGet (k : Int) : List (Int × MV) → Option MV
  | [] => none
  | p :: r => (match ieq p.1 k with
    | true => some p.2
    | false => dGet k r)
def dicOf : List MV → List (Int × MV) → Option (List (Int × MV))
  | [], d => some d
  | .tup _ [.int k, v] :: r, d => (match dHas k d with
    | true => none
    | false => dicOf r (d ++ [(k, v)]))
  | _, _ => none
def sort2 (h : Hm) : List MV → Option (List MV)
  | [x] => (match isTupV x && shp 20 x x with
    | true => some [x]
    | false => none)
  | [x, y] => (match isTupV x && (isTupV y && (shp 20 x x && (shp 20 y y && (shp 20 x y && shp 20 y x)))) with
    | true => (match ltB h 20 y x with
      | true => some [y, x]
      | false => some [x, y])
    | false => none)
  | _ => none
def vBi (b : Bi) (vs : List MV) (h : Hm) : RE := match b with
  | .len => (match vs with
    | [x] => (match seqOf h x with
      | some xs => .ok (.int (.ofNat xs.length)) h
      | none => .bad)
    | _ => .bad)
  | .abs => (match vs with
    | [.int i] => .ok (.int (.ofNat (iz i))) h
    | _ => .bad)
  | .gcd => (match vs with
    | [.int i, .int j] => .ok (.int (.ofNat (Nat.gcd (iz i) (iz j)))) h
    | _ => .bad)
  | .lcm => (match vs with
    | [.int i, .int j] => (match Nat.ble (iz i) 18446744073709551615 && Nat.ble (iz j) 18446744073709551615 with
      | true => .ok (.int (.ofNat (Nat.lcm (iz i) (iz j)))) h
      | false => .bad)
    | _ => .bad)
  | .min => (match vs with
    | [.int i, .int j] => .ok (.int (match ilt j i with
      | true => j
      | false => i)) h
    | _ => .bad)
  | .max => (match vs with
    | [.int i, .int j] => .ok (.int (match ilt i j with
      | true => j
      | false => i)) h
    | _ => .bad)
  | .sum => (match vs with
    | [x] => (match lstOf h x with
      | some xs => (match isums xs with
        | some i => .ok (.int i) h
        | none => .bad)
      | none => .bad)
    | _ => .bad)
  | .all => (match vs with
    | [x] => (match lstOf h x with
      | some xs => obl (ball xs) h
      | none => .bad)
    | _ => .bad)
  | .any => (match vs with
    | [x] => (match lstOf h x with
      | some xs => obl (bany xs) h
      | none => .bad)
    | _ => .bad)
  | .int => (match vs with
    | [.int i] => .ok (.int i) h
    | [.bl b] => .ok (.int (bint b)) h
    | _ => .bad)
  | .tuple => (match vs with
    | [.tup d xs] => .ok (.tup d xs) h
    | [x] => (match seqOf h x with
      | some xs => .ok (mkT xs) h
      | none => .bad)
    | _ => .bad)
  | .list => (match vs with
    | [x] => (match seqOf h x with
      | some xs => newL xs h
      | none => .bad)
    | _ => .bad)
  | .dict => (match vs with
    | [x] => (match lstOf h x with
      | some xs => (match fits xs, dicOf xs [] with
        | true, some d => .ok (.lref h.length) (h ++ [.dic d])
        | _, _ => .bad)
      | none => .bad)
    | _ => .bad)
  | .sorted => (match vs with
    | [.tup _ xs] => (match sort2 h xs with
      | some ys => newL ys h
      | none => .bad)
    | _ => .bad)
inductive Mth where
  | append | extend | pop | popAt | get
def vMth (m : Mth) (x : MV) (vs : List MV) (h : Hm) : RE := match x with
  | .lref n => (match m with
    | .append => (match vs, lstOf h (.lref n) with
      | [v], some xs => (match fits xs with
        | true => .ok .non (seth h n (.lst (xs ++ [v])))
        | false => .bad)
      | _, _ => .bad)
    | .extend => (match vs with
      | [y] => (match lstOf h (.lref n), lstOf h y with
        | some xs, some ys => (match fits (xs ++ ys) with
          | true => .ok .non (seth h n (.lst (xs ++ ys)))
          | false => .bad)
        | _, _ => .bad)
      | _ => .bad)
    | .pop => (match vs, lstOf h (.lref n) with
      | [], some xs => (match getn xs (xs.length - 1) with
        | some v => .ok v (seth h n (.lst xs.dropLast))
        | none => .bad)
      | _, _ => .bad)
    | .popAt => (match vs, lstOf h (.lref n) with
      | [.int (.ofNat i)], some xs => (match getn xs i with
        | some v => (match Nat.ble i cap with
          | true => .ok v (seth h n (.lst (xs.eraseIdx i)))
          | false => .bad)
        | none => .bad)
      | _, _ => .bad)
    | .get => .bad)
  | _ => .bad
inductive Tg where
  | nm (i : Nat) | nil | cons (t r : Tg) | tp (r : Tg)
inductive Ex where
  | var (i : Nat) | cst (v : MV) | glb (i : Nat) | fref (k : Nat)
  | neg (a : Ex) | nt (a : Ex) | bin (op : BOp) (a b : Ex) | cmp (op : COp) (a b : Ex) | chain (p q : COp) (a b c : Ex)
  | and (a b : Ex) | or (a b : Ex) | one (a : Ex) | ite (c a b : Ex)
  | nil | cons (a r : Ex) | tup (es : Ex) | lst (es : Ex)
  | idx (a b : Ex) | slc (a lo hi : Ex) | noe | bnd (a : Ex) | back (a lo hi : Ex)
  | call (f : Nat) (es : Ex) | callk (f : Nat) (es ks : Ex) (pm : List Nat) | callv (i : Nat)
  | bi (b : Bi) (es : Ex) | isin (a : Ex) (ts : List Ty) | mth (m : Mth) (a es : Ex)
  | get (a b c : Ex)
  | itv (a : Ex) | itr1 (a : Ex) | itr2 (a b : Ex) | itr3 (a b : Ex) | itn (a : Ex) | itz (a b : Ex)
  | lc (tg : Tg) (it cond elt : Ex) (own : List Nat) | lc2 (tg : Tg) (it : Ex) (tg2 : Tg) (it2 elt : Ex) (own own2 : List Nat)
inductive St where
  | skip | seq (a b : St) | asg (tg : Tg) (e : Ex) | par (is : List Nat) (es : Ex) | put (a i e : Ex) | swp (a i b j : Ex) (es : Ex) | aug (i : Nat) (op : BOp) (e : Ex) | zst (z : Nat) (es : Ex) (j f : Nat) (tg : Tg) (elt : Ex) (own : List Nat) (b : St)
  | exp (e : Ex) | ret (e : Ex) | ifs (c : Ex) (a b : St) | whl (c : Ex) (b : St) | fr (tg : Tg) (it : Ex) (b : St)
  | raise (c : Nat) | trys (b : St) (n : Nat) (hs : List (Nat × Nat × Nat × Str)) | thru (b : St) | brk | ct
inductive IT where
  | tup (xs : List MV) | lst (n i : Nat) | rng (lo c : Int) (n : Nat) | ent (k : Nat) (xs : List MV) | enl (k n : Nat) | zp (a b : IT)
inductive IO where
  | item (v : MV) (it : IT) | stop | bad
def stepL (h : Hm) (n i : Nat) (f : MV → MV) (it : IT) : IO := match seqOf h (.lref n) with
  | some xs => (match getn xs i with
    | some v => .item (f v) it
    | none => (match Nat.beq xs.length i with
      | true => .stop
      | false => .bad))
  | none => .bad
def zpS (a b : IO) : IO := match a with
  | .item x a' => (match b with
    | .item y b' => .item (mkT [x, y]) (.zp a' b')
    | .stop => .stop
    | .bad => .bad)
  | .stop => (match b with
    | .item _ _ => .stop
    | .stop => .stop
    | .bad => .bad)
  | .bad => .bad
def stepI : IT → Hm → IO
  | .tup [], _ => .stop
  | .tup (x :: xs), _ => .item x (.tup xs)
  | .lst n i, h => stepL h n i (fun v => v) (.lst n (i + 1))
  | .rng _ _ 0, _ => .stop
  | .rng lo c (n + 1), _ => .item (.int lo) (.rng (lo + c) c n)
  | .ent _ [], _ => .stop
  | .ent k (x :: xs), _ => .item (mkT [.int (.ofNat k), x]) (.ent (k + 1) xs)
  | .enl k n, h => stepL h n k (fun v => mkT [.int (.ofNat k), v]) (.enl (k + 1) n)
  | .zp a b, h => zpS (stepI a h) (stepI b h)
abbrev RI := R IT
abbrev SI := Rho → Hm → RI
def itOf (v : MV) (h : Hm) : RI := match v with
  | .tup _ xs => .ok (.tup xs) h
  | .lref n => (match seqOf h (.lref n) with
    | some _ => .ok (.lst n 0) h
    | none => .bad)
  | .zipv a b => (match itOf a h with
    | .ok i _ => (match itOf b h with
      | .ok j _ => .ok (.zp i j) h
      | _ => .bad)
    | _ => .bad)
  | _ => .bad
def itZ (x y : MV) (h : Hm) : RI := match itOf x h with
  | .ok i _ => (match itOf y h with
    | .ok j _ => .ok (.zp i j) h
    | _ => .bad)
  | _ => .bad
def itNOf (v : MV) (h : Hm) : RI := match v with
  | .tup _ xs => .ok (.ent 0 xs) h
  | .lref n => (match seqOf h (.lref n) with
    | some _ => .ok (.enl 0 n) h
    | none => .bad)
  | _ => .bad
def small (i : Int) : Bool := Nat.ble (iz i) 1000000
def rngN (lo hi : Int) : Nat := (hi - lo).toNat
def itR (lo hi : MV) (h : Hm) : RI := match lo with
  | .int a => (match hi with
    | .int b => (match small a && small b with
      | true => .ok (.rng a 1 (rngN a b)) h
      | false => .bad)
    | _ => .bad)
  | _ => .bad
def itRd (lo hi : MV) (h : Hm) : RI := match lo with
  | .int a => (match hi with
    | .int b => (match small a && small b with
      | true => .ok (.rng a (-1) (rngN b a)) h
      | false => .bad)
    | _ => .bad)
  | _ => .bad
def setr : Rho → Nat → MV → Rho := setn
def wipeM (ρ : Rho) : List Nat → Rho
  | [] => ρ
  | v :: vs => setn (wipeM ρ vs) v .und
def tgt : Tg → MV → Rho → Option Rho
  | .nm i, v, ρ => some (setn ρ i v)
  | .tp r, .tup _ xs, ρ => tgs r xs ρ
  | _, _, _ => none
where tgs : Tg → List MV → Rho → Option Rho
  | .nil, [], ρ => some ρ
  | .cons t r, x :: xs, ρ => (match tgt t x ρ with
    | some ρ' => tgs r xs ρ'
    | none => none)
  | _, _, _ => none
abbrev CF := Nat → List MV → Hm → RE
def doCall (cf : CF) (f : Nat) (vs : List MV) (h : Hm) : RE := match vs.all isP with
  | true => (match cf f vs [] with
    | .ok v h' => (match isP v with
      | true => .ok v h
      | false => .ok (shV h.length v) (h ++ h'.map (shO h.length)))
    | .exc c _ => .exc c h
    | .bad => .bad)
  | false => cf f vs h
def permM (vs : List MV) : List Nat → Option (List MV)
  | [] => some []
  | i :: is => (match getn vs i with
    | some v => (match permM vs is with
      | some r => some (v :: r)
      | none => none)
    | none => none)
def fuel : Nat := 5000
def lcRun (g : MV → Rho → Option Rho) (cond elt : SE) (ρ0 : Rho) : Nat → IT → Hm → RL
  | 0, _, _ => .bad
  | n + 1, it, h => (match stepI it h with
    | .stop => .ok [] h
    | .bad => .bad
    | .item x it' => (match g x ρ0 with
      | none => .bad
      | some ρ1 => (match cond ρ1 h with
        | .ok (.bl true) h1 => (match elt ρ1 h1 with
          | .ok v h2 => (match lcRun g cond elt ρ0 n it' h2 with
            | .ok vs h3 => .ok (v :: vs) h3
            | _ => .bad)
          | _ => .bad)
        | .ok (.bl false) h1 => lcRun g cond elt ρ0 n it' h1
        | _ => .bad)))
def lcIn (g : MV → Rho → Option Rho) (elt : SE) (ρ0 : Rho) (more : Hm → RL) : Nat → IT → Hm → RL
  | 0, _, _ => .bad
  | n + 1, it, h => (match stepI it h with
    | .stop => more h
    | .bad => .bad
    | .item x it' => (match g x ρ0 with
      | none => .bad
      | some ρ1 => (match elt ρ1 h with
        | .ok v h2 => (match lcIn g elt ρ0 more n it' h2 with
          | .ok vs h3 => .ok (v :: vs) h3
          | _ => .bad)
        | _ => .bad)))
def lcRun2 (g : MV → Rho → Option Rho) (it2 : SI) (g2 : MV → Rho → Option Rho) (elt : SE) (own2 : List Nat) (ρ0 : Rho) : Nat → IT → Hm → RL
  | 0, _, _ => .bad
  | n + 1, it, h => (match stepI it h with
    | .stop => .ok [] h
    | .bad => .bad
    | .item x it' => (match g x ρ0 with
      | none => .bad
      | some ρ1 => (match it2 ρ1 h with
        | .ok j h1 => lcIn g2 elt (wipeM ρ1 own2) (lcRun2 g it2 g2 elt own2 ρ0 n it') fuel j h1
        | _ => .bad)))
def frRun (g : MV → Rho → Option Rho) (body : SS) : Nat → IT → Rho → Hm → RS
  | 0, _, _, _ => .bad
  | n + 1, it, ρ, h => (match stepI it h with
    | .stop => .nx ρ h
    | .bad => .bad
    | .item x it' => (match g x ρ with
      | none => .bad
      | some ρ1 => (match body ρ1 h with
        | .nx ρ2 h2 => frRun g body n it' ρ2 h2
        | .ct ρ2 h2 => frRun g body n it' ρ2 h2
        | .brk ρ2 h2 => .nx ρ2 h2
        | .ret v h2 => .ret v h2
        | .exc c ρ2 h2 => .exc c ρ2 h2
        | .bad => .bad)))
def whRun (cond : SE) (body : SS) : Nat → Rho → Hm → RS
  | 0, _, _ => .bad
  | n + 1, ρ, h => (match cond ρ h with
    | .ok (.bl true) h1 => (match body ρ h1 with
      | .nx ρ2 h2 => whRun cond body n ρ2 h2
      | .ct ρ2 h2 => whRun cond body n ρ2 h2
      | .brk ρ2 h2 => .nx ρ2 h2
      | .ret v h2 => .ret v h2
      | .exc c ρ2 h2 => .exc c ρ2 h2
      | .bad => .bad)
    | .ok (.bl false) h1 => .nx ρ h1
    | .exc c h1 => .exc c ρ h1
    | _ => .bad)
def andM (x : MV) (h : Hm) (k : Hm → RE) : RE := match tru x h with
  | some true => k h
  | some false => .ok x h
  | none => .bad
def orM (x : MV) (h : Hm) (k : Hm → RE) : RE := match tru x h with
  | some true => .ok x h
  | some false => k h
  | none => .bad
def iteM (x : MV) (h : Hm) (a b : Hm → RE) : RE := match x with
  | .bl true => a h
  | .bl false => b h
  | _ => .bad
def isL (x : MV) (h : Hm) (k : Hm → RE) : RE := match lstOf h x with
  | some _ => k h
  | none => .bad
def dicAt (h : Hm) : MV → Option (List (Int × MV))
  | .lref n => (match geth h n with
    | some (.dic kvs) => some kvs
    | _ => none)
  | _ => none
def isD (x : MV) (h : Hm) (k : Hm → RE) : RE := match dicAt h x with
  | some _ => k h
  | none => .bad
def vGet (x k v : MV) (h : Hm) : RE := match k with
  | .int k => (match dicAt h x with
    | some kvs => (match dGet k kvs with
      | some w => .ok w h
      | none => .ok v h)
    | none => .bad)
  | _ => .bad
def fitL (r : RL) : RE := match r with
  | .ok vs h => (match fits vs with
    | true => newL vs h
    | false => .bad)
  | _ => .bad
def varM (ρ : Rho) (i : Nat) (h : Hm) : RE := match getn ρ i with
  | some .und => .bad
  | some (.zipv _ _) => .bad
  | some v => .ok v h
  | none => .bad
section
variable (cf : CF) (G : List MV)
mutual
def den : Ex → SE
  | .var i => fun ρ h => varM ρ i h
  | .cst v => fun _ h => .ok v h
  | .glb i => fun _ h => varM G i h
  | .fref k => fun _ h => .ok (.fn k) h
  | .neg a => fun ρ h => (den a ρ h).bind vNeg
  | .nt a => fun ρ h => (den a ρ h).bind vNot
  | .bin op a b => fun ρ h => (den a ρ h).bind fun x h1 => (den b ρ h1).bind fun y h2 => vBin op x y h2
  | .cmp op a b => fun ρ h => (den a ρ h).bind fun x h1 => (den b ρ h1).bind fun y h2 => vCmp op x y h2
  | .chain p q a b c => fun ρ h => (den a ρ h).bind fun x h1 => (den b ρ h1).bind fun y h2 => (vCmp p x y h2).bind fun z h3 => iteM z h3 (fun h4 => (den c ρ h4).bind fun w h5 => vCmp q y w h5) (fun h4 => .ok (.bl false) h4)
  | .and a b => fun ρ h => (den a ρ h).bind fun x h1 => andM x h1 (den b ρ)
  | .or a b => fun ρ h => (den a ρ h).bind fun x h1 => orM x h1 (den b ρ)
  | .one a => fun ρ h => den a ρ h
  | .ite c a b => fun ρ h => (den c ρ h).bind fun x h1 => iteM x h1 (den a ρ) (den b ρ)
  | .tup es => fun ρ h => (denL es ρ h).bind fun vs h1 => .ok (mkT vs) h1
  | .lst es => fun ρ h => (denL es ρ h).bind fun vs h1 => newL vs h1
  | .idx a b => fun ρ h => (den a ρ h).bind fun x h1 => (den b ρ h1).bind fun y h2 => vIx x y h2
  | .slc a lo hi => fun ρ h => (den a ρ h).bind fun x h1 => (denO lo ρ h1).bind fun l h2 => (denO hi ρ h2).bind fun u h3 => vSl x l u h3
  | .back a lo hi => fun ρ h => (den a ρ h).bind fun x h1 => (denO lo ρ h1).bind fun l h2 => (denO hi ρ h2).bind fun u h3 => vBack x l u h3
  | .call f es => fun ρ h => (denL es ρ h).bind fun vs h1 => doCall cf f vs h1
  | .callk f es ks pm => fun ρ h => (denL es ρ h).bind fun vs h1 => (denL ks ρ h1).bind fun zs h2 => (match permM (vs ++ zs) pm with
    | some us => doCall cf f us h2
    | none => .bad)
  | .callv i => fun ρ h => (match getn ρ i with
    | some (.fn k) => doCall cf k [] h
    | _ => .bad)
  | .bi b es => fun ρ h => (denL es ρ h).bind fun vs h1 => vBi b vs h1
  | .isin a ts => fun ρ h => (den a ρ h).bind fun x h1 => obl (tyAny ts x h1) h1
  | .mth m a es => fun ρ h => (den a ρ h).bind fun x h1 => isL x h1 fun h2 => (denL es ρ h2).bind fun vs h3 => vMth m x vs h3
  | .get a b c => fun ρ h => (den a ρ h).bind fun x h1 => isD x h1 fun h2 => (den b ρ h2).bind fun k h3 => (den c ρ h3).bind fun v h4 => vGet x k v h4
  | .lc tg it cond elt own => fun ρ h => (denI it ρ h).bind fun j h1 => fitL (lcRun (tgt tg) (den cond) (den elt) (wipeM ρ own) fuel j h1)
  | .lc2 tg it tg2 it2 elt own own2 => fun ρ h => (denI it ρ h).bind fun j h1 => fitL (lcRun2 (tgt tg) (denI it2) (tgt tg2) (den elt) own2 (wipeM ρ own) fuel j h1)
  | _ => fun _ _ => .bad
def denL : Ex → SL
  | .nil => fun _ h => .ok [] h
  | .cons a r => fun ρ h => (den a ρ h).bind fun x h1 => (denL r ρ h1).bind fun xs h2 => .ok (x :: xs) h2
  | _ => fun _ _ => .bad
def denO : Ex → Rho → Hm → R (Option Int)
  | .noe => fun _ h => .ok none h
  | .bnd a => fun ρ h => toI (den a ρ h)
  | _ => fun _ _ => .bad
def denI : Ex → SI
  | .itv a => fun ρ h => (den a ρ h).bind itOf
  | .itr1 a => fun ρ h => (den a ρ h).bind fun x h1 => itR (.int (.ofNat 0)) x h1
  | .itr2 a b => fun ρ h => (den a ρ h).bind fun x h1 => (den b ρ h1).bind fun y h2 => itR x y h2
  | .itr3 a b => fun ρ h => (den a ρ h).bind fun x h1 => (den b ρ h1).bind fun y h2 => itRd x y h2
  | .itn a => fun ρ h => (den a ρ h).bind itNOf
  | .itz a b => fun ρ h => (den a ρ h).bind fun x h1 => (den b ρ h1).bind fun y h2 => itZ x y h2
  | _ => fun _ _ => .bad
end
def setAll : Rho → List Nat → List MV → Option Rho
  | ρ, [], [] => some ρ
  | ρ, i :: is, v :: vs => setAll (setn ρ i v) is vs
  | _, _, _ => none
def putM (x i v : MV) (h : Hm) : Option Hm := match x with
  | .lref n => (match lstOf h (.lref n), i with
    | some xs, .int k => (match Nat.blt (ixOf xs.length k) xs.length with
      | true => some (seth h n (.lst (setn xs (ixOf xs.length k) v)))
      | false => none)
    | _, _ => none)
  | _ => none
def zstM (cf : CF) (z j f : Nat) (ρ : Rho) (r : RE) : RS := r.bindS (setn ρ z .und) fun l h => (vBi .tuple [l] h).bindS (setn ρ z .und) fun t h1 => (doCall cf f [t] h1).bindS (setn ρ z .und) fun v h2 => .nx (setn (setn ρ z .und) j v) h2
def zstA (cf : CF) (z j f : Nat) (tg : Tg) (elt : SE) (own : List Nat) (ρ : Rho) (vs : List MV) (h : Hm) : RS := match vs with
  | [x, y] => (match getn ρ z with
    | some _ => (match itZ x y h with
      | .ok it h3 => zstM cf z j f ρ (fitL (lcRun (tgt tg) (fun _ h => .ok (.bl true) h) elt (wipeM (setn ρ z .und) own) fuel it h3))
      | _ => .bad)
    | none => .bad)
  | _ => .bad
def hksRun : List (Nat × Nat × Nat × Str) → Nat → Rho → Hm → RS
  | [], c, ρ, h => .exc c ρ h
  | (k, j, i, x) :: r, c, ρ, h => (match Nat.beq k c with
    | true => (match getn ρ j with
      | some _ => .nx (setn (setn (setn ρ j .und) i (.lref h.length)) j .und) (h ++ [.lst [.str x, .bl true]])
      | none => .bad)
    | false => hksRun r c ρ h)
def run : St → SS
  | .skip => fun ρ h => .nx ρ h
  | .seq a b => fun ρ h => (match run a ρ h with
    | .nx ρ1 h1 => run b ρ1 h1
    | r => r)
  | .asg tg e => fun ρ h => (den cf G e ρ h).bindS ρ fun v h1 => (match tgt tg v ρ with
    | some ρ1 => .nx ρ1 h1
    | none => .bad)
  | .par is es => fun ρ h => (denL cf G es ρ h).bindS ρ fun vs h1 => (match setAll ρ is vs with
    | some ρ1 => .nx ρ1 h1
    | none => .bad)
  | .put a i e => fun ρ h => (den cf G e ρ h).bindS ρ fun v h1 => (den cf G a ρ h1).bindS ρ fun x h2 => (den cf G i ρ h2).bindS ρ fun k h3 => (match putM x k v h3 with
    | some h4 => .nx ρ h4
    | none => .bad)
  | .swp a i b j es => fun ρ h => (den cf G (.tup es) ρ h).bindS ρ fun t h1 => (match t with
    | .tup _ [v, w] => (den cf G a ρ h1).bindS ρ fun x h2 => (den cf G i ρ h2).bindS ρ fun k h3 => (match putM x k v h3 with
      | some h4 => (den cf G b ρ h4).bindS ρ fun y h5 => (den cf G j ρ h5).bindS ρ fun l h6 => (match putM y l w h6 with
        | some h7 => .nx ρ h7
        | none => .bad)
      | none => .bad)
    | _ => .bad)
  | .aug i op e => fun ρ h => (match getn ρ i with
    | some (.int a) => (den cf G e ρ h).bindS ρ fun v h1 => (match v with
      | .int b => (vBin op (.int a) (.int b) h1).bindS ρ fun z h2 => .nx (setn ρ i z) h2
      | _ => .bad)
    | _ => .bad)
  | .zst z es j f tg elt own b => fun ρ h => (match (denL cf G es ρ h).bindS ρ fun vs h1 => zstA cf z j f tg (den cf G elt) own ρ vs h1 with
    | .nx ρ1 h1 => run b ρ1 h1
    | r => r)
  | .exp e => fun ρ h => (den cf G e ρ h).bindS ρ fun _ h1 => .nx ρ h1
  | .ret e => fun ρ h => (den cf G e ρ h).bindS ρ fun v h1 => .ret v h1
  | .ifs c a b => fun ρ h => (den cf G c ρ h).bindS ρ fun x h1 => (match x with
    | .bl true => run a ρ h1
    | .bl false => run b ρ h1
    | _ => .bad)
  | .whl c b => fun ρ h => whRun (den cf G c) (run b) fuel ρ h
  | .fr tg it b => fun ρ h => (denI cf G it ρ h).bindS ρ fun j h1 => frRun (tgt tg) (run b) fuel j ρ h1
  | .raise c => fun ρ h => .exc c ρ h
  | .trys b n hs => fun ρ h => (match run b ρ h with
    | .exc c ρ1 h1 => (match Nat.blt c n with
      | true => hksRun hs c ρ1 h1
      | false => .bad)
    | r => r)
  | .thru b => fun ρ h => (match run b ρ h with
    | .exc _ _ _ => .bad
    | r => r)
  | .brk => fun ρ h => .brk ρ h
  | .ct => fun ρ h => .ct ρ h
end
structure FnD where
  np : Nat
  ns : Nat
  body : St
def getF : List FnD → Nat → Option FnD
  | [], _ => none
  | d :: _, 0 => some d
  | _ :: r, n + 1 => getF r n
def unds : Nat → List MV
  | 0 => []
  | n + 1 => .und :: unds n
def endF (r : RS) : RE := match r with
  | .ret v h => .ok v h
  | .nx _ h => .ok .non h
  | .exc c _ h => .exc c h
  | _ => .bad
def callK (tab : List FnD) (G : List MV) : Nat → CF
  | 0 => fun _ _ _ => .bad
  | k + 1 => fun f vs h => (match getF tab f with
    | some d => (match Nat.beq vs.length d.np with
      | true => endF (run (callK tab G k) G d.body (vs ++ unds (d.ns - d.np)) h)
      | false => .bad)
    | none => .bad)
end Mi
namespace Mi
open PySem PySem.Spec PyProof.Rows L2
structure KPat where
  f : Nat
  n : Nat
  ks : List Str
  pm : List Nat
  deriving DecidableEq
structure PTb where
  fns : List (Str × List Str)
  gls : List Str
  exs : List Str
  bis : List Str
  mas : List (Str × String)
  kp : List KPat
structure FnT where
  x : Str
  ps : List Str
  N : List Str
  params : Arguments
  body : List Stmt
  scope : Scope
section
variable (K : PySem.W.Frag)
mutual
def relK : MV → Value → Bool
  | .non, u => (match u with
    | .none => true
    | _ => false)
  | .bl b, u => (match u with
    | .bool c => beqB b c
    | _ => false)
  | .int i, u => (match u with
    | .int j _ => ieq i j
    | _ => false)
  | .str x, u => (match u with
    | .str y _ => decide (x = y)
    | _ => false)
  | .tup d xs, u => (match u with
    | .ref a => (match K.lookup a with
      | some ⟨.type c, _, .seq its _, _⟩ => decide (c = "tuple") && (decide (its.size ≤ sizeLine) && (Nat.beq d (rkL xs) && relKs xs its.toList))
      | _ => false)
    | _ => false)
  | _, _ => false
def relKs : List MV → List Value → Bool
  | [], us => us.isEmpty
  | x :: xs, us => (match us with
    | u :: us => relK x u && relKs xs us
    | [] => false)
end
end
def glsB (K : PySem.W.Frag) : List Str → List MV → Bool
  | [], ms => ms.isEmpty
  | x :: xs, ms => (match ms with
    | m :: ms => (match PySem.W.nsIn K mainGlobals x with
      | some (some u) => relK K m u
      | _ => false) && glsB K xs ms
    | [] => false)
def masB (K : PySem.W.Frag) (l : List (Str × String)) : Bool := l.all fun p => decide (PySem.W.nsIn K mainGlobals p.1 = some (some (.builtin p.2)))
def exB (K : PySem.W.Frag) (x : Str) : Bool :=
  decide (PySem.W.findIn K (.ref (He.ga K x)) "__getattribute__" = some (some (.builtin "BaseException.__getattribute__"))) && (decide (PySem.W.findIn K (.ref (He.ga K x)) "__getattr__" = some none) &&
  (PySem.W.hasDictIn K (He.ga K x) && (decide (PySem.W.findIn K (.ref (He.ga K x)) "__class__" = some (some (.builtin "object.__class__"))) &&
  (decide (PySem.W.specialIn K (.builtin "object.__class__") "__get__" = some (some (.builtin "getset_descriptor.__get__"))) && (decide (PySem.W.takesIn K (.builtin "object.__class__") = some true) &&
  (decide (PySem.W.mroIn K (He.ga K x) (.type "object") = some true) && decide (PySem.W.kitOne K (.ref (He.ga K x)) (.type "ValueError") = some true)))))))
def ckM (T : PTb) (G : List MV) (K : PySem.W.Frag) : Bool := glsB K T.gls G && (masB K T.mas && T.exs.all (exB K))
def pairs (l : List Str) : List He.Fa := l.flatMap fun x => l.map fun y => .exm x y (decide (x = y))
def faM (T : PTb) : List He.Fa := T.fns.map (fun p => .glo p.1) ++ (T.exs.map (fun x => .glo x) ++ (T.exs.map (fun x => .exc x) ++ (pairs T.exs ++ T.bis.map fun x => .free x)))
def ddM (t : FnT) : He.DefD := ⟨(t.x, none), t.x, t.x, t.params, t.body, t.scope, [], []⟩
def fnM (ts : List FnT) : List He.DefD := ts.map ddM
def obsM (T : PTb) (G : List MV) (ts : List FnT) (K : PySem.W.Frag) : He.AlD := (((faM T).all fun f => f.ok K) && (ckM T G K && (fnM ts).all fun d => d.ok K), (fnM ts).map fun d => He.fnW K d.at_)
def atG (g : Addr → Option Obj) (N : Nat) (a : Addr) : Option Obj := match Nat.blt a N with
  | true => g a
  | false => none
def cdG (g : Addr → Option Obj) (N : Nat) (cd : Value) (q : Str) : Bool := match cd with
  | .ref c => (match atG g N c with
      | some ⟨_, _, .fields vs, _⟩ => (match vs.toList with
        | _ :: .str n _ :: _ => n == q
        | _ => false)
      | _ => false)
  | _ => false
def nnV : Value → Bool
  | .none => true
  | _ => false
def lEq : List Nat → List Nat → Bool
  | [], [] => true
  | a :: as, b :: bs => (match Nat.beq a b with
    | true => lEq as bs
    | false => false)
  | _, _ => false
def sEq (x y : Str) : Bool := lEq x.cps.toList y.cps.toList
def kyF (v : Value) (y : Str) : Bool := match v with
  | .str x _ => sEq x y
  | _ => false
def enF (y : Str) : List DictEntry → Option Value
  | [] => none
  | e :: r => (match kyF e.key y with
    | true => some e.val
    | false => enF y r)
def glF (g : Addr → Option Obj) (N : Nat) : List DictEntry := match atG g N mainGlobals with
  | some ⟨_, _, .dict es _, _⟩ => es.toList
  | _ => []
def fnG (g : Addr → Option Obj) (N : Nat) (x : Str) : Bool × He.FnW := match enF x (glF g N) with
  | some (.ref a) => (match atG g N a with
    | some ⟨_, _, .func fd, _⟩ => (cdG g N fd.code x && nnV fd.defaults, some (fd.name, fd.qualname, fd.params, fd.body, fd.scope, fd.globals, fd.closure, fd.builtins))
    | _ => (false, none))
  | _ => (false, none)
def asN (as : List Addr) (N : Nat) : List Addr := as ++ List.range N
def frB (T : PTb) (g : Addr → Option Obj) (N : Nat) : Bool := (match atG g N mainGlobals with
  | some ⟨_, _, .dict _ _, _⟩ => true
  | _ => false) && ((glF g N).all (fun e => !e.refKey) && T.bis.all fun x => (enF x (glF g N)).isNone)
def faX (T : PTb) : List He.Fa := T.exs.map (fun x => .glo x) ++ (T.exs.map (fun x => .exc x) ++ pairs T.exs)
def obsF (T : PTb) (G : List MV) (ts : List FnT) (K : PySem.W.Frag) (g : Addr → Option Obj) (N : Nat) : He.AlD := (((faX T).all fun f => f.ok K) && (frB T g N && (ckM T G K && ts.all fun t => (fnG g N t.x).1)), ts.map fun t => (fnG g N t.x).2)
def obM (as : List Addr) (N : Nat) (T : PTb) (G : List MV) (ts : List FnT) (g : Addr → Option Obj) : He.AlD := obsF T G ts (He.frG g (asN as N)) g N
def ob1 (as : List Addr) (N : Nat) (T : PTb) (g : Addr → Option Obj) : Bool := (faX T).all fun f => f.ok (He.frG g (asN as N))
def ob2 (N : Nat) (T : PTb) (g : Addr → Option Obj) : Bool := frB T g N
def ob3 (as : List Addr) (N : Nat) (T : PTb) (G : List MV) (g : Addr → Option Obj) : Bool := ckM T G (He.frG g (asN as N))
def ob4 (N : Nat) (ts : List FnT) (g : Addr → Option Obj) : Bool × List He.FnW := (ts.all fun t => (fnG g N t.x).1, ts.map fun t => (fnG g N t.x).2)
theorem ob_join {as : List Addr} {N : Nat} {T : PTb} {G : List MV} {ts : List FnT} {g : Addr → Option Obj} (h1 : ob1 as N T g = true) (h2 : ob2 N T g = true) (h3 : ob3 as N T G g = true) (h4 : ob4 N ts g = He.valD (fnM ts)) : obM as N T G ts g = He.valD (fnM ts) := by
  have a := congrArg Prod.fst h4
  have b := congrArg Prod.snd h4
  refine Prod.ext ?_ b
  show (ob1 as N T g && (ob2 N T g && (ob3 as N T G g && (ob4 N ts g).1))) = true
  rw [h1, h2, h3]
  exact a
theorem ob4_app {N : Nat} {ts us : List FnT} {g : Addr → Option Obj} (h1 : ob4 N ts g = He.valD (fnM ts)) (h2 : ob4 N us g = He.valD (fnM us)) : ob4 N (ts ++ us) g = He.valD (fnM (ts ++ us)) := by
  have a1 := congrArg Prod.fst h1
  have b1 := congrArg Prod.snd h1
  have a2 := congrArg Prod.fst h2
  have b2 := congrArg Prod.snd h2
  have a1 : (ts.all fun t => (fnG g N t.x).1) = true := a1
  have a2 : (us.all fun t => (fnG g N t.x).1) = true := a2
  refine Prod.ext ?_ ?_
  · show ((ts ++ us).all fun t => (fnG g N t.x).1) = true
    rw [List.all_append, a1, a2]; rfl
  · show (ts ++ us).map (fun t => (fnG g N t.x).2) = ((ts ++ us).map ddM).map _
    rw [List.map_append, List.map_append, List.map_append]
    exact congr (congrArg _ b1) b2
end Mi
namespace L_k66
open PySem PySem.Spec PyProof.Rows L2 Mi
def nm0 : List (PySem.Str) := [("Unfit" : PySem.Str), ("CanNot" : PySem.Str), ("NoPaper" : PySem.Str), ("NOUGHT" : PySem.Str), ("ONE" : PySem.Str), ("tupled" : PySem.Str), ("is_number" : PySem.Str), ("is_from" : PySem.Str), ("is_long" : PySem.Str), ("is_fraction" : PySem.Str), ("is_row" : PySem.Str), ("is_row_of" : PySem.Str), ("sure" : PySem.Str), ("sure_fraction" : PySem.Str), ("sure_row" : PySem.Str), ("fraction_of" : PySem.Str), ("plus" : PySem.Str), ("negative" : PySem.Str), ("minus" : PySem.Str), ("product" : PySem.Str), ("ratio" : PySem.Str), ("is_lower" : PySem.Str), ("is_at_most" : PySem.Str), ("size_of" : PySem.Str), ("halfway" : PySem.Str), ("noughts" : PySem.Str), ("total" : PySem.Str), ("met" : PySem.Str), ("scaled" : PySem.Str), ("row_plus" : PySem.Str), ("row_minus" : PySem.Str), ("sum_over" : PySem.Str), ("TWO_numbers" : PySem.Str), ("trimmed" : PySem.Str), ("longer" : PySem.Str), ("poly_plus" : PySem.Str), ("poly_less" : PySem.Str), ("poly_by" : PySem.Str), ("poly_over" : PySem.Str), ("with_last_one" : PySem.Str)]
def nm1 : List (PySem.Str) := [("poly_divisor" : PySem.Str), ("slope_of" : PySem.Str), ("poly_once" : PySem.Str), ("poly_lots" : PySem.Str), ("poly_at" : PySem.Str), ("rests_of" : PySem.Str), ("changes_of" : PySem.Str), ("changes_at" : PySem.Str), ("between_in" : PySem.Str), ("roots_in" : PySem.Str), ("parted_spans" : PySem.Str), ("halved_span" : PySem.Str), ("is_apart" : PySem.Str), ("spans_in" : PySem.Str), ("below_row" : PySem.Str), ("cleared" : PySem.Str), ("solved_in" : PySem.Str), ("power_in" : PySem.Str), ("half_plane" : PySem.Str), ("far_signs" : PySem.Str), ("outside_off_rim" : PySem.Str), ("in_cosine" : PySem.Str), ("on_rim" : PySem.Str), ("outside_in" : PySem.Str), ("is_box" : PySem.Str), ("sure_box" : PySem.Str), ("many_cells" : PySem.Str), ("polys_of" : PySem.Str), ("is_small_in" : PySem.Str), ("sure_small" : PySem.Str), ("beat_in" : PySem.Str), ("run_in" : PySem.Str), ("rest_of" : PySem.Str), ("echoes_in" : PySem.Str), ("TWO_curves" : PySem.Str), ("LESS" : PySem.Str), ("NARROW" : PySem.Str), ("sure_width" : PySem.Str), ("slants_in" : PySem.Str), ("curve_by" : PySem.Str)]
def nm2 : List (PySem.Str) := [("curve_in" : PySem.Str), ("dip_in" : PySem.Str), ("stands_damped" : PySem.Str), ("is_keeper_in" : PySem.Str), ("times_i" : PySem.Str), ("over_i" : PySem.Str), ("row_at_i" : PySem.Str), ("tone_of" : PySem.Str), ("root_of" : PySem.Str), ("MOST_HEARD" : PySem.Str), ("MOST_SPOTS" : PySem.Str), ("MOST_LINES" : PySem.Str), ("MOST_LED" : PySem.Str), ("NO_ECHO" : PySem.Str), ("NIL" : PySem.Str), ("UNIT" : PySem.Str), ("UP" : PySem.Str), ("is_spot_so" : PySem.Str), ("is_value_at" : PySem.Str), ("rises" : PySem.Str), ("is_told" : PySem.Str), ("many_lines" : PySem.Str), ("sure_spots" : PySem.Str), ("sure_seen" : PySem.Str), ("pair_plus" : PySem.Str), ("turned_about" : PySem.Str), ("lines_of" : PySem.Str), ("all_lines" : PySem.Str), ("at_echo" : PySem.Str), ("at_both" : PySem.Str), ("number_at" : PySem.Str), ("table_of" : PySem.Str), ("swept" : PySem.Str), ("nought_row" : PySem.Str), ("all_nought" : PySem.Str), ("factor_of" : PySem.Str), ("spread" : PySem.Str), ("times_all" : PySem.Str), ("box_by" : PySem.Str), ("keeper_by" : PySem.Str)]
def nm3 : List (PySem.Str) := [("forced_by" : PySem.Str), ("more_column" : PySem.Str), ("with_more" : PySem.Str), ("rooted" : PySem.Str), ("ends_by" : PySem.Str), ("next_of" : PySem.Str), ("ends_in" : PySem.Str), ("end_in" : PySem.Str), ("keeper_in" : PySem.Str), ("can_in" : PySem.Str), ("is_forced_in" : PySem.Str), ("moved" : PySem.Str), ("can_moved" : PySem.Str), ("sure_can" : PySem.Str), ("share_bracket_in" : PySem.Str), ("sure_which" : PySem.Str), ("is_spot" : PySem.Str), ("told_of" : PySem.Str), ("told_table" : PySem.Str), ("can_have" : PySem.Str), ("is_forced" : PySem.Str), ("keeper_with" : PySem.Str), ("has_all" : PySem.Str), ("is_keeper_with" : PySem.Str), ("against" : PySem.Str), ("is_against" : PySem.Str), ("sure_beyond" : PySem.Str), ("next_value" : PySem.Str), ("next_echo" : PySem.Str), ("end_with" : PySem.Str), ("damper_more" : PySem.Str), ("share_left" : PySem.Str), ("_law_lists" : PySem.Str), ("_law_same" : PySem.Str), ("_law_names" : PySem.Str), ("_law_tables_right" : PySem.Str), ("_law_keepers_right" : PySem.Str), ("_law_ends_right" : PySem.Str), ("_law_tried" : PySem.Str), ("_law_no_word" : PySem.Str)]
def nm4 : List (PySem.Str) := [("_law_heard" : PySem.Str), ("_law_refused_right" : PySem.Str)]
def nm : List (PySem.Str) := nm0 ++ (nm1 ++ (nm2 ++ (nm3 ++ (nm4))))
abbrev Rw : PySem.W.OpenRow := PySem.W.OpenLaw.row PySem.Challenge.rw_keepcompany_k66_spots_by_hand_and_refuse
abbrev qv : PySem.Program := PySem.W.view Rw.prog [0, 175]
def top (i : Nat) : Stmt := PySem.Challenge.pw_keepcompany_k66_spots_by_hand_and_refuse.main.body.getD i (.Pass ⟨0, 0, 0, 0⟩)
def tt (x : PySem.Str) (ps N : List PySem.Str) (i : Nat) : FnT := ⟨x, ps, N, defArgs (top i), defBody (top i), defScope (top i)⟩
def ts0 : List (FnT) := [tt ("fraction_of" : PySem.Str) [("top" : PySem.Str), ("bottom" : PySem.Str)] [("top" : PySem.Str), ("bottom" : PySem.Str), ("most" : PySem.Str)] 18, tt ("product" : PySem.Str) [("one" : PySem.Str), ("other" : PySem.Str)] [("one" : PySem.Str), ("other" : PySem.Str)] 22, tt ("plus" : PySem.Str) [("one" : PySem.Str), ("other" : PySem.Str)] [("one" : PySem.Str), ("other" : PySem.Str)] 19, tt ("minus" : PySem.Str) [("one" : PySem.Str), ("other" : PySem.Str)] [("one" : PySem.Str), ("other" : PySem.Str)] 21, tt ("tupled" : PySem.Str) [("value" : PySem.Str)] [("value" : PySem.Str), ("part" : PySem.Str)] 8, tt ("ratio" : PySem.Str) [("one" : PySem.Str), ("other" : PySem.Str)] [("one" : PySem.Str), ("other" : PySem.Str)] 23, tt ("is_number" : PySem.Str) [("thing" : PySem.Str)] [("thing" : PySem.Str)] 9, tt ("is_long" : PySem.Str) [("thing" : PySem.Str), ("length" : PySem.Str)] [("thing" : PySem.Str), ("length" : PySem.Str)] 11, tt ("negative" : PySem.Str) [("one" : PySem.Str)] [("one" : PySem.Str)] 20, tt ("is_from" : PySem.Str) [("thing" : PySem.Str), ("least" : PySem.Str)] [("thing" : PySem.Str), ("least" : PySem.Str)] 10, tt ("times_i" : PySem.Str) [("one" : PySem.Str), ("other" : PySem.Str)] [("one" : PySem.Str), ("other" : PySem.Str), ("across" : PySem.Str)] 92, tt ("over_i" : PySem.Str) [("one" : PySem.Str), ("other" : PySem.Str)] [("one" : PySem.Str), ("other" : PySem.Str), ("long" : PySem.Str), ("across" : PySem.Str), ("up" : PySem.Str)] 93, tt ("at_both" : PySem.Str) [("entry" : PySem.Str), ("other" : PySem.Str)] [("entry" : PySem.Str), ("other" : PySem.Str), ("z" : PySem.Str), ("c" : PySem.Str), ("w" : PySem.Str), ("y" : PySem.Str), ("d" : PySem.Str), ("v" : PySem.Str), ("both" : PySem.Str), ("kernel" : PySem.Str)] 119, tt ("at_echo" : PySem.Str) [("heard" : PySem.Str), ("k" : PySem.Str), ("entry" : PySem.Str)] [("heard" : PySem.Str), ("k" : PySem.Str), ("entry" : PySem.Str), ("z" : PySem.Str), ("c" : PySem.Str), ("w" : PySem.Str), ("found" : PySem.Str), ("own" : PySem.Str)] 118, tt ("poly_by" : PySem.Str) [("p" : PySem.Str), ("q" : PySem.Str)] [("p" : PySem.Str), ("q" : PySem.Str), ("back" : PySem.Str), ("found" : PySem.Str), ("place" : PySem.Str), ("first" : PySem.Str)] 41, tt ("poly_over" : PySem.Str) [("p" : PySem.Str), ("q" : PySem.Str)] [("p" : PySem.Str), ("q" : PySem.Str), ("rest" : PySem.Str), ("many" : PySem.Str), ("place" : PySem.Str), ("much" : PySem.Str), ("far" : PySem.Str), ("own" : PySem.Str)] 42, tt ("poly_divisor" : PySem.Str) [("p" : PySem.Str), ("q" : PySem.Str)] [("p" : PySem.Str), ("q" : PySem.Str)] 44, tt ("table_of" : PySem.Str) [("heard" : PySem.Str), ("told" : PySem.Str)] [("heard" : PySem.Str), ("told" : PySem.Str), ("lines" : PySem.Str), ("line" : PySem.Str), ("other" : PySem.Str)] 121, tt ("nought_row" : PySem.Str) [("table" : PySem.Str)] [("table" : PySem.Str), ("rows" : PySem.Str), ("leads" : PySem.Str), ("own" : PySem.Str), ("left" : PySem.Str), ("spots" : PySem.Str), ("free" : PySem.Str), ("found" : PySem.Str), ("row" : PySem.Str), ("lead" : PySem.Str), ("place" : PySem.Str), ("part" : PySem.Str)] 123, tt ("below_row" : PySem.Str) [("table" : PySem.Str)] [("table" : PySem.Str), ("many" : PySem.Str), ("corner" : PySem.Str), ("far" : PySem.Str), ("own" : PySem.Str), ("much" : PySem.Str), ("shares" : PySem.Str), ("rows" : PySem.Str), ("later" : PySem.Str), ("place" : PySem.Str), ("row" : PySem.Str), ("share" : PySem.Str)] 58, tt ("is_spot_so" : PySem.Str) [("thing" : PySem.Str)] [("thing" : PySem.Str)] 107, tt ("sure_seen" : PySem.Str) [("heard" : PySem.Str), ("told" : PySem.Str), ("most" : PySem.Str)] [("heard" : PySem.Str), ("told" : PySem.Str), ("most" : PySem.Str), ("row" : PySem.Str), ("pairs" : PySem.Str), ("pair" : PySem.Str)] 113, tt ("is_keeper_in" : PySem.Str) [("box" : PySem.Str)] [("box" : PySem.Str)] 90, tt ("keeper_by" : PySem.Str) [("heard" : PySem.Str), ("told" : PySem.Str), ("row" : PySem.Str)] [("heard" : PySem.Str), ("told" : PySem.Str), ("row" : PySem.Str), ("top" : PySem.Str), ("bottom" : PySem.Str), ("whole" : PySem.Str), ("k" : PySem.Str), ("much" : PySem.Str), ("place" : PySem.Str), ("spot" : PySem.Str), ("value" : PySem.Str), ("rest" : PySem.Str), ("line" : PySem.Str), ("c" : PySem.Str), ("far" : PySem.Str), ("own" : PySem.Str)] 129, tt ("more_column" : PySem.Str) [("heard" : PySem.Str), ("told" : PySem.Str), ("a" : PySem.Str), ("w" : PySem.Str)] [("heard" : PySem.Str), ("told" : PySem.Str), ("a" : PySem.Str), ("w" : PySem.Str), ("own" : PySem.Str), ("more" : PySem.Str), ("line" : PySem.Str)] 131, tt ("ends_by" : PySem.Str) [("table" : PySem.Str), ("first" : PySem.Str), ("second" : PySem.Str)] [("table" : PySem.Str), ("first" : PySem.Str), ("second" : PySem.Str), ("slope" : PySem.Str), ("steep" : PySem.Str), ("most" : PySem.Str), ("half" : PySem.Str), ("least" : PySem.Str), ("root" : PySem.Str)] 134, tt ("can_moved" : PySem.Str) [("heard" : PySem.Str), ("told" : PySem.Str), ("e" : PySem.Str)] [("heard" : PySem.Str), ("told" : PySem.Str), ("e" : PySem.Str), ("row" : PySem.Str), ("pairs" : PySem.Str)] 142, tt ("ends_in" : PySem.Str) [("heard" : PySem.Str), ("told" : PySem.Str), ("a" : PySem.Str)] [("heard" : PySem.Str), ("told" : PySem.Str), ("a" : PySem.Str), ("table" : PySem.Str), ("row" : PySem.Str), ("only" : PySem.Str)] 136, tt ("end_in" : PySem.Str) [("heard" : PySem.Str), ("told" : PySem.Str), ("a" : PySem.Str), ("which" : PySem.Str)] [("heard" : PySem.Str), ("told" : PySem.Str), ("a" : PySem.Str), ("which" : PySem.Str), ("row" : PySem.Str), ("own" : PySem.Str), ("pairs" : PySem.Str)] 137, tt ("damper_more" : PySem.Str) [("heard" : PySem.Str), ("told" : PySem.Str), ("width" : PySem.Str)] [("heard" : PySem.Str), ("told" : PySem.Str), ("width" : PySem.Str), ("row" : PySem.Str), ("pairs" : PySem.Str), ("most" : PySem.Str), ("low" : PySem.Str), ("high" : PySem.Str), ("mid" : PySem.Str)] 162]
def ts1 : List (FnT) := [tt ("share_left" : PySem.Str) [("heard" : PySem.Str), ("told" : PySem.Str), ("width" : PySem.Str)] [("heard" : PySem.Str), ("told" : PySem.Str), ("width" : PySem.Str), ("row" : PySem.Str), ("pairs" : PySem.Str), ("most" : PySem.Str)] 163, tt ("_law_tables_right" : PySem.Str) [] [("o" : PySem.Str), ("one" : PySem.Str), ("two" : PySem.Str), ("three" : PySem.Str), ("less" : PySem.Str), ("coil" : PySem.Str), ("weight" : PySem.Str), ("rub" : PySem.Str), ("seen" : PySem.Str), ("half" : PySem.Str), ("up" : PySem.Str), ("slant" : PySem.Str), ("got" : PySem.Str), ("due" : PySem.Str), ("bad" : PySem.Str), ("own" : PySem.Str)] 168, tt ("_law_keepers_right" : PySem.Str) [] [("o" : PySem.Str), ("one" : PySem.Str), ("two" : PySem.Str), ("three" : PySem.Str), ("less" : PySem.Str), ("coil" : PySem.Str), ("weight" : PySem.Str), ("rub" : PySem.Str), ("seen" : PySem.Str), ("flat" : PySem.Str), ("up" : PySem.Str), ("got" : PySem.Str), ("due" : PySem.Str), ("value" : PySem.Str), ("told" : PySem.Str), ("things" : PySem.Str), ("rows" : PySem.Str), ("none" : PySem.Str), ("own" : PySem.Str)] 169, tt ("_law_ends_right" : PySem.Str) [] [("o" : PySem.Str), ("one" : PySem.Str), ("two" : PySem.Str), ("three" : PySem.Str), ("less" : PySem.Str), ("coil" : PySem.Str), ("weight" : PySem.Str), ("rub" : PySem.Str), ("seen" : PySem.Str), ("heavy" : PySem.Str), ("got" : PySem.Str), ("due" : PySem.Str), ("none" : PySem.Str), ("flat" : PySem.Str), ("asked" : PySem.Str), ("widths" : PySem.Str), ("ends" : PySem.Str), ("just" : PySem.Str), ("is_up" : PySem.Str), ("width" : PySem.Str), ("a" : PySem.Str), ("b" : PySem.Str), ("c" : PySem.Str), ("d" : PySem.Str)] 170, tt ("_law_refused_right" : PySem.Str) [] [("o" : PySem.Str), ("one" : PySem.Str), ("two" : PySem.Str), ("three" : PySem.Str), ("less" : PySem.Str), ("coil" : PySem.Str), ("weight" : PySem.Str), ("rub" : PySem.Str), ("seen" : PySem.Str), ("flat" : PySem.Str), ("wide" : PySem.Str), ("four" : PySem.Str), ("asked" : PySem.Str), ("tolds" : PySem.Str), ("due" : PySem.Str), ("own" : PySem.Str), ("door" : PySem.Str)] 174, tt ("is_fraction" : PySem.Str) [("thing" : PySem.Str)] [("thing" : PySem.Str)] 12, tt ("total" : PySem.Str) [("row" : PySem.Str)] [("row" : PySem.Str), ("found" : PySem.Str), ("own" : PySem.Str)] 29, tt ("pair_plus" : PySem.Str) [("one" : PySem.Str), ("other" : PySem.Str)] [("one" : PySem.Str), ("other" : PySem.Str)] 114, tt ("_law_same" : PySem.Str) [("got" : PySem.Str), ("due" : PySem.Str)] [("got" : PySem.Str), ("due" : PySem.Str), ("mine" : PySem.Str), ("its" : PySem.Str)] 166, tt ("number_at" : PySem.Str) [("heard" : PySem.Str), ("line" : PySem.Str), ("other" : PySem.Str)] [("heard" : PySem.Str), ("line" : PySem.Str), ("other" : PySem.Str), ("own" : PySem.Str), ("far" : PySem.Str)] 120, tt ("is_row" : PySem.Str) [("thing" : PySem.Str)] [("thing" : PySem.Str), ("part" : PySem.Str)] 13, tt ("sure" : PySem.Str) [("fits" : PySem.Str)] [("fits" : PySem.Str)] 15, tt ("scaled" : PySem.Str) [("row" : PySem.Str), ("much" : PySem.Str)] [("row" : PySem.Str), ("much" : PySem.Str), ("own" : PySem.Str)] 31, tt ("trimmed" : PySem.Str) [("row" : PySem.Str)] [("row" : PySem.Str), ("end" : PySem.Str)] 37, tt ("met" : PySem.Str) [("row" : PySem.Str), ("other" : PySem.Str)] [("row" : PySem.Str), ("other" : PySem.Str), ("own" : PySem.Str), ("near" : PySem.Str)] 30, tt ("is_row_of" : PySem.Str) [("thing" : PySem.Str), ("length" : PySem.Str)] [("thing" : PySem.Str), ("length" : PySem.Str)] 14, tt ("noughts" : PySem.Str) [("length" : PySem.Str)] [("length" : PySem.Str)] 28, tt ("longer" : PySem.Str) [("p" : PySem.Str), ("length" : PySem.Str)] [("p" : PySem.Str), ("length" : PySem.Str)] 38, tt ("lines_of" : PySem.Str) [("spot" : PySem.Str), ("value" : PySem.Str)] [("spot" : PySem.Str), ("value" : PySem.Str), ("far" : PySem.Str), ("low" : PySem.Str)] 116, tt ("is_lower" : PySem.Str) [("one" : PySem.Str), ("other" : PySem.Str)] [("one" : PySem.Str), ("other" : PySem.Str)] 24, tt ("all_lines" : PySem.Str) [("heard" : PySem.Str), ("told" : PySem.Str)] [("heard" : PySem.Str), ("told" : PySem.Str), ("found" : PySem.Str), ("spot" : PySem.Str), ("value" : PySem.Str), ("k" : PySem.Str), ("line" : PySem.Str)] 117, tt ("row_minus" : PySem.Str) [("row" : PySem.Str), ("other" : PySem.Str)] [("row" : PySem.Str), ("other" : PySem.Str), ("own" : PySem.Str), ("near" : PySem.Str)] 33, tt ("is_value_at" : PySem.Str) [("spot" : PySem.Str), ("thing" : PySem.Str)] [("spot" : PySem.Str), ("thing" : PySem.Str)] 108, tt ("with_last_one" : PySem.Str) [("p" : PySem.Str)] [("p" : PySem.Str)] 43, tt ("sure_row" : PySem.Str) [("value" : PySem.Str)] [("value" : PySem.Str), ("own" : PySem.Str)] 17, tt ("is_told" : PySem.Str) [("thing" : PySem.Str)] [("thing" : PySem.Str), ("spot" : PySem.Str), ("value" : PySem.Str), ("pair" : PySem.Str)] 110, tt ("rises" : PySem.Str) [("row" : PySem.Str)] [("row" : PySem.Str), ("near" : PySem.Str), ("far" : PySem.Str)] 109, tt ("many_lines" : PySem.Str) [("spots" : PySem.Str)] [("spots" : PySem.Str), ("spot" : PySem.Str)] 111, tt ("row_plus" : PySem.Str) [("row" : PySem.Str), ("other" : PySem.Str)] [("row" : PySem.Str), ("other" : PySem.Str), ("own" : PySem.Str), ("near" : PySem.Str)] 32, tt ("poly_plus" : PySem.Str) [("p" : PySem.Str), ("q" : PySem.Str)] [("p" : PySem.Str), ("q" : PySem.Str)] 39]
def ts2 : List (FnT) := [tt ("can_in" : PySem.Str) [("heard" : PySem.Str), ("told" : PySem.Str)] [("heard" : PySem.Str), ("told" : PySem.Str)] 139, tt ("turned_about" : PySem.Str) [("z" : PySem.Str)] [("z" : PySem.Str)] 115, tt ("swept" : PySem.Str) [("row" : PySem.Str), ("rows" : PySem.Str), ("leads" : PySem.Str)] [("row" : PySem.Str), ("rows" : PySem.Str), ("leads" : PySem.Str), ("own" : PySem.Str), ("lead" : PySem.Str)] 122, tt ("_law_lists" : PySem.Str) [("matter" : PySem.Str)] [("matter" : PySem.Str), ("bit" : PySem.Str)] 165, tt ("spread" : PySem.Str) [("spot" : PySem.Str), ("q" : PySem.Str)] [("spot" : PySem.Str), ("q" : PySem.Str), ("across" : PySem.Str)] 126, tt ("_law_tried" : PySem.Str) [("own" : PySem.Str)] [("own" : PySem.Str), ("door" : PySem.Str), ("one" : PySem.Str), ("two" : PySem.Str), ("three" : PySem.Str), ("four" : PySem.Str)] 171, tt ("_law_heard" : PySem.Str) [("own" : PySem.Str)] [("own" : PySem.Str), ("told" : PySem.Str), ("caught" : PySem.Str), ("slip" : PySem.Str)] 173, tt ("factor_of" : PySem.Str) [("spot" : PySem.Str)] [("spot" : PySem.Str), ("across" : PySem.Str), ("up" : PySem.Str)] 125, tt ("times_all" : PySem.Str) [("polys" : PySem.Str)] [("polys" : PySem.Str), ("found" : PySem.Str), ("own" : PySem.Str)] 127, tt ("sure_fraction" : PySem.Str) [("value" : PySem.Str)] [("value" : PySem.Str), ("own" : PySem.Str)] 16, tt ("row_at_i" : PySem.Str) [("row" : PySem.Str), ("z" : PySem.Str)] [("row" : PySem.Str), ("z" : PySem.Str), ("found" : PySem.Str), ("own" : PySem.Str), ("across" : PySem.Str), ("up" : PySem.Str)] 94, tt ("moved" : PySem.Str) [("heard" : PySem.Str), ("told" : PySem.Str), ("e" : PySem.Str)] [("heard" : PySem.Str), ("told" : PySem.Str), ("e" : PySem.Str), ("row" : PySem.Str), ("spot" : PySem.Str), ("value" : PySem.Str)] 141, tt ("polys_of" : PySem.Str) [("box" : PySem.Str)] [("box" : PySem.Str)] 72, tt ("can_have" : PySem.Str) [("heard" : PySem.Str), ("told" : PySem.Str)] [("heard" : PySem.Str), ("told" : PySem.Str), ("row" : PySem.Str), ("pairs" : PySem.Str)] 151, tt ("sure_beyond" : PySem.Str) [("told" : PySem.Str), ("value" : PySem.Str)] [("told" : PySem.Str), ("value" : PySem.Str), ("own" : PySem.Str), ("spot" : PySem.Str), ("far" : PySem.Str)] 158, tt ("cleared" : PySem.Str) [("rows" : PySem.Str), ("place" : PySem.Str), ("column" : PySem.Str)] [("rows" : PySem.Str), ("place" : PySem.Str), ("column" : PySem.Str), ("own" : PySem.Str), ("left" : PySem.Str), ("row" : PySem.Str)] 59, tt ("solved_in" : PySem.Str) [("rows" : PySem.Str), ("row" : PySem.Str)] [("rows" : PySem.Str), ("row" : PySem.Str), ("left" : PySem.Str), ("columns" : PySem.Str), ("column" : PySem.Str), ("place" : PySem.Str), ("hits" : PySem.Str), ("found" : PySem.Str), ("own" : PySem.Str), ("told" : PySem.Str), ("number" : PySem.Str)] 60, tt ("root_of" : PySem.Str) [("number" : PySem.Str)] [("number" : PySem.Str), ("near" : PySem.Str)] 97, tt ("sure_can" : PySem.Str) [("heard" : PySem.Str), ("told" : PySem.Str)] [("heard" : PySem.Str), ("told" : PySem.Str)] 143, tt ("halfway" : PySem.Str) [("low" : PySem.Str), ("high" : PySem.Str)] [("low" : PySem.Str), ("high" : PySem.Str)] 27, tt ("changes_of" : PySem.Str) [("numbers" : PySem.Str)] [("numbers" : PySem.Str), ("signs" : PySem.Str), ("own" : PySem.Str), ("near" : PySem.Str), ("far" : PySem.Str)] 50, tt ("is_at_most" : PySem.Str) [("one" : PySem.Str), ("other" : PySem.Str)] [("one" : PySem.Str), ("other" : PySem.Str)] 25, tt ("is_box" : PySem.Str) [("thing" : PySem.Str)] [("thing" : PySem.Str), ("tops" : PySem.Str), ("bottoms" : PySem.Str), ("own" : PySem.Str)] 69, tt ("power_in" : PySem.Str) [("p" : PySem.Str), ("many" : PySem.Str)] [("p" : PySem.Str), ("many" : PySem.Str), ("found" : PySem.Str), ("turn" : PySem.Str)] 61, tt ("poly_at" : PySem.Str) [("p" : PySem.Str), ("x" : PySem.Str)] [("p" : PySem.Str), ("x" : PySem.Str), ("found" : PySem.Str), ("own" : PySem.Str)] 48, tt ("is_small_in" : PySem.Str) [("box" : PySem.Str)] [("box" : PySem.Str), ("top" : PySem.Str), ("bottom" : PySem.Str)] 73, tt ("tone_of" : PySem.Str) [("box" : PySem.Str), ("z" : PySem.Str)] [("box" : PySem.Str), ("z" : PySem.Str), ("below" : PySem.Str)] 95, tt ("far_signs" : PySem.Str) [("row" : PySem.Str), ("side" : PySem.Str)] [("row" : PySem.Str), ("side" : PySem.Str), ("p" : PySem.Str)] 63, tt ("all_nought" : PySem.Str) [("heard" : PySem.Str), ("told" : PySem.Str)] [("heard" : PySem.Str), ("told" : PySem.Str), ("own" : PySem.Str), ("spot" : PySem.Str), ("value" : PySem.Str)] 124, tt ("box_by" : PySem.Str) [("top" : PySem.Str), ("bottom" : PySem.Str)] [("top" : PySem.Str), ("bottom" : PySem.Str), ("shared" : PySem.Str), ("over" : PySem.Str), ("under" : PySem.Str), ("many" : PySem.Str), ("once" : PySem.Str)] 128]
def ts3 : List (FnT) := [tt ("is_spot" : PySem.Str) [("thing" : PySem.Str)] [("thing" : PySem.Str)] 148, tt ("slope_of" : PySem.Str) [("p" : PySem.Str)] [("p" : PySem.Str), ("place" : PySem.Str), ("own" : PySem.Str)] 45, tt ("is_keeper_with" : PySem.Str) [("heard" : PySem.Str), ("told" : PySem.Str), ("thing" : PySem.Str)] [("heard" : PySem.Str), ("told" : PySem.Str), ("thing" : PySem.Str), ("row" : PySem.Str), ("pairs" : PySem.Str)] 155, tt ("end_with" : PySem.Str) [("heard" : PySem.Str), ("told" : PySem.Str), ("a" : PySem.Str), ("which" : PySem.Str)] [("heard" : PySem.Str), ("told" : PySem.Str), ("a" : PySem.Str), ("which" : PySem.Str), ("row" : PySem.Str), ("pairs" : PySem.Str), ("place" : PySem.Str), ("side" : PySem.Str)] 161, tt ("forced_by" : PySem.Str) [("heard" : PySem.Str), ("told" : PySem.Str), ("row" : PySem.Str)] [("heard" : PySem.Str), ("told" : PySem.Str), ("row" : PySem.Str)] 130, tt ("sure_which" : PySem.Str) [("value" : PySem.Str)] [("value" : PySem.Str)] 146, tt ("next_value" : PySem.Str) [("heard" : PySem.Str), ("told" : PySem.Str), ("a" : PySem.Str)] [("heard" : PySem.Str), ("told" : PySem.Str), ("a" : PySem.Str), ("row" : PySem.Str), ("pairs" : PySem.Str), ("place" : PySem.Str)] 159, tt ("sure_width" : PySem.Str) [("value" : PySem.Str)] [("value" : PySem.Str), ("own" : PySem.Str)] 83, tt ("rooted" : PySem.Str) [("square" : PySem.Str)] [("square" : PySem.Str)] 133, tt ("poly_once" : PySem.Str) [("p" : PySem.Str)] [("p" : PySem.Str)] 46, tt ("rests_of" : PySem.Str) [("p" : PySem.Str), ("q" : PySem.Str)] [("p" : PySem.Str), ("q" : PySem.Str), ("row" : PySem.Str), ("later" : PySem.Str)] 49, tt ("is_against" : PySem.Str) [("heard" : PySem.Str), ("told" : PySem.Str), ("thing" : PySem.Str)] [("heard" : PySem.Str), ("told" : PySem.Str), ("thing" : PySem.Str), ("row" : PySem.Str), ("pairs" : PySem.Str), ("table" : PySem.Str)] 157, tt ("sure_box" : PySem.Str) [("value" : PySem.Str)] [("value" : PySem.Str), ("own" : PySem.Str)] 70, tt ("sure_small" : PySem.Str) [("value" : PySem.Str)] [("value" : PySem.Str), ("own" : PySem.Str)] 74, tt ("told_of" : PySem.Str) [("box" : PySem.Str), ("spots" : PySem.Str)] [("box" : PySem.Str), ("spots" : PySem.Str), ("own" : PySem.Str), ("places" : PySem.Str), ("found" : PySem.Str), ("spot" : PySem.Str), ("value" : PySem.Str)] 149, tt ("keeper_with" : PySem.Str) [("heard" : PySem.Str), ("told" : PySem.Str)] [("heard" : PySem.Str), ("told" : PySem.Str), ("row" : PySem.Str), ("pairs" : PySem.Str)] 153, tt ("poly_lots" : PySem.Str) [("p" : PySem.Str)] [("p" : PySem.Str), ("found" : PySem.Str), ("left" : PySem.Str), ("many" : PySem.Str), ("once" : PySem.Str), ("later" : PySem.Str), ("own" : PySem.Str)] 47, tt ("half_plane" : PySem.Str) [("p" : PySem.Str)] [("p" : PySem.Str), ("found" : PySem.Str), ("place" : PySem.Str), ("own" : PySem.Str), ("part" : PySem.Str)] 62, tt ("outside_off_rim" : PySem.Str) [("p" : PySem.Str)] [("p" : PySem.Str), ("degree" : PySem.Str), ("parts" : PySem.Str), ("place" : PySem.Str), ("own" : PySem.Str), ("even" : PySem.Str), ("odd" : PySem.Str), ("row" : PySem.Str), ("jumps" : PySem.Str), ("left_more" : PySem.Str)] 64, tt ("in_cosine" : PySem.Str) [("p" : PySem.Str)] [("p" : PySem.Str), ("mid" : PySem.Str), ("near" : PySem.Str), ("own" : PySem.Str), ("found" : PySem.Str), ("place" : PySem.Str)] 65, tt ("on_rim" : PySem.Str) [("p" : PySem.Str)] [("p" : PySem.Str), ("many" : PySem.Str), ("left" : PySem.Str), ("end" : PySem.Str), ("own" : PySem.Str), ("times" : PySem.Str)] 66, tt ("outside_in" : PySem.Str) [("p" : PySem.Str)] [("p" : PySem.Str), ("own" : PySem.Str), ("shared" : PySem.Str)] 67, tt ("stands_damped" : PySem.Str) [("box" : PySem.Str)] [("box" : PySem.Str), ("top" : PySem.Str), ("bottom" : PySem.Str), ("both" : PySem.Str)] 88, tt ("sum_over" : PySem.Str) [("table" : PySem.Str), ("row" : PySem.Str)] [("table" : PySem.Str), ("row" : PySem.Str), ("own" : PySem.Str)] 34, tt ("beat_in" : PySem.Str) [("box" : PySem.Str), ("cells" : PySem.Str), ("push" : PySem.Str)] [("box" : PySem.Str), ("cells" : PySem.Str), ("push" : PySem.Str), ("tops" : PySem.Str), ("bottoms" : PySem.Str), ("inner" : PySem.Str)] 75, tt ("slants_in" : PySem.Str) [("box" : PySem.Str)] [("box" : PySem.Str), ("tops" : PySem.Str), ("bottoms" : PySem.Str), ("far" : PySem.Str)] 84, tt ("curve_by" : PySem.Str) [("sums" : PySem.Str)] [("sums" : PySem.Str), ("near" : PySem.Str), ("own" : PySem.Str), ("found" : PySem.Str), ("much" : PySem.Str)] 85, tt ("curve_in" : PySem.Str) [("box" : PySem.Str)] [("box" : PySem.Str)] 86, tt ("dip_in" : PySem.Str) [("p" : PySem.Str)] [("p" : PySem.Str), ("end" : PySem.Str), ("ahead" : PySem.Str), ("low" : PySem.Str), ("high" : PySem.Str), ("mid" : PySem.Str)] 87, tt ("sure_spots" : PySem.Str) [("value" : PySem.Str)] [("value" : PySem.Str), ("own" : PySem.Str), ("spot" : PySem.Str)] 112]
def ts4 : List (FnT) := [tt ("has_all" : PySem.Str) [("box" : PySem.Str), ("heard" : PySem.Str), ("told" : PySem.Str)] [("box" : PySem.Str), ("heard" : PySem.Str), ("told" : PySem.Str), ("spot" : PySem.Str), ("value" : PySem.Str)] 154, tt ("with_more" : PySem.Str) [("heard" : PySem.Str), ("told" : PySem.Str), ("a" : PySem.Str), ("w" : PySem.Str)] [("heard" : PySem.Str), ("told" : PySem.Str), ("a" : PySem.Str), ("w" : PySem.Str)] 132, tt ("keeper_in" : PySem.Str) [("heard" : PySem.Str), ("told" : PySem.Str)] [("heard" : PySem.Str), ("told" : PySem.Str), ("spots" : PySem.Str), ("number" : PySem.Str), ("spot" : PySem.Str), ("value" : PySem.Str)] 138, tt ("changes_at" : PySem.Str) [("row" : PySem.Str), ("x" : PySem.Str)] [("row" : PySem.Str), ("x" : PySem.Str), ("p" : PySem.Str)] 51, tt ("is_forced_in" : PySem.Str) [("heard" : PySem.Str), ("told" : PySem.Str)] [("heard" : PySem.Str), ("told" : PySem.Str), ("table" : PySem.Str)] 140, tt ("is_forced" : PySem.Str) [("heard" : PySem.Str), ("told" : PySem.Str)] [("heard" : PySem.Str), ("told" : PySem.Str), ("row" : PySem.Str), ("pairs" : PySem.Str)] 152, tt ("next_echo" : PySem.Str) [("heard" : PySem.Str), ("told" : PySem.Str)] [("heard" : PySem.Str), ("told" : PySem.Str), ("row" : PySem.Str), ("pairs" : PySem.Str)] 160, tt ("told_table" : PySem.Str) [("heard" : PySem.Str), ("told" : PySem.Str)] [("heard" : PySem.Str), ("told" : PySem.Str), ("row" : PySem.Str), ("pairs" : PySem.Str)] 150, tt ("poly_less" : PySem.Str) [("p" : PySem.Str), ("q" : PySem.Str)] [("p" : PySem.Str), ("q" : PySem.Str)] 40, tt ("many_cells" : PySem.Str) [("box" : PySem.Str)] [("box" : PySem.Str)] 71, tt ("run_in" : PySem.Str) [("box" : PySem.Str), ("cells" : PySem.Str), ("pushes" : PySem.Str)] [("box" : PySem.Str), ("cells" : PySem.Str), ("pushes" : PySem.Str), ("found" : PySem.Str), ("own" : PySem.Str), ("push" : PySem.Str), ("answer" : PySem.Str)] 76, tt ("rest_of" : PySem.Str) [("box" : PySem.Str)] [("box" : PySem.Str)] 77, tt ("echoes_in" : PySem.Str) [("box" : PySem.Str), ("k" : PySem.Str)] [("box" : PySem.Str), ("k" : PySem.Str)] 78, tt ("next_of" : PySem.Str) [("box" : PySem.Str), ("heard" : PySem.Str), ("a" : PySem.Str)] [("box" : PySem.Str), ("heard" : PySem.Str), ("a" : PySem.Str)] 135, tt ("between_in" : PySem.Str) [("row" : PySem.Str), ("low" : PySem.Str), ("high" : PySem.Str)] [("row" : PySem.Str), ("low" : PySem.Str), ("high" : PySem.Str)] 52, tt ("parted_spans" : PySem.Str) [("row" : PySem.Str), ("low" : PySem.Str), ("high" : PySem.Str)] [("row" : PySem.Str), ("low" : PySem.Str), ("high" : PySem.Str), ("found" : PySem.Str), ("left" : PySem.Str), ("once" : PySem.Str), ("near" : PySem.Str), ("far" : PySem.Str), ("many" : PySem.Str), ("mid" : PySem.Str)] 54, tt ("spans_in" : PySem.Str) [("p" : PySem.Str), ("low" : PySem.Str), ("high" : PySem.Str), ("width" : PySem.Str)] [("p" : PySem.Str), ("low" : PySem.Str), ("high" : PySem.Str), ("width" : PySem.Str), ("once" : PySem.Str), ("found" : PySem.Str), ("ahead" : PySem.Str), ("span" : PySem.Str), ("own" : PySem.Str)] 57, tt ("against" : PySem.Str) [("heard" : PySem.Str), ("told" : PySem.Str)] [("heard" : PySem.Str), ("told" : PySem.Str), ("row" : PySem.Str), ("pairs" : PySem.Str), ("found" : PySem.Str)] 156, tt ("_law_names" : PySem.Str) [] [("o" : PySem.Str), ("one" : PySem.Str), ("two" : PySem.Str), ("three" : PySem.Str), ("less" : PySem.Str), ("coil" : PySem.Str), ("weight" : PySem.Str), ("rub" : PySem.Str), ("seen" : PySem.Str)] 167, tt ("share_bracket_in" : PySem.Str) [("heard" : PySem.Str), ("told" : PySem.Str), ("width" : PySem.Str)] [("heard" : PySem.Str), ("told" : PySem.Str), ("width" : PySem.Str), ("low" : PySem.Str), ("high" : PySem.Str), ("mid" : PySem.Str)] 144, tt ("law" : PySem.Str) [("script" : PySem.Str)] [("script" : PySem.Str), ("found" : PySem.Str), ("parts" : PySem.Str), ("part" : PySem.Str)] 175, tt ("size_of" : PySem.Str) [("one" : PySem.Str)] [("one" : PySem.Str)] 26, tt ("roots_in" : PySem.Str) [("p" : PySem.Str), ("low" : PySem.Str), ("high" : PySem.Str)] [("p" : PySem.Str), ("low" : PySem.Str), ("high" : PySem.Str), ("once" : PySem.Str)] 53, tt ("halved_span" : PySem.Str) [("p" : PySem.Str), ("span" : PySem.Str)] [("p" : PySem.Str), ("span" : PySem.Str), ("low" : PySem.Str), ("high" : PySem.Str), ("mid" : PySem.Str), ("there" : PySem.Str)] 55, tt ("is_apart" : PySem.Str) [("span" : PySem.Str), ("ahead" : PySem.Str), ("high" : PySem.Str), ("width" : PySem.Str)] [("span" : PySem.Str), ("ahead" : PySem.Str), ("high" : PySem.Str), ("width" : PySem.Str)] 56, tt ("_law_no_word" : PySem.Str) [("told" : PySem.Str)] [("told" : PySem.Str)] 172]
def ts : List (FnT) := ts0 ++ (ts1 ++ (ts2 ++ (ts3 ++ (ts4))))
def fns0 : List (PySem.Str × List PySem.Str) := [(("fraction_of" : PySem.Str), [("top" : PySem.Str), ("bottom" : PySem.Str)]), (("product" : PySem.Str), [("one" : PySem.Str), ("other" : PySem.Str)]), (("plus" : PySem.Str), [("one" : PySem.Str), ("other" : PySem.Str)]), (("minus" : PySem.Str), [("one" : PySem.Str), ("other" : PySem.Str)]), (("tupled" : PySem.Str), [("value" : PySem.Str)]), (("ratio" : PySem.Str), [("one" : PySem.Str), ("other" : PySem.Str)]), (("is_number" : PySem.Str), [("thing" : PySem.Str)]), (("is_long" : PySem.Str), [("thing" : PySem.Str), ("length" : PySem.Str)]), (("negative" : PySem.Str), [("one" : PySem.Str)]), (("is_from" : PySem.Str), [("thing" : PySem.Str), ("least" : PySem.Str)]), (("times_i" : PySem.Str), [("one" : PySem.Str), ("other" : PySem.Str)]), (("over_i" : PySem.Str), [("one" : PySem.Str), ("other" : PySem.Str)]), (("at_both" : PySem.Str), [("entry" : PySem.Str), ("other" : PySem.Str)]), (("at_echo" : PySem.Str), [("heard" : PySem.Str), ("k" : PySem.Str), ("entry" : PySem.Str)]), (("poly_by" : PySem.Str), [("p" : PySem.Str), ("q" : PySem.Str)]), (("poly_over" : PySem.Str), [("p" : PySem.Str), ("q" : PySem.Str)]), (("poly_divisor" : PySem.Str), [("p" : PySem.Str), ("q" : PySem.Str)]), (("table_of" : PySem.Str), [("heard" : PySem.Str), ("told" : PySem.Str)]), (("nought_row" : PySem.Str), [("table" : PySem.Str)]), (("below_row" : PySem.Str), [("table" : PySem.Str)]), (("is_spot_so" : PySem.Str), [("thing" : PySem.Str)]), (("sure_seen" : PySem.Str), [("heard" : PySem.Str), ("told" : PySem.Str), ("most" : PySem.Str)]), (("is_keeper_in" : PySem.Str), [("box" : PySem.Str)]), (("keeper_by" : PySem.Str), [("heard" : PySem.Str), ("told" : PySem.Str), ("row" : PySem.Str)]), (("more_column" : PySem.Str), [("heard" : PySem.Str), ("told" : PySem.Str), ("a" : PySem.Str), ("w" : PySem.Str)]), (("ends_by" : PySem.Str), [("table" : PySem.Str), ("first" : PySem.Str), ("second" : PySem.Str)]), (("can_moved" : PySem.Str), [("heard" : PySem.Str), ("told" : PySem.Str), ("e" : PySem.Str)]), (("ends_in" : PySem.Str), [("heard" : PySem.Str), ("told" : PySem.Str), ("a" : PySem.Str)]), (("end_in" : PySem.Str), [("heard" : PySem.Str), ("told" : PySem.Str), ("a" : PySem.Str), ("which" : PySem.Str)]), (("damper_more" : PySem.Str), [("heard" : PySem.Str), ("told" : PySem.Str), ("width" : PySem.Str)])]
def fns1 : List (PySem.Str × List PySem.Str) := [(("share_left" : PySem.Str), [("heard" : PySem.Str), ("told" : PySem.Str), ("width" : PySem.Str)]), (("_law_tables_right" : PySem.Str), []), (("_law_keepers_right" : PySem.Str), []), (("_law_ends_right" : PySem.Str), []), (("_law_refused_right" : PySem.Str), []), (("is_fraction" : PySem.Str), [("thing" : PySem.Str)]), (("total" : PySem.Str), [("row" : PySem.Str)]), (("pair_plus" : PySem.Str), [("one" : PySem.Str), ("other" : PySem.Str)]), (("_law_same" : PySem.Str), [("got" : PySem.Str), ("due" : PySem.Str)]), (("number_at" : PySem.Str), [("heard" : PySem.Str), ("line" : PySem.Str), ("other" : PySem.Str)]), (("is_row" : PySem.Str), [("thing" : PySem.Str)]), (("sure" : PySem.Str), [("fits" : PySem.Str)]), (("scaled" : PySem.Str), [("row" : PySem.Str), ("much" : PySem.Str)]), (("trimmed" : PySem.Str), [("row" : PySem.Str)]), (("met" : PySem.Str), [("row" : PySem.Str), ("other" : PySem.Str)]), (("is_row_of" : PySem.Str), [("thing" : PySem.Str), ("length" : PySem.Str)]), (("noughts" : PySem.Str), [("length" : PySem.Str)]), (("longer" : PySem.Str), [("p" : PySem.Str), ("length" : PySem.Str)]), (("lines_of" : PySem.Str), [("spot" : PySem.Str), ("value" : PySem.Str)]), (("is_lower" : PySem.Str), [("one" : PySem.Str), ("other" : PySem.Str)]), (("all_lines" : PySem.Str), [("heard" : PySem.Str), ("told" : PySem.Str)]), (("row_minus" : PySem.Str), [("row" : PySem.Str), ("other" : PySem.Str)]), (("is_value_at" : PySem.Str), [("spot" : PySem.Str), ("thing" : PySem.Str)]), (("with_last_one" : PySem.Str), [("p" : PySem.Str)]), (("sure_row" : PySem.Str), [("value" : PySem.Str)]), (("is_told" : PySem.Str), [("thing" : PySem.Str)]), (("rises" : PySem.Str), [("row" : PySem.Str)]), (("many_lines" : PySem.Str), [("spots" : PySem.Str)]), (("row_plus" : PySem.Str), [("row" : PySem.Str), ("other" : PySem.Str)]), (("poly_plus" : PySem.Str), [("p" : PySem.Str), ("q" : PySem.Str)])]
def fns2 : List (PySem.Str × List PySem.Str) := [(("can_in" : PySem.Str), [("heard" : PySem.Str), ("told" : PySem.Str)]), (("turned_about" : PySem.Str), [("z" : PySem.Str)]), (("swept" : PySem.Str), [("row" : PySem.Str), ("rows" : PySem.Str), ("leads" : PySem.Str)]), (("_law_lists" : PySem.Str), [("matter" : PySem.Str)]), (("spread" : PySem.Str), [("spot" : PySem.Str), ("q" : PySem.Str)]), (("_law_tried" : PySem.Str), [("own" : PySem.Str)]), (("_law_heard" : PySem.Str), [("own" : PySem.Str)]), (("factor_of" : PySem.Str), [("spot" : PySem.Str)]), (("times_all" : PySem.Str), [("polys" : PySem.Str)]), (("sure_fraction" : PySem.Str), [("value" : PySem.Str)]), (("row_at_i" : PySem.Str), [("row" : PySem.Str), ("z" : PySem.Str)]), (("moved" : PySem.Str), [("heard" : PySem.Str), ("told" : PySem.Str), ("e" : PySem.Str)]), (("polys_of" : PySem.Str), [("box" : PySem.Str)]), (("can_have" : PySem.Str), [("heard" : PySem.Str), ("told" : PySem.Str)]), (("sure_beyond" : PySem.Str), [("told" : PySem.Str), ("value" : PySem.Str)]), (("cleared" : PySem.Str), [("rows" : PySem.Str), ("place" : PySem.Str), ("column" : PySem.Str)]), (("solved_in" : PySem.Str), [("rows" : PySem.Str), ("row" : PySem.Str)]), (("root_of" : PySem.Str), [("number" : PySem.Str)]), (("sure_can" : PySem.Str), [("heard" : PySem.Str), ("told" : PySem.Str)]), (("halfway" : PySem.Str), [("low" : PySem.Str), ("high" : PySem.Str)]), (("changes_of" : PySem.Str), [("numbers" : PySem.Str)]), (("is_at_most" : PySem.Str), [("one" : PySem.Str), ("other" : PySem.Str)]), (("is_box" : PySem.Str), [("thing" : PySem.Str)]), (("power_in" : PySem.Str), [("p" : PySem.Str), ("many" : PySem.Str)]), (("poly_at" : PySem.Str), [("p" : PySem.Str), ("x" : PySem.Str)]), (("is_small_in" : PySem.Str), [("box" : PySem.Str)]), (("tone_of" : PySem.Str), [("box" : PySem.Str), ("z" : PySem.Str)]), (("far_signs" : PySem.Str), [("row" : PySem.Str), ("side" : PySem.Str)]), (("all_nought" : PySem.Str), [("heard" : PySem.Str), ("told" : PySem.Str)]), (("box_by" : PySem.Str), [("top" : PySem.Str), ("bottom" : PySem.Str)])]
def fns3 : List (PySem.Str × List PySem.Str) := [(("is_spot" : PySem.Str), [("thing" : PySem.Str)]), (("slope_of" : PySem.Str), [("p" : PySem.Str)]), (("is_keeper_with" : PySem.Str), [("heard" : PySem.Str), ("told" : PySem.Str), ("thing" : PySem.Str)]), (("end_with" : PySem.Str), [("heard" : PySem.Str), ("told" : PySem.Str), ("a" : PySem.Str), ("which" : PySem.Str)]), (("forced_by" : PySem.Str), [("heard" : PySem.Str), ("told" : PySem.Str), ("row" : PySem.Str)]), (("sure_which" : PySem.Str), [("value" : PySem.Str)]), (("next_value" : PySem.Str), [("heard" : PySem.Str), ("told" : PySem.Str), ("a" : PySem.Str)]), (("sure_width" : PySem.Str), [("value" : PySem.Str)]), (("rooted" : PySem.Str), [("square" : PySem.Str)]), (("poly_once" : PySem.Str), [("p" : PySem.Str)]), (("rests_of" : PySem.Str), [("p" : PySem.Str), ("q" : PySem.Str)]), (("is_against" : PySem.Str), [("heard" : PySem.Str), ("told" : PySem.Str), ("thing" : PySem.Str)]), (("sure_box" : PySem.Str), [("value" : PySem.Str)]), (("sure_small" : PySem.Str), [("value" : PySem.Str)]), (("told_of" : PySem.Str), [("box" : PySem.Str), ("spots" : PySem.Str)]), (("keeper_with" : PySem.Str), [("heard" : PySem.Str), ("told" : PySem.Str)]), (("poly_lots" : PySem.Str), [("p" : PySem.Str)]), (("half_plane" : PySem.Str), [("p" : PySem.Str)]), (("outside_off_rim" : PySem.Str), [("p" : PySem.Str)]), (("in_cosine" : PySem.Str), [("p" : PySem.Str)]), (("on_rim" : PySem.Str), [("p" : PySem.Str)]), (("outside_in" : PySem.Str), [("p" : PySem.Str)]), (("stands_damped" : PySem.Str), [("box" : PySem.Str)]), (("sum_over" : PySem.Str), [("table" : PySem.Str), ("row" : PySem.Str)]), (("beat_in" : PySem.Str), [("box" : PySem.Str), ("cells" : PySem.Str), ("push" : PySem.Str)]), (("slants_in" : PySem.Str), [("box" : PySem.Str)]), (("curve_by" : PySem.Str), [("sums" : PySem.Str)]), (("curve_in" : PySem.Str), [("box" : PySem.Str)]), (("dip_in" : PySem.Str), [("p" : PySem.Str)]), (("sure_spots" : PySem.Str), [("value" : PySem.Str)])]
def fns4 : List (PySem.Str × List PySem.Str) := [(("has_all" : PySem.Str), [("box" : PySem.Str), ("heard" : PySem.Str), ("told" : PySem.Str)]), (("with_more" : PySem.Str), [("heard" : PySem.Str), ("told" : PySem.Str), ("a" : PySem.Str), ("w" : PySem.Str)]), (("keeper_in" : PySem.Str), [("heard" : PySem.Str), ("told" : PySem.Str)]), (("changes_at" : PySem.Str), [("row" : PySem.Str), ("x" : PySem.Str)]), (("is_forced_in" : PySem.Str), [("heard" : PySem.Str), ("told" : PySem.Str)]), (("is_forced" : PySem.Str), [("heard" : PySem.Str), ("told" : PySem.Str)]), (("next_echo" : PySem.Str), [("heard" : PySem.Str), ("told" : PySem.Str)]), (("told_table" : PySem.Str), [("heard" : PySem.Str), ("told" : PySem.Str)]), (("poly_less" : PySem.Str), [("p" : PySem.Str), ("q" : PySem.Str)]), (("many_cells" : PySem.Str), [("box" : PySem.Str)]), (("run_in" : PySem.Str), [("box" : PySem.Str), ("cells" : PySem.Str), ("pushes" : PySem.Str)]), (("rest_of" : PySem.Str), [("box" : PySem.Str)]), (("echoes_in" : PySem.Str), [("box" : PySem.Str), ("k" : PySem.Str)]), (("next_of" : PySem.Str), [("box" : PySem.Str), ("heard" : PySem.Str), ("a" : PySem.Str)]), (("between_in" : PySem.Str), [("row" : PySem.Str), ("low" : PySem.Str), ("high" : PySem.Str)]), (("parted_spans" : PySem.Str), [("row" : PySem.Str), ("low" : PySem.Str), ("high" : PySem.Str)]), (("spans_in" : PySem.Str), [("p" : PySem.Str), ("low" : PySem.Str), ("high" : PySem.Str), ("width" : PySem.Str)]), (("against" : PySem.Str), [("heard" : PySem.Str), ("told" : PySem.Str)]), (("_law_names" : PySem.Str), []), (("share_bracket_in" : PySem.Str), [("heard" : PySem.Str), ("told" : PySem.Str), ("width" : PySem.Str)]), (("law" : PySem.Str), [("script" : PySem.Str)]), (("size_of" : PySem.Str), [("one" : PySem.Str)]), (("roots_in" : PySem.Str), [("p" : PySem.Str), ("low" : PySem.Str), ("high" : PySem.Str)]), (("halved_span" : PySem.Str), [("p" : PySem.Str), ("span" : PySem.Str)]), (("is_apart" : PySem.Str), [("span" : PySem.Str), ("ahead" : PySem.Str), ("high" : PySem.Str), ("width" : PySem.Str)]), (("_law_no_word" : PySem.Str), [("told" : PySem.Str)])]
def fns : List (PySem.Str × List PySem.Str) := fns0 ++ (fns1 ++ (fns2 ++ (fns3 ++ (fns4))))
def gls : List PySem.Str := [("NOUGHT" : PySem.Str), ("ONE" : PySem.Str), ("TWO_numbers" : PySem.Str), ("TWO_curves" : PySem.Str), ("LESS" : PySem.Str), ("NARROW" : PySem.Str), ("MOST_HEARD" : PySem.Str), ("MOST_SPOTS" : PySem.Str), ("MOST_LINES" : PySem.Str), ("MOST_LED" : PySem.Str), ("NO_ECHO" : PySem.Str), ("NIL" : PySem.Str), ("UNIT" : PySem.Str), ("UP" : PySem.Str)]
def glbs : List MV := [(mkT [(.int (.ofNat 0)), (.int (.ofNat 1))]), (mkT [(.int (.ofNat 1)), (.int (.ofNat 1))]), (mkT [(.int (.ofNat 2)), (.int (.ofNat 1))]), (mkT [(.int (.ofNat 2)), (.int (.ofNat 1))]), (mkT [(.int (.negSucc 0)), (.int (.ofNat 1))]), (mkT [(.int (.ofNat 1)), (.int (.ofNat 1000000))]), (.int (.ofNat 4)), (.int (.ofNat 3)), (.int (.ofNat 6)), (.int (.ofNat 5)), (.int (.negSucc 0)), (mkT [(mkT [(.int (.ofNat 0)), (.int (.ofNat 1))]), (mkT [(.int (.ofNat 0)), (.int (.ofNat 1))])]), (mkT [(mkT [(.int (.ofNat 1)), (.int (.ofNat 1))]), (mkT [(.int (.ofNat 0)), (.int (.ofNat 1))])]), (mkT [(mkT [(.int (.ofNat 0)), (.int (.ofNat 1))]), (mkT [(.int (.ofNat 1)), (.int (.ofNat 1))])])]
def exs : List PySem.Str := [("Unfit" : PySem.Str), ("CanNot" : PySem.Str), ("NoPaper" : PySem.Str)]
def bis : List PySem.Str := [("len" : PySem.Str), ("isinstance" : PySem.Str), ("tuple" : PySem.Str), ("list" : PySem.Str), ("all" : PySem.Str), ("any" : PySem.Str), ("sum" : PySem.Str), ("min" : PySem.Str), ("max" : PySem.Str), ("abs" : PySem.Str), ("range" : PySem.Str), ("zip" : PySem.Str), ("enumerate" : PySem.Str), ("int" : PySem.Str), ("sorted" : PySem.Str), ("dict" : PySem.Str), ("ValueError" : PySem.Str), ("bool" : PySem.Str), ("str" : PySem.Str)]
def mas : List (PySem.Str × String) := [(("gcd" : PySem.Str), "math.gcd")]
def kps : List KPat := [⟨127, 0, [("told" : PySem.Str), ("heard" : PySem.Str)], [1, 0]⟩, ⟨104, 0, [("spots" : PySem.Str), ("box" : PySem.Str)], [1, 0]⟩, ⟨90, 0, [("thing" : PySem.Str)], [0]⟩, ⟨101, 0, [("thing" : PySem.Str), ("told" : PySem.Str), ("heard" : PySem.Str)], [2, 1, 0]⟩, ⟨105, 0, [("told" : PySem.Str), ("heard" : PySem.Str)], [1, 0]⟩, ⟨73, 0, [("told" : PySem.Str), ("heard" : PySem.Str)], [1, 0]⟩, ⟨96, 0, [("a" : PySem.Str), ("told" : PySem.Str), ("heard" : PySem.Str)], [2, 1, 0]⟩, ⟨93, 0, [("which" : PySem.Str), ("a" : PySem.Str), ("told" : PySem.Str), ("heard" : PySem.Str)], [3, 2, 1, 0]⟩, ⟨29, 0, [("width" : PySem.Str), ("told" : PySem.Str), ("heard" : PySem.Str)], [2, 1, 0]⟩, ⟨30, 0, [("width" : PySem.Str), ("told" : PySem.Str), ("heard" : PySem.Str)], [2, 1, 0]⟩]
def TT : PTb := ⟨fns, gls, exs, bis, mas, kps⟩
def as : List Addr := [3, 6, 4, 52, 65, 78, 82, 83, 259, 529, 530, 531, 614, 615, 616, 0, 51, 64, 77]
def asT : Nat := 1033
end L_k66
namespace L_k66
open PySem PySem.W HandSHeadRun Mi
theorem runA2 (w : World) : (HandSHeadRun.wholeF (fun p => HandSHeadRun.stepQ (HandSHeadRun.denQ HandSHeadRun.tabQ) p w) HandSHeadRun.fenceQ 40000 Rw.prog).map (fun x => PySem.W.namesBound Rw.prog x.2.abs.heap) = some (true) := by kernel_rfl
theorem runB (w : World) : (HandSHeadRun.wholeF (fun p => HandSHeadRun.stepQ (HandSHeadRun.denQ HandSHeadRun.tabQ) p w) HandSHeadRun.fenceQ 40000 Rw.prog).map (fun x => HandSHeadRun.seenQ qv nm (importedModules Rw.prog.main.body) (fun s => PySem.W.xlAt qv [] s && PySem.W.recOk Rw.toRowW.records s) x.2.abs) = some (PySem.W.openGood qv nm) := by kernel_rfl
theorem runAC (w : World) : (HandSHeadRun.wholeF (fun p => HandSHeadRun.stepQ (HandSHeadRun.denQ HandSHeadRun.tabQ) p w) HandSHeadRun.fenceQ 40000 Rw.prog).map (fun x => (PySem.W.staticsOk (importedModules Rw.prog.main.body) x.1.heap x.2.abs.heap && (PySem.W.gensDone x.2.abs && PySem.W.laidKept x.1.heap x.2.abs.heap)) && (ob1 as asT TT (HandSHeadRun.getT x.2) && (ob2 asT TT (HandSHeadRun.getT x.2) && ob3 as asT TT glbs (HandSHeadRun.getT x.2)))) = some (true) := by kernel_rfl
theorem runC (w : World) : (HandSHeadRun.wholeF (fun p => HandSHeadRun.stepQ (HandSHeadRun.denQ HandSHeadRun.tabQ) p w) HandSHeadRun.fenceQ 40000 Rw.prog).map (fun x => ob4 asT ts (HandSHeadRun.getT x.2)) = some (He.valD (fnM ts)) := by kernel_rfl
end L_k66
namespace Mi
open PySem PySem.Spec PyProof.Rows L2
abbrev FA := Nat → Option Addr
abbrev Mu := List Addr
def RkOk (d : Nat) (xs : List MV) : Prop := d = 0 ∨ (2 ≤ d ∧ d ≤ 60 ∧ ∀ x ∈ xs, 1 ≤ rk x ∧ rk x < d)
theorem ble_true {a b : Nat} (h : a ≤ b) : Nat.ble a b = true := Nat.ble_eq_true_of_le h
theorem ble_false {a b : Nat} (h : ¬ a ≤ b) : Nat.ble a b = false := by
  cases e : Nat.ble a b with
  | false => rfl
  | true => exact absurd (Nat.le_of_ble_eq_true e) h
theorem rkc_le (a b : Nat) (h : rkc a b ≠ 0) : 1 ≤ a ∧ 1 ≤ b ∧ a < rkc a b ∧ b ≤ rkc a b ∧ (b ≤ 60 → rkc a b ≤ 60) := by
  unfold rkc at h ⊢
  cases e : (Nat.ble 1 a && (Nat.ble 1 b && Nat.ble (a + 1) 60)) with
  | false => rw [e] at h; exact absurd rfl h
  | true =>
    simp only [Bool.and_eq_true] at e
    have h1 := Nat.le_of_ble_eq_true e.1
    have h2 := Nat.le_of_ble_eq_true e.2.1
    have h3 := Nat.le_of_ble_eq_true e.2.2
    show _ ∧ _ ∧ a < (match Nat.ble (a + 1) b with | true => b | false => a + 1) ∧ b ≤ (match Nat.ble (a + 1) b with | true => b | false => a + 1) ∧ _
    cases e2 : Nat.ble (a + 1) b with
    | true =>
      have h4 := Nat.le_of_ble_eq_true e2
      exact ⟨h1, h2, h4, Nat.le_refl _, fun z => z⟩
    | false =>
      have h4 : ¬ a + 1 ≤ b := fun z => by rw [ble_true z] at e2; cases e2
      exact ⟨h1, h2, Nat.lt_succ_self _, (by show b ≤ a + 1; omega), fun _ => h3⟩
theorem rkL_ok : ∀ xs : List MV, RkOk (rkL xs) xs
  | [] => .inr ⟨Nat.le_refl _, by decide, fun x h => absurd h (by simp)⟩
  | x :: xs => by
    by_cases h : rkL (x :: xs) = 0
    · exact .inl h
    · have q := rkc_le (rk x) (rkL xs) h
      obtain ⟨h1, h2, h3, h4, h5⟩ := q
      have e : rkL (x :: xs) = rkc (rk x) (rkL xs) := rfl
      rcases rkL_ok xs with z | ⟨z1, z2, z3⟩
      · omega
      · refine .inr ⟨by omega, by rw [e]; exact h5 z2, fun y hy => ?_⟩
        rcases List.mem_cons.mp hy with rfl | hy
        · exact ⟨h1, by rw [e]; exact h3⟩
        · have := z3 y hy
          exact ⟨this.1, by omega⟩
section
variable (K : PySem.W.Frag) (fa : FA)
mutual
inductive VR (μ : Mu) (H : Hp) : MV → V → Prop
  | opq (v : V) : VR μ H .opq v
  | non : VR μ H .non .non
  | bl (b : Bool) : VR μ H (.bl b) (.bl b)
  | int (i : Int) : VR μ H (.int i) (.int i)
  | str (x : Str) : VR μ H (.str x) (.str x)
  | fn {k : Nat} {a : Addr} : fa k = some a → VR μ H (.fn k) (.ref a)
  | lref {n : Nat} {a : Addr} : μ[n]? = some a → VR μ H (.lref n) (.ref a)
  | tup {d : Nat} {xs : List MV} {a : Addr} {vs : List V} : SqT K H a vs → VRs μ H xs vs → RkOk d xs → VR μ H (.tup d xs) (.ref a)
inductive VRs (μ : Mu) (H : Hp) : List MV → List V → Prop
  | nil : VRs μ H [] []
  | cons {x : MV} {v : V} {xs : List MV} {vs : List V} : VR μ H x v → VRs μ H xs vs → VRs μ H (x :: xs) (v :: vs)
end
end
section
variable {K : PySem.W.Frag} {fa : FA} {μ μ' : Mu} {H H' : Hp}
theorem VRs.length : ∀ {xs : List MV} {vs : List V}, VRs K fa μ H xs vs → xs.length = vs.length
  | _, _, .nil => rfl
  | _, _, .cons _ t => congrArg (· + 1) t.length
theorem VRs.append : ∀ {xs ys : List MV} {vs ws : List V}, VRs K fa μ H xs vs → VRs K fa μ H ys ws → VRs K fa μ H (xs ++ ys) (vs ++ ws)
  | _, _, _, _, .nil, s => s
  | _, _, _, _, .cons h t, s => .cons h (t.append s)
theorem VRs.get : ∀ {xs : List MV} {vs : List V} {i : Nat} {x : MV}, VRs K fa μ H xs vs → xs[i]? = some x → ∃ v, vs[i]? = some v ∧ VR K fa μ H x v
  | _, _, _, _, .nil, e => by simp at e
  | _, _, 0, _, .cons r _, e => by simp at e; subst e; exact ⟨_, rfl, r⟩
  | _, _, i + 1, x, .cons _ t, e => by
    obtain ⟨v, h1, h2⟩ := VRs.get (i := i) (x := x) t (by simpa using e)
    exact ⟨v, by simpa using h1, h2⟩
theorem VRs.getV : ∀ {xs : List MV} {vs : List V} {i : Nat} {v : V}, VRs K fa μ H xs vs → vs[i]? = some v → ∃ x, xs[i]? = some x ∧ VR K fa μ H x v
  | _, _, _, _, .nil, e => by simp at e
  | _, _, 0, _, .cons r _, e => by simp at e; subst e; exact ⟨_, rfl, r⟩
  | _, _, i + 1, x, .cons _ t, e => by
    obtain ⟨v, h1, h2⟩ := VRs.getV (i := i) (v := x) t (by simpa using e)
    exact ⟨v, by simpa using h1, h2⟩
theorem VRs.take : ∀ {xs : List MV} {vs : List V} (n : Nat), VRs K fa μ H xs vs → VRs K fa μ H (xs.take n) (vs.take n)
  | _, _, 0, _ => .nil
  | _, _, _ + 1, .nil => .nil
  | _, _, n + 1, .cons r t => .cons r (VRs.take n t)
theorem VRs.drop : ∀ {xs : List MV} {vs : List V} (n : Nat), VRs K fa μ H xs vs → VRs K fa μ H (xs.drop n) (vs.drop n)
  | _, _, 0, r => r
  | _, _, _ + 1, .nil => .nil
  | _, _, n + 1, .cons _ t => VRs.drop n t
theorem VRs.set {x : MV} {v : V} (r : VR K fa μ H x v) : ∀ {xs : List MV} {vs : List V} (i : Nat), VRs K fa μ H xs vs → VRs K fa μ H (xs.set i x) (vs.set i v)
  | _, _, _, .nil => .nil
  | _, _, 0, .cons _ t => .cons r t
  | _, _, i + 1, .cons q t => .cons q (VRs.set r i t)
theorem VRs.rev {xs : List MV} {vs : List V} (h : VRs K fa μ H xs vs) : VRs K fa μ H xs.reverse vs.reverse := by
  have key : ∀ (xs ys : List MV) (vs ws : List V), VRs K fa μ H xs vs → VRs K fa μ H ys ws → VRs K fa μ H (xs.reverseAux ys) (vs.reverseAux ws) := by
    intro xs
    induction xs with
    | nil => intro ys vs ws h s; cases h; exact s
    | cons x xs ih =>
      intro ys vs ws h s
      cases h with
      | @cons _ v _ vs' r t => exact ih (x :: ys) vs' (v :: ws) t (.cons r s)
  exact key _ _ _ _ h .nil
theorem VRs.map_eq {α : Type} {f : α → MV} {g : α → V} (h : ∀ a, VR K fa μ H (f a) (g a)) : ∀ l : List α, VRs K fa μ H (l.map f) (l.map g)
  | [] => .nil
  | a :: l => .cons (h a) (VRs.map_eq h l)
structure Ext (μ : Mu) (H : Hp) (μ' : Mu) (H' : Hp) : Prop where
  pre : ∀ (n : Nat) (a : Addr), μ[n]? = some a → μ'[n]? = some a
  new : ∀ a ∈ μ', a ∈ μ ∨ H a = none
  keep : ∀ (a : Addr) (o : HO), H a = some o → a ∉ μ → H' a = some o
theorem Ext.refl : Ext μ H μ H := ⟨fun _ _ h => h, fun _ h => .inl h, fun _ _ h _ => h⟩
theorem Ext.trans {μ1 μ2 : Mu} {H1 H2 : Hp} (a : Ext μ H μ1 H1) (b : Ext μ1 H1 μ2 H2) : Ext μ H μ2 H2 where
  pre := fun n x h => b.pre n x (a.pre n x h)
  new := fun x hx => by
    rcases b.new x hx with h | h
    · exact a.new x h
    · by_cases hm : x ∈ μ
      · exact .inl hm
      · refine .inr ?_
        cases e : H x with
        | none => rfl
        | some o => rw [a.keep x o e hm] at h; cases h
  keep := fun x o h hm => by
    have h1 := a.keep x o h hm
    refine b.keep x o h1 fun hx => ?_
    rcases a.new x hx with z | z
    · exact hm z
    · rw [h] at z; cases z
theorem Ext.laid {p : Addr} {o : HO} (h : H p = none) : Ext μ H μ (upd H p o) :=
  ⟨fun _ _ h => h, fun _ h => .inl h, fun a u e _ => by rw [upd_ne (ne_of_none e h)]; exact e⟩
theorem Ext.grow {p : Addr} {o : HO} (h : H p = none) : Ext μ H (μ ++ [p]) (upd H p o) :=
  ⟨fun n a e => by rw [List.getElem?_append_left (by exact (List.getElem?_eq_some_iff.mp e).1)]; exact e, fun a ha => by
    rcases List.mem_append.mp ha with z | z
    · exact .inl z
    · have : a = p := by simpa using z
      subst this; exact .inr h, fun a u e _ => by rw [upd_ne (ne_of_none e h)]; exact e⟩
theorem Ext.change {a : Addr} {o : HO} (h : a ∈ μ) : Ext μ H μ (upd H a o) :=
  ⟨fun _ _ h => h, fun _ h => .inl h, fun b u e n => by rw [upd_ne (fun z => n (by rw [z]; exact h))]; exact e⟩
def NoTup (μ : Mu) (H : Hp) : Prop := ∀ a ∈ μ, ∀ vs, ¬ Rd H a (.tup vs)
theorem SqT.ext {a : Addr} {vs : List V} (n : NoTup μ H) (e : Ext μ H μ' H') (h : SqT K H a vs) : SqT K H' a vs := by
  rcases h with r | r
  · refine .inl ?_
    have hn : a ∉ μ := fun z => n a z vs r
    rcases r with r | ⟨o, r⟩
    · exact .inl (e.keep _ _ r hn)
    · exact .inr ⟨o, e.keep _ _ r hn⟩
  · exact .inr r
mutual
theorem VR.mono (P : ∀ (n : Nat) (a : Addr), μ[n]? = some a → μ'[n]? = some a) (T : ∀ a vs, SqT K H a vs → SqT K H' a vs) : ∀ {x : MV} {v : V}, VR K fa μ H x v → VR K fa μ' H' x v
  | _, _, .opq v => .opq v
  | _, _, .non => .non
  | _, _, .bl b => .bl b
  | _, _, .int i => .int i
  | _, _, .str x => .str x
  | _, _, .fn h => .fn h
  | _, _, .lref h => .lref (P _ _ h)
  | _, _, .tup s r k => .tup (T _ _ s) (VRs.mono P T r) k
theorem VRs.mono (P : ∀ (n : Nat) (a : Addr), μ[n]? = some a → μ'[n]? = some a) (T : ∀ a vs, SqT K H a vs → SqT K H' a vs) : ∀ {xs : List MV} {vs : List V}, VRs K fa μ H xs vs → VRs K fa μ' H' xs vs
  | _, _, .nil => .nil
  | _, _, .cons h t => .cons (VR.mono P T h) (VRs.mono P T t)
end
theorem VR.ext (n : NoTup μ H) (e : Ext μ H μ' H') {x : MV} {v : V} (r : VR K fa μ H x v) : VR K fa μ' H' x v := VR.mono e.pre (fun _ _ s => SqT.ext n e s) r
theorem VRs.ext (n : NoTup μ H) (e : Ext μ H μ' H') {xs : List MV} {vs : List V} (r : VRs K fa μ H xs vs) : VRs K fa μ' H' xs vs := VRs.mono e.pre (fun _ _ s => SqT.ext n e s) r
theorem SqT.off {D : Addr} {o : HO} (nd : ∀ vs, ¬ Rd H D (.tup vs)) {a : Addr} {vs : List V} (h : SqT K H a vs) : SqT K (upd H D o) a vs := by
  rcases h with r | r
  · refine .inl ?_
    have hn : a ≠ D := fun z => nd vs (by rw [← z]; exact r)
    rcases r with r | ⟨u, r⟩
    · exact .inl (by rw [upd_ne hn]; exact r)
    · exact .inr ⟨u, by rw [upd_ne hn]; exact r⟩
  · exact .inr r
theorem Ext.off {D : Addr} {o : HO} (hD : H D = none) (e : Ext μ H μ' H') : Ext μ H μ' (upd H' D o) :=
  ⟨e.pre, e.new, fun a u h hm => by rw [upd_ne (ne_of_none h hD)]; exact e.keep a u h hm⟩
end
section
variable (K : PySem.W.Frag) (fa : FA)
def OR (μ : Mu) (H : Hp) (a : Addr) : MO → Prop
  | .lst xs => ∃ vs, H a = some (.lst vs) ∧ VRs K fa μ H xs vs
  | .ro xs => ∃ vs, Rd H a (.lst vs) ∧ VRs K fa μ H xs vs
  | .dic kvs => ∃ kws : List (Key × V), H a = some (.dK kws) ∧ Paired (fun (p : Int × MV) (q : Key × V) => q.1 = Sum.inl p.1 ∧ VR K fa μ H p.2 q.2) kvs kws
structure HR (μ : Mu) (h : Hm) (H : Hp) : Prop where
  len : μ.length = h.length
  nd : μ.Nodup
  at_ : ∀ (n : Nat) (a : Addr) (o : MO), μ[n]? = some a → h[n]? = some o → OR K fa μ H a o
end
section
variable {K : PySem.W.Frag} {fa : FA} {μ μ' : Mu} {H H' : Hp} {h : Hm}
theorem OR.noTup {a : Addr} {o : MO} (x : OR K fa μ H a o) (vs : List V) : ¬ Rd H a (.tup vs) := by
  intro r
  cases o with
  | lst xs =>
    obtain ⟨ws, e, _⟩ := x
    rcases r with r | ⟨u, r⟩ <;> (rw [e] at r; cases r)
  | ro xs =>
    obtain ⟨ws, e, _⟩ := x
    rcases e with e | ⟨u', e⟩ <;> rcases r with r | ⟨u, r⟩ <;> (rw [e] at r; cases r)
  | dic kvs =>
    obtain ⟨ws, e, _⟩ := x
    rcases r with r | ⟨u, r⟩ <;> (rw [e] at r; cases r)
theorem HR.get (x : HR K fa μ h H) {n : Nat} {o : MO} (e : h[n]? = some o) : ∃ a, μ[n]? = some a ∧ OR K fa μ H a o := by
  have hn : n < μ.length := by rw [x.len]; exact (List.getElem?_eq_some_iff.mp e).1
  exact ⟨μ[n], List.getElem?_eq_getElem hn, x.at_ n _ o (List.getElem?_eq_getElem hn) e⟩
theorem HR.noTup (x : HR K fa μ h H) : NoTup μ H := fun a ha vs => by
  obtain ⟨n, hn, e⟩ := List.getElem_of_mem ha
  have hh : n < h.length := by rw [← x.len]; exact hn
  exact (x.at_ n a h[n] (by rw [List.getElem?_eq_getElem hn, e]) (List.getElem?_eq_getElem hh)).noTup vs
theorem OR.tracked {a : Addr} {o : MO} (x : OR K fa μ H a o) : H a ≠ none := by
  intro z
  cases o with
  | lst xs => obtain ⟨ws, e, _⟩ := x; rw [z] at e; cases e
  | ro xs => obtain ⟨ws, e, _⟩ := x; rcases e with e | ⟨u', e⟩ <;> (rw [z] at e; cases e)
  | dic kvs => obtain ⟨ws, e, _⟩ := x; rw [z] at e; cases e
theorem HR.tracked (x : HR K fa μ h H) {a : Addr} (ha : a ∈ μ) : H a ≠ none := by
  obtain ⟨n, hn, e⟩ := List.getElem_of_mem ha
  have hh : n < h.length := by rw [← x.len]; exact hn
  exact (x.at_ n a h[n] (by rw [List.getElem?_eq_getElem hn, e]) (List.getElem?_eq_getElem hh)).tracked
theorem HR.fresh (x : HR K fa μ h H) {p : Addr} (hp : H p = none) : p ∉ μ := fun z => x.tracked z hp
theorem OR.mono (P : ∀ (n : Nat) (a : Addr), μ[n]? = some a → μ'[n]? = some a) (T : ∀ a vs, SqT K H a vs → SqT K H' a vs) {a : Addr} {o : MO} (k : H' a = H a) (x : OR K fa μ H a o) : OR K fa μ' H' a o := by
  cases o with
  | lst xs => obtain ⟨ws, q, r⟩ := x; exact ⟨ws, k.trans q, VRs.mono P T r⟩
  | ro xs =>
    obtain ⟨ws, q, r⟩ := x
    refine ⟨ws, ?_, VRs.mono P T r⟩
    rcases q with q | ⟨u, q⟩
    · exact .inl (k.trans q)
    · exact .inr ⟨u, k.trans q⟩
  | dic kvs =>
    obtain ⟨ws, q, r⟩ := x
    exact ⟨ws, k.trans q, Paired.mapP r fun a b z => ⟨z.1, VR.mono P T z.2⟩⟩
theorem OR.stay (n : NoTup μ H) (e : Ext μ H μ' H') {a : Addr} {o : MO} (k : H' a = H a) (x : OR K fa μ H a o) : OR K fa μ' H' a o := x.mono e.pre (fun _ _ s => SqT.ext n e s) k
theorem HR.laid (x : HR K fa μ h H) {p : Addr} {o : HO} (hp : H p = none) : HR K fa μ h (upd H p o) :=
  ⟨x.len, x.nd, fun n a u ha hu => (x.at_ n a u ha hu).stay x.noTup (Ext.laid hp) (upd_ne fun z => x.fresh hp (by rw [← z]; exact List.mem_of_getElem? ha))⟩
theorem nodup_snoc {α : Type} : ∀ {l : List α} {k : α}, l.Nodup → k ∉ l → (l ++ [k]).Nodup
  | [], k, _, _ => by simp
  | a :: r, k, h, hk => by
    obtain ⟨h1, h2⟩ := List.nodup_cons.mp h
    refine List.nodup_cons.mpr ⟨fun z => ?_, nodup_snoc h2 fun z => hk (List.mem_cons_of_mem _ z)⟩
    rcases List.mem_append.mp z with z | z
    · exact h1 z
    · exact hk (by simp at z; rw [z]; exact List.mem_cons_self)
theorem HR.grow (x : HR K fa μ h H) {p : Addr} {o : HO} {m : MO} (hp : H p = none) (new : OR K fa (μ ++ [p]) (upd H p o) p m) : HR K fa (μ ++ [p]) (h ++ [m]) (upd H p o) := by
  refine ⟨by simp [x.len], nodup_snoc x.nd (x.fresh hp), fun n a u ha hu => ?_⟩
  by_cases hn : n < μ.length
  · rw [List.getElem?_append_left hn] at ha
    rw [List.getElem?_append_left (by rw [← x.len]; exact hn)] at hu
    exact (x.at_ n a u ha hu).stay x.noTup (Ext.grow hp) (upd_ne fun z => x.fresh hp (by rw [← z]; exact List.mem_of_getElem? ha))
  · rw [List.getElem?_append_right (by omega)] at ha
    rw [List.getElem?_append_right (by rw [← x.len]; omega)] at hu
    have e : n - μ.length = 0 := by
      have := (List.getElem?_eq_some_iff.mp ha).1
      simp at this; omega
    have e2 : n - h.length = 0 := by rw [← x.len]; exact e
    rw [e] at ha
    rw [e2] at hu
    have ha' : p = a := by simpa using ha
    have hu' : m = u := by simpa using hu
    subst ha' hu'
    exact new
theorem HR.change (x : HR K fa μ h H) {n : Nat} {a : Addr} {o : HO} {m : MO} (ha : μ[n]? = some a) (new : OR K fa μ (upd H a o) a m) : HR K fa μ (h.set n m) (upd H a o) := by
  have hm : a ∈ μ := List.mem_of_getElem? ha
  refine ⟨by simp [x.len], x.nd, fun j b u hb hu => ?_⟩
  by_cases e : j = n
  · subst e
    rw [ha] at hb; cases hb
    have hj : j < h.length := by rw [← x.len]; exact (List.getElem?_eq_some_iff.mp ha).1
    rw [List.getElem?_set_self hj] at hu
    cases hu
    exact new
  · rw [List.getElem?_set_ne (fun z => e z.symm)] at hu
    have hne : b ≠ a := fun z => e (by subst z; exact nd_ix x.nd hb ha)
    exact (x.at_ j b u hb hu).stay x.noTup (Ext.change hm) (upd_ne hne)
theorem HR.off (x : HR K fa μ h H) {D : Addr} {o : HO} (hD : D ∉ μ) (nd : ∀ vs, ¬ Rd H D (.tup vs)) : HR K fa μ h (upd H D o) :=
  ⟨x.len, x.nd, fun n a u ha hu => (x.at_ n a u ha hu).mono (fun _ _ z => z) (fun _ _ s => SqT.off nd s) (upd_ne fun z => hD (by rw [← z]; exact List.mem_of_getElem? ha))⟩
theorem HR.take (x : HR K fa μ h H) {D : Addr} {m : MO} (hD : D ∉ μ) (new : OR K fa μ H D m) : HR K fa (μ ++ [D]) (h ++ [m]) H := by
  have P : ∀ (n : Nat) (a : Addr), μ[n]? = some a → (μ ++ [D])[n]? = some a := fun n a e => by rw [List.getElem?_append_left (by exact (List.getElem?_eq_some_iff.mp e).1)]; exact e
  refine ⟨by simp [x.len], nodup_snoc x.nd hD, fun n a u ha hu => ?_⟩
  by_cases hn : n < μ.length
  · rw [List.getElem?_append_left hn] at ha
    rw [List.getElem?_append_left (by rw [← x.len]; exact hn)] at hu
    exact (x.at_ n a u ha hu).mono P (fun _ _ s => s) rfl
  · rw [List.getElem?_append_right (by omega)] at ha
    rw [List.getElem?_append_right (by rw [← x.len]; omega)] at hu
    have e : n - μ.length = 0 := by
      have := (List.getElem?_eq_some_iff.mp ha).1
      simp at this; omega
    have e2 : n - h.length = 0 := by rw [← x.len]; exact e
    rw [e] at ha
    rw [e2] at hu
    have ha' : D = a := by simpa using ha
    have hu' : m = u := by simpa using hu
    subst ha' hu'
    exact new.mono P (fun _ _ s => s) rfl
end
end Mi
namespace Mi
open PySem PySem.Spec PyProof.Rows L2
theorem tuple_mul1 (l : Addr) (items : Array Value) (n : Nat) (dd : Option Addr) (sl : Array (Option Value)) (x : Int) (u : Tok) (c0 : (decide (x < -(2 ^ 63)) || decide (x ≥ 2 ^ 63)) = false) (c1 : (items.isEmpty || x == 1) = true) :
    Meets (Builtin.«tuple.__mul__» ⟨[.ref l, .int x u], []⟩) (fun _ R s => s.heap.get? l = some { cls := .type "tuple", dict := dd, data := .seq items n, slots := sl } ∧
      R (.ok (.ret (Value.ref l))) s) :=
  .of_wp fun prog w A R s h => by
    obtain ⟨hp, g, d, tk, os⟩ := s
    obtain ⟨hl, h⟩ := h
    have f1 := AutoSeq1.idx_int
    wp_walk using wpAny_loadPart' hl
    repeat (first
      | (refine wpAny_ite_false (decide_eq_false (by rw [c0]; exact Bool.false_ne_true)) ?_; wp_walk using wpAny_loadPart' hl)
      | (refine wpAny_ite_true (decide_eq_true c1) ?_; wp_walk using wpAny_loadPart' hl))
    exact ⟨_, rfl, h⟩
theorem tuple_mul0 (l : Addr) (items : Array Value) (n : Nat) (dd : Option Addr) (sl : Array (Option Value)) (x : Int) (u : Tok) (c0 : (decide (x < -(2 ^ 63)) || decide (x ≥ 2 ^ 63)) = false) (c1 : (items.isEmpty || x == 1) = false) (c2 : (decide (x ≤ 0) || items.isEmpty) = true) :
    Meets (Builtin.«tuple.__mul__» ⟨[.ref l, .int x u], []⟩) (fun _ R s => s.heap.get? l = some { cls := .type "tuple", dict := dd, data := .seq items n, slots := sl } ∧
      R (.ok (.ret (Value.ref s.heap.objs.size))) { s with heap := s.heap.push { cls := Value.type "tuple", data := Data.seq #[] }, toks := s.toks }) :=
  .of_wp fun prog w A R s h => by
    obtain ⟨hp, g, d, tk, os⟩ := s
    obtain ⟨hl, h⟩ := h
    have f1 := AutoSeq1.idx_int
    wp_walk using wpAny_loadPart' hl
    repeat (first
      | (refine wpAny_ite_false (decide_eq_false (by rw [c0]; exact Bool.false_ne_true)) ?_; wp_walk using wpAny_loadPart' hl)
      | (refine wpAny_ite_false (decide_eq_false (by rw [c1]; exact Bool.false_ne_true)) ?_; wp_walk using wpAny_loadPart' hl)
      | (refine wpAny_ite_true (decide_eq_true c2) ?_; wp_walk using wpAny_loadPart' hl)
      | (refine wpAny_ite_false (decide_eq_false (Nat.not_lt.mpr (Nat.zero_le _))) ?_; wp_walk using wpAny_loadPart' hl))
    exact ⟨_, rfl, h⟩
def rRepX (K : PySem.W.Frag) : R2 := fun x y H Q => ∃ l k xs, x = .ref l ∧ y = .int k ∧ SqT K H l xs ∧ -1000 ≤ k ∧ k ≤ 1000 ∧ xs.length ≤ 1000 ∧ ((xs = [] ∨ k = 1) → Q (.ref l) H) ∧
  (¬ (xs = [] ∨ k = 1) → ∀ p, H p = none → Q (.ref p) (upd H p (.tup (List.replicate k.toNat xs).flatten)))
section
variable {X : Cx}
theorem op_repX : OpR X (binaryOp .Mult) (rRepX X.K) := by
  intro pins s σ H x y v u Q I rx ry h
  obtain ⟨l, k, xs, rfl, rfl, hT, h1, h2, hz, q1, q2⟩ := h
  by_cases hbig : xs ≠ [] ∧ 2 ≤ k
  · exact op_repT pins s σ H _ _ v u Q I rx ry ⟨l, k, xs, rfl, rfl, hT, hbig.1, hbig.2, h2, hz, q2 (by rintro (z | z); exact hbig.1 z; omega)⟩
  cases rx
  obtain ⟨t, rfl⟩ := ry
  obtain ⟨its, r, ⟨⟨cls, dd, data, sl⟩, ho, hc, n, hd⟩, hs⟩ := I.tuple hT
  simp only at hc hd
  subst hc hd
  have hle : its.length = xs.length := r.length.symm
  have c0 : (decide (k < -(2 ^ 63)) || decide (k ≥ 2 ^ 63)) = false := by
    rw [decide_eq_false (by omega), decide_eq_false (by omega)] <;> rfl
  have hemp : its.toArray.isEmpty = true ↔ xs = [] := by
    constructor
    · intro z
      have : its = [] := by simpa using z
      rw [this] at hle
      exact List.eq_nil_of_length_eq_zero hle.symm
    · intro z
      rw [z] at hle
      have : its = [] := List.eq_nil_of_length_eq_zero hle
      rw [this]; rfl
  by_cases hone : xs = [] ∨ k = 1
  · have c1 : (its.toArray.isEmpty || k == 1) = true := by
      rcases hone with z | z
      · rw [hemp.mpr z]; rfl
      · rw [z]; simp
    exact wpAny_binaryOp_repeat_ref (T := "tuple") (U := "int") (by decide) ⟨_, ho, rfl⟩ (fun s' => typeIs_int s' k t) noFill_tuple_mul F.fills_int_mul F.slot_int_rmul repeat_tuple F.slot_int_index.lookup
      (call_meets F.slot_int_rmul (typeIs_int s k t) F.entry_int_rmul (F.args_int_rmul_2 _ _) (int_rmul_tuple k t l its.toArray n dd sl)
        ⟨ho, rfl, ⟨_, ho, rfl⟩, call_meets F.slot_tuple_mul ⟨_, ho, rfl⟩ F.entry_tuple_mul (F.args_tuple_mul_2 _ _) (tuple_mul1 l its.toArray n dd sl k t c0 c1) ⟨ho, .ref l, H, I, rfl, q1 hone⟩⟩)
  · have hk : k ≤ 0 := by
      have hx : xs ≠ [] := fun z => hone (.inl z)
      have h3 : ¬ 2 ≤ k := fun z => hbig ⟨hx, z⟩
      have h4 : k ≠ 1 := fun z => hone (.inr z)
      omega
    have c1 : (its.toArray.isEmpty || k == 1) = false := by
      rw [Bool.or_eq_false_iff]
      refine ⟨?_, beq_eq_false_iff_ne.mpr (by omega)⟩
      cases e : its.toArray.isEmpty with
      | false => rfl
      | true => exact absurd (.inl (hemp.mp e)) hone
    have c2 : (decide (k ≤ 0) || its.toArray.isEmpty) = true := by rw [decide_eq_true hk]; rfl
    have e0 : (List.replicate k.toNat xs).flatten = [] := by
      have : k.toNat = 0 := by omega
      rw [this]; rfl
    refine wpAny_binaryOp_repeat_ref (T := "tuple") (U := "int") (by decide) ⟨_, ho, rfl⟩ (fun s' => typeIs_int s' k t) noFill_tuple_mul F.fills_int_mul F.slot_int_rmul repeat_tuple F.slot_int_index.lookup
      (call_meets F.slot_int_rmul (typeIs_int s k t) F.entry_int_rmul (F.args_int_rmul_2 _ _) (int_rmul_tuple k t l its.toArray n dd sl)
        ⟨ho, rfl, ⟨_, ho, rfl⟩, call_meets F.slot_tuple_mul ⟨_, ho, rfl⟩ F.entry_tuple_mul (F.args_tuple_mul_2 _ _) (tuple_mul0 l its.toArray n dd sl k t c0 c1 c2) ⟨ho, ?_⟩⟩)
    have q := q2 hone
    rw [e0] at q
    exact ⟨.ref s.heap.objs.size, _, I.laid (t' := s.toks) (o := .tup []) (fun b ob z => Heap.get?_push_of_some _ z) (Nat.le_refl _) ⟨Nat.zero_le _, [], .nil, IsTup.new _ _⟩, rfl, q _ (I.hok.fresh (Nat.le_refl _))⟩
end
end Mi
namespace Mi
open PySem PySem.Spec PyProof.Rows L2
section
variable (K : PySem.W.Frag) (fa : FA) (ca : Nat → Addr)
def PostR {α β : Type} (V : Mu → Hp → α → β → Prop) (μ : Mu) (H : Hp) (σ : L2.St) (W : WX) (Q : β → Hp → Prop) : R α → Prop
  | .ok v h => ∀ (μ' : Mu) (H' : Hp) (x : β), Ext μ H μ' H' → HR K fa μ' h H' → V μ' H' v x → Q x H'
  | .exc c h => ∀ (μ' : Mu) (H' : Hp), Ext μ H μ' H' → HR K fa μ' h H' → W (.ref (ca c)) none σ H'
  | .bad => False
def SlotR (μ : Mu) (H : Hp) (x : MV) (o : Option (Option V)) : Prop := match x with
  | .und => True
  | .zipv _ _ => True
  | x => ∃ v, o = some (some v) ∧ VR K fa μ H x v
def SR (μ : Mu) (H : Hp) (ρ : Rho) (σ : L2.St) : Prop := ρ.length = σ.length ∧ ∀ (i : Nat) (x : MV), ρ[i]? = some x → SlotR K fa μ H x σ[i]?
def TEo (W : WX) (s : SE) : TE := fun σ H Q => ∃ (μ : Mu) (ρ : Rho) (h : Hm), HR K fa μ h H ∧ SR K fa μ H ρ σ ∧ PostR K fa ca (VR K fa) μ H σ W Q (s ρ h)
def TAo (W : WX) (s : SL) : TA := fun σ H Q => ∃ (μ : Mu) (ρ : Rho) (h : Hm), HR K fa μ h H ∧ SR K fa μ H ρ σ ∧ PostR K fa ca (VRs K fa) μ H σ W Q (s ρ h)
def toT (r : RE) : R Bool := match r with
  | .ok (.bl b) h => .ok b h
  | .ok _ _ => .bad
  | .exc c h => .exc c h
  | .bad => .bad
abbrev EqV : Mu → Hp → Bool → Bool → Prop := fun _ _ a b => a = b
def TTo (W : WX) (s : SE) : TT := fun σ H Q => ∃ (μ : Mu) (ρ : Rho) (h : Hm), HR K fa μ h H ∧ SR K fa μ H ρ σ ∧ PostR K fa ca EqV μ H σ W Q (toT (s ρ h))
end
section
variable {X : Cx} {e : Expr} {es : List Expr}
theorem PE_weak {t t' : TE} (h : PE X e t) (w : ∀ σ H Q, t' σ H Q → t σ H Q) : PE X e t' := ⟨fun pins s σ H Q I q => h.run pins s σ H Q I (w σ H Q q)⟩
theorem PT_weak {t t' : TT} (h : PT X e t) (w : ∀ σ H Q, t' σ H Q → t σ H Q) : PT X e t' := ⟨fun pins s σ H Q I q => h.run pins s σ H Q I (w σ H Q q)⟩
theorem PW_weak {t t' : TT} (h : PW X e t) (w : ∀ σ H Q, t' σ H Q → t σ H Q) : PW X e t' := ⟨fun wh pins s σ H Q I q => h.run wh pins s σ H Q I (w σ H Q q)⟩
theorem PA_weak {t t' : TA} (h : PA X es t) (w : ∀ σ H Q, t' σ H Q → t σ H Q) : PA X es t' := ⟨fun pos pins s σ H Q I q => h.run pos pins s σ H Q I (w σ H Q q)⟩
end
section
variable {K : PySem.W.Frag} {fa : FA} {ca : Nat → Addr} {μ μ1 : Mu} {H H1 : Hp} {σ : L2.St} {W : WX} {ρ : Rho} {h : Hm}
theorem PostR.step {α β : Type} {V : Mu → Hp → α → β → Prop} {Q : β → Hp → Prop} {r : R α} (x : Ext μ H μ1 H1) (p : PostR K fa ca V μ H σ W Q r) : PostR K fa ca V μ1 H1 σ W Q r := by
  cases r with
  | ok v h => exact fun μ' H' y e => p μ' H' y (x.trans e)
  | exc c h => exact fun μ' H' e => p μ' H' (x.trans e)
  | bad => exact p
theorem PostR.first {α β γ δ : Type} {V : Mu → Hp → α → β → Prop} {V' : Mu → Hp → γ → δ → Prop} {Q : δ → Hp → Prop} {Q' : β → Hp → Prop} {r : R α} {k : α → Hm → R γ} (p : PostR K fa ca V' μ H σ W Q (r.bind k))
    (hk : ∀ (v : α) (h1 : Hm) (μ1 : Mu) (H1 : Hp) (x : β), r = .ok v h1 → Ext μ H μ1 H1 → HR K fa μ1 h1 H1 → V μ1 H1 v x → PostR K fa ca V' μ1 H1 σ W Q (k v h1) → Q' x H1) : PostR K fa ca V μ H σ W Q' r := by
  cases r with
  | ok v h1 => exact fun μ' H' y e hr vr => hk v h1 μ' H' y rfl e hr vr (PostR.step e (show PostR K fa ca V' μ H σ W Q (k v h1) from p))
  | exc c h1 => exact p
  | bad => exact p
theorem SR.mono (P : ∀ (n : Nat) (a : Addr), μ[n]? = some a → μ1[n]? = some a) (T : ∀ a vs, SqT K H a vs → SqT K H1 a vs) (s : SR K fa μ H ρ σ) : SR K fa μ1 H1 ρ σ := by
  refine ⟨s.1, fun i x hx => ?_⟩
  have q := s.2 i x hx
  cases x with
  | und => exact True.intro
  | zipv a b => exact True.intro
  | _ => obtain ⟨v, e1, r⟩ := q; exact ⟨v, e1, VR.mono P T r⟩
theorem SR.ext (n : NoTup μ H) (e : Ext μ H μ1 H1) (s : SR K fa μ H ρ σ) : SR K fa μ1 H1 ρ σ := by
  refine ⟨s.1, fun i x hx => ?_⟩
  have q := s.2 i x hx
  cases x with
  | und => exact True.intro
  | zipv a b => exact True.intro
  | _ => obtain ⟨v, e1, r⟩ := q; exact ⟨v, e1, VR.ext n e r⟩
theorem SR.get (s : SR K fa μ H ρ σ) {i : Nat} {x : MV} (hx : ρ[i]? = some x) (h1 : x ≠ .und) (h2 : ∀ a b, x ≠ .zipv a b) : ∃ v, σ[i]? = some (some v) ∧ VR K fa μ H x v := by
  have q := s.2 i x hx
  cases x with
  | und => exact absurd rfl h1
  | zipv a b => exact absurd rfl (h2 a b)
  | _ => exact q
theorem PostR.fin {α β : Type} {V : Mu → Hp → α → β → Prop} {Q : β → Hp → Prop} {v : α} {x : β} (p : PostR K fa ca V μ H σ W Q (.ok v h)) (hr : HR K fa μ h H) (vr : V μ H v x) : Q x H := p μ H x Ext.refl hr vr
theorem VRs.laid {p : Addr} {o : HO} {xs : List MV} {vs : List V} (hr : HR K fa μ h H) (hp : H p = none) (r : VRs K fa μ H xs vs) : VRs K fa μ (upd H p o) xs vs := VRs.ext hr.noTup (Ext.laid hp) r
theorem VR.mkT {xs : List MV} {vs : List V} {a : Addr} (s : SqT K H a vs) (r : VRs K fa μ H xs vs) : VR K fa μ H (mkT xs) (.ref a) := .tup s r (rkL_ok xs)
theorem PostR.tup {Q : VK} {xs : List MV} {vs : List V} (p : PostR K fa ca (VR K fa) μ H σ W Q (.ok (mkT xs) h)) (hr : HR K fa μ h H) (r : VRs K fa μ H xs vs) : ∀ q, H q = none → Q (.ref q) (upd H q (.tup vs)) := fun q hq =>
  p μ _ _ (Ext.laid hq) (hr.laid hq) (VR.mkT (.inl (.inl upd_same)) (r.laid hr hq))
theorem PostR.lst {Q : VK} {xs : List MV} {vs : List V} (p : PostR K fa ca (VR K fa) μ H σ W Q (newL xs h)) (hr : HR K fa μ h H) (r : VRs K fa μ H xs vs) : ∀ q, H q = none → Q (.ref q) (upd H q (.lst vs)) := fun q hq =>
  p (μ ++ [q]) _ _ (Ext.grow hq) (hr.grow hq ⟨vs, upd_same, VRs.ext hr.noTup (Ext.grow hq) r⟩) (.lref (by rw [← hr.len]; simp))
theorem seqOf_lref {n : Nat} : seqOf h (.lref n) = (match h[n]? with
    | some (.lst xs) => some xs
    | some (.ro xs) => some xs
    | _ => none) := by rw [← geth_eq]; rfl
theorem lstOf_lref {n : Nat} : lstOf h (.lref n) = (match h[n]? with
    | some (.lst xs) => some xs
    | _ => none) := by rw [← geth_eq]; rfl
theorem seqOf_ok (hr : HR K fa μ h H) {x : MV} {v : V} {xs : List MV} (r : VR K fa μ H x v) (e : seqOf h x = some xs) : ∃ a vs, v = .ref a ∧ (SqL K H a vs ∨ SqT K H a vs) ∧ VRs K fa μ H xs vs := by
  cases r with
  | tup s q k => cases e; exact ⟨_, _, rfl, .inr s, q⟩
  | @lref n a ha =>
    rw [seqOf_lref] at e
    cases q : h[n]? with
    | none => simp only [q] at e; cases e
    | some o =>
      simp only [q] at e
      have z := hr.at_ n a o ha q
      cases o with
      | lst ys => cases e; obtain ⟨vs, e1, r1⟩ := z; exact ⟨a, vs, rfl, .inl (.inl (.inl e1)), r1⟩
      | ro ys => cases e; obtain ⟨vs, e1, r1⟩ := z; exact ⟨a, vs, rfl, .inl (.inl e1), r1⟩
      | dic d => cases e
  | _ => cases e
theorem lstOf_ok (hr : HR K fa μ h H) {x : MV} {v : V} {xs : List MV} (r : VR K fa μ H x v) (e : lstOf h x = some xs) : ∃ n a vs, x = .lref n ∧ v = .ref a ∧ μ[n]? = some a ∧ h[n]? = some (.lst xs) ∧ H a = some (.lst vs) ∧ VRs K fa μ H xs vs := by
  cases r with
  | @lref n a ha =>
    rw [lstOf_lref] at e
    cases q : h[n]? with
    | none => simp only [q] at e; cases e
    | some o =>
      simp only [q] at e
      have z := hr.at_ n a o ha q
      cases o with
      | lst ys => cases e; obtain ⟨vs, e1, r1⟩ := z; exact ⟨n, a, vs, rfl, rfl, ha, q, e1, r1⟩
      | ro ys => cases e
      | dic d => cases e
  | _ => cases e
theorem seqOf_lst {xs : List MV} {x : MV} (e : lstOf h x = some xs) : seqOf h x = some xs := by
  cases x with
  | lref n =>
    rw [lstOf_lref] at e
    rw [seqOf_lref]
    cases q : h[n]? with
    | none => rw [q] at e; cases e
    | some o =>
      rw [q] at e
      cases o with
      | lst ys => exact e
      | ro ys => cases e
      | dic d => cases e
  | _ => cases e
theorem fits_le {xs : List MV} (h : fits xs = true) : xs.length ≤ 100000 := Nat.le_of_ble_eq_true h
theorem cap_line {n : Nat} (h : n ≤ 100000) : n < sizeLine := by rw [sizeLine_eq]; omega
variable {X : Cx} {sa sb sc : SE}
theorem w1 {r : V → Hp → VK → Prop} {k : MV → Hm → RE} (hk : ∀ {μ : Mu} {H : Hp} {σ : L2.St} {h : Hm} {Q : VK} {v : MV} {x : V}, HR K fa μ h H → VR K fa μ H v x → PostR K fa ca (VR K fa) μ H σ W Q (k v h) → r x H Q) (σ : L2.St) (H : Hp) (Q : VK) :
    TEo K fa ca W (fun ρ h => (sa ρ h).bind k) σ H Q → TEo K fa ca W sa σ H fun x H1 => r x H1 Q := fun ⟨μ, ρ, h, hr, sr, p⟩ =>
  ⟨μ, ρ, h, hr, sr, p.first fun v h1 μ1 H1 x _ _ hr1 vr p1 => hk hr1 vr p1⟩
theorem w2 {r : R2} {k : MV → MV → Hm → RE} (hk : ∀ {μ : Mu} {H : Hp} {σ : L2.St} {h : Hm} {Q : VK} {v w : MV} {x y : V}, HR K fa μ h H → VR K fa μ H v x → VR K fa μ H w y → PostR K fa ca (VR K fa) μ H σ W Q (k v w h) → r x y H Q) (σ : L2.St) (H : Hp) (Q : VK) :
    TEo K fa ca W (fun ρ h => (sa ρ h).bind fun v h1 => (sb ρ h1).bind fun w h2 => k v w h2) σ H Q → tOp r (TEo K fa ca W sa) (TEo K fa ca W sb) σ H Q := fun ⟨μ, ρ, h, hr, sr, p⟩ =>
  ⟨μ, ρ, h, hr, sr, p.first fun v h1 μ1 H1 x _ e1 hr1 vr p1 => ⟨μ1, ρ, h1, hr1, sr.ext hr.noTup e1, p1.first fun w h2 μ2 H2 y _ e2 hr2 wr p2 => hk hr2 (VR.ext hr1.noTup e2 vr) wr p2⟩⟩
theorem iz_log {i : Int} : Nat.log2 (iz i) = i.natAbs.log2 := by rw [iz_eq]
theorem op_fdivX : OpR X (binaryOp .FloorDiv) (rI (fun _ j => j ≠ 0 ∧ j.natAbs.log2 < 9000) fun i j => .int (i.fdiv j)) := opI fun i j _ _ _ _ _ hc q => floordiv_int hc.1 q (.inl (PyProof.noPylong_of_log2 hc.2))
theorem inz_ne {j : Int} (h : inz j = true) : j ≠ 0 := by
  intro z; subst z; cases h
abbrev rAddM (K : PySem.W.Frag) : R2 := fun x y H Q => rI0 (fun i j => .int (i + j)) x y H Q ∨ (rCatA K x y H Q ∨ rCat x y H Q)
theorem op_addM : OpR X (binaryOp .Add) (rAddM X.K) := OpR.or op_add (OpR.or op_catA op_cat)
theorem k_add {Q : VK} {v w : MV} {x y : V} (hr : HR K fa μ h H) (vr : VR K fa μ H v x) (wr : VR K fa μ H w y) (p : PostR K fa ca (VR K fa) μ H σ W Q (vAdd v w h)) : rAddM K x y H Q := by
  cases vr with
  | int i =>
    cases wr with
    | int j => exact .inl ⟨i, j, rfl, rfl, p.fin hr (.int _)⟩
    | _ => exact absurd p (fun z => z)
  | tup s1 r1 k1 =>
    cases wr with
    | tup s2 r2 k2 =>
      rename_i xs a vs _ ys b ws
      have p' : PostR K fa ca (VR K fa) μ H σ W Q (match fits (xs ++ ys) with
        | true => .ok (mkT (xs ++ ys)) h
        | false => .bad) := p
      cases ef : fits (xs ++ ys) with
      | false => rw [ef] at p'; exact absurd p' (fun z => z)
      | true =>
        rw [ef] at p'
        have p2 : PostR K fa ca (VR K fa) μ H σ W Q (.ok (mkT (xs ++ ys)) h) := p'
        have r3 := r1.append r2
        have hz := cap_line (fits_le ef)
        rw [r3.length, List.length_append] at hz
        refine .inr (.inl ⟨a, b, vs, ws, rfl, rfl, s1, s2, Nat.le_of_lt hz, fun e0 => ?_, fun _ e1 => ?_, fun _ _ => p2.tup hr r3⟩)
        · refine p2.fin hr (VR.mkT s2 ?_)
          rw [e0] at r3; exact r3
        · refine p2.fin hr (VR.mkT s1 ?_)
          rw [e1, List.append_nil] at r3; exact r3
    | _ => exact absurd p (fun z => z)
  | lref ha =>
    rename_i n a
    have p' : PostR K fa ca (VR K fa) μ H σ W Q (match lstOf h (.lref n), lstOf h w with
      | some xs, some ys => (match fits (xs ++ ys) with
        | true => newL (xs ++ ys) h
        | false => .bad)
      | _, _ => .bad) := p
    cases e1 : lstOf h (.lref n) with
    | none => rw [e1] at p'; exact absurd p' (fun z => z)
    | some xs =>
      cases e2 : lstOf h w with
      | none => rw [e1, e2] at p'; exact absurd p' (fun z => z)
      | some ys =>
        rw [e1, e2] at p'
        have p2 : PostR K fa ca (VR K fa) μ H σ W Q (match fits (xs ++ ys) with
          | true => newL (xs ++ ys) h
          | false => .bad) := p'
        cases ef : fits (xs ++ ys) with
        | false => rw [ef] at p2; exact absurd p2 (fun z => z)
        | true =>
          rw [ef] at p2
          obtain ⟨_, a1, vs, _, e3, _, _, h1, r1⟩ := lstOf_ok hr (.lref (K := K) (fa := fa) ha) e1
          cases e3
          obtain ⟨_, b1, ws, _, e4, _, _, h2, r2⟩ := lstOf_ok hr wr e2
          have r3 := r1.append r2
          have hz := cap_line (fits_le ef)
          rw [r3.length, List.length_append] at hz
          exact .inr (.inr ⟨a, b1, vs, ws, rfl, e4, h1, h2, Nat.le_of_lt hz, PostR.lst p2 hr r3⟩)
  | _ => exact absurd p (fun z => z)
theorem rep_flat : ∀ (xs : List MV) (n : Nat), rep xs n = (List.replicate n xs).flatten
  | xs, 0 => rfl
  | xs, n + 1 => by rw [List.replicate_succ, List.flatten_cons, ← rep_flat xs n]; rfl
theorem VRs.rep {xs : List MV} {vs : List V} (r : VRs K fa μ H xs vs) : ∀ n : Nat, VRs K fa μ H (rep xs n) (List.replicate n vs).flatten
  | 0 => .nil
  | n + 1 => by rw [List.replicate_succ, List.flatten_cons]; exact r.append (VRs.rep r n)
abbrev rMulM (K : PySem.W.Frag) : R2 := fun x y H Q => rI CMulW (fun i j => .int (i * j)) x y H Q ∨ (rRepX K x y H Q ∨ rRep x y H Q)
theorem op_mulM : OpR X (binaryOp .Mult) (rMulM X.K) := OpR.or op_mulW (OpR.or op_repX op_rep)
theorem iz_bd {j : Int} (h : Nat.ble (iz j) 1000 = true) : -1000 ≤ j ∧ j ≤ 1000 := by
  have := Nat.le_of_ble_eq_true h
  rw [iz_eq] at this
  omega
theorem k_mul {Q : VK} {v w : MV} {x y : V} (hr : HR K fa μ h H) (vr : VR K fa μ H v x) (wr : VR K fa μ H w y) (p : PostR K fa ca (VR K fa) μ H σ W Q (vMul v w h)) : rMulM K x y H Q := by
  cases wr with
  | int j =>
    cases vr with
    | int i =>
      have p' : PostR K fa ca (VR K fa) μ H σ W Q (match Nat.ble (Nat.log2 (iz i) + Nat.log2 (iz j)) 999999 with
        | true => .ok (.int (i * j)) h
        | false => .bad) := p
      cases e : Nat.ble (Nat.log2 (iz i) + Nat.log2 (iz j)) 999999 with
      | false => rw [e] at p'; exact absurd p' (fun z => z)
      | true =>
        rw [e] at p'
        have z := Nat.le_of_ble_eq_true e
        rw [iz_log, iz_log] at z
        exact .inl ⟨i, j, rfl, rfl, (by show _ + _ < _; omega), PostR.fin (V := VR K fa) p' hr (.int _)⟩
    | tup s1 r1 k1 =>
      rename_i xs a vs
      have p' : PostR K fa ca (VR K fa) μ H σ W Q (match Nat.ble (iz j) 1000 && Nat.ble xs.length 1000 with
        | true => .ok (mkT (rep xs j.toNat)) h
        | false => .bad) := p
      cases e : (Nat.ble (iz j) 1000 && Nat.ble xs.length 1000) with
      | false => rw [e] at p'; exact absurd p' (fun z => z)
      | true =>
        rw [e] at p'
        have p2 : PostR K fa ca (VR K fa) μ H σ W Q (.ok (mkT (rep xs j.toNat)) h) := p'
        obtain ⟨e1, e2⟩ := Bool.and_eq_true_iff.mp e
        obtain ⟨b1, b2⟩ := iz_bd e1
        have b3 := Nat.le_of_ble_eq_true e2
        rw [r1.length] at b3
        have r3 := r1.rep j.toNat
        refine .inr (.inl ⟨a, j, vs, rfl, rfl, s1, b1, b2, b3, fun z => ?_, fun _ => p2.tup hr r3⟩)
        refine p2.fin hr (VR.mkT s1 ?_)
        rcases z with z | z
        · rw [z] at r3 ⊢
          have e0 : (List.replicate j.toNat ([] : List V)).flatten = [] := by simp
          rw [e0] at r3; exact r3
        · rw [z] at r3
          have e0 : (List.replicate (1 : Int).toNat vs).flatten = vs := by simp
          rw [e0] at r3
          rw [z]; exact r3
    | lref ha =>
      rename_i n a
      have p' : PostR K fa ca (VR K fa) μ H σ W Q (match lstOf h (.lref n) with
        | some xs => (match Nat.ble (iz j) 1000 && Nat.ble xs.length 1000 with
          | true => newL (rep xs j.toNat) h
          | false => .bad)
        | none => .bad) := p
      cases e1 : lstOf h (.lref n) with
      | none => rw [e1] at p'; exact absurd p' (fun z => z)
      | some xs =>
        rw [e1] at p'
        have p2 : PostR K fa ca (VR K fa) μ H σ W Q (match Nat.ble (iz j) 1000 && Nat.ble xs.length 1000 with
          | true => newL (rep xs j.toNat) h
          | false => .bad) := p'
        cases e : (Nat.ble (iz j) 1000 && Nat.ble xs.length 1000) with
        | false => rw [e] at p2; exact absurd p2 (fun z => z)
        | true =>
          rw [e] at p2
          obtain ⟨_, a1, vs, _, e3, _, _, h1, r1⟩ := lstOf_ok hr (.lref (K := K) (fa := fa) ha) e1
          cases e3
          obtain ⟨c1, c2⟩ := Bool.and_eq_true_iff.mp e
          obtain ⟨b1, b2⟩ := iz_bd c1
          have b3 := Nat.le_of_ble_eq_true c2
          rw [r1.length] at b3
          have r3 := r1.rep j.toNat
          have bz : vs.length * j.toNat ≤ sizeLine := by
            rw [sizeLine_eq]
            have := Nat.mul_le_mul b3 (show j.toNat ≤ 1000 by omega)
            omega
          exact .inr (.inr ⟨a, j, vs, rfl, rfl, h1, by omega, by omega, bz, PostR.lst p2 hr r3⟩)
    | _ => exact absurd p (fun z => z)
  | _ => exact absurd p (fun z => z)
def PyOp : BOp → Operator
  | .add => .Add | .sub => .Sub | .mul => .Mult | .fdiv => .FloorDiv | .mod => .Mod | .pow => .Pow
def rBinM (K : PySem.W.Frag) : BOp → R2
  | .add => rAddM K
  | .sub => rI0 fun i j => .int (i - j)
  | .mul => rMulM K
  | .fdiv => rI (fun _ j => j ≠ 0 ∧ j.natAbs.log2 < 9000) fun i j => .int (i.fdiv j)
  | .mod => rI (fun _ j => 0 < j) fun i j => .int (i % j)
  | .pow => rI CPow fun i j => .int (i ^ j.toNat)
theorem op_binM (op : BOp) : OpR X (binaryOp (PyOp op)) (rBinM X.K op) := by
  cases op with
  | add => exact op_addM
  | sub => exact op_sub
  | mul => exact op_mulM
  | fdiv => exact op_fdivX
  | mod => exact op_mod
  | pow => exact op_pow
theorem k_bin (op : BOp) {Q : VK} {v w : MV} {x y : V} (hr : HR K fa μ h H) (vr : VR K fa μ H v x) (wr : VR K fa μ H w y) (p : PostR K fa ca (VR K fa) μ H σ W Q (vBin op v w h)) : rBinM K op x y H Q := by
  cases op with
  | add => exact k_add hr vr wr p
  | mul => exact k_mul hr vr wr p
  | sub =>
    cases vr with
    | int i =>
      cases wr with
      | int j => exact ⟨i, j, rfl, rfl, PostR.fin (V := VR K fa) p hr (.int _)⟩
      | _ => exact absurd p (fun z => z)
    | _ => exact absurd p (fun z => z)
  | fdiv =>
    cases vr with
    | int i =>
      cases wr with
      | int j =>
        have p' : PostR K fa ca (VR K fa) μ H σ W Q (match inz j && Nat.ble (Nat.log2 (iz j)) 8999 with
          | true => .ok (.int (i.fdiv j)) h
          | false => .bad) := p
        cases e : (inz j && Nat.ble (Nat.log2 (iz j)) 8999) with
        | false => rw [e] at p'; exact absurd p' (fun z => z)
        | true =>
          rw [e] at p'
          obtain ⟨e1, e2⟩ := Bool.and_eq_true_iff.mp e
          have z := Nat.le_of_ble_eq_true e2
          rw [iz_log] at z
          exact ⟨i, j, rfl, rfl, ⟨inz_ne e1, by omega⟩, PostR.fin (V := VR K fa) p' hr (.int _)⟩
      | _ => exact absurd p (fun z => z)
    | _ => exact absurd p (fun z => z)
  | mod =>
    cases vr with
    | int i =>
      cases wr with
      | int j =>
        match j, p with
        | .ofNat 0, p => exact absurd p (fun z => z)
        | .ofNat (j + 1), p => exact ⟨i, _, rfl, rfl, (by show (0 : Int) < _; simp only [Int.ofNat_eq_natCast]; omega), PostR.fin (V := VR K fa) p hr (.int _)⟩
        | .negSucc j, p => exact absurd p (fun z => z)
      | _ => exact absurd p (fun z => z)
    | _ => exact absurd p (fun z => z)
  | pow =>
    cases vr with
    | int i =>
      match i, p with
      | .negSucc i, p => exact absurd p (fun z => z)
      | .ofNat i, p =>
        cases wr with
        | int j =>
          match j, p with
          | .negSucc j, p => exact absurd p (fun z => z)
          | .ofNat j, p =>
            have p' : PostR K fa ca (VR K fa) μ H σ W Q (match Nat.ble j 1000 && Nat.ble i 1000 with
              | true => .ok (.int (.ofNat (i ^ j))) h
              | false => .bad) := p
            cases e : (Nat.ble j 1000 && Nat.ble i 1000) with
            | false => rw [e] at p'; exact absurd p' (fun z => z)
            | true =>
              rw [e] at p'
              obtain ⟨e1, e2⟩ := Bool.and_eq_true_iff.mp e
              have z1 := Nat.le_of_ble_eq_true e1
              have z2 := Nat.le_of_ble_eq_true e2
              have q := PostR.fin (V := VR K fa) p' hr (.int _)
              refine ⟨_, _, rfl, rfl, ⟨by simp only [Int.ofNat_eq_natCast]; omega, by simp only [Int.ofNat_eq_natCast]; omega, by simp only [Int.ofNat_eq_natCast, Int.natAbs_natCast]; omega⟩, ?_⟩
              have e3 : (Int.ofNat i) ^ (Int.ofNat j).toNat = Int.ofNat (i ^ j) := by
                simp only [Int.ofNat_eq_natCast, Int.toNat_natCast, Int.natCast_pow]
              show Q (V.int (Int.ofNat i ^ (Int.ofNat j).toNat)) H
              rw [e3]; exact q
        | _ => exact absurd p (fun z => z)
    | _ => exact absurd p (fun z => z)
def toD (h : Hm) : Nat → MV → PyData
  | 0, _ => .none
  | n + 1, x => match x with
    | .int i => .int i
    | .bl b => .bool b
    | .str s => .str s
    | .tup _ xs => .tuple (xs.map (toD h n))
    | .lref a => .list ((seqD h (.lref a)).map (toD h n))
    | _ => .none
theorem okD_rk {n : Nat} {x : MV} (h1 : 1 ≤ rk x) (h2 : rk x ≤ n) : okD h n x = true := by
  cases n with
  | zero => omega
  | succ n =>
    cases x with
    | tup d xs =>
      show (match Nat.ble 1 d && Nat.ble d (n + 1) with
        | true => true
        | false => xs.all (okD h n)) = true
      rw [ble_true (show 1 ≤ d from h1), ble_true (show d ≤ n + 1 from h2)]; rfl
    | und => exact absurd h1 (by show ¬ 1 ≤ 0; omega)
    | opq => exact absurd h1 (by show ¬ 1 ≤ 0; omega)
    | fn k => exact absurd h1 (by show ¬ 1 ≤ 0; omega)
    | lref k => exact absurd h1 (by show ¬ 1 ≤ 0; omega)
    | zipv a b => exact absurd h1 (by show ¬ 1 ≤ 0; omega)
    | _ => rfl
theorem okD_items {n d : Nat} {xs : List MV} (k : RkOk d xs) (e : okD h (n + 1) (.tup d xs) = true) : ∀ x ∈ xs, okD h n x = true := by
  have e' : (match Nat.ble 1 d && Nat.ble d (n + 1) with
    | true => true
    | false => xs.all (okD h n)) = true := e
  cases q : (Nat.ble 1 d && Nat.ble d (n + 1)) with
  | false => rw [q] at e'; exact fun x hx => List.all_eq_true.mp e' x hx
  | true =>
    obtain ⟨q1, q2⟩ := Bool.and_eq_true_iff.mp q
    have z1 := Nat.le_of_ble_eq_true q1
    have z2 := Nat.le_of_ble_eq_true q2
    rcases k with k | ⟨_, _, k⟩
    · omega
    · exact fun x hx => okD_rk (k x hx).1 (by have := (k x hx).2; omega)
theorem okD_list {n a : Nat} (e : okD h (n + 1) (.lref a) = true) : ∃ xs, seqOf h (.lref a) = some xs ∧ ∀ x ∈ xs, okD h n x = true := by
  have e' : (match seqOf h (.lref a) with
    | some xs => xs.all (okD h n)
    | none => false) = true := e
  cases q : seqOf h (.lref a) with
  | none => rw [q] at e'; cases e'
  | some xs => rw [q] at e'; exact ⟨xs, rfl, fun x hx => List.all_eq_true.mp e' x hx⟩
theorem seqD_eq {v : MV} {xs : List MV} (e : seqOf h v = some xs) : seqD h v = xs := by unfold seqD; rw [e]
theorem dpAll {n : Nat} (ih : ∀ {v : MV} {x : V}, VR K fa μ H v x → okD h n v = true → Dp K H x (toD h n v)) : ∀ {xs : List MV} {vs : List V}, VRs K fa μ H xs vs → (∀ x ∈ xs, okD h n x = true) → DpAll K H vs (xs.map (toD h n))
  | _, _, .nil, _ => .nil
  | _, _, .cons r t, g => .cons (ih r (g _ List.mem_cons_self)) (dpAll ih t fun x hx => g x (List.mem_cons_of_mem _ hx))
theorem dp_of (hr : HR K fa μ h H) : ∀ (n : Nat) {v : MV} {x : V}, VR K fa μ H v x → okD h n v = true → Dp K H x (toD h n v)
  | 0, _, _, _, e => by cases e
  | n + 1, _, _, r, e => by
    cases r with
    | non => exact .non
    | bl b => exact .bl b
    | int i => exact .int i
    | str s => exact .str s
    | tup s q k => exact .tup s (dpAll (fun r e => dp_of hr n r e) q (okD_items k e))
    | lref ha =>
      rename_i m a
      obtain ⟨xs, e1, g⟩ := okD_list e
      obtain ⟨b, vs, e2, e3, q⟩ := seqOf_ok hr (.lref (K := K) (fa := fa) ha) e1
      cases e2
      show Dp K H (.ref a) (.list ((seqD h (.lref m)).map (toD h n)))
      rw [seqD_eq e1]
      rcases e3 with e3 | e3
      · exact .lst e3 (dpAll (fun r e => dp_of hr n r e) q g)
      · -- a list is no tuple
        rw [seqOf_lref] at e1
        cases z : h[m]? with
        | none => rw [z] at e1; cases e1
        | some o =>
          rw [z] at e1
          have w := hr.at_ m a o ha z
          cases o with
          | lst ys => obtain ⟨us, u1, u2⟩ := w; cases e1; exact .lst (.inl (.inl u1)) (dpAll (fun r e => dp_of hr n r e) u2 g)
          | ro ys => obtain ⟨us, u1, u2⟩ := w; cases e1; exact .lst (.inl u1) (dpAll (fun r e => dp_of hr n r e) u2 g)
          | dic d => cases e1
    | _ => cases e
theorem plain_map {n : Nat} (ih : ∀ v, (toD h n v).plain = true) : ∀ xs : List MV, PyData.plainAll (xs.map (toD h n)) = true
  | [] => rfl
  | x :: xs => by
    show ((toD h n x).plain && PyData.plainAll (xs.map (toD h n))) = true
    rw [ih x, plain_map ih xs]; rfl
theorem plain_toD : ∀ (n : Nat) (v : MV), (toD h n v).plain = true
  | 0, _ => rfl
  | n + 1, v => by
    cases v with
    | tup d xs => exact plain_map (plain_toD n) xs
    | lref a => exact plain_map (plain_toD n) _
    | _ => rfl
theorem depth_map {n : Nat} (ih : ∀ v, (toD h n v).depth ≤ n) : ∀ xs : List MV, PyData.depthAll (xs.map (toD h n)) ≤ n
  | [] => Nat.zero_le _
  | x :: xs => Nat.max_le.mpr ⟨ih x, depth_map ih xs⟩
theorem depth_toD : ∀ (n : Nat) (v : MV), (toD h n v).depth ≤ n
  | 0, _ => Nat.le_refl _
  | n + 1, v => by
    cases v with
    | tup d xs => exact Nat.succ_le_succ (depth_map (depth_toD n) xs)
    | lref a => exact Nat.succ_le_succ (depth_map (depth_toD n) _)
    | _ => exact Nat.zero_le _
def Good (h : Hm) : Nat → MV → Prop
  | 0, _ => False
  | n + 1, x => match x with
    | .int _ | .bl _ | .str _ | .non => True
    | .tup _ xs => ∀ x ∈ xs, Good h n x
    | .lref a => ∃ xs, seqOf h (.lref a) = some xs ∧ ∀ x ∈ xs, Good h n x
    | _ => False
theorem good_all {n : Nat} (ih : ∀ {v : MV} {x : V}, VR K fa μ H v x → okD h n v = true → Good h n v) : ∀ {xs : List MV} {vs : List V}, VRs K fa μ H xs vs → (∀ x ∈ xs, okD h n x = true) → ∀ x ∈ xs, Good h n x
  | _, _, .nil, _ => fun x hx => absurd hx (by simp)
  | _, _, .cons r t, g => fun x hx => by
    rcases List.mem_cons.mp hx with rfl | hx
    · exact ih r (g _ List.mem_cons_self)
    · exact good_all ih t (fun x hx => g x (List.mem_cons_of_mem _ hx)) x hx
theorem good_of (hr : HR K fa μ h H) : ∀ (n : Nat) {v : MV} {x : V}, VR K fa μ H v x → okD h n v = true → Good h n v
  | 0, _, _, _, e => by cases e
  | n + 1, _, _, r, e => by
    cases r with
    | non => exact True.intro
    | bl b => exact True.intro
    | int i => exact True.intro
    | str s => exact True.intro
    | tup s q k => exact good_all (fun r e => good_of hr n r e) q (okD_items k e)
    | lref ha =>
      obtain ⟨xs, e1, g⟩ := okD_list e
      obtain ⟨b, vs, e2, e3, q⟩ := seqOf_ok hr (.lref (K := K) (fa := fa) ha) e1
      exact ⟨xs, e1, good_all (fun r e => good_of hr n r e) q g⟩
    | _ => cases e
theorem eqL_eqv {n : Nat} {f : MV → MV → Bool} (ih : ∀ x y, Good h n x → Good h n y → f x y = PyData.eqv (toD h n x) (toD h n y)) : ∀ xs ys : List MV, (∀ x ∈ xs, Good h n x) → (∀ y ∈ ys, Good h n y) → eqL f xs ys = PyData.eqvAll (xs.map (toD h n)) (ys.map (toD h n))
  | [], [], _, _ => rfl
  | [], _ :: _, _, _ => rfl
  | _ :: _, [], _, _ => rfl
  | x :: xs, y :: ys, gx, gy => by
    show (match f x y with
      | true => eqL f xs ys
      | false => false) = (PyData.eqv (toD h n x) (toD h n y) && PyData.eqvAll (xs.map (toD h n)) (ys.map (toD h n)))
    rw [ih x y (gx _ List.mem_cons_self) (gy _ List.mem_cons_self), ← eqL_eqv ih xs ys (fun z hz => gx z (List.mem_cons_of_mem _ hz)) (fun z hz => gy z (List.mem_cons_of_mem _ hz))]
    cases PyData.eqv (toD h n x) (toD h n y) <;> rfl
theorem ieq_beq (i j : Int) : ieq i j = (i == j) := by rw [ieq_eq, Bool.beq_eq_decide_eq]
theorem bint_eq (b : Bool) : bint b = (if b = true then 1 else 0) := by cases b <;> rfl
theorem beqB_eq (a b : Bool) : beqB a b = (a == b) := by cases a <;> cases b <;> rfl
theorem eqB_eqv : ∀ (n : Nat) (x y : MV), Good h n x → Good h n y → eqB h n x y = PyData.eqv (toD h n x) (toD h n y)
  | 0, _, _, g, _ => g.elim
  | n + 1, x, y, gx, gy => by
    cases x with
    | int i =>
      cases y with
      | int j => exact ieq_beq i j
      | bl b => show ieq i (bint b) = (i == (if b = true then 1 else 0)); rw [ieq_beq, bint_eq]
      | und => exact gy.elim
      | opq => exact gy.elim
      | fn k => exact gy.elim
      | zipv a b => exact gy.elim
      | _ => rfl
    | bl c =>
      cases y with
      | int j => show ieq (bint c) j = ((if c = true then 1 else 0) == j); rw [ieq_beq, bint_eq]
      | bl b => exact beqB_eq c b
      | und => exact gy.elim
      | opq => exact gy.elim
      | fn k => exact gy.elim
      | zipv a b => exact gy.elim
      | _ => rfl
    | non =>
      cases y with
      | und => exact gy.elim
      | opq => exact gy.elim
      | fn k => exact gy.elim
      | zipv a b => exact gy.elim
      | _ => rfl
    | str s =>
      cases y with
      | str t => show decide (s = t) = (s == t); rw [Bool.beq_eq_decide_eq]
      | und => exact gy.elim
      | opq => exact gy.elim
      | fn k => exact gy.elim
      | zipv a b => exact gy.elim
      | _ => rfl
    | tup d xs =>
      cases y with
      | tup c ys => exact eqL_eqv (fun x y => eqB_eqv n x y) xs ys gx gy
      | und => exact gy.elim
      | opq => exact gy.elim
      | fn k => exact gy.elim
      | zipv a b => exact gy.elim
      | _ => rfl
    | lref a =>
      cases y with
      | lref b =>
        obtain ⟨xs, e1, g1⟩ := gx
        obtain ⟨ys, e2, g2⟩ := gy
        show eqL (eqB h n) (seqD h (.lref a)) (seqD h (.lref b)) = PyData.eqvAll ((seqD h (.lref a)).map (toD h n)) ((seqD h (.lref b)).map (toD h n))
        rw [seqD_eq e1, seqD_eq e2]
        exact eqL_eqv (fun x y => eqB_eqv n x y) xs ys g1 g2
      | und => exact gy.elim
      | opq => exact gy.elim
      | fn k => exact gy.elim
      | zipv a b => exact gy.elim
      | _ => rfl
    | _ => exact gx.elim
def rEqX (K : PySem.W.Frag) : R2 := fun x y H Q => ∃ d e, Dp K H x d ∧ Dp K H y e ∧ d.plain = true ∧ e.plain = true ∧ d.depth ≤ 64 ∧ Q (.bl (PyData.eqv d e)) H
def rNeX (K : PySem.W.Frag) : R2 := fun x y H Q => ∃ d e, Dp K H x d ∧ Dp K H y e ∧ d.plain = true ∧ e.plain = true ∧ d.depth ≤ 64 ∧ Q (.bl (!PyData.eqv d e)) H
theorem op_eqX (hu : X.A.units + 64 < cLine) : OpR X (compareOp .Eq) (rEqX X.K) := by
  intro pins s σ H x y v u Q I rx ry h
  obtain ⟨d, e, hd, he, sd, se, dp, q⟩ := h
  obtain ⟨as, r1⟩ := Dp.reads I d x v hd rx
  obtain ⟨bs, r2⟩ := Dp.reads I e y u he ry
  exact SeqAt.eq_plain r1 r2 sd se (by have := Nat.min_le_left d.depth e.depth; omega) ⟨.bl _, H, I, rfl, q⟩
theorem op_neX (hu : X.A.units + 64 < cLine) : OpR X (compareOp .NotEq) (rNeX X.K) := by
  intro pins s σ H x y v u Q I rx ry h
  obtain ⟨d, e, hd, he, sd, se, dp, q⟩ := h
  obtain ⟨as, r1⟩ := Dp.reads I d x v hd rx
  obtain ⟨bs, r2⟩ := Dp.reads I e y u he ry
  exact SeqAt.ne_plain r1 r2 sd se (by have := Nat.min_le_left d.depth e.depth; omega) ⟨.bl _, H, I, rfl, q⟩
theorem eqM_some {x y : MV} {b : Bool} (e : eqM h x y = some b) : okD h 64 x = true ∧ okD h 64 y = true ∧ b = eqB h 64 x y := by
  unfold eqM at e
  cases q : (okD h 64 x && okD h 64 y) with
  | false => rw [q] at e; cases e
  | true =>
    rw [q] at e
    cases e
    exact ⟨(Bool.and_eq_true_iff.mp q).1, (Bool.and_eq_true_iff.mp q).2, rfl⟩
theorem k_eq {Q : VK} {v w : MV} {x y : V} (hr : HR K fa μ h H) (vr : VR K fa μ H v x) (wr : VR K fa μ H w y) (p : PostR K fa ca (VR K fa) μ H σ W Q (obl (eqM h v w) h)) : rEqX K x y H Q := by
  cases e : eqM h v w with
  | none => rw [e] at p; exact absurd p (fun z => z)
  | some b =>
    rw [e] at p
    obtain ⟨e1, e2, e3⟩ := eqM_some e
    have q := PostR.fin (V := VR K fa) (show PostR K fa ca (VR K fa) μ H σ W Q (.ok (.bl b) h) from p) hr (.bl b)
    rw [e3, eqB_eqv 64 v w (good_of hr 64 vr e1) (good_of hr 64 wr e2)] at q
    exact ⟨_, _, dp_of hr 64 vr e1, dp_of hr 64 wr e2, plain_toD _ _, plain_toD _ _, depth_toD _ _, q⟩
theorem k_ne {Q : VK} {v w : MV} {x y : V} (hr : HR K fa μ h H) (vr : VR K fa μ H v x) (wr : VR K fa μ H w y) (p : PostR K fa ca (VR K fa) μ H σ W Q (obl (onot (eqM h v w)) h)) : rNeX K x y H Q := by
  cases e : eqM h v w with
  | none => rw [e] at p; exact absurd p (fun z => z)
  | some b =>
    rw [e] at p
    obtain ⟨e1, e2, e3⟩ := eqM_some e
    have q := PostR.fin (V := VR K fa) (show PostR K fa ca (VR K fa) μ H σ W Q (.ok (.bl (!b)) h) from p) hr (.bl _)
    rw [e3, eqB_eqv 64 v w (good_of hr 64 vr e1) (good_of hr 64 wr e2)] at q
    exact ⟨_, _, dp_of hr 64 vr e1, dp_of hr 64 wr e2, plain_toD _ _, plain_toD _ _, depth_toD _ _, q⟩
def rInX (K : PySem.W.Frag) (neg : Bool) : R2 := fun x y H Q => ∃ (p : Addr) (vs : List V) (d : PyData) (ds : List PyData), y = .ref p ∧ (SqL K H p vs ∨ SqT K H p vs) ∧ Dp K H x d ∧ DpAll K H vs ds ∧ d.plain = true ∧ PyData.plainAll ds = true ∧ d.depth ≤ 60 ∧
  Q (.bl (if neg then !ds.any fun z => PyData.eqv z d else ds.any fun z => PyData.eqv z d)) H
theorem op_inX (hu : X.A.units + 64 < cLine) : OpR X (compareOp .In) (rInX X.K false) := by
  intro pins s σ H x y v u Q I rx ry h
  obtain ⟨p, vs, d, ds, rfl, hs, hd, hds, sd, se, dp, q⟩ := h
  obtain ⟨as, r1⟩ := Dp.reads I d x v hd rx
  rcases hs with hs | hs
  · obtain ⟨bs, r2⟩ := Dp.reads I (.list ds) (.ref p) u (.lst hs hds) ry
    exact SeqAt.in_list_data r2 r1 se sd (by have := Nat.min_le_right (PyData.depthAll ds) d.depth; omega) ⟨.bl _, H, I, rfl, q⟩
  · obtain ⟨bs, r2⟩ := Dp.reads I (.tuple ds) (.ref p) u (.tup hs hds) ry
    exact SeqAt.in_tuple_data r2 r1 se sd (by have := Nat.min_le_right (PyData.depthAll ds) d.depth; omega) ⟨.bl _, H, I, rfl, q⟩
theorem op_notInX (hu : X.A.units + 64 < cLine) : OpR X (compareOp .NotIn) (rInX X.K true) := by
  intro pins s σ H x y v u Q I rx ry h
  obtain ⟨p, vs, d, ds, rfl, hs, hd, hds, sd, se, dp, q⟩ := h
  obtain ⟨as, r1⟩ := Dp.reads I d x v hd rx
  rcases hs with hs | hs
  · obtain ⟨bs, r2⟩ := Dp.reads I (.list ds) (.ref p) u (.lst hs hds) ry
    exact SeqAt.notIn_list_data r2 r1 se sd (by have := Nat.min_le_right (PyData.depthAll ds) d.depth; omega) ⟨.bl _, H, I, rfl, q⟩
  · obtain ⟨bs, r2⟩ := Dp.reads I (.tuple ds) (.ref p) u (.tup hs hds) ry
    exact SeqAt.notIn_tuple_data r2 r1 se sd (by have := Nat.min_le_right (PyData.depthAll ds) d.depth; omega) ⟨.bl _, H, I, rfl, q⟩
theorem any_eqv {x : MV} (gx : Good h 60 x) : ∀ ys : List MV, (∀ y ∈ ys, Good h 60 y) → (ys.any fun z => eqB h 60 z x) = ((ys.map (toD h 60)).any fun z => PyData.eqv z (toD h 60 x))
  | [], _ => rfl
  | y :: ys, g => by
    show (eqB h 60 y x || ys.any fun z => eqB h 60 z x) = (PyData.eqv (toD h 60 y) (toD h 60 x) || (ys.map (toD h 60)).any fun z => PyData.eqv z (toD h 60 x))
    rw [eqB_eqv 60 y x (g _ List.mem_cons_self) gx, any_eqv gx ys fun z hz => g z (List.mem_cons_of_mem _ hz)]
theorem k_in {v w : MV} {x y : V} {b : Bool} (hr : HR K fa μ h H) (vr : VR K fa μ H v x) (wr : VR K fa μ H w y) (e : vIn v w h = some b) : ∃ (p : Addr) (vs : List V) (d : PyData) (ds : List PyData), y = .ref p ∧ (SqL K H p vs ∨ SqT K H p vs) ∧ Dp K H x d ∧ DpAll K H vs ds ∧ d.plain = true ∧ PyData.plainAll ds = true ∧ d.depth ≤ 60 ∧ b = ds.any fun z => PyData.eqv z d := by
  unfold vIn at e
  cases e1 : seqOf h w with
  | none => rw [e1] at e; cases e
  | some ys =>
    rw [e1] at e
    have e' : (match okD h 60 v && ys.all (okD h 60) with
      | true => some (ys.any fun z => eqB h 60 z v)
      | false => none) = some b := e
    cases e2 : (okD h 60 v && ys.all (okD h 60)) with
    | false => rw [e2] at e'; cases e'
    | true =>
      rw [e2] at e'
      obtain ⟨g1, g2⟩ := Bool.and_eq_true_iff.mp e2
      have g2' := List.all_eq_true.mp g2
      obtain ⟨p, vs, e3, e4, q⟩ := seqOf_ok hr wr e1
      refine ⟨p, vs, toD h 60 v, ys.map (toD h 60), e3, e4, dp_of hr 60 vr g1, dpAll (fun r e => dp_of hr 60 r e) q g2', plain_toD _ _, plain_map (plain_toD 60) ys, depth_toD _ _, ?_⟩
      cases e'
      exact any_eqv (good_of hr 60 vr g1) ys (good_all (fun r e => good_of hr 60 r e) q g2')
end
end Mi
namespace Mi
open PySem PySem.Spec PyProof.Rows L2
section
variable {K : PySem.W.Frag} {fa : FA} {ca : Nat → Addr} {μ μ1 : Mu} {H H1 : Hp} {σ : L2.St} {W : WX} {ρ : Rho} {h : Hm} {X : Cx}
theorem shp_tup {n d c : Nat} {xs ys : List MV} (e : shp (n + 1) (.tup d xs) (.tup c ys) = true) : (1 ≤ d ∧ d ≤ n + 1) ∧ (1 ≤ c ∧ c ≤ n + 1) ∧ shpL (shp n) xs ys = true := by
  have e' : (Nat.ble 1 d && (Nat.ble d (n + 1) && (Nat.ble 1 c && (Nat.ble c (n + 1) && shpL (shp n) xs ys)))) = true := e
  simp only [Bool.and_eq_true] at e'
  obtain ⟨a, b, c, d, e⟩ := e'
  exact ⟨⟨Nat.le_of_ble_eq_true a, Nat.le_of_ble_eq_true b⟩, ⟨Nat.le_of_ble_eq_true c, Nat.le_of_ble_eq_true d⟩, e⟩
theorem shp_okD {n : Nat} {x y : MV} (e : shp n x y = true) : okD h n x = true ∧ okD h n y = true := by
  cases n with
  | zero => cases e
  | succ n =>
    cases x with
    | int i =>
      cases y with
      | int j => exact ⟨rfl, rfl⟩
      | _ => cases e
    | tup d xs =>
      cases y with
      | tup c ys =>
        obtain ⟨h1, h2, _⟩ := shp_tup e
        exact ⟨okD_rk (x := .tup d xs) h1.1 h1.2, okD_rk (x := .tup c ys) h2.1 h2.2⟩
      | _ => cases e
    | _ => cases e
theorem shpL_alike {n : Nat} (ih : ∀ x y : MV, shp n x y = true → PySem.W.alike (toD h n x) (toD h n y) = true) : ∀ xs ys : List MV, shpL (shp n) xs ys = true → PySem.W.alikeAll (xs.map (toD h n)) (ys.map (toD h n)) = true
  | [], ys, _ => by cases ys <;> simp [PySem.W.alikeAll]
  | x :: xs, [], _ => by simp [PySem.W.alikeAll]
  | x :: xs, y :: ys, e => by
    have e' : (shp n x y && shpL (shp n) xs ys) = true := e
    obtain ⟨h1, h2⟩ := Bool.and_eq_true_iff.mp e'
    simp only [List.map_cons, PySem.W.alikeAll, Bool.and_eq_true]
    exact ⟨ih x y h1, shpL_alike ih xs ys h2⟩
theorem shp_alike : ∀ (n : Nat) (x y : MV), shp n x y = true → PySem.W.alike (toD h n x) (toD h n y) = true
  | 0, _, _, e => by cases e
  | n + 1, x, y, e => by
    cases x with
    | int i =>
      cases y with
      | int j => simp [toD, PySem.W.alike]
      | _ => cases e
    | tup d xs =>
      cases y with
      | tup c ys =>
        simp only [toD, PySem.W.alike]
        exact shpL_alike (fun x y => shp_alike n x y) xs ys (shp_tup e).2.2
      | _ => cases e
    | _ => cases e
theorem shp_none {n : Nat} {x y : MV} (e : shp n x y = true) : toD h n x ≠ .none := by
  cases n with
  | zero => cases e
  | succ n =>
    cases x with
    | int i => intro z; cases z
    | tup d xs => intro z; cases z
    | _ => cases e
theorem lexNil : PyProof.Rows.lexLt itemOrd (PySem.W.keyToksAll []) (PySem.W.keyToksAll []) = false := lex_irrefl _
theorem ltL_data {n : Nat} {f g : MV → MV → Bool} (ihe : ∀ x y, shp n x y = true → Good h n x → Good h n y → f x y = PyData.eqv (toD h n x) (toD h n y)) (ihl : ∀ x y, shp n x y = true → Good h n x → Good h n y → g x y = PySem.W.dataLt (toD h n x) (toD h n y)) :
    ∀ xs ys : List MV, shpL (shp n) xs ys = true → (∀ x ∈ xs, Good h n x) → (∀ y ∈ ys, Good h n y) → ltL f g xs ys = PyProof.Rows.lexLt itemOrd (PySem.W.keyToksAll (xs.map (toD h n))) (PySem.W.keyToksAll (ys.map (toD h n)))
  | [], [], _, _, _ => lexNil.symm
  | [], y :: ys, _, _, _ => by
    simp only [List.map_nil, List.map_cons, PySem.W.keyToksAll, ltL]
    rw [lex_diff (O := itemOrd) (by intro z; cases z)]
    rfl
  | x :: xs, [], _, _, _ => by
    simp only [List.map_nil, List.map_cons, PySem.W.keyToksAll, ltL]
    rw [lex_diff (O := itemOrd) (by intro z; cases z)]
    rfl
  | x :: xs, y :: ys, e, gx, gy => by
    have e' : (shp n x y && shpL (shp n) xs ys) = true := e
    obtain ⟨h1, h2⟩ := Bool.and_eq_true_iff.mp e'
    rw [List.map_cons, List.map_cons, PySem.W.dataLt_cons (shp_alike n x y h1), ← ihe x y h1 (gx _ List.mem_cons_self) (gy _ List.mem_cons_self), ← ihl x y h1 (gx _ List.mem_cons_self) (gy _ List.mem_cons_self), ← ltL_data ihe ihl xs ys h2 (fun z hz => gx z (List.mem_cons_of_mem _ hz)) (fun z hz => gy z (List.mem_cons_of_mem _ hz))]
    show (match f x y with
      | true => ltL f g xs ys
      | false => g x y) = _
    cases f x y <;> rfl
theorem ltB_data : ∀ (n : Nat) (x y : MV), shp n x y = true → Good h n x → Good h n y → ltB h n x y = PySem.W.dataLt (toD h n x) (toD h n y)
  | 0, _, _, e, _, _ => by cases e
  | n + 1, x, y, e, gx, gy => by
    cases x with
    | int i =>
      cases y with
      | int j =>
        show ilt i j = PySem.W.dataLt (.int i) (.int j)
        rw [ilt_eq, PySem.W.dataLt_int]
      | _ => cases e
    | tup d xs =>
      cases y with
      | tup c ys =>
        show ltL (eqB h n) (ltB h n) xs ys = PySem.W.dataLt (.tuple (xs.map (toD h n))) (.tuple (ys.map (toD h n)))
        rw [PySem.W.dataLt_tuple]
        exact ltL_data (fun x y _ a b => eqB_eqv n x y a b) (fun x y => ltB_data n x y) xs ys (shp_tup e).2.2 gx gy
      | _ => cases e
    | _ => cases e
def rLtX (K : PySem.W.Frag) : R2 := fun x y H Q => ∃ d e, Dp K H x d ∧ Dp K H y e ∧ PySem.W.alike d e = true ∧ d ≠ .none ∧ d.depth ≤ 64 ∧ Q (.bl (PySem.W.dataLt d e)) H
theorem op_ltX (hu : X.A.units + 64 < cLine) : OpR X (compareOp .Lt) (rLtX X.K) := by
  intro pins s σ H x y v u Q I rx ry h
  obtain ⟨d, e, hd, he, al, nn, dp, q⟩ := h
  obtain ⟨as, r1⟩ := Dp.reads I d x v hd rx
  obtain ⟨bs, r2⟩ := Dp.reads I e y u he ry
  exact PySem.W.lt_data r1 r2 al nn (by have := Nat.min_le_left d.depth e.depth; omega) ⟨.bl _, H, I, rfl, q⟩
theorem k_ltX {Q : VK} {v w : MV} {x y : V} (hr : HR K fa μ h H) (vr : VR K fa μ H v x) (wr : VR K fa μ H w y) (p : PostR K fa ca (VR K fa) μ H σ W Q (obl (ltM h v w) h)) : rLtX K x y H Q := by
  unfold ltM at p
  cases e : shp 20 v w with
  | false => rw [e] at p; exact absurd p (fun z => z)
  | true =>
    rw [e] at p
    obtain ⟨e1, e2⟩ := shp_okD (h := h) e
    have q := PostR.fin (V := VR K fa) (show PostR K fa ca (VR K fa) μ H σ W Q (.ok (.bl (ltB h 20 v w)) h) from p) hr (.bl _)
    rw [ltB_data 20 v w e (good_of hr 20 vr e1) (good_of hr 20 wr e2)] at q
    exact ⟨_, _, dp_of hr 20 vr e1, dp_of hr 20 wr e2, shp_alike 20 v w e, shp_none e, by have := depth_toD (h := h) 20 v; omega, q⟩
end
end Mi
namespace Mi
open PySem PySem.Spec PyProof.Rows PySem.W L2
section
variable {prog : Program} {w : World} {A : Around} {E : Value → Shared → Prop} {s : Shared}
theorem collect_tupS {Q : List Value → Shared → Prop} {it : Addr} {o : Obj} {items : Array Value} {n : Nat} (ho : s.heap.get? it = some o) (hc : o.cls = .type "tuple") (hd : o.data = .seq items n) (hsz : items.size ≤ sizeLine)
    (hQ : ∀ h', s.heap.objs.size ≤ h'.objs.size → (∀ b u, s.heap.get? b = some u → h'.get? b = some u) → Q items.toList { s with heap := h' }) : wpAny (model prog w) A (collect (.ref it)) Q E s := by
  have hS : (s.heap.push { cls := .type "list", data := .seq ([] : List Value).toArray }).get? s.heap.objs.size = some ⟨.type "list", none, .seq #[] 0, #[]⟩ := Heap.get?_push_size _ rfl
  have hS₂ := Heap.get?_update_self (Obj.mapSeq (· ++ items)) hS rfl
  have fin' : wpAny (model prog w) A (do
      let o ← load s.heap.objs.size
      match o.data with
        | Data.seq xs _ => pure xs.toList
        | _ => unsupported "internal:collect") Q E ⟨(s.heap.push { cls := .type "list", data := .seq ([] : List Value).toArray }).update s.heap.objs.size (Obj.mapSeq (· ++ items)), s.gens, s.drawn, s.toks, s.os⟩ := by
    refine wpAny_bind (wpAny_load hS₂ (wpAny_pure ?_))
    have e : ((#[] : Array Value) ++ items).toList = items.toList := by simp
    show Q (#[] ++ items).toList _
    rw [e]
    refine hQ _ ?_ fun b u hb => ?_
    · rw [Heap.size_update, Heap.size_push]; exact Nat.le_succ _
    · exact .trans (Heap.get?_update_other _ _ (Nat.ne_of_gt (Heap.lt_size hb))) (Heap.get?_push_of_some _ hb)
  unfold collect
  refine wpAny_bind (wpAny_runValue (codeAny_builtin PySem.F.entry_proto_collect ?_))
  rw [Around.under_plainId PySem.F.plain_proto_collect _]
  show wpAny _ A.in1 (do again (.builtin "list.__iadd__" ⟨[← newList [], .ref it], []⟩)) _ _ s
  refine wpAny_bind (wpAny_newObj_type (wpAny_pure ⟨plainId_quiet PySem.F.plain_list_iadd _, codeAny_builtin PySem.F.entry_list_iadd ?_⟩))
  rw [Around.under_plainId PySem.F.plain_list_iadd _]
  show wpAny _ A.in1 (Builtin.List.listExtendWith (.ref s.heap.objs.size) (.ref it) (.ref s.heap.objs.size)) _ _ ⟨s.heap.push _, _, _, _, _⟩
  refine wpAny_mono (wpAny_extend_seq (hsz := hsz) (A := A) (R := fun r s' => r = .ok (.ret (.ref s.heap.objs.size)) ∧ s' = ⟨(s.heap.push { cls := .type "list", data := .seq ([] : List Value).toArray }).update s.heap.objs.size (Obj.mapSeq (· ++ items)), s.gens, s.drawn, s.toks, s.os⟩)
    (s := ⟨s.heap.push { cls := .type "list", data := .seq ([] : List Value).toArray }, s.gens, s.drawn, s.toks, s.os⟩) _ it _ 0 (.inr rfl) hS (Heap.get?_push_of_some _ ho) hc hd ⟨rfl, rfl⟩) (fun f s' h => ?_) fun e s' h => (nomatch h.1)
  cases f with
  | done f => obtain ⟨e, rfl⟩ := h; cases e; exact fin'
  | again c' => exact ⟨h.1, codeAny_mono h.2 fun r s'' hr => by obtain ⟨rfl, rfl⟩ := hr; exact fin'⟩
theorem sorted_tupD {β : Type} {R : Value → β → Prop} {enc : β → PyData} {l : Addr} {o : Obj} {n : Nat} {vs : List Value} {bs : List β} {Q : Value → Shared → Prop} (ho : s.heap.get? l = some o) (hc : o.cls = .type "tuple") (hd : o.data = .seq vs.toArray n)
    (e : EachIs R vs bs) (er : EachIs (fun v b => ∃ as, Reads s.heap v (enc b) as) vs bs) (hal : AllAlike (bs.map enc)) (hk : Sortable (bs.map enc)) (hL : vs.length ≤ sizeLine)
    (hu : ∀ b, b ∈ bs → A.units + 2 + (enc b).depth < cLine)
    (h : ∀ (h' : Heap) (d : Addr) (out : List Value), EachIs R out (bs.mergeSort (dataLe false enc)) → (∀ b o, s.heap.get? b = some o → h'.get? b = some o) → s.heap.objs.size ≤ d → (∃ n, h'.get? d = some (seqObj "list" out.toArray n)) → Q (.ref d) { s with heap := h' }) :
    wpAny (model prog w) A (call (.builtin "sorted") [.ref l]) Q E s := by
  refine call_function_entry_kw kind_sorted plain_sorted entry_sorted (args_sorted1 _) ?_
  unfold Builtin.«sorted»
  refine wpAny_bind (m := checkCount "sorted" 1 1 _) (wpAny_pure ?_)
  refine wpAny_bind (collect_tupS ho hc hd (by rw [List.size_toArray]; exact hL) fun h1 grow keep => ?_)
  refine wpAny_bind (wpAny_newList ?_ (by simpa using hL))
  have hne : ∀ b o, s.heap.get? b = some o → b ≠ h1.objs.size ∧ (h1.push (seqObj "list" vs.toArray 0)).get? b = some o := fun b o q => ⟨Nat.ne_of_lt (Heap.lt_size (keep b o q)), Heap.get?_push_of_some _ (keep b o q)⟩
  have hat : (h1.push (seqObj "list" vs.toArray 0)).get? h1.objs.size = some (seqObj "list" vs.toArray 0) := Heap.get?_push_size _ rfl
  have er' : EachIs (fun v b => ∃ as, Reads (sortingHeap (h1.push (seqObj "list" vs.toArray 0)) h1.objs.size vs) v (enc b) as) vs bs := er.mono fun _ _ ⟨as, r⟩ => ⟨as, PyProof.Rows.Reads.keeps (fun b o q => sortingHeap_old (hne b o q).1 (hne b o q).2) r⟩
  show wpAny _ _ _ _ _ { s with heap := h1.push (seqObj "list" vs.toArray 0) }
  refine wpAny_bind (wpAny_holding (wpAny_call_entry_kw slot_list_sort ⟨_, hat, rfl⟩ entry_list_sort (list_sort_vals (s := { s with heap := h1.push (seqObj "list" vs.toArray 0) }) hat (SortsAt.data (each_map (R := fun v d => ∃ as, Reads (sortingHeap (h1.push (seqObj "list" vs.toArray 0)) h1.objs.size vs) v d as) enc er') hal hk (bound_map hu)) hL ⟨_, rfl, ?_⟩) (args_list_sort _)))
  refine wpAny_pure ⟨_, rfl, h _ h1.objs.size _ (sortVals_data false e er' hal) (fun b o q => ?_) ?_ (sortedHeap_at hat)⟩
  · rw [sortedHeap_old (hne b o q).1 (Heap.lt_size (hne b o q).2)]
    exact (hne b o q).2
  · exact grow
end
def rSortM (K : PySem.W.Frag) : List V → Hp → VK → Prop := fun vs H Q => ∃ (a : Addr) (bs : List (V × PyData)), vs = [.ref a] ∧ SqT K H a (bs.map Prod.fst) ∧ (∀ b ∈ bs, Dp K H b.1 b.2) ∧ AllAlike (bs.map Prod.snd) ∧ Sortable (bs.map Prod.snd) ∧ (∀ b ∈ bs, b.2.depth ≤ 60) ∧
  ∀ p, H p = none → Q (.ref p) (upd H p (.lst ((bs.mergeSort (dataLe false Prod.snd)).map Prod.fst)))
theorem each_vals : ∀ {bs : List (V × PyData)} {us : List Value}, Vals (bs.map Prod.fst) us → EachIs (fun u b => RelV b.1 u) us bs
  | [], _, r => by cases r; exact .nil
  | b :: bs, _, r => by
    cases r with
    | cons h t => exact .cons h (each_vals t)
theorem vals_each : ∀ {us : List Value} {bs : List (V × PyData)}, EachIs (fun u b => RelV b.1 u) us bs → Vals (bs.map Prod.fst) us
  | _, _, .nil => .nil
  | _, _, .cons h t => .cons h (vals_each t)
section
variable {X : Cx}
theorem each_reads {pins : List (Addr × Obj)} {σ : L2.St} {H : Hp} {s : Shared} (I : Inv X pins σ H s) : ∀ {us : List Value} {bs : List (V × PyData)}, EachIs (fun u b => RelV b.1 u) us bs → (∀ b ∈ bs, Dp X.K H b.1 b.2) → EachIs (fun u b => ∃ as, Reads s.heap u b.2 as) us bs
  | _, _, .nil, _ => .nil
  | _, _, .cons h t, g => .cons (Dp.reads I _ _ _ (g _ List.mem_cons_self) h) (each_reads I t fun b hb => g b (List.mem_cons_of_mem _ hb))
theorem cr_sortedM (hu : X.A.units + 64 < cLine) : CallR X (.builtin "sorted") (rSortM X.K) := by
  intro pins s σ H vs us Q I r hq
  obtain ⟨a, bs, rfl, hT, hD, hal, hk, dp, q⟩ := hq
  obtain ⟨u, rfl, ru⟩ := vals1 r
  obtain rfl : u = Value.ref a := ru
  obtain ⟨its, rv, ⟨o, ho, hc, n, hd⟩, hz⟩ := I.tuple hT
  have e := each_vals rv
  refine sorted_tupD ho hc hd e (each_reads I e hD) hal hk (by rw [← rv.length]; exact hz) (fun b hb => by have := dp b hb; omega) fun h' d out eo kp hd' hn => ?_
  have vo := vals_each eo
  obtain ⟨n', hn⟩ := hn
  refine ⟨.ref d, upd H d (.lst ((bs.mergeSort (dataLe false Prod.snd)).map Prod.fst)), I.laid (t' := s.toks) kp hd' ⟨?_, out, n', vo, hn⟩, rfl, q d (I.hok.fresh hd')⟩
  rw [List.length_map, List.length_mergeSort]
  have := hz
  rw [List.length_map] at this
  exact this
end
end Mi
namespace Mi
open PySem PySem.Spec PyProof.Rows L2
def Sq (K : PySem.W.Frag) (k : Bool) (H : Hp) (a : Addr) (xs : List V) : Prop := match k with
  | true => SqT K H a xs
  | false => SqL K H a xs
def IsIt (k : Bool) (h : Heap) (it a : Addr) (i : Nat) : Prop := match k with
  | true => h.IsTupleIter it a i
  | false => h.IsListIter it a i
def IsSq (k : Bool) (h : Heap) (a : Addr) (items : Array Value) : Prop := match k with
  | true => h.IsTuple a items
  | false => h.IsList a items
theorem draws_k {prog : Program} {w : World} {A : Around} (k : Bool) (hh : A.handled = none) (it a : Addr) (hne : a ≠ it) (items : Array Value) :
    Draws prog w A it [it, a] items.size (fun i v => items[i]? = some v) (fun i h => IsIt k h it a i ∧ IsSq k h a items) := by
  cases k with
  | true => exact Draws.tuple hh it a hne items
  | false => exact Draws.list hh it a hne items
def itObj (k : Bool) (a : Addr) : Obj := match k with
  | true => { cls := .type "tuple_iterator", data := .fields #[.ref a, .int 0 0] }
  | false => { cls := .type "list_iterator", data := .fields #[.ref a, .int 0 0] }
theorem begins_k (k : Bool) (a : Addr) (items : Array Value) : Begins (.ref a) (itObj k a) fun h => IsSq k h a items := by
  cases k with
  | true => exact begins_tuple a items
  | false => exact begins_list a items
theorem itObj_is {k : Bool} {h : Heap} {it a : Addr} (e : h.get? it = some (itObj k a)) : IsIt k h it a 0 := by
  cases k with
  | true => exact ⟨_, e, rfl, rfl⟩
  | false => exact ⟨_, e, rfl, rfl⟩
theorem IsIt.get {k : Bool} {h : Heap} {it a : Addr} {i : Nat} (x : IsIt k h it a i) : ∃ o, h.get? it = some o ∧ ∀ v, o.data ≠ .cell v := by
  cases k with
  | true => obtain ⟨o, e, _, d⟩ := x; exact ⟨o, e, fun v q => by rw [d] at q; cases q⟩
  | false => obtain ⟨o, e, _, d⟩ := x; exact ⟨o, e, fun v q => by rw [d] at q; cases q⟩
theorem IsIt.to {k : Bool} {h h' : Heap} {it a : Addr} {i : Nat} (x : IsIt k h it a i) (f : ∀ o, h.get? it = some o → h'.get? it = some o) : IsIt k h' it a i := by
  cases k with
  | true => obtain ⟨o, e, c, d⟩ := x; exact ⟨o, f o e, c, d⟩
  | false => obtain ⟨o, e, c, d⟩ := x; exact ⟨o, f o e, c, d⟩
section
variable {X : Cx} {pins : List (Addr × Obj)} {σ : L2.St} {H : Hp} {s : Shared} {a : Addr} {xs ys : List V} {k : Bool}
theorem inv_sq (I : Inv X pins σ H s) (h : Sq X.K k H a xs) : ∃ its : List Value, Vals xs its ∧ IsSq k s.heap a its.toArray := by
  cases k with
  | true => obtain ⟨its, r, p, _⟩ := I.tuple h; exact ⟨its, r, p⟩
  | false => obtain ⟨its, r, p, _⟩ := I.list h; exact ⟨its, r, p.isList⟩
theorem inv_sq_inj (I : Inv X pins σ H s) (h : Sq X.K k H a xs) (h' : Sq X.K k H a ys) : xs = ys := by
  cases k with
  | true => exact I.tuple_inj h h'
  | false => exact I.list_inj h h'
theorem IsSq.lt {h : Heap} {items : Array Value} (x : IsSq k h a items) : a < h.objs.size := by
  cases k with
  | true => obtain ⟨o, e, _⟩ := x; exact Heap.lt_size e
  | false => obtain ⟨o, e, _⟩ := x; exact Heap.lt_size e
end
theorem meets_enumerate_new1 {v : Value} {o : Obj} {H : Heap → Prop} (B : Begins v o H) :
    Meets (Builtin.«enumerate.__new__» ⟨[.type "enumerate", v], []⟩) (fun _ R s => H s.heap ∧
      R (.ok (.ret (.ref (s.heap.push o).objs.size))) { s with heap := (s.heap.push o).push { cls := .type "enumerate", data := .fields #[.none, .bool false, .ref s.heap.objs.size, rawInt 0, .none, .none] } }) :=
  .of_wp fun prog w A R s h => by
    obtain ⟨hp, g, d, tk, os⟩ := s; obtain ⟨h1, h⟩ := h
    have hsub := sub_enumerate
    have q1 : ∀ {A' : Around} {E : Value → Shared → Prop} {Q : Value → Shared → Prop}, Q (.ref hp.objs.size) ⟨hp.push o, g, d, tk, os⟩ → wpAny (model prog w) A' (pyIter v) Q E ⟨hp, g, d, tk, os⟩ :=
      fun q => B.iter prog w _ _ ⟨hp, g, d, tk, os⟩ _ h1 q
    wp_walk using q1
    refine wpAny_stack_any fun st => wpAny_pure ?_
    split
    · rename_i c _ _ _ _ _
      cases (c == Value.type "enumerate")
      · wp_walk using q1
        exact ⟨_, rfl, h⟩
      · wp_walk using q1
        exact ⟨_, rfl, h⟩
    · wp_walk using q1
      exact ⟨_, rfl, h⟩
section
variable {prog : Program} {w : World} {A : Around} {E : Value → Shared → Prop} {s : Shared}
theorem enum_begins1 {v : Value} {o : Obj} {H : Heap → Prop} {Q : Value → Shared → Prop} (B : Begins v o H) (h1 : H s.heap)
    (h : ∀ h', IsEnum h' (s.heap.objs.size + 1) s.heap.objs.size 0 .none → h'.get? s.heap.objs.size = some o → h'.objs.size = s.heap.objs.size + 2 →
      (∀ b o, s.heap.get? b = some o → h'.get? b = some o) → Q (.ref (s.heap.objs.size + 1)) { s with heap := h' }) :
    wpAny (model prog w) A (call (.type "enumerate") [v]) Q E s := by
  refine callType_new F.called_enumerate (by decide) (F.typeCall_enumerate_1 _) (F.newCall_enumerate_1 _) (fun obj => F.args_object_init_2 obj _) F.entry_enumerate_new
    (meets_enumerate_new1 B) ⟨h1, ?_⟩
  have hz : (s.heap.push o).objs.size = s.heap.objs.size + 1 := Heap.size_push ..
  show _ ∧ _
  rw [hz]
  have he : IsEnum ((s.heap.push o).push { cls := .type "enumerate", data := .fields #[.none, .bool false, .ref s.heap.objs.size, rawInt 0, .none, .none] }) (s.heap.objs.size + 1) s.heap.objs.size 0 .none := by
    have := Heap.get?_push_size (s.heap.push o) (o := { cls := .type "enumerate", data := .fields #[.none, .bool false, .ref s.heap.objs.size, rawInt 0, .none, .none] }) rfl
    rw [hz] at this; exact this
  refine ⟨⟨_, he, rfl⟩, h _ he (Heap.get?_push_of_some _ (Heap.get?_push_size _ B.free)) (by rw [Heap.size_push, hz]) fun b o x => Heap.get?_push_of_some _ (Heap.get?_push_of_some _ x)⟩
end
def IteX (K : PySem.W.Frag) (k : Bool) (a : Addr) : It :=
  ⟨fun i H => ∃ (xs : List V) (x : V), Sq K k H a xs ∧ xs[i]? = some x, fun i H v H' => ∃ T x, v = .ref T ∧ H T = none ∧ H' = upd H T (.tup [.int (i : Nat), x]) ∧ ∀ xs, Sq K k H a xs → xs[i]? = some x, fun i H => ∃ xs : List V, Sq K k H a xs ∧ xs.length = i⟩
theorem turn_enumX {P : Program} {w : World} {K : PySem.W.Frag} {elts : List Expr} {kk : Nat} {tpos : Pos} (k : Bool) (a e it : Addr) (hai : a ≠ it) (hei : e ≠ it) (hea : e ≠ a) :
    Turn P w K (.Tuple elts kk tpos) (IteX K k a) [e, it] e (fun i h => (∃ old, IsEnum h e it ((i : Nat) : Int) old) ∧ IsIt k h it a i) where
  mem := by simp
  obj := fun i h st b hb => by
    obtain ⟨⟨old, he⟩, hi⟩ := st
    have e' : b = e ∨ b = it := by simpa using hb
    rcases e' with z | z
    · rw [z]; exact ⟨_, he, fun v q => nomatch q⟩
    · rw [z]; exact hi.get
  keep := fun i h h' st kp => let ⟨⟨old, he⟩, hi⟩ := st; ⟨⟨old, kp e (by simp) _ he⟩, hi.to fun o q => kp it (by simp) o q⟩
  item := by
    intro X hP hw hK hc i pins s σ H E I hf st hg
    subst hP hw hK
    obtain ⟨⟨old, he⟩, hit⟩ := st
    obtain ⟨xs, x, hq, hx⟩ := hg
    obtain ⟨its, rv, p⟩ := inv_sq I hq
    obtain ⟨u, hu, ru⟩ := rv.get hx
    have hel : e < s.heap.objs.size := Heap.lt_size he
    have hil : it < s.heap.objs.size := by obtain ⟨_, q, _⟩ := hit.get; exact Heap.lt_size q
    have hlt : i < its.toArray.size := by rw [List.size_toArray]; exact (List.getElem?_eq_some_iff.mp hu).1
    refine wpAny_pyNext_enum_itemD (draws_k k (A := X.A.in1) (I.ok.hd hc) it a hai its.toArray) he ⟨hit, p⟩ hlt hei (by simp [hei, hea]) fun u' h' tk hu' ho hit' hT hsz hk => ?_
    have eu : u' = u := by
      have z : its.toArray[i]? = some u' := hu'
      rw [List.getElem?_toArray, hu] at z
      exact (Option.some.inj z).symm
    subst eu
    refine ⟨_, rfl, wpAny_letOwnedTupleGo_enum (s := { s with heap := h', toks := tk + 1 }) ho fun h'' he' sb => ?_⟩
    have hT2 : h''.get? s.heap.objs.size = some { cls := .type "tuple", data := .seq #[.int i tk, u'] } := (sb.2 _ (Nat.ne_of_gt hel)).trans hT
    have new : ObjOk X.prog X.w (upd H s.heap.objs.size (.tup [.int (i : Nat), x])) h'' s.heap.objs.size (.tup [.int (i : Nat), x]) :=
      ⟨by show 2 ≤ sizeLine; decide, [.int i tk, u'], .cons ⟨_, rfl⟩ (.cons ru .nil), ⟨_, hT2, rfl, _, rfl⟩⟩
    have I1 : Inv X pins σ (upd H s.heap.objs.size (.tup [.int (i : Nat), x])) { s with heap := h'', toks := tk + 1 } :=
      I.turnedNew (ch := [e, it]) (fun b ob hb q => (sb.2 b (fun z => hb (by simp [z]))).trans (hk b ob (fun z => hb (by simp [z])) (fun z => hb (by simp [z])) q)) hf (Nat.le_refl _) new
    refine ⟨.ref s.heap.objs.size, _, I1, rfl, ⟨_, x, rfl, I.hok.fresh (Nat.le_refl _), rfl, fun ys hy => by rw [inv_sq_inj I hy hq]; exact hx⟩, ⟨⟨u', ?_⟩, hit'.1.to fun o q => (sb.2 it (Ne.symm hei)).trans q⟩, fun b hb => ?_⟩
    · have e1 : ((i + 1 : Nat) : Int) = (i : Int) + 1 := by omega
      rw [e1]; exact he'
    · have hb' : b < s.heap.objs.size := by
        have e' : b = e ∨ b = it := by simpa using hb
        rcases e' with z | z
        · rw [z]; exact hel
        · rw [z]; exact hil
      rw [upd_ne (Nat.ne_of_lt hb')]
      exact (hf b hb).1
  done := by
    intro X hP hw hK hc i pins s σ H E I hf st hg
    subst hP hw hK
    obtain ⟨⟨old, he⟩, hit⟩ := st
    obtain ⟨xs, hq, hx⟩ := hg
    obtain ⟨its, rv, p⟩ := inv_sq I hq
    obtain ⟨f0, f1, f2, f3, f4, f5⟩ := hf it (by simp)
    have hl : its.toArray.size = i := by rw [List.size_toArray, ← rv.length, hx]
    have hst : IsIt k s.heap it a its.toArray.size ∧ IsSq k s.heap a its.toArray := ⟨by rw [hl]; exact hit, p⟩
    exact wpAny_pyNext_enum_endD (draws_k k (A := X.A.in1) (I.ok.hd hc) it a hai its.toArray) he hst fun h' eb => ⟨rfl, I.turned (t' := s.toks) (fun b o hb q => eb b o hb q) f0 f1 f3 f4 f5⟩
  self := fun A i s Q E st h => let ⟨⟨_, he⟩, _⟩ := st; wpAny_pyIter_enum he h
def iEnumX (K : PySem.W.Frag) (ta : TA) : TI := fun σ H R => ta σ H fun vs H1 => ∃ k a xs, vs = [.ref a] ∧ Sq K k H1 a xs ∧ R (IteX K k a) H1
theorem pi_enumX {X : Cx} {e : Expr} {ta : TA} {p pos tpos : Pos} {elts : List Expr} {kk : Nat} (hg : Gl X "enumerate") (hm : X.mg "enumerate" = none) (ha : PA X [e] ta) (hs : starEach [e] X.env = [(false, eval e X.env)]) :
    PI X (.Tuple elts kk tpos) (.Call (.Name "enumerate" p) [e] [] pos) (iEnumX X.K ta) := by
  refine ⟨fun pins s σ H R I h => ?_⟩
  refine Call_ (ld_blt I hg hm boot_enumerate (PyProof.Rows.callWith_type1 (thn (ha.run pos pins s σ H _ I h) fun us s1 ⟨vs, H1, I1, r1, q1⟩ => ?_) hs rfl))
  obtain ⟨k, a, xs, ex, hq, q⟩ := q1
  subst ex
  cases r1 with
  | cons r rr =>
    cases rr
    cases r
    obtain ⟨its, rv, p'⟩ := inv_sq I1 hq
    have hal := p'.lt
    refine enum_begins1 (begins_k k a its.toArray) p' fun h' he hit hsz hk => wpAny_pyIter_enum he ?_
    have I2 : Inv X pins σ H1 { s1 with heap := h' } := I1.kept (t' := s1.toks) hk
    refine ⟨s1.heap.objs.size + 1, [s1.heap.objs.size + 1, s1.heap.objs.size], _, _, H1, rfl, I2, turn_enumX k a (s1.heap.objs.size + 1) s1.heap.objs.size (Nat.ne_of_lt hal) (Nat.succ_ne_self _) (Nat.ne_of_gt (Nat.lt_succ_of_lt hal)), ⟨⟨.none, he⟩, itObj_is hit⟩, fun b hb => ?_, q⟩
    have e' : b = s1.heap.objs.size + 1 ∨ b = s1.heap.objs.size := by simpa using hb
    have hle : s1.heap.objs.size ≤ b := by
      rcases e' with z | z
      · rw [z]; exact Nat.le_add_right _ _
      · rw [z]; exact Nat.le_refl _
    exact I1.fpOk hle (I1.hok.fresh hle)
def ItzX (K : PySem.W.Frag) (k j : Bool) (a b : Addr) : It :=
  ⟨fun i H => ∃ (xs ys : List V) (x y : V), Sq K k H a xs ∧ Sq K j H b ys ∧ xs[i]? = some x ∧ ys[i]? = some y,
    fun i H v H' => ∃ T x y, v = .ref T ∧ H T = none ∧ H' = upd H T (.tup [x, y]) ∧ (∀ xs, Sq K k H a xs → xs[i]? = some x) ∧ ∀ ys, Sq K j H b ys → ys[i]? = some y,
    fun i H => ∃ xs ys : List V, Sq K k H a xs ∧ Sq K j H b ys ∧ i ≤ xs.length ∧ i ≤ ys.length ∧ (i = xs.length ∨ i = ys.length)⟩
theorem turn_zipX {P : Program} {w : World} {K : PySem.W.Frag} {elts : List Expr} {kk : Nat} {tpos : Pos} (k j : Bool) {a b z TI TO i1 i2 : Addr} (D : ZipSep2 z TI TO i1 i2 [i1, a] [i2, b]) (ha : a ≠ i1) (hb : b ≠ i2) :
    Turn P w K (.Tuple elts kk tpos) (ItzX K k j a b) [z, TI, TO, i1, i2] z (fun i h => IsZip h z TI TO .none ∧ IsTupOf2 h TI (.ref i1) (.ref i2) ∧ (∃ x y, IsTupOf2 h TO x y) ∧ IsIt k h i1 a i ∧ IsIt j h i2 b i) where
  mem := by simp
  obj := fun i h st c hc => by
    obtain ⟨hz, hTI, ⟨x, y, hTO⟩, h1, h2⟩ := st
    have e' : c = z ∨ c = TI ∨ c = TO ∨ c = i1 ∨ c = i2 := by simpa using hc
    rcases e' with q | q | q | q | q
    · rw [q]; exact ⟨_, hz, fun v q => nomatch q⟩
    · rw [q]; exact ⟨_, hTI, fun v q => nomatch q⟩
    · rw [q]; exact ⟨_, hTO, fun v q => nomatch q⟩
    · rw [q]; exact h1.get
    · rw [q]; exact h2.get
  keep := fun i h h' st kp => by
    obtain ⟨hz, hTI, ⟨x, y, hTO⟩, h1, h2⟩ := st
    exact ⟨kp z (by simp) _ hz, kp TI (by simp) _ hTI, ⟨x, y, kp TO (by simp) _ hTO⟩, h1.to fun o q => kp i1 (by simp) o q, h2.to fun o q => kp i2 (by simp) o q⟩
  item := by
    intro X hP hw hK hc i pins s σ H E I hf st hg
    subst hP hw hK
    obtain ⟨hz, hTI, ⟨x0, y0, hTO⟩, h1, h2⟩ := st
    obtain ⟨xs, ys, x, y, hqx, hqy, hx, hy⟩ := hg
    obtain ⟨its, rv, p⟩ := inv_sq I hqx
    obtain ⟨its2, rv2, p2⟩ := inv_sq I hqy
    obtain ⟨u, hu, ru⟩ := rv.get hx
    obtain ⟨u2, hu2, ru2⟩ := rv2.get hy
    have hzl : z < s.heap.objs.size := Heap.lt_size hz
    have l1 : i < its.toArray.size := by rw [List.size_toArray]; exact (List.getElem?_eq_some_iff.mp hu).1
    have l2 : i < its2.toArray.size := by rw [List.size_toArray]; exact (List.getElem?_eq_some_iff.mp hu2).1
    refine wpAny_pyNext_zipD2_item D (draws_k k (A := X.A.in1) (I.ok.hd hc) i1 a ha its.toArray) (draws_k j (A := X.A.in1) (I.ok.hd hc) i2 b hb its2.toArray) hz hTI hTO ⟨h1, p⟩ ⟨h2, p2⟩ l1 l2 fun v v2 h' tk hv hv2 z' TO' h1' h2' hT hsz hk => ?_
    have ev : v = u := by
      have q : its.toArray[i]? = some v := hv
      rw [List.getElem?_toArray, hu] at q
      exact (Option.some.inj q).symm
    have ev2 : v2 = u2 := by
      have q : its2.toArray[i]? = some v2 := hv2
      rw [List.getElem?_toArray, hu2] at q
      exact (Option.some.inj q).symm
    subst ev ev2
    refine ⟨_, rfl, wpAny_letOwnedTupleGo_zip (s := { s with heap := h', toks := tk }) z' fun h'' z'' sb => ?_⟩
    have hT2 : h''.get? s.heap.objs.size = some { cls := .type "tuple", data := .seq #[v, v2] } := (sb.2 _ (Nat.ne_of_gt hzl)).trans hT
    have new : ObjOk X.prog X.w (upd H s.heap.objs.size (.tup [x, y])) h'' s.heap.objs.size (.tup [x, y]) :=
      ⟨by show 2 ≤ sizeLine; decide, [v, v2], .cons ru (.cons ru2 .nil), ⟨_, hT2, rfl, _, rfl⟩⟩
    have I1 : Inv X pins σ (upd H s.heap.objs.size (.tup [x, y])) { s with heap := h'', toks := tk } :=
      I.turnedNew (t' := tk) (ch := [z, TI, TO, i1, i2]) (fun c o hb q => (sb.2 c (fun q' => hb (by simp [q']))).trans (hk c o (fun q' => hb (by simp [q'])) (fun q' => hb (by simp [q'])) (fun q' => hb (by simp [q'])) (fun q' => hb (by simp [q'])) q)) hf (Nat.le_refl _) new
    refine ⟨.ref s.heap.objs.size, _, I1, rfl, ⟨_, x, y, rfl, I.hok.fresh (Nat.le_refl _), rfl, fun l hl => by rw [inv_sq_inj I hl hqx]; exact hx, fun l hl => by rw [inv_sq_inj I hl hqy]; exact hy⟩, ⟨z'', ?_, ⟨v, v2, ?_⟩, ?_, ?_⟩, fun c hcm => ?_⟩
    · exact (sb.2 _ D.TIz).trans (hk _ _ D.TIz D.TITO D.TIi1 D.TIi2 hTI)
    · exact (sb.2 _ D.TOz).trans TO'
    · exact h1'.1.to fun o q => (sb.2 _ (Ne.symm D.zi1)).trans q
    · exact h2'.1.to fun o q => (sb.2 _ (Ne.symm D.zi2)).trans q
    · have hlt : c < s.heap.objs.size := by
        have e' : c = z ∨ c = TI ∨ c = TO ∨ c = i1 ∨ c = i2 := by simpa using hcm
        rcases e' with q | q | q | q | q
        · rw [q]; exact hzl
        · rw [q]; exact Heap.lt_size hTI
        · rw [q]; exact Heap.lt_size hTO
        · rw [q]; obtain ⟨_, e1, _⟩ := h1.get; exact Heap.lt_size e1
        · rw [q]; obtain ⟨_, e2, _⟩ := h2.get; exact Heap.lt_size e2
      rw [upd_ne (Nat.ne_of_lt hlt)]
      exact (hf c hcm).1
  done := by
    intro X hP hw hK hc i pins s σ H E I hf st hg
    subst hP hw hK
    obtain ⟨hz, hTI, ⟨x0, y0, hTO⟩, h1, h2⟩ := st
    obtain ⟨xs, ys, hqx, hqy, le1, le2, hend⟩ := hg
    obtain ⟨its, rv, p⟩ := inv_sq I hqx
    obtain ⟨its2, rv2, p2⟩ := inv_sq I hqy
    have l1 := rv.length
    have l2 := rv2.length
    have s1 : its.toArray.size = xs.length := by rw [List.size_toArray, l1]
    have s2 : its2.toArray.size = ys.length := by rw [List.size_toArray, l2]
    exact wpAny_pyNext_zipD2_end D (draws_k k (A := X.A.in1) (I.ok.hd hc) i1 a ha its.toArray) (draws_k j (A := X.A.in1) (I.ok.hd hc) i2 b hb its2.toArray) hz hTI hTO ⟨h1, p⟩ ⟨h2, p2⟩ (by rw [s1]; exact le1) (by rw [s2]; exact le2) (by rw [s1, s2]; exact hend)
      fun h' tk hk => ⟨rfl, I.turnedL (t' := tk) (ch := [z, TI, TO, i1, i2]) (fun c o hb q => hk c o (fun q' => hb (by simp [q'])) (fun q' => hb (by simp [q'])) (fun q' => hb (by simp [q'])) (fun q' => hb (by simp [q'])) q) hf⟩
  self := fun A i s Q E st h => wpAny_pyIter_zip st.1 h
def iZipX (K : PySem.W.Frag) (ta : TA) : TI := fun σ H R => ta σ H fun vs H1 => ∃ k j a b xs ys, vs = [.ref a, .ref b] ∧ Sq K k H1 a xs ∧ Sq K j H1 b ys ∧ R (ItzX K k j a b) H1
theorem zip_fresh {X : Cx} {pins : List (Addr × Obj)} {σ : L2.St} {H : Hp} {s : Shared} (I : Inv X pins σ H s) : ∀ c ∈ [s.heap.objs.size + 4, s.heap.objs.size + 2, s.heap.objs.size + 3, s.heap.objs.size, s.heap.objs.size + 1], FpOk X pins H c := fun c hcm => by
  have e' : c = s.heap.objs.size + 4 ∨ c = s.heap.objs.size + 2 ∨ c = s.heap.objs.size + 3 ∨ c = s.heap.objs.size ∨ c = s.heap.objs.size + 1 := by simpa using hcm
  have hle : s.heap.objs.size ≤ c := by
    rcases e' with z | z | z | z | z
    · rw [z]; exact Nat.le_add_right _ _
    · rw [z]; exact Nat.le_add_right _ _
    · rw [z]; exact Nat.le_add_right _ _
    · rw [z]; exact Nat.le_refl _
    · rw [z]; exact Nat.le_add_right _ _
  exact I.fpOk hle (I.hok.fresh hle)
theorem pi_zipX {X : Cx} {e e2 : Expr} {ta : TA} {p pos tpos : Pos} {elts : List Expr} {kk : Nat} (hg : Gl X "zip") (hm : X.mg "zip" = none) (ha : PA X [e, e2] ta)
    (hs : starEach [e, e2] X.env = (false, eval e X.env) :: starEach [e2] X.env) (hpl : (backTo pos (starEach [e2] X.env)).any (·.1) = false) :
    PI X (.Tuple elts kk tpos) (.Call (.Name "zip" p) [e, e2] [] pos) (iZipX X.K ta) := by
  refine ⟨fun pins s σ H R I h => ?_⟩
  refine Call_ (ld_blt I hg hm PyProof.Rows.boot_zip (PyProof.Rows.callWith_type1 (thn (ha.run pos pins s σ H _ I h) fun us s1 ⟨vs, H1, I1, r1, q1⟩ => ?_) hs hpl))
  obtain ⟨k, j, a, b, xs, ys, ex, hqx, hqy, q⟩ := q1
  subst ex
  cases r1 with
  | cons r rr =>
    cases rr with
    | cons r' rr =>
      cases rr
      cases r
      cases r'
      obtain ⟨its, rv, p1⟩ := inv_sq I1 hqx
      obtain ⟨its2, rv2, p2⟩ := inv_sq I1 hqy
      refine zip_begins2 (begins_k k a its.toArray) (begins_k j b its2.toArray) p1 p2 fun h' hz hTI hTO h1 h2 hsz hk => wpAny_pyIter_zip hz ?_
      have I2 : Inv X pins σ H1 { s1 with heap := h' } := I1.kept (t' := s1.toks) hk
      have al := p1.lt
      have bl := p2.lt
      exact ⟨s1.heap.objs.size + 4, [s1.heap.objs.size + 4, s1.heap.objs.size + 2, s1.heap.objs.size + 3, s1.heap.objs.size, s1.heap.objs.size + 1], _, _, H1, rfl, I2,
        turn_zipX k j (zip_sep2 (N := s1.heap.objs.size) (fp1 := [a]) (fp2 := [b]) (by simpa using al) (by simpa using bl)) (Nat.ne_of_lt al) (Nat.ne_of_lt (Nat.lt_succ_of_lt bl)), ⟨hz, hTI, ⟨_, _, hTO⟩, itObj_is h1, itObj_is h2⟩, zip_fresh I1, q⟩
end Mi
namespace Mi
open PySem PySem.Spec PyProof.Rows L2
section
variable {K : PySem.W.Frag} {fa : FA} {ca : Nat → Addr} {μ μ1 : Mu} {H H1 : Hp} {σ : L2.St} {W : WX} {ρ : Rho} {h : Hm} {X : Cx}
abbrev PV (K : PySem.W.Frag) (fa : FA) (ca : Nat → Addr) (μ : Mu) (H : Hp) (σ : L2.St) (W : WX) (Q : VK) (r : RE) : Prop := PostR K fa ca (VR K fa) μ H σ W Q r
theorem no {P : Prop} (h : False) : P := h.elim
def PyCmp : COp → CmpOp
  | .lt => .Lt | .le => .LtE | .gt => .Gt | .ge => .GtE | .eq => .Eq | .ne => .NotEq | .isN => .Is | .notN => .IsNot | .inn => .In | .notin => .NotIn
theorem ilt_le (i j : Int) : (!ilt j i) = decide (i ≤ j) := by
  rw [ilt_eq]
  by_cases h : j < i
  · rw [decide_eq_true h, decide_eq_false (by omega)]; rfl
  · rw [decide_eq_false h, decide_eq_true (by omega)]; rfl
def rCmpM (K : PySem.W.Frag) : COp → R2
  | .lt => fun x y H Q => rI0 (fun i j => .bl (decide (i < j))) x y H Q ∨ rLtX K x y H Q
  | .le => rI0 fun i j => .bl (decide (i ≤ j))
  | .gt => rI0 fun i j => .bl (decide (j < i))
  | .ge => rI0 fun i j => .bl (decide (j ≤ i))
  | .eq => rEqX K
  | .ne => rNeX K
  | .isN => fun x y H Q => y = .non ∧ Q (.bl (decide (x = .non))) H
  | .notN => fun x y H Q => y = .non ∧ Q (.bl (!decide (x = .non))) H
  | .inn => rInX K false
  | .notin => rInX K true
theorem op_cmpM (hu : X.A.units + 64 < cLine) (op : COp) : OpR X (compareOp (PyCmp op)) (rCmpM X.K op) := by
  cases op with
  | lt => exact OpR.or op_lt (op_ltX hu)
  | le => exact op_le
  | gt => exact op_gt
  | ge => exact op_ge
  | eq => exact op_eqX hu
  | ne => exact op_neX hu
  | isN => exact op_isN
  | notN => exact op_notN
  | inn => exact op_inX hu
  | notin => exact op_notInX hu
theorem VR.non_iff {v : MV} {x : V} (r : VR K fa μ H v x) (h1 : v ≠ .opq) : decide (x = .non) = (match v with
    | .non => true
    | _ => false) := by
  cases r <;> first | rfl | exact absurd rfl h1
theorem k_cmp (op : COp) {Q : VK} {v w : MV} {x y : V} (hr : HR K fa μ h H) (vr : VR K fa μ H v x) (wr : VR K fa μ H w y) (p : PV K fa ca μ H σ W Q (vCmp op v w h)) : rCmpM K op x y H Q := by
  cases op with
  | lt =>
    cases vr with
    | int i =>
      cases wr with
      | int j => exact .inl ⟨i, j, rfl, rfl, by have q := PostR.fin (V := VR K fa) p hr (.bl _); rw [ilt_eq] at q; exact q⟩
      | _ => exact no p
    | tup s1 r1 k1 => exact .inr (k_ltX hr (.tup s1 r1 k1) wr p)
    | _ => exact no p
  | le =>
    cases vr with
    | int i =>
      cases wr with
      | int j => exact ⟨i, j, rfl, rfl, by have q := PostR.fin (V := VR K fa) p hr (.bl _); rw [ilt_le] at q; exact q⟩
      | _ => exact no p
    | _ => exact no p
  | gt =>
    cases vr with
    | int i =>
      cases wr with
      | int j => exact ⟨i, j, rfl, rfl, by have q := PostR.fin (V := VR K fa) p hr (.bl _); rw [ilt_eq] at q; exact q⟩
      | _ => exact no p
    | _ => exact no p
  | ge =>
    cases vr with
    | int i =>
      cases wr with
      | int j => exact ⟨i, j, rfl, rfl, by have q := PostR.fin (V := VR K fa) p hr (.bl _); rw [ilt_le] at q; exact q⟩
      | _ => exact no p
    | _ => exact no p
  | eq => exact k_eq hr vr wr p
  | ne => exact k_ne hr vr wr p
  | isN =>
    cases wr with
    | non =>
      refine ⟨rfl, ?_⟩
      cases v with
      | und => exact no p
      | opq => exact no p
      | non => rw [vr.non_iff (by intro z; cases z)]; exact PostR.fin (V := VR K fa) (show PV K fa ca μ H σ W Q (.ok (.bl true) h) from p) hr (.bl true)
      | _ => rw [vr.non_iff (by intro z; cases z)]; exact PostR.fin (V := VR K fa) (show PV K fa ca μ H σ W Q (.ok (.bl false) h) from p) hr (.bl false)
    | _ => exact no p
  | notN =>
    cases wr with
    | non =>
      refine ⟨rfl, ?_⟩
      cases v with
      | und => exact no p
      | opq => exact no p
      | non => rw [vr.non_iff (by intro z; cases z)]; exact PostR.fin (V := VR K fa) (show PV K fa ca μ H σ W Q (.ok (.bl false) h) from p) hr (.bl false)
      | _ => rw [vr.non_iff (by intro z; cases z)]; exact PostR.fin (V := VR K fa) (show PV K fa ca μ H σ W Q (.ok (.bl true) h) from p) hr (.bl true)
    | _ => exact no p
  | inn =>
    have p' : PV K fa ca μ H σ W Q (obl (vIn v w h) h) := p
    cases e : vIn v w h with
    | none => rw [e] at p'; exact no p'
    | some b =>
      rw [e] at p'
      obtain ⟨a, vs, d, ds, e1, e2, e3, e4, e5, e6, e7, e8⟩ := k_in hr vr wr e
      refine ⟨a, vs, d, ds, e1, e2, e3, e4, e5, e6, e7, ?_⟩
      have q := PostR.fin (V := VR K fa) (show PV K fa ca μ H σ W Q (.ok (.bl b) h) from p') hr (.bl b)
      rw [e8] at q
      exact q
  | notin =>
    have p' : PV K fa ca μ H σ W Q (obl (onot (vIn v w h)) h) := p
    cases e : vIn v w h with
    | none => rw [e] at p'; exact no p'
    | some b =>
      rw [e] at p'
      obtain ⟨a, vs, d, ds, e1, e2, e3, e4, e5, e6, e7, e8⟩ := k_in hr vr wr e
      refine ⟨a, vs, d, ds, e1, e2, e3, e4, e5, e6, e7, ?_⟩
      have q := PostR.fin (V := VR K fa) (show PV K fa ca μ H σ W Q (.ok (.bl (!b)) h) from p') hr (.bl _)
      rw [e8] at q
      exact q
theorem k_neg {Q : VK} {v : MV} {x : V} (hr : HR K fa μ h H) (vr : VR K fa μ H v x) (p : PV K fa ca μ H σ W Q (vNeg v h)) : rU (fun i => .int (-i)) x H Q := by
  cases vr with
  | int i => exact ⟨i, rfl, PostR.fin (V := VR K fa) p hr (.int _)⟩
  | _ => exact no p
theorem k_tru {v : MV} {x : V} {b : Bool} (hr : HR K fa μ h H) (vr : VR K fa μ H v x) (e : tru v h = some b) : TruV K x H b := by
  have sq : ∀ {xs : List MV}, seqOf h v = some xs → ∃ a vs, x = .ref a ∧ (SqL K H a vs ∨ SqT K H a vs) ∧ xs.isEmpty = vs.isEmpty := fun e1 => by
    obtain ⟨a, vs, e2, e3, q⟩ := seqOf_ok hr vr e1
    exact ⟨a, vs, e2, e3, by cases q <;> rfl⟩
  have fin : ∀ {xs : List MV}, seqOf h v = some xs → b = (!xs.isEmpty) → TruV K x H b := fun e1 eb => by
    obtain ⟨a, vs, e2, e3, e4⟩ := sq e1
    subst e2
    rw [e4] at eb
    rcases e3 with e3 | e3
    · exact .inl ⟨vs, e3, eb⟩
    · exact .inr (.inl ⟨vs, e3, eb⟩)
  cases v with
  | bl c => cases vr; cases e; rfl
  | int i =>
    cases vr
    cases e
    show inz i = (i != 0)
    cases i with
    | ofNat n => cases n <;> rfl
    | negSucc n => rfl
  | non => cases vr; cases e; rfl
  | str s => cases e
  | und => cases e
  | opq => cases e
  | fn k => cases e
  | zipv a c => cases e
  | tup d xs =>
    cases xs with
    | nil => cases e; exact fin rfl rfl
    | cons y ys => cases e; exact fin rfl rfl
  | lref n =>
    have e' : (match seqOf h (.lref n) with
      | some [] => some false
      | some (_ :: _) => some true
      | none => none) = some b := e
    cases q : seqOf h (.lref n) with
    | none => rw [q] at e'; cases e'
    | some xs =>
      rw [q] at e'
      cases xs with
      | nil => cases e'; exact fin q rfl
      | cons y ys => cases e'; exact fin q rfl
theorem getn_eq : ∀ (xs : List MV) (n : Nat), getn xs n = xs[n]?
  | [], n => by simp [getn]
  | x :: r, 0 => by simp [getn]
  | x :: r, n + 1 => by simp [getn, getn_eq r n]
theorem setn_eq : ∀ (xs : List MV) (n : Nat) (v : MV), setn xs n v = xs.set n v
  | [], n, v => by simp [setn]
  | x :: r, 0, v => by simp [setn]
  | x :: r, n + 1, v => by simp [setn, setn_eq r n v]
theorem ixN_ok {n : Nat} {i : Int} (h : ixOf n i < n) : ixN n i = some (ixOf n i) := by
  unfold ixN
  cases i with
  | ofNat k =>
    have h' : k < n := h
    rw [if_pos (by simp only [Int.ofNat_eq_natCast]; omega), if_pos (by simp only [Int.ofNat_eq_natCast]; omega)]
    rfl
  | negSucc k =>
    unfold ixOf at h ⊢
    simp only at h ⊢
    cases e : Nat.blt k n with
    | false => rw [e] at h; simp only at h; omega
    | true =>
      have hk : k < n := Nat.le_of_ble_eq_true e
      rw [if_neg (by omega), if_pos (by omega)]
      simp only
      congr 1
      omega
theorem k_ix {Q : VK} {v w : MV} {x y : V} (hr : HR K fa μ h H) (vr : VR K fa μ H v x) (wr : VR K fa μ H w y) (p : PV K fa ca μ H σ W Q (vIx v w h)) : rIx K x y H Q := by
  cases wr with
  | int i =>
    have p' : PV K fa ca μ H σ W Q (match seqOf h v with
      | some xs => (match getn xs (ixOf xs.length i) with
        | some v => .ok v h
        | none => .bad)
      | none => .bad) := p
    cases hs : seqOf h v with
    | none => rw [hs] at p'; exact no p'
    | some xs =>
    rw [hs] at p'
    have p2 : PV K fa ca μ H σ W Q (match getn xs (ixOf xs.length i) with
      | some v => .ok v h
      | none => .bad) := p'
    rw [getn_eq] at p2
    cases e : xs[ixOf xs.length i]? with
    | none => rw [e] at p2; exact no p2
    | some z =>
      rw [e] at p2
      obtain ⟨a, vs, e2, e3, q⟩ := seqOf_ok hr vr hs
      obtain ⟨u, hu, ru⟩ := q.get e
      have hlt : ixOf xs.length i < xs.length := (List.getElem?_eq_some_iff.mp e).1
      have hat : atI vs i = some u := by
        unfold atI
        rw [← q.length, ixN_ok hlt]
        exact hu
      have fin := PostR.fin (V := VR K fa) (show PV K fa ca μ H σ W Q (.ok z h) from p2) hr ru
      rcases e3 with e3 | e3
      · exact .inl ⟨a, vs, i, u, e2, rfl, e3, hat, fin⟩
      · exact .inr (.inl ⟨a, vs, i, u, e2, rfl, e3, hat, fin⟩)
  | _ => exact no p
theorem cut1_eq (n d : Nat) (o : Option Int) : cut1 n d o = HT.sIx n d o := by
  cases o with
  | none => rfl
  | some i =>
    cases i with
    | ofNat m =>
      show (match Nat.ble m n with | true => m | false => n) = HT.sIx n d (some ((m : Nat) : Int))
      rw [HT.sIx_nat]
      cases q : Nat.ble m n with
      | true => have := Nat.le_of_ble_eq_true q; show m = _; omega
      | false =>
        have : ¬ m ≤ n := fun z => by rw [ble_true z] at q; cases q
        show n = _
        omega
    | negSucc m =>
      show n - (m + 1) = (if Int.negSucc m < 0 then (Int.negSucc m + (n : Int)).toNat else min (Int.negSucc m).toNat n)
      rw [if_pos (by omega)]
      omega
theorem VRs.cut {xs : List MV} {vs : List V} (r : VRs K fa μ H xs vs) (lo hi : Option Int) : VRs K fa μ H (cutM xs (cut1 xs.length 0 lo) (cut1 xs.length xs.length hi)) (cutV vs lo hi) := by
  unfold cutM cutV
  rw [cut1_eq, cut1_eq, r.length]
  exact (r.drop _).take _
def rSlM (K : PySem.W.Frag) : V → Option Int → Option Int → Hp → VK → Prop := fun x lo hi H Q => rSlL K x lo hi H Q ∨ rSlA K x lo hi H Q
theorem sl_M : SlR X (rSlM X.K) := SlR.or sl_list sl_tupA
theorem cutV_whole {vs : List V} {lo hi : Option Int} (h : HT.sIx vs.length 0 lo = 0 ∧ HT.sIx vs.length vs.length hi = vs.length) : cutV vs lo hi = vs := by
  unfold cutV
  rw [h.1, h.2]
  simp
theorem k_sl {Q : VK} {v : MV} {x : V} {lo hi : Option Int} (hr : HR K fa μ h H) (vr : VR K fa μ H v x) (p : PV K fa ca μ H σ W Q (vSl v lo hi h)) : rSlM K x lo hi H Q := by
  have p' : PV K fa ca μ H σ W Q (match seqOf h v with
    | some xs => reM v (cutM xs (cut1 xs.length 0 lo) (cut1 xs.length xs.length hi)) h
    | none => .bad) := p
  cases e : seqOf h v with
  | none => rw [e] at p'; exact no p'
  | some xs =>
    rw [e] at p'
    cases vr with
    | tup s q k =>
      cases e
      have p2 : PV K fa ca μ H σ W Q (.ok (mkT (cutM xs (cut1 xs.length 0 lo) (cut1 xs.length xs.length hi))) h) := p'
      have q2 := q.cut lo hi
      refine .inr ⟨_, _, rfl, s, fun w => ?_, fun _ => p2.tup hr q2⟩
      rw [cutV_whole w] at q2
      exact p2.fin hr (VR.mkT s q2)
    | lref ha =>
      rename_i n a
      have p2 : PV K fa ca μ H σ W Q (newL (cutM xs (cut1 xs.length 0 lo) (cut1 xs.length xs.length hi)) h) := p'
      obtain ⟨b, vs, e2, e3, q⟩ := seqOf_ok hr (.lref (K := K) (fa := fa) ha) e
      cases e2
      rcases e3 with e3 | e3
      · exact .inl ⟨a, vs, rfl, e3, p2.lst hr (q.cut lo hi)⟩
      · rcases e3 with e3 | ⟨o, its, m, e3, _⟩
        · exact absurd e3 (hr.noTup a (List.mem_of_getElem? ha) vs)
        · rw [seqOf_lref] at e
          cases z : h[n]? with
          | none => rw [z] at e; cases e
          | some o =>
            rw [z] at e
            have w := hr.at_ n a o ha z
            cases o with
            | lst ys => cases e; obtain ⟨us, u1, u2⟩ := w; exact .inl ⟨a, us, rfl, .inl (.inl u1), p2.lst hr (u2.cut lo hi)⟩
            | ro ys => cases e; obtain ⟨us, u1, u2⟩ := w; exact .inl ⟨a, us, rfl, .inl u1, p2.lst hr (u2.cut lo hi)⟩
            | dic d => cases e
    | _ => cases e
theorem k_tup {Q : VK} {xs : List MV} {vs : List V} (hn : xs.length ≤ 100000) (hr : HR K fa μ h H) (r : VRs K fa μ H xs vs) (p : PV K fa ca μ H σ W Q (.ok (mkT xs) h)) : vs.length ≤ sizeLine ∧ ∀ q, H q = none → Q (.ref q) (upd H q (.tup vs)) :=
  ⟨by rw [← r.length]; exact Nat.le_of_lt (cap_line hn), p.tup hr r⟩
theorem k_lst {Q : VK} {xs : List MV} {vs : List V} (hn : xs.length ≤ 100000) (hr : HR K fa μ h H) (r : VRs K fa μ H xs vs) (p : PV K fa ca μ H σ W Q (newL xs h)) : vs.length ≤ sizeLine ∧ ∀ q, H q = none → Q (.ref q) (upd H q (.lst vs)) :=
  ⟨by rw [← r.length]; exact Nat.le_of_lt (cap_line hn), p.lst hr r⟩
def PyTy : Ty → String
  | .int => "int" | .bool => "bool" | .str => "str" | .tuple => "tuple" | .list => "list"
def tyN : MV → String
  | .non => "NoneType" | .bl _ => "bool" | .int _ => "int" | .str _ => "str" | .tup _ _ => "tuple" | _ => "list"
theorem kit_l : ∀ t : Ty, kitB "list" (PyTy t) = some t.l := fun t => by cases t <;> decide +kernel
theorem kit_t : ∀ t : Ty, kitB "tuple" (PyTy t) = some t.t := fun t => by cases t <;> decide +kernel
theorem kit_s : ∀ t : Ty, kitB "str" (PyTy t) = some t.s := fun t => by cases t <;> decide +kernel
theorem kit_i : ∀ t : Ty, kitB "int" (PyTy t) = some t.i := fun t => by cases t <;> decide +kernel
theorem kit_b : ∀ t : Ty, kitB "bool" (PyTy t) = some t.b := fun t => by cases t <;> decide +kernel
theorem kit_n : ∀ t : Ty, kitB "NoneType" (PyTy t) = some false := fun t => by cases t <;> decide +kernel
theorem tyIs_kit {t : Ty} {v : MV} {b : Bool} (e : tyIs t v h = some b) : kitB (tyN v) (PyTy t) = some b := by
  cases v with
  | lref n =>
    have e' : (match geth h n with
      | some (.lst _) => some t.l
      | some (.ro _) => some t.l
      | _ => none) = some b := e
    have k : kitB "list" (PyTy t) = some b := by
      cases q : geth h n with
      | none => rw [q] at e'; cases e'
      | some o =>
        rw [q] at e'
        cases o with
        | lst xs => cases e'; exact kit_l t
        | ro xs => cases e'; exact kit_l t
        | dic d => cases e'
    exact k
  | non => cases e; exact kit_n t
  | bl c => cases e; exact kit_b t
  | int i => cases e; exact kit_i t
  | str s => cases e; exact kit_s t
  | tup d xs => cases e; exact kit_t t
  | _ => cases e
theorem tyX_of {t : Ty} {v : MV} {x : V} {b : Bool} (hr : HR K fa μ h H) (vr : VR K fa μ H v x) (e : tyIs t v h = some b) : TyX K H x (.type (tyN v)) := by
  cases vr with
  | opq => cases e
  | fn => cases e
  | non => exact .base .non
  | bl c => exact .base (.bl c)
  | int i => exact .base (.int i)
  | str s => exact .base (.str s)
  | tup s q k =>
    rcases s with (s | ⟨o, s⟩) | ⟨o, its, n, s, c, _⟩
    · exact .base (.tup s)
    · exact .fTuple s
    · exact .kTuple s c
  | lref ha =>
    rename_i n a
    have e' : (match geth h n with
      | some (.lst _) => some t.l
      | some (.ro _) => some t.l
      | _ => none) = some b := e
    rw [geth_eq] at e'
    cases q : h[n]? with
    | none => rw [q] at e'; cases e'
    | some o =>
      rw [q] at e'
      have w := hr.at_ n a o ha q
      cases o with
      | lst xs => obtain ⟨us, u1, _⟩ := w; exact .base (.lst u1)
      | ro xs =>
        obtain ⟨us, u1, _⟩ := w
        rcases u1 with u1 | ⟨ob, u1⟩
        · exact .base (.lst u1)
        · exact .base (.frz u1)
      | dic d => cases e'
end
end Mi
namespace Mi
open PySem PySem.Spec PyProof.Rows L2
section
variable {K : PySem.W.Frag} {fa : FA} {ca : Nat → Addr} {μ μ1 : Mu} {H H1 : Hp} {σ : L2.St} {W : WX} {ρ : Rho} {h : Hm} {X : Cx}
theorem SlotR.of {x : MV} {v : V} {o : Option (Option V)} (r : VR K fa μ H x v) (e : o = some (some v)) : SlotR K fa μ H x o := by
  cases r with
  | opq v => exact ⟨_, e, .opq v⟩
  | non => exact ⟨_, e, .non⟩
  | bl b => exact ⟨_, e, .bl b⟩
  | int i => exact ⟨_, e, .int i⟩
  | str s => exact ⟨_, e, .str s⟩
  | fn q => exact ⟨_, e, .fn q⟩
  | lref q => exact ⟨_, e, .lref q⟩
  | tup s q k => exact ⟨_, e, .tup s q k⟩
theorem SR.set (s : SR K fa μ H ρ σ) {i : Nat} {x : MV} {v : V} (r : VR K fa μ H x v) : SR K fa μ H (setn ρ i x) (σ.set i (some v)) := by
  rw [setn_eq]
  refine ⟨by rw [List.length_set, List.length_set, s.1], fun j y hy => ?_⟩
  by_cases e : i = j
  · subst e
    have hl : i < ρ.length := by
      have := (List.getElem?_eq_some_iff.mp hy).1
      rwa [List.length_set] at this
    rw [List.getElem?_set_self hl] at hy
    cases hy
    exact SlotR.of r (by rw [List.getElem?_set_self (by rw [← s.1]; exact hl)])
  · rw [List.getElem?_set_ne e] at hy
    rw [List.getElem?_set_ne e]
    exact s.2 j y hy
theorem SR.forget (s : SR K fa μ H ρ σ) (i : Nat) : SR K fa μ H (setn ρ i .und) (σ.set i none) := by
  rw [setn_eq]
  refine ⟨by rw [List.length_set, List.length_set, s.1], fun j y hy => ?_⟩
  by_cases e : i = j
  · subst e
    have hl : i < ρ.length := by
      have := (List.getElem?_eq_some_iff.mp hy).1
      rwa [List.length_set] at this
    rw [List.getElem?_set_self hl] at hy
    cases hy
    exact True.intro
  · rw [List.getElem?_set_ne e] at hy
    rw [List.getElem?_set_ne e]
    exact s.2 j y hy
theorem SR.wipe (s : SR K fa μ H ρ σ) : ∀ vs : List Nat, SR K fa μ H (wipeM ρ vs) (wipe σ vs)
  | [] => s
  | v :: vs => (SR.wipe s vs).forget v
def tgSlots : Tg → List Nat
  | .nm i => [i]
  | .nil => []
  | .cons t r => tgSlots t ++ tgSlots r
  | .tp r => tgSlots r
mutual
def rawG (K : PySem.W.Frag) : Tg → TG
  | .nm i => gName i
  | .tp r => gTup K (tgLen r) (rawGs K r)
  | _ => fun _ _ _ _ => False
def rawGs (K : PySem.W.Frag) : Tg → TGs
  | .nil => gNil
  | .cons t r => gCons (rawG K t) (rawGs K r)
  | _ => fun _ _ _ _ => False
def tgLen : Tg → Nat
  | .cons _ r => tgLen r + 1
  | _ => 0
end
theorem wipe_set_mem {σ : L2.St} {o : Option V} {i : Nat} : ∀ {vs : List Nat}, i ∈ vs → wipe (σ.set i o) vs = wipe σ vs
  | [], h => absurd h (by simp)
  | v :: vs, h => by
    show (wipe (σ.set i o) vs).set v none = (wipe σ vs).set v none
    by_cases e : i ∈ vs
    · rw [wipe_set_mem e]
    · have ev : i = v := by
        rcases List.mem_cons.mp h with z | z
        · exact z
        · exact absurd z e
      subst ev
      have key : ∀ (vs : List Nat), i ∉ vs → wipe (σ.set i o) vs = (wipe σ vs).set i o := by
        intro vs
        induction vs with
        | nil => intro _; rfl
        | cons w ws ih =>
          intro hn
          have hw : w ≠ i := fun z => hn (by rw [z]; exact List.mem_cons_self)
          show (wipe (σ.set i o) ws).set w none = ((wipe σ ws).set w none).set i o
          rw [ih fun z => hn (List.mem_cons_of_mem _ z), List.set_comm _ _ hw.symm]
      rw [key vs e, List.set_set]
mutual
theorem tgt_run (hr : HR K fa μ h H) : ∀ (t : Tg) {x : MV} {v : V} {ρ ρ' : Rho} {σ : L2.St}, VR K fa μ H x v → SR K fa μ H ρ σ → tgt t x ρ = some ρ' →
    ∃ σ', (∀ Q : L2.St → Hp → Prop, Q σ' H → rawG K t v σ H Q) ∧ SR K fa μ H ρ' σ' ∧ ∀ vs : List Nat, (∀ i ∈ tgSlots t, i ∈ vs) → wipe σ' vs = wipe σ vs
  | .nm i, x, v, ρ, ρ', σ, r, s, e => by
    cases e
    exact ⟨σ.set i (some v), fun Q q => q, s.set r, fun vs hv => wipe_set_mem (hv i (by show i ∈ [i]; simp))⟩
  | .tp r, x, v, ρ, ρ', σ, rv, s, e => by
    cases rv with
    | tup sq q k =>
      obtain ⟨σ', h1, h2, h3, h4⟩ := tgs_run hr r q s (show tgt.tgs r _ ρ = some ρ' from e)
      exact ⟨σ', fun Q hq => ⟨_, _, rfl, sq, h4, h1 Q hq⟩, h2, h3⟩
    | _ => cases e
  | .nil, _, _, _, _, _, _, _, e => by cases e
  | .cons _ _, _, _, _, _, _, _, _, e => by cases e
theorem tgs_run (hr : HR K fa μ h H) : ∀ (t : Tg) {xs : List MV} {vs : List V} {ρ ρ' : Rho} {σ : L2.St}, VRs K fa μ H xs vs → SR K fa μ H ρ σ → tgt.tgs t xs ρ = some ρ' →
    ∃ σ', (∀ Q : L2.St → Hp → Prop, Q σ' H → rawGs K t vs σ H Q) ∧ SR K fa μ H ρ' σ' ∧ (∀ vs : List Nat, (∀ i ∈ tgSlots t, i ∈ vs) → wipe σ' vs = wipe σ vs) ∧ vs.length = tgLen t
  | .nil, xs, vs, ρ, ρ', σ, r, s, e => by
    cases r with
    | nil => cases e; exact ⟨σ, fun Q q => ⟨rfl, q⟩, s, fun _ _ => rfl, rfl⟩
    | cons _ _ => cases e
  | .cons t r, xs, vs, ρ, ρ', σ, rv, s, e => by
    cases rv with
    | nil => cases e
    | @cons x v xs' vs' rx rs =>
      have e' : (match tgt t x ρ with
        | some ρ' => tgt.tgs r xs' ρ'
        | none => none) = some ρ' := e
      cases e1 : tgt t x ρ with
      | none => rw [e1] at e'; cases e'
      | some ρ1 =>
        rw [e1] at e'
        obtain ⟨σ1, h1, h2, h3⟩ := tgt_run hr t rx s e1
        obtain ⟨σ2, g1, g2, g3, g4⟩ := tgs_run hr r rs h2 e'
        refine ⟨σ2, fun Q q => ⟨v, vs', rfl, h1 _ (g1 Q q)⟩, g2, fun ws hw => ?_, by show vs'.length + 1 = tgLen r + 1; rw [g4]⟩
        rw [g3 ws fun i hi => hw i (List.mem_append_right _ hi), h3 ws fun i hi => hw i (List.mem_append_left _ hi)]
  | .nm _, _, _, _, _, _, _, _, e => by cases e
  | .tp _, _, _, _, _, _, _, _, e => by cases e
end
inductive ZR (K : PySem.W.Frag) (fa : FA) (μ : Mu) (H : Hp) : IT → Bool → Addr → Nat → Prop
  | tup {a : Addr} {vs : List V} {xs : List MV} {i : Nat} : SqT K H a vs → VRs K fa μ H xs (vs.drop i) → i ≤ vs.length → ZR K fa μ H (.tup xs) true a i
  | lst {n i : Nat} {a : Addr} : μ[n]? = some a → ZR K fa μ H (.lst n i) false a i
inductive ITR (K : PySem.W.Frag) (fa : FA) (μ : Mu) (H : Hp) : IT → It → Nat → Prop
  | tup {a : Addr} {vs : List V} {xs : List MV} {i : Nat} : SqT K H a vs → VRs K fa μ H xs (vs.drop i) → i ≤ vs.length → ITR K fa μ H (.tup xs) (Itt K a) i
  | lst {n i : Nat} {a : Addr} : μ[n]? = some a → ITR K fa μ H (.lst n i) (Itl K a) i
  | rng {lo x : Int} {n i m : Nat} : m = i + n → x = lo + (i : Nat) → ITR K fa μ H (.rng x 1 n) (Itr lo m) i
  | rngd {lo x : Int} {n i m : Nat} : m = i + n → x = lo + (i : Nat) * (-1) → ITR K fa μ H (.rng x (-1) n) (Itc lo (-1) m) i
  | ent {a : Addr} {vs : List V} {xs : List MV} {i : Nat} : SqT K H a vs → VRs K fa μ H xs (vs.drop i) → i ≤ vs.length → ITR K fa μ H (.ent i xs) (IteX K true a) i
  | enl {n i : Nat} {a : Addr} : μ[n]? = some a → ITR K fa μ H (.enl i n) (IteX K false a) i
  | zp {x y : IT} {k j : Bool} {a b : Addr} {i : Nat} : ZR K fa μ H x k a i → ZR K fa μ H y j b i → ITR K fa μ H (.zp x y) (ItzX K k j a b) i
theorem ZR.mono (P : ∀ (n : Nat) (a : Addr), μ[n]? = some a → μ1[n]? = some a) (T : ∀ a vs, SqT K H a vs → SqT K H1 a vs) {it : IT} {k : Bool} {a : Addr} {i : Nat} (r : ZR K fa μ H it k a i) : ZR K fa μ1 H1 it k a i := by
  cases r with
  | tup s q l => exact .tup (T _ _ s) (VRs.mono P T q) l
  | lst q => exact .lst (P _ _ q)
theorem ITR.mono (P : ∀ (n : Nat) (a : Addr), μ[n]? = some a → μ1[n]? = some a) (T : ∀ a vs, SqT K H a vs → SqT K H1 a vs) {it : IT} {J : It} {i : Nat} (r : ITR K fa μ H it J i) : ITR K fa μ1 H1 it J i := by
  cases r with
  | tup s q l => exact .tup (T _ _ s) (VRs.mono P T q) l
  | lst q => exact .lst (P _ _ q)
  | rng e1 e2 => exact .rng e1 e2
  | rngd e1 e2 => exact .rngd e1 e2
  | ent s q l => exact .ent (T _ _ s) (VRs.mono P T q) l
  | enl q => exact .enl (P _ _ q)
  | zp a b => exact .zp (a.mono P T) (b.mono P T)
theorem ZR.ext (n : NoTup μ H) (e : Ext μ H μ1 H1) {it : IT} {k : Bool} {a : Addr} {i : Nat} (r : ZR K fa μ H it k a i) : ZR K fa μ1 H1 it k a i := r.mono e.pre fun _ _ s => SqT.ext n e s
theorem ITR.ext (n : NoTup μ H) (e : Ext μ H μ1 H1) {it : IT} {J : It} {i : Nat} (r : ITR K fa μ H it J i) : ITR K fa μ1 H1 it J i := r.mono e.pre fun _ _ s => SqT.ext n e s
theorem drop_cons {vs : List V} {i : Nat} {v : V} {r : List V} (e : vs.drop i = v :: r) : vs[i]? = some v ∧ r = vs.drop (i + 1) ∧ i < vs.length := by
  have h1 : (vs.drop i)[0]? = some v := by rw [e]; rfl
  rw [List.getElem?_drop] at h1
  have h2 : (vs.drop i).drop 1 = r := by rw [e]; rfl
  rw [List.drop_drop] at h2
  have h3 : vs[i]? = some v := by simpa using h1
  exact ⟨h3, by rw [← h2], (List.getElem?_eq_some_iff.mp h3).1⟩
theorem drop_nil {vs : List V} {i : Nat} (e : vs.drop i = []) (h : i ≤ vs.length) : vs.length = i := by
  have := List.drop_eq_nil_iff.mp e
  omega
theorem list_at (hr : HR K fa μ h H) {n : Nat} {a : Addr} {xs : List MV} (ha : μ[n]? = some a) (e : seqOf h (.lref n) = some xs) : ∃ vs, SqL K H a vs ∧ VRs K fa μ H xs vs := by
  rw [seqOf_lref] at e
  cases z : h[n]? with
  | none => rw [z] at e; cases e
  | some o =>
    rw [z] at e
    have w := hr.at_ n a o ha z
    cases o with
    | lst ys => cases e; obtain ⟨us, u1, u2⟩ := w; exact ⟨us, .inl (.inl u1), u2⟩
    | ro ys => cases e; obtain ⟨us, u1, u2⟩ := w; exact ⟨us, .inl u1, u2⟩
    | dic d => cases e
theorem stepL_item {n i : Nat} {f : MV → MV} {it it' : IT} {x : MV} (e : stepL h n i f it = .item x it') : ∃ xs v, seqOf h (.lref n) = some xs ∧ xs[i]? = some v ∧ x = f v ∧ it' = it := by
  unfold stepL at e
  cases q : seqOf h (.lref n) with
  | none => rw [q] at e; cases e
  | some xs =>
    rw [q] at e
    simp only at e
    rw [getn_eq] at e
    cases z : xs[i]? with
    | none =>
      rw [z] at e
      simp only at e
      cases y : Nat.beq xs.length i <;> (rw [y] at e; cases e)
    | some v => rw [z] at e; cases e; exact ⟨xs, v, rfl, z, rfl, rfl⟩
theorem stepL_stop {n i : Nat} {f : MV → MV} {it : IT} (e : stepL h n i f it = .stop) : ∃ xs, seqOf h (.lref n) = some xs ∧ xs.length = i := by
  unfold stepL at e
  cases q : seqOf h (.lref n) with
  | none => rw [q] at e; cases e
  | some xs =>
    rw [q] at e
    simp only at e
    cases z : getn xs i with
    | some v => rw [z] at e; cases e
    | none =>
      rw [z] at e
      simp only at e
      cases y : Nat.beq xs.length i with
      | false => rw [y] at e; cases e
      | true => exact ⟨xs, rfl, Nat.eq_of_beq_eq_true y⟩
theorem ZR.stop (hr : HR K fa μ h H) {it : IT} {k : Bool} {a : Addr} {i : Nat} (r : ZR K fa μ H it k a i) (e : stepI it h = .stop) : ∃ vs, Sq K k H a vs ∧ vs.length = i := by
  cases r with
  | tup s q l =>
    rename_i vs xs
    cases xs with
    | cons x xs => cases e
    | nil =>
      cases hq : vs.drop i with
      | nil => exact ⟨vs, s, drop_nil hq l⟩
      | cons v ws => rw [hq] at q; cases q
  | lst ha =>
    obtain ⟨xs, e1, e2⟩ := stepL_stop e
    obtain ⟨vs, s, q⟩ := list_at hr ha e1
    exact ⟨vs, s, by rw [← q.length, e2]⟩
theorem ZR.item (hr : HR K fa μ h H) {it it' : IT} {x : MV} {k : Bool} {a : Addr} {i : Nat} (r : ZR K fa μ H it k a i) (e : stepI it h = .item x it') : ∃ vs v, Sq K k H a vs ∧ vs[i]? = some v ∧ VR K fa μ H x v ∧ i < vs.length ∧ ZR K fa μ H it' k a (i + 1) := by
  cases r with
  | tup s q l =>
    rename_i vs xs
    cases xs with
    | nil => cases e
    | cons y ys =>
      cases e
      cases hq : vs.drop i with
      | nil => rw [hq] at q; cases q
      | cons v ws =>
        rw [hq] at q
        obtain ⟨e1, e2, e3⟩ := drop_cons hq
        cases q with
        | cons q1 q2 =>
          rw [e2] at q2
          exact ⟨vs, v, s, e1, q1, e3, .tup s q2 e3⟩
  | lst ha =>
    obtain ⟨xs, v, e1, e2, e3, e4⟩ := stepL_item e
    obtain ⟨vs, s, q⟩ := list_at hr ha e1
    obtain ⟨u, hu, ru⟩ := q.get e2
    subst e3 e4
    exact ⟨vs, u, s, hu, ru, (List.getElem?_eq_some_iff.mp hu).1, .lst ha⟩
theorem step_stop (hr : HR K fa μ h H) {it : IT} {J : It} {i : Nat} (r : ITR K fa μ H it J i) (e : stepI it h = .stop) : J.stop i H := by
  cases r with
  | tup s q l => obtain ⟨vs, s, z⟩ := ZR.stop hr (.tup s q l) e; exact ⟨vs, s, by omega⟩
  | lst ha => obtain ⟨vs, s, z⟩ := ZR.stop hr (.lst ha) e; exact ⟨vs, s, by omega⟩
  | rng e1 e2 =>
    rename_i lo x n m
    cases n with
    | zero => show m ≤ i; omega
    | succ n => cases e
  | rngd e1 e2 =>
    rename_i lo x n m
    cases n with
    | zero => show m ≤ i; omega
    | succ n => cases e
  | ent s q l =>
    rename_i a vs xs
    cases xs with
    | cons x xs => cases e
    | nil =>
      cases hq : vs.drop i with
      | nil => exact ⟨vs, s, drop_nil hq l⟩
      | cons v ws => rw [hq] at q; cases q
  | enl ha =>
    obtain ⟨xs, e1, e2⟩ := stepL_stop e
    obtain ⟨vs, s, q⟩ := list_at hr ha e1
    exact ⟨vs, s, by rw [← q.length, e2]⟩
  | zp ra rb =>
    rename_i x y k j a b
    have e' : zpS (stepI x h) (stepI y h) = .stop := e
    cases e1 : stepI x h with
    | bad => rw [e1] at e'; cases e'
    | stop =>
      obtain ⟨vs, s, z⟩ := ra.stop hr e1
      cases e2 : stepI y h with
      | bad => rw [e1, e2] at e'; cases e'
      | stop => obtain ⟨us, t, w⟩ := rb.stop hr e2; exact ⟨vs, us, s, t, by omega, by omega, .inl z.symm⟩
      | item v it => obtain ⟨us, u, t, _, _, w, _⟩ := rb.item hr e2; exact ⟨vs, us, s, t, by omega, by omega, .inl z.symm⟩
    | item v it =>
      obtain ⟨vs, _, s, _, _, z, _⟩ := ra.item hr e1
      cases e2 : stepI y h with
      | bad => rw [e1, e2] at e'; cases e'
      | item v it => rw [e1, e2] at e'; cases e'
      | stop => obtain ⟨us, t, w⟩ := rb.stop hr e2; exact ⟨vs, us, s, t, by omega, by omega, .inr w.symm⟩
theorem vr_pair {x y : MV} {v u : V} {T : Addr} (n : NoTup μ H) (hT : H T = none) (r : VR K fa μ H x v) (q : VR K fa μ H y u) : VR K fa μ (upd H T (.tup [v, u])) (mkT [x, y]) (.ref T) :=
  VR.mkT (.inl (.inl upd_same)) (.cons (VR.ext n (Ext.laid hT) r) (.cons (VR.ext n (Ext.laid hT) q) .nil))
theorem step_item (hr : HR K fa μ h H) {it it' : IT} {x : MV} {J : It} {i : Nat} (r : ITR K fa μ H it J i) (e : stepI it h = .item x it') :
    J.go i H ∧ ∀ v H', J.yld i H v H' → Ext μ H μ H' ∧ HR K fa μ h H' ∧ VR K fa μ H' x v ∧ ITR K fa μ H' it' J (i + 1) := by
  cases r with
  | tup s q l =>
    obtain ⟨vs, v, s1, e1, e2, e3, e4⟩ := ZR.item hr (.tup s q l) e
    refine ⟨⟨vs, v, s1, e1⟩, fun u H' ⟨eH, y⟩ => ?_⟩
    subst eH
    have := y vs s1
    rw [e1] at this
    cases this
    refine ⟨.refl, hr, e2, ?_⟩
    cases e4 with
    | tup a b c => exact .tup a b c
  | lst ha =>
    obtain ⟨vs, v, s1, e1, e2, e3, e4⟩ := ZR.item hr (.lst ha) e
    refine ⟨⟨vs, v, s1, e1⟩, fun u H' ⟨eH, y⟩ => ?_⟩
    subst eH
    have := y vs s1
    rw [e1] at this
    cases this
    refine ⟨.refl, hr, e2, ?_⟩
    cases e4 with
    | lst a => exact .lst a
  | rng e1 e2 =>
    rename_i lo y n m
    cases n with
    | zero => cases e
    | succ n =>
      cases e
      refine ⟨by show i < m; omega, fun u H' ⟨eH, y⟩ => ?_⟩
      subst eH y
      exact ⟨.refl, hr, by rw [e2]; exact .int _, .rng (by omega) (by rw [e2]; omega)⟩
  | rngd e1 e2 =>
    rename_i lo y n m
    cases n with
    | zero => cases e
    | succ n =>
      cases e
      refine ⟨by show i < m; omega, fun u H' ⟨eH, y⟩ => ?_⟩
      subst eH y
      exact ⟨.refl, hr, by rw [e2]; exact .int _, .rngd (by omega) (by rw [e2]; omega)⟩
  | ent s q l =>
    rename_i a vs xs
    cases xs with
    | nil => cases e
    | cons y ys =>
      cases e
      cases hq : vs.drop i with
      | nil => rw [hq] at q; cases q
      | cons v ws =>
        rw [hq] at q
        obtain ⟨e1, e2, e3⟩ := drop_cons hq
        cases q with
        | cons q1 q2 =>
          rw [e2] at q2
          refine ⟨⟨vs, v, s, e1⟩, fun u H' ⟨T, z, eu, hT, eH, f⟩ => ?_⟩
          subst eu eH
          have := f vs s
          rw [e1] at this
          cases this
          exact ⟨.laid hT, hr.laid hT, vr_pair hr.noTup hT (.int _) q1, .ent (SqT.ext hr.noTup (.laid hT) s) (VRs.ext hr.noTup (.laid hT) q2) e3⟩
  | enl ha =>
    obtain ⟨xs, v, e1, e2, e3, e4⟩ := stepL_item e
    obtain ⟨vs, s, q⟩ := list_at hr ha e1
    obtain ⟨u, hu, ru⟩ := q.get e2
    subst e3 e4
    refine ⟨⟨vs, u, s, hu⟩, fun w H' ⟨T, z, eu, hT, eH, f⟩ => ?_⟩
    subst eu eH
    have := f vs s
    rw [hu] at this
    cases this
    exact ⟨.laid hT, hr.laid hT, vr_pair hr.noTup hT (.int _) ru, .enl ha⟩
  | zp ra rb =>
    rename_i y1 y2 k j a b
    have e' : zpS (stepI y1 h) (stepI y2 h) = .item x it' := e
    cases e1 : stepI y1 h with
    | bad => rw [e1] at e'; cases e'
    | stop => cases e2 : stepI y2 h <;> (rw [e1, e2] at e'; cases e')
    | item v1 it1 =>
      cases e2 : stepI y2 h with
      | bad => rw [e1, e2] at e'; cases e'
      | stop => rw [e1, e2] at e'; cases e'
      | item v2 it2 =>
        rw [e1, e2] at e'
        cases e'
        obtain ⟨vs, v, s, f1, f2, f3, f4⟩ := ra.item hr e1
        obtain ⟨us, u, t, g1, g2, g3, g4⟩ := rb.item hr e2
        refine ⟨⟨vs, us, v, u, s, t, f1, g1⟩, fun w H' ⟨T, z1, z2, eu, hT, eH, fx, fy⟩ => ?_⟩
        subst eu eH
        have q1 := fx vs s
        have q2 := fy us t
        rw [f1] at q1
        rw [g1] at q2
        cases q1
        cases q2
        exact ⟨.laid hT, hr.laid hT, vr_pair hr.noTup hT f2 g2, .zp (f4.ext hr.noTup (.laid hT)) (g4.ext hr.noTup (.laid hT))⟩
def PostS (K : PySem.W.Frag) (fa : FA) (ca : Nat → Addr) (μ : Mu) (H : Hp) (W : WX) (D : Ends) : RS → Prop
  | .nx ρ h => ∀ (μ' : Mu) (H' : Hp) (σ' : L2.St), Ext μ H μ' H' → HR K fa μ' h H' → SR K fa μ' H' ρ σ' → D.nx σ' H'
  | .ret v h => ∀ (μ' : Mu) (H' : Hp) (x : V), Ext μ H μ' H' → HR K fa μ' h H' → VR K fa μ' H' v x → D.rt x H'
  | .brk ρ h => ∀ (μ' : Mu) (H' : Hp) (σ' : L2.St), Ext μ H μ' H' → HR K fa μ' h H' → SR K fa μ' H' ρ σ' → D.bk σ' H'
  | .ct ρ h => ∀ (μ' : Mu) (H' : Hp) (σ' : L2.St), Ext μ H μ' H' → HR K fa μ' h H' → SR K fa μ' H' ρ σ' → D.ct σ' H'
  | .exc c ρ h => ∀ (μ' : Mu) (H' : Hp) (σ' : L2.St), Ext μ H μ' H' → HR K fa μ' h H' → SR K fa μ' H' ρ σ' → W (.ref (ca c)) none σ' H'
  | .bad => False
def TSo (K : PySem.W.Frag) (fa : FA) (ca : Nat → Addr) (W : WX) (s : SS) : TS := fun D σ H => ∃ (μ : Mu) (ρ : Rho) (h : Hm), HR K fa μ h H ∧ SR K fa μ H ρ σ ∧ PostS K fa ca μ H W D (s ρ h)
def TIo (K : PySem.W.Frag) (fa : FA) (ca : Nat → Addr) (W : WX) (s : SI) : TI := fun σ H Q => ∃ (μ : Mu) (ρ : Rho) (h : Hm), HR K fa μ h H ∧ SR K fa μ H ρ σ ∧ PostR K fa ca (fun μ H it J => ITR K fa μ H it J 0) μ H σ W Q (s ρ h)
theorem PostS.step {D : Ends} {r : RS} (x : Ext μ H μ1 H1) (p : PostS K fa ca μ H W D r) : PostS K fa ca μ1 H1 W D r := by
  cases r with
  | nx ρ h => exact fun μ' H' y e => p μ' H' y (x.trans e)
  | ret v h => exact fun μ' H' y e => p μ' H' y (x.trans e)
  | brk ρ h => exact fun μ' H' y e => p μ' H' y (x.trans e)
  | ct ρ h => exact fun μ' H' y e => p μ' H' y (x.trans e)
  | exc c ρ h => exact fun μ' H' y e => p μ' H' y (x.trans e)
  | bad => exact p
theorem PS_weak {st : Stmt} {t t' : TS} (h : PS X st t) (w : ∀ D σ H, t' D σ H → t D σ H) : PS X st t' := ⟨fun pins s σ H D I q => h.run pins s σ H D I (w D σ H q)⟩
theorem PSs_weak {st : List Stmt} {t t' : TS} (h : PSs X st t) (w : ∀ D σ H, t' D σ H → t D σ H) : PSs X st t' := ⟨fun pins s σ H D I q => h.run pins s σ H D I (w D σ H q)⟩
theorem PI_weak {tg it : Expr} {t t' : TI} (h : PI X tg it t) (w : ∀ σ H R, t' σ H R → t σ H R) : PI X tg it t' := ⟨fun pins s σ H R I q => h.run pins s σ H R I (w σ H R q)⟩
theorem PostS.first {α β : Type} {V : Mu → Hp → α → β → Prop} {D : Ends} {Q' : β → Hp → Prop} {r : R α} {k : α → Hm → RS} (hr : HR K fa μ h H) (sr : SR K fa μ H ρ σ) (p : PostS K fa ca μ H W D (r.bindS ρ k))
    (hk : ∀ (v : α) (h1 : Hm) (μ1 : Mu) (H1 : Hp) (x : β), r = .ok v h1 → Ext μ H μ1 H1 → HR K fa μ1 h1 H1 → SR K fa μ1 H1 ρ σ → V μ1 H1 v x → PostS K fa ca μ1 H1 W D (k v h1) → Q' x H1) : PostR K fa ca V μ H σ W Q' r := by
  cases r with
  | ok v h1 => exact fun μ' H' y e hr' vr => hk v h1 μ' H' y rfl e hr' (sr.ext hr.noTup e) vr (PostS.step e (show PostS K fa ca μ H W D (k v h1) from p))
  | exc c h1 => exact fun μ' H' e hr' => p μ' H' σ e hr' (sr.ext hr.noTup e)
  | bad => exact p
theorem for_run {tg : Tg} {body : SS} {J : It} {D : Ends} :
    ∃ Wl : Nat → Nat → L2.St → Hp → Prop, (∀ {μ : Mu} {H : Hp} {h : Hm} {ρ : Rho} {σ : L2.St} {it : IT} {n : Nat}, HR K fa μ h H → SR K fa μ H ρ σ → ITR K fa μ H it J 0 → PostS K fa ca μ H W D (frRun (tgt tg) body n it ρ h) → ∃ m, Wl 0 m σ H) ∧
      ∀ i m σ H, Wl i m σ H → (J.stop i H ∧ D.nx σ H) ∨ (J.go i H ∧ ∃ N : L2.St → Hp → Prop, (∀ σ' H', N σ' H' → ∃ m', m' < m ∧ Wl (i + 1) m' σ' H') ∧ ∀ x H', J.yld i H x H' → rawG K tg x σ H' fun σ2 H2 => TSo K fa ca W body { D with nx := N, ct := N, bk := D.nx } σ2 H2) := by
  refine ⟨fun i m σ H => ∃ (μ : Mu) (h : Hm) (ρ : Rho) (it : IT), HR K fa μ h H ∧ SR K fa μ H ρ σ ∧ ITR K fa μ H it J i ∧ PostS K fa ca μ H W D (frRun (tgt tg) body m it ρ h), fun hr sr ir p => ⟨_, _, _, _, _, hr, sr, ir, p⟩, ?_⟩
  rintro i m σ H ⟨μ, h, ρ, it, hr, sr, ir, p⟩
  cases m with
  | zero => exact no p
  | succ m =>
    have p' : PostS K fa ca μ H W D (match stepI it h with
      | .stop => .nx ρ h
      | .bad => .bad
      | .item x it' => (match tgt tg x ρ with
        | none => .bad
        | some ρ1 => (match body ρ1 h with
          | .nx ρ2 h2 => frRun (tgt tg) body m it' ρ2 h2
          | .ct ρ2 h2 => frRun (tgt tg) body m it' ρ2 h2
          | .brk ρ2 h2 => .nx ρ2 h2
          | .ret v h2 => .ret v h2
          | .exc c ρ2 h2 => .exc c ρ2 h2
          | .bad => .bad))) := p
    cases e : stepI it h with
    | bad => rw [e] at p'; exact no p'
    | stop =>
      rw [e] at p'
      exact .inl ⟨step_stop hr ir e, p' μ H σ .refl hr sr⟩
    | item x it' =>
      rw [e] at p'
      dsimp only at p'
      obtain ⟨go, yl⟩ := step_item hr ir e
      refine .inr ⟨go, fun σ' H' => ∃ (μ' : Mu) (h' : Hm) (ρ' : Rho) (it2 : IT), HR K fa μ' h' H' ∧ SR K fa μ' H' ρ' σ' ∧ ITR K fa μ' H' it2 J (i + 1) ∧ PostS K fa ca μ' H' W D (frRun (tgt tg) body m it2 ρ' h'), fun σ' H' ⟨μ', h', ρ', it2, q⟩ => ⟨m, Nat.lt_succ_self _, μ', h', ρ', it2, q⟩, fun v H' y => ?_⟩
      obtain ⟨ex, hr', vr, ir'⟩ := yl v H' y
      have sr' := sr.ext hr.noTup ex
      cases e2 : tgt tg x ρ with
      | none => rw [e2] at p'; exact no p'
      | some ρ1 =>
        rw [e2] at p'
        have p2 : PostS K fa ca μ H W D (match body ρ1 h with
          | .nx ρ2 h2 => frRun (tgt tg) body m it' ρ2 h2
          | .ct ρ2 h2 => frRun (tgt tg) body m it' ρ2 h2
          | .brk ρ2 h2 => .nx ρ2 h2
          | .ret v h2 => .ret v h2
          | .exc c ρ2 h2 => .exc c ρ2 h2
          | .bad => .bad) := p'
        obtain ⟨σ1, g1, g2, _⟩ := tgt_run hr' tg vr sr' e2
        refine g1 _ ⟨μ, ρ1, h, hr', g2, ?_⟩
        have p3 := PostS.step ex p2
        cases e3 : body ρ1 h with
        | bad => rw [e3] at p3; exact no p3
        | nx ρ2 h2 => rw [e3] at p3; exact fun μ' H2 σ' x2 hr2 sr2 => ⟨μ', h2, ρ2, it', hr2, sr2, ir'.ext hr'.noTup x2, PostS.step x2 p3⟩
        | ct ρ2 h2 => rw [e3] at p3; exact fun μ' H2 σ' x2 hr2 sr2 => ⟨μ', h2, ρ2, it', hr2, sr2, ir'.ext hr'.noTup x2, PostS.step x2 p3⟩
        | brk ρ2 h2 => rw [e3] at p3; exact p3
        | ret v2 h2 => rw [e3] at p3; exact p3
        | exc c ρ2 h2 => rw [e3] at p3; exact p3
theorem toT_ok {r : RE} {b : Bool} {h1 : Hm} (e : r = .ok (.bl b) h1) : toT r = .ok b h1 := by rw [e]; rfl
theorem PostS.test {D : Ends} {Q' : Bool → Hp → Prop} {r : RE} {k : Bool → Hm → RS} (hr : HR K fa μ h H) (sr : SR K fa μ H ρ σ) (p : PostS K fa ca μ H W D ((toT r).bindS ρ k))
    (hk : ∀ (b : Bool) (h1 : Hm) (μ1 : Mu) (H1 : Hp), toT r = .ok b h1 → Ext μ H μ1 H1 → HR K fa μ1 h1 H1 → SR K fa μ1 H1 ρ σ → PostS K fa ca μ1 H1 W D (k b h1) → Q' b H1) : PostR K fa ca EqV μ H σ W Q' (toT r) :=
  p.first hr sr fun v h1 μ1 H1 x e1 e2 e3 e4 e5 p1 => by
    have e5 : v = x := e5
    subst e5
    exact hk v h1 μ1 H1 e1 e2 e3 e4 p1
theorem whRun_eq {cond : SE} {body : SS} {n : Nat} : whRun cond body (n + 1) ρ h = (toT (cond ρ h)).bindS ρ fun b h1 => (match b with
    | true => (match body ρ h1 with
      | .nx ρ2 h2 => whRun cond body n ρ2 h2
      | .ct ρ2 h2 => whRun cond body n ρ2 h2
      | .brk ρ2 h2 => .nx ρ2 h2
      | .ret v h2 => .ret v h2
      | .exc c ρ2 h2 => .exc c ρ2 h2
      | .bad => .bad)
    | false => .nx ρ h1) := by
  show (match cond ρ h with
    | .ok (.bl true) h1 => _
    | .ok (.bl false) h1 => _
    | .exc c h1 => _
    | _ => RS.bad) = _
  cases e : cond ρ h with
  | ok v h1 => cases v <;> first | rfl | (rename_i b; cases b <;> rfl)
  | exc c h1 => rfl
  | bad => rfl
theorem while_run {cond : SE} {body : SS} {D : Ends} :
    ∃ Wl : Nat → L2.St → Hp → Prop, (∀ {μ : Mu} {H : Hp} {h : Hm} {ρ : Rho} {σ : L2.St} {n : Nat}, HR K fa μ h H → SR K fa μ H ρ σ → PostS K fa ca μ H W D (whRun cond body n ρ h) → ∃ m, Wl m σ H) ∧
      ∀ m σ H, Wl m σ H → TTo K fa ca W cond σ H fun b H1 => if b = true then ∃ N : L2.St → Hp → Prop, (∀ σ' H', N σ' H' → ∃ m', m' < m ∧ Wl m' σ' H') ∧ TSo K fa ca W body { D with nx := N, ct := N, bk := D.nx } σ H1 else D.nx σ H1 := by
  refine ⟨fun m σ H => ∃ (μ : Mu) (h : Hm) (ρ : Rho), HR K fa μ h H ∧ SR K fa μ H ρ σ ∧ PostS K fa ca μ H W D (whRun cond body m ρ h), fun hr sr p => ⟨_, _, _, _, hr, sr, p⟩, ?_⟩
  rintro m σ H ⟨μ, h, ρ, hr, sr, p⟩
  cases m with
  | zero => exact no p
  | succ m =>
    rw [whRun_eq] at p
    refine ⟨μ, ρ, h, hr, sr, p.test hr sr fun b h1 μ1 H1 _ ex hr1 sr1 p1 => ?_⟩
    cases b with
    | false => exact p1 μ1 H1 σ .refl hr1 sr1
    | true =>
      refine ⟨fun σ' H' => ∃ (μ' : Mu) (h' : Hm) (ρ' : Rho), HR K fa μ' h' H' ∧ SR K fa μ' H' ρ' σ' ∧ PostS K fa ca μ' H' W D (whRun cond body m ρ' h'), fun σ' H' q => ⟨m, Nat.lt_succ_self _, q⟩, μ1, ρ, h1, hr1, sr1, ?_⟩
      dsimp only at p1
      cases e3 : body ρ h1 with
      | bad => rw [e3] at p1; exact no p1
      | nx ρ2 h2 => rw [e3] at p1; exact fun μ' H2 σ' x2 hr2 sr2 => ⟨μ', h2, ρ2, hr2, sr2, PostS.step x2 p1⟩
      | ct ρ2 h2 => rw [e3] at p1; exact fun μ' H2 σ' x2 hr2 sr2 => ⟨μ', h2, ρ2, hr2, sr2, PostS.step x2 p1⟩
      | brk ρ2 h2 => rw [e3] at p1; exact p1
      | ret v2 h2 => rw [e3] at p1; exact p1
      | exc c ρ2 h2 => rw [e3] at p1; exact p1
abbrev W0 : WX := fun _ _ _ _ => False
theorem tgSlots_all {t : Tg} {own : List Nat} (h : (tgSlots t).all (fun i => own.contains i) = true) : ∀ i ∈ tgSlots t, i ∈ own := fun i hi => by
  have := List.all_eq_true.mp h i hi
  simpa using this
theorem notTup_lst {D : Addr} {acc : List V} (e : H D = some (.lst acc)) : ∀ vs, ¬ Rd H D (.tup vs) := fun vs r => by
  rcases r with r | ⟨u, r⟩ <;> (rw [e] at r; cases r)
theorem lc_run {tg : Tg} {cond elt : SE} {own : List Nat} {J : It} {D : Addr} {Q : VK} {μ0 : Mu} {H0 : Hp} (hD : H0 D = none) (hown : ∀ i ∈ tgSlots tg, i ∈ own) {j : IT} {h0 : Hm} {n0 : Nat} (hr0 : HR K fa μ0 h0 H0) (sr0 : SR K fa μ0 H0 ρ σ) (ir0 : ITR K fa μ0 H0 j J 0)
    (p : PostR K fa ca (VR K fa) μ0 H0 σ W Q (fitL (lcRun (tgt tg) cond elt (wipeM ρ own) n0 j h0))) :
    ∃ Wl : Nat → Nat → Hp → Prop, (∃ m, Wl 0 m (upd H0 D (.lst []))) ∧ ∀ i m H, Wl i m H →
      (J.stop i H ∧ Q (.ref D) H) ∨ (J.go i H ∧ ∃ Nx : Hp → Prop, (∀ H', Nx H' → ∃ m', m' < m ∧ Wl (i + 1) m' H') ∧ ∀ x H', J.yld i H x H' → rawG K tg x (wipe σ own) H' fun σ2 H2 => wipe σ2 own = wipe σ own ∧ TTo K fa ca W0 cond σ2 H2 fun b H3 =>
        if b = true then TEo K fa ca W0 elt σ2 H3 fun y H4 => ∃ acc, H4 D = some (.lst acc) ∧ acc.length < sizeLine ∧ Nx (upd H4 D (.lst (acc ++ [y]))) else Nx H3) := by
  refine ⟨fun i m H => ∃ (μ : Mu) (h : Hm) (it : IT) (accV : List V) (accM : List MV), HR K fa μ h H ∧ D ∉ μ ∧ H D = some (.lst accV) ∧ VRs K fa μ H accM accV ∧ SR K fa μ H (wipeM ρ own) (wipe σ own) ∧ ITR K fa μ H it J i ∧ Ext μ0 H0 μ H ∧
    ∃ (vs : List MV) (h2 : Hm), lcRun (tgt tg) cond elt (wipeM ρ own) m it h = .ok vs h2 ∧ fits (accM ++ vs) = true ∧ PostR K fa ca (VR K fa) μ0 H0 σ W Q (newL (accM ++ vs) h2), ?_, ?_⟩
  · -- at the start
    cases e : lcRun (tgt tg) cond elt (wipeM ρ own) n0 j h0 with
    | exc c h1 => rw [e] at p; exact no p
    | bad => rw [e] at p; exact no p
    | ok vs h2 =>
      rw [e] at p
      have p' : PostR K fa ca (VR K fa) μ0 H0 σ W Q (match fits vs with
        | true => newL vs h2
        | false => .bad) := p
      cases ef : fits vs with
      | false => rw [ef] at p'; exact no p'
      | true =>
        rw [ef] at p'
        exact ⟨n0, μ0, h0, j, [], [], hr0.laid hD, hr0.fresh hD, upd_same, .nil, (sr0.wipe own).ext hr0.noTup (.laid hD), ir0.ext hr0.noTup (.laid hD), .laid hD, vs, h2, e, ef, p'⟩
  · rintro i m H ⟨μ, h, it, accV, accM, hr, nD, eD, racc, sr, ir, ex, vs, h2, e, ef, pf⟩
    cases m with
    | zero => cases e
    | succ m =>
      have e' : (match stepI it h with
        | .stop => .ok [] h
        | .bad => .bad
        | .item x it' => (match tgt tg x (wipeM ρ own) with
          | none => .bad
          | some ρ1 => (match cond ρ1 h with
            | .ok (.bl true) h1 => (match elt ρ1 h1 with
              | .ok v h2 => (match lcRun (tgt tg) cond elt (wipeM ρ own) m it' h2 with
                | .ok vs h3 => .ok (v :: vs) h3
                | _ => .bad)
              | _ => .bad)
            | .ok (.bl false) h1 => lcRun (tgt tg) cond elt (wipeM ρ own) m it' h1
            | _ => .bad))) = R.ok vs h2 := e
      cases e1 : stepI it h with
      | bad => rw [e1] at e'; cases e'
      | stop =>
        rw [e1] at e'
        cases e'
        refine .inl ⟨step_stop hr ir e1, ?_⟩
        rw [List.append_nil] at pf
        have hr2 := hr.take nD (m := .lst accM) ⟨accV, eD, racc⟩
        refine pf (μ ++ [D]) H (.ref D) ⟨fun n a q => ?_, fun a ha => ?_, ex.keep⟩ hr2 (.lref ?_)
        · have q2 := ex.pre n a q
          rw [List.getElem?_append_left (by exact (List.getElem?_eq_some_iff.mp q2).1)]; exact q2
        · rcases List.mem_append.mp ha with z | z
          · exact ex.new a z
          · have : a = D := by simpa using z
            rw [this]; exact .inr hD
        · rw [← hr.len]; simp
      | item x it' =>
        rw [e1] at e'
        dsimp only at e'
        obtain ⟨go, yl⟩ := step_item hr ir e1
        cases e2 : tgt tg x (wipeM ρ own) with
        | none => rw [e2] at e'; cases e'
        | some ρ1 =>
          rw [e2] at e'
          dsimp only at e'
          refine .inr ⟨go, fun H' => ∃ (μ' : Mu) (h' : Hm) (accV : List V) (accM : List MV), HR K fa μ' h' H' ∧ D ∉ μ' ∧ H' D = some (.lst accV) ∧ VRs K fa μ' H' accM accV ∧ SR K fa μ' H' (wipeM ρ own) (wipe σ own) ∧ ITR K fa μ' H' it' J (i + 1) ∧ Ext μ0 H0 μ' H' ∧
            ∃ (vs : List MV) (h2 : Hm), lcRun (tgt tg) cond elt (wipeM ρ own) m it' h' = .ok vs h2 ∧ fits (accM ++ vs) = true ∧ PostR K fa ca (VR K fa) μ0 H0 σ W Q (newL (accM ++ vs) h2), fun H' q => ?_, fun v H' y => ?_⟩
          · obtain ⟨μ', h', a1, a2, q⟩ := q
            exact ⟨m, Nat.lt_succ_self _, μ', h', it', a1, a2, q⟩
          · obtain ⟨ex1, hr1, vr, ir1⟩ := yl v H' y
            have sr1 := sr.ext hr.noTup ex1
            have eD1 : H' D = some (.lst accV) := ex1.keep _ _ eD nD
            have racc1 := racc.ext hr.noTup ex1
            obtain ⟨σ1, g1, g2, g3⟩ := tgt_run hr1 tg vr sr1 e2
            have g4 : wipe σ1 own = wipe σ own := by
              rw [g3 own hown]
              have idem : ∀ ws : List Nat, (∀ i ∈ ws, i ∈ own) → wipe (wipe σ own) ws = wipe σ own := by
                intro ws
                induction ws with
                | nil => intro _; rfl
                | cons w ws ih =>
                  intro hw
                  show (wipe (wipe σ own) ws).set w none = wipe σ own
                  rw [ih fun i hi => hw i (List.mem_cons_of_mem _ hi)]
                  apply List.ext_getElem?
                  intro j
                  by_cases ej : w = j
                  · subst ej
                    by_cases hl : w < (wipe σ own).length
                    · rw [List.getElem?_set_self hl]
                      cases q : (wipe σ own)[w]? with
                      | none => exact absurd (List.getElem?_eq_none_iff.mp q) (by omega)
                      | some o =>
                        cases o with
                        | none => rfl
                        | some z => exact absurd (hw w List.mem_cons_self) (wipe_some q).2
                    · rw [List.getElem?_eq_none (by simpa using hl), List.getElem?_eq_none (by simpa using hl)]
                  · rw [List.getElem?_set_ne ej]
              exact idem own fun _ z => z
            have ex01 := ex.trans ex1
            refine g1 _ ⟨g4, μ, ρ1, h, hr1, g2, ?_⟩
            cases e3 : cond ρ1 h with
            | exc c h1 => rw [e3] at e'; cases e'
            | bad => rw [e3] at e'; cases e'
            | ok b h1 =>
              rw [e3] at e'
              cases b with
              | bl b =>
                intro μ2 H2 b2 ex2 hr2 eb
                have eb : b = b2 := eb
                subst eb
                have nD1 : D ∉ μ2 := fun z => by
                  rcases ex2.new D z with q | q
                  · exact nD q
                  · rw [eD1] at q; cases q
                have eD2 : H2 D = some (.lst accV) := ex2.keep _ _ eD1 nD
                have racc2 := racc1.ext hr1.noTup ex2
                have sr2 := sr1.ext hr1.noTup ex2
                have ir2 := ir1.ext hr1.noTup ex2
                have ex02 := ex01.trans ex2
                cases b with
                | false => exact ⟨μ2, h1, accV, accM, hr2, nD1, eD2, racc2, sr2, ir2, ex02, vs, h2, e', ef, pf⟩
                | true =>
                  refine ⟨μ2, ρ1, h1, hr2, g2.ext hr1.noTup ex2, ?_⟩
                  dsimp only at e'
                  cases e4 : elt ρ1 h1 with
                  | exc c h3 => rw [e4] at e'; cases e'
                  | bad => rw [e4] at e'; cases e'
                  | ok w h3 =>
                    rw [e4] at e'
                    dsimp only at e'
                    intro μ3 H3 y3 ex3 hr3 vr3
                    have nD2 : D ∉ μ3 := fun z => by
                      rcases ex3.new D z with q | q
                      · exact nD1 q
                      · rw [eD2] at q; cases q
                    have eD3 : H3 D = some (.lst accV) := ex3.keep _ _ eD2 nD1
                    have nt := notTup_lst eD3
                    have racc3 := racc2.ext hr2.noTup ex3
                    have sr3 := sr2.ext hr2.noTup ex3
                    have ir3 := ir2.ext hr2.noTup ex3
                    have ex03 := ex02.trans ex3
                    cases e5 : lcRun (tgt tg) cond elt (wipeM ρ own) m it' h3 with
                    | exc c h4 => rw [e5] at e'; cases e'
                    | bad => rw [e5] at e'; cases e'
                    | ok ws h4 =>
                      rw [e5] at e'
                      cases e'
                      have lacc : accV.length < sizeLine := by
                        have z := fits_le ef
                        rw [List.length_append, racc.length] at z
                        exact cap_line (by simp at z; omega)
                      have eapp : accM ++ w :: ws = (accM ++ [w]) ++ ws := by simp
                      rw [eapp] at ef pf
                      have one : ∀ {x : MV} {v : V}, VR K fa μ3 H3 x v → VR K fa μ3 (upd H3 D (.lst (accV ++ [y3]))) x v := fun r => VR.mono (fun _ _ z => z) (fun _ _ s => SqT.off nt s) r
                      have many : ∀ {x : List MV} {v : List V}, VRs K fa μ3 H3 x v → VRs K fa μ3 (upd H3 D (.lst (accV ++ [y3]))) x v := fun r => VRs.mono (fun _ _ z => z) (fun _ _ s => SqT.off nt s) r
                      exact ⟨accV, eD3, lacc, μ3, h3, accV ++ [y3], accM ++ [w], hr3.off nD2 nt, nD2, upd_same, (many racc3).append (.cons (one vr3) .nil), sr3.mono (fun _ _ z => z) (fun _ _ s => SqT.off nt s), ir3.mono (fun _ _ z => z) (fun _ _ s => SqT.off nt s), ex03.off hD, ws, _, e5, ef, pf⟩
              | _ => cases e'
end
end Mi
namespace Mi
open PySem PySem.Spec PyProof.Rows L2
section
variable {K : PySem.W.Frag} {fa : FA} {ca : Nat → Addr} {μ μ1 : Mu} {H H1 : Hp} {σ : L2.St} {W : WX} {ρ : Rho} {h : Hm} {X : Cx}
theorem wipe_idem (own : List Nat) : ∀ ws : List Nat, (∀ i ∈ ws, i ∈ own) → wipe (wipe σ own) ws = wipe σ own
  | [], _ => rfl
  | w :: ws, hw => by
    show (wipe (wipe σ own) ws).set w none = wipe σ own
    rw [wipe_idem own ws fun i hi => hw i (List.mem_cons_of_mem _ hi)]
    apply List.ext_getElem?
    intro j
    by_cases ej : w = j
    · subst ej
      by_cases hl : w < (wipe σ own).length
      · rw [List.getElem?_set_self hl]
        cases q : (wipe σ own)[w]? with
        | none => exact absurd (List.getElem?_eq_none_iff.mp q) (by omega)
        | some o =>
          cases o with
          | none => rfl
          | some z => exact absurd (hw w List.mem_cons_self) (wipe_some q).2
      · rw [List.getElem?_eq_none (by simpa using hl), List.getElem?_eq_none (by simpa using hl)]
    · rw [List.getElem?_set_ne ej]
structure Acc (K : PySem.W.Frag) (fa : FA) (ca : Nat → Addr) (σ : L2.St) (W : WX) (Q : VK) (μ0 : Mu) (H0 : Hp) (D : Addr) (μ : Mu) (H : Hp) (h : Hm) (accM : List MV) (accV : List V) (r : RL) : Prop where
  hr : HR K fa μ h H
  nD : D ∉ μ
  eD : H D = some (.lst accV)
  acc : VRs K fa μ H accM accV
  ex : Ext μ0 H0 μ H
  rest : ∃ (vs : List MV) (h2 : Hm), r = .ok vs h2 ∧ fits (accM ++ vs) = true ∧ PostR K fa ca (VR K fa) μ0 H0 σ W Q (newL (accM ++ vs) h2)
theorem Acc.step {Q : VK} {μ0 : Mu} {H0 : Hp} {D : Addr} {accM : List MV} {accV : List V} {r : RL} {h1 : Hm} (a : Acc K fa ca σ W Q μ0 H0 D μ H h accM accV r) (ex1 : Ext μ H μ1 H1) (hr1 : HR K fa μ1 h1 H1) : Acc K fa ca σ W Q μ0 H0 D μ1 H1 h1 accM accV r where
  hr := hr1
  nD := fun z => by
    rcases ex1.new D z with q | q
    · exact a.nD q
    · rw [a.eD] at q; cases q
  eD := ex1.keep _ _ a.eD a.nD
  acc := a.acc.ext a.hr.noTup ex1
  ex := a.ex.trans ex1
  rest := a.rest
theorem Acc.done {Q : VK} {μ0 : Mu} {H0 : Hp} {D : Addr} {accM : List MV} {accV : List V} (hD : H0 D = none) (a : Acc K fa ca σ W Q μ0 H0 D μ H h accM accV (.ok [] h)) : Q (.ref D) H := by
  obtain ⟨vs, h2, e, ef, pf⟩ := a.rest
  cases e
  rw [List.append_nil] at pf
  have hr2 := a.hr.take a.nD (m := .lst accM) ⟨accV, a.eD, a.acc⟩
  refine pf (μ ++ [D]) H (.ref D) ⟨fun n b q => ?_, fun b hb => ?_, a.ex.keep⟩ hr2 (.lref ?_)
  · have q2 := a.ex.pre n b q
    rw [List.getElem?_append_left (by exact (List.getElem?_eq_some_iff.mp q2).1)]; exact q2
  · rcases List.mem_append.mp hb with z | z
    · exact a.ex.new b z
    · have : b = D := by simpa using z
      rw [this]; exact .inr hD
  · rw [← a.hr.len]; simp
theorem Acc.more {Q : VK} {μ0 : Mu} {H0 : Hp} {D : Addr} {accM : List MV} {accV : List V} {w : MV} {y : V} {r : RL} (hD : H0 D = none) (a : Acc K fa ca σ W Q μ0 H0 D μ H h accM accV (match r with
    | .ok ws h4 => .ok (w :: ws) h4
    | _ => .bad)) (wr : VR K fa μ H w y) : accV.length < sizeLine ∧ Acc K fa ca σ W Q μ0 H0 D μ (upd H D (.lst (accV ++ [y]))) h (accM ++ [w]) (accV ++ [y]) r := by
  obtain ⟨vs, h2, e, ef, pf⟩ := a.rest
  cases r with
  | exc c h4 => cases e
  | bad => cases e
  | ok ws h4 =>
    cases e
    have nt := notTup_lst a.eD
    have lacc : accV.length < sizeLine := by
      have z := fits_le ef
      rw [List.length_append, a.acc.length] at z
      exact cap_line (by simp at z; omega)
    have eapp : accM ++ w :: ws = (accM ++ [w]) ++ ws := by simp
    rw [eapp] at ef pf
    have P : ∀ (n : Nat) (b : Addr), μ[n]? = some b → μ[n]? = some b := fun _ _ z => z
    have T : ∀ u us, SqT K H u us → SqT K (upd H D (.lst (accV ++ [y]))) u us := fun _ _ s => SqT.off nt s
    exact ⟨lacc, a.hr.off a.nD nt, a.nD, upd_same, (VRs.mono P T a.acc).append (.cons (VR.mono P T wr) .nil), a.ex.off hD, ws, _, rfl, ef, pf⟩
abbrev tru1 : SE := fun _ h => .ok (.bl true) h
theorem lc2_run {tg tg2 : Tg} {it2 : SI} {elt : SE} {own own2 : List Nat} {J : It} {D : Addr} {Q : VK} {μ0 : Mu} {H0 : Hp} (hD : H0 D = none) (hown : ∀ i ∈ tgSlots tg, i ∈ own) (hown2 : ∀ i ∈ tgSlots tg2, i ∈ own2) {j : IT} {h0 : Hm} {n0 : Nat} (hr0 : HR K fa μ0 h0 H0) (sr0 : SR K fa μ0 H0 ρ σ) (ir0 : ITR K fa μ0 H0 j J 0)
    (p : PostR K fa ca (VR K fa) μ0 H0 σ W Q (fitL (lcRun2 (tgt tg) it2 (tgt tg2) elt own2 (wipeM ρ own) n0 j h0))) :
    ∃ Wl : Nat → Nat → Hp → Prop, (∃ m, Wl 0 m (upd H0 D (.lst []))) ∧ ∀ i m H, Wl i m H →
      (J.stop i H ∧ Q (.ref D) H) ∨ (J.go i H ∧ ∃ Nx : Hp → Prop, (∀ H', Nx H' → ∃ m', m' < m ∧ Wl (i + 1) m' H') ∧ ∀ x H', J.yld i H x H' → rawG K tg x (wipe σ own) H' fun σ2 H2 => wipe σ2 own = wipe σ own ∧ TTo K fa ca W0 tru1 σ2 H2 fun b H3 =>
        if b = true then TIo K fa ca W0 it2 σ2 H3 fun J1 H4 => ∃ W1 : Nat → Nat → Hp → Prop, (∃ m, W1 0 m H4) ∧ ∀ j k H, W1 j k H →
          (J1.stop j H ∧ Nx H) ∨ (J1.go j H ∧ ∃ Nx1 : Hp → Prop, (∀ H', Nx1 H' → ∃ k', k' < k ∧ W1 (j + 1) k' H') ∧ ∀ x H', J1.yld j H x H' → rawG K tg2 x (wipe σ2 own2) H' fun σ3 H5 => wipe σ3 own2 = wipe σ2 own2 ∧ TTo K fa ca W0 tru1 σ3 H5 fun b H6 =>
            if b = true then TEo K fa ca W0 elt σ3 H6 fun y H7 => ∃ acc, H7 D = some (.lst acc) ∧ acc.length < sizeLine ∧ Nx1 (upd H7 D (.lst (acc ++ [y]))) else Nx1 H6)
        else Nx H3) := by
  refine ⟨fun i m H => ∃ (μ : Mu) (h : Hm) (it : IT) (accV : List V) (accM : List MV), Acc K fa ca σ W Q μ0 H0 D μ H h accM accV (lcRun2 (tgt tg) it2 (tgt tg2) elt own2 (wipeM ρ own) m it h) ∧ SR K fa μ H (wipeM ρ own) (wipe σ own) ∧ ITR K fa μ H it J i, ?_, ?_⟩
  · cases e : lcRun2 (tgt tg) it2 (tgt tg2) elt own2 (wipeM ρ own) n0 j h0 with
    | exc c h1 => rw [e] at p; exact no p
    | bad => rw [e] at p; exact no p
    | ok vs h2 =>
      rw [e] at p
      have p' : PostR K fa ca (VR K fa) μ0 H0 σ W Q (match fits vs with
        | true => newL vs h2
        | false => .bad) := p
      cases ef : fits vs with
      | false => rw [ef] at p'; exact no p'
      | true =>
        rw [ef] at p'
        exact ⟨n0, μ0, h0, j, [], [], ⟨hr0.laid hD, hr0.fresh hD, upd_same, .nil, .laid hD, vs, h2, e, ef, p'⟩, (sr0.wipe own).ext hr0.noTup (.laid hD), ir0.ext hr0.noTup (.laid hD)⟩
  · rintro i m H ⟨μ, h, it, accV, accM, a, sr, ir⟩
    cases m with
    | zero => obtain ⟨vs, h2, e, _⟩ := a.rest; cases e
    | succ m =>
      have a' : Acc K fa ca σ W Q μ0 H0 D μ H h accM accV (match stepI it h with
        | .stop => .ok [] h
        | .bad => .bad
        | .item x it' => (match tgt tg x (wipeM ρ own) with
          | none => .bad
          | some ρ1 => (match it2 ρ1 h with
            | .ok j h1 => lcIn (tgt tg2) elt (wipeM ρ1 own2) (lcRun2 (tgt tg) it2 (tgt tg2) elt own2 (wipeM ρ own) m it') fuel j h1
            | _ => .bad))) := a
      cases e1 : stepI it h with
      | bad => rw [e1] at a'; obtain ⟨vs, h2, e, _⟩ := a'.rest; cases e
      | stop =>
        rw [e1] at a'
        exact .inl ⟨step_stop a.hr ir e1, a'.done hD⟩
      | item x it' =>
        rw [e1] at a'
        dsimp only at a'
        obtain ⟨go, yl⟩ := step_item a.hr ir e1
        cases e2 : tgt tg x (wipeM ρ own) with
        | none => rw [e2] at a'; obtain ⟨vs, h2, e, _⟩ := a'.rest; cases e
        | some ρ1 =>
          rw [e2] at a'
          dsimp only at a'
          refine .inr ⟨go, fun H' => ∃ (μ' : Mu) (h' : Hm) (accV : List V) (accM : List MV), Acc K fa ca σ W Q μ0 H0 D μ' H' h' accM accV (lcRun2 (tgt tg) it2 (tgt tg2) elt own2 (wipeM ρ own) m it' h') ∧ SR K fa μ' H' (wipeM ρ own) (wipe σ own) ∧ ITR K fa μ' H' it' J (i + 1), fun H' q => ?_, fun v H' y => ?_⟩
          · obtain ⟨μ', h', a1, a2, q⟩ := q
            exact ⟨m, Nat.lt_succ_self _, μ', h', it', a1, a2, q⟩
          · obtain ⟨ex1, hr1, vr, ir1⟩ := yl v H' y
            have sr1 := sr.ext a.hr.noTup ex1
            have a1 := a'.step ex1 hr1
            obtain ⟨σ1, g1, g2, g3⟩ := tgt_run hr1 tg vr sr1 e2
            have g4 : wipe σ1 own = wipe σ own := by rw [g3 own hown]; exact wipe_idem own own fun _ z => z
            refine g1 _ ⟨g4, μ, ρ1, h, hr1, g2, fun μ2 H2 b2 ex2 hr2 eb => ?_⟩
            obtain rfl : true = b2 := eb
            have sr2 := sr1.ext hr1.noTup ex2
            have g22 := g2.ext hr1.noTup ex2
            have ir2 := ir1.ext hr1.noTup ex2
            have a2 := a1.step ex2 hr2
            refine ⟨μ2, ρ1, h, hr2, g22, ?_⟩
            cases e3 : it2 ρ1 h with
            | exc c h1 => rw [e3] at a2; obtain ⟨vs, h2, e, _⟩ := a2.rest; cases e
            | bad => rw [e3] at a2; obtain ⟨vs, h2, e, _⟩ := a2.rest; cases e
            | ok j1 h1 =>
              rw [e3] at a2
              dsimp only at a2
              intro μ3 H3 J1 ex3 hr3 jr3
              have a3 := a2.step ex3 hr3
              refine ⟨fun jn k H => ∃ (μ : Mu) (h : Hm) (jt : IT) (accV : List V) (accM : List MV), Acc K fa ca σ W Q μ0 H0 D μ H h accM accV (lcIn (tgt tg2) elt (wipeM ρ1 own2) (lcRun2 (tgt tg) it2 (tgt tg2) elt own2 (wipeM ρ own) m it') k jt h) ∧ SR K fa μ H (wipeM ρ own) (wipe σ own) ∧ ITR K fa μ H it' J (i + 1) ∧ SR K fa μ H (wipeM ρ1 own2) (wipe σ1 own2) ∧ ITR K fa μ H jt J1 jn,
                ⟨fuel, μ3, h1, j1, accV, accM, a3, sr2.ext hr2.noTup ex3, ir2.ext hr2.noTup ex3, (g22.ext hr2.noTup ex3).wipe own2, jr3⟩, ?_⟩
              rintro jn k H4 ⟨μ4, h4, jt, accV4, accM4, a4, sr4, ir4, zr4, jr4⟩
              cases k with
              | zero => obtain ⟨vs, h2, e, _⟩ := a4.rest; cases e
              | succ k =>
                have a4' : Acc K fa ca σ W Q μ0 H0 D μ4 H4 h4 accM4 accV4 (match stepI jt h4 with
                  | .stop => lcRun2 (tgt tg) it2 (tgt tg2) elt own2 (wipeM ρ own) m it' h4
                  | .bad => .bad
                  | .item x jt' => (match tgt tg2 x (wipeM ρ1 own2) with
                    | none => .bad
                    | some ρ2 => (match elt ρ2 h4 with
                      | .ok v h2 => (match lcIn (tgt tg2) elt (wipeM ρ1 own2) (lcRun2 (tgt tg) it2 (tgt tg2) elt own2 (wipeM ρ own) m it') k jt' h2 with
                        | .ok vs h3 => .ok (v :: vs) h3
                        | _ => .bad)
                      | _ => .bad))) := a4
                cases f1 : stepI jt h4 with
                | bad => rw [f1] at a4'; obtain ⟨vs, h2, e, _⟩ := a4'.rest; cases e
                | stop =>
                  rw [f1] at a4'
                  exact .inl ⟨step_stop a4.hr jr4 f1, μ4, h4, accV4, accM4, a4', sr4, ir4⟩
                | item x2 jt' =>
                  rw [f1] at a4'
                  dsimp only at a4'
                  obtain ⟨go2, yl2⟩ := step_item a4.hr jr4 f1
                  cases f2 : tgt tg2 x2 (wipeM ρ1 own2) with
                  | none => rw [f2] at a4'; obtain ⟨vs, h2, e, _⟩ := a4'.rest; cases e
                  | some ρ2 =>
                    rw [f2] at a4'
                    dsimp only at a4'
                    refine .inr ⟨go2, fun H' => ∃ (μ : Mu) (h : Hm) (accV : List V) (accM : List MV), Acc K fa ca σ W Q μ0 H0 D μ H' h accM accV (lcIn (tgt tg2) elt (wipeM ρ1 own2) (lcRun2 (tgt tg) it2 (tgt tg2) elt own2 (wipeM ρ own) m it') k jt' h) ∧ SR K fa μ H' (wipeM ρ own) (wipe σ own) ∧ ITR K fa μ H' it' J (i + 1) ∧ SR K fa μ H' (wipeM ρ1 own2) (wipe σ1 own2) ∧ ITR K fa μ H' jt' J1 (jn + 1), fun H' q => ?_, fun v2 H5 y2 => ?_⟩
                    · obtain ⟨μ', h', b1, b2, q⟩ := q
                      exact ⟨k, Nat.lt_succ_self _, μ', h', jt', b1, b2, q⟩
                    · obtain ⟨ex5, hr5, vr5, jr5⟩ := yl2 v2 H5 y2
                      have a5 := a4'.step ex5 hr5
                      have sr5 := sr4.ext a4.hr.noTup ex5
                      have ir5 := ir4.ext a4.hr.noTup ex5
                      have zr5 := zr4.ext a4.hr.noTup ex5
                      obtain ⟨σ5, k1, k2, k3⟩ := tgt_run hr5 tg2 vr5 zr5 f2
                      have k4 : wipe σ5 own2 = wipe σ1 own2 := by rw [k3 own2 hown2]; exact wipe_idem own2 own2 fun _ z => z
                      refine k1 _ ⟨k4, μ4, ρ2, h4, hr5, k2, fun μ6 H6 b6 ex6 hr6 eb6 => ?_⟩
                      obtain rfl : true = b6 := eb6
                      have a6 := a5.step ex6 hr6
                      refine ⟨μ6, ρ2, h4, hr6, k2.ext hr5.noTup ex6, ?_⟩
                      cases f3 : elt ρ2 h4 with
                      | exc c h7 => rw [f3] at a6; obtain ⟨vs, h2, e, _⟩ := a6.rest; cases e
                      | bad => rw [f3] at a6; obtain ⟨vs, h2, e, _⟩ := a6.rest; cases e
                      | ok w h7 =>
                        rw [f3] at a6
                        dsimp only at a6
                        intro μ7 H7 y7 ex7 hr7 vr7
                        have a7 := a6.step ex7 hr7
                        obtain ⟨lacc, a8⟩ := a7.more hD vr7
                        have nt := notTup_lst a7.eD
                        have P : ∀ (n : Nat) (b : Addr), μ7[n]? = some b → μ7[n]? = some b := fun _ _ z => z
                        have T : ∀ u us, SqT K H7 u us → SqT K (upd H7 D (.lst (accV4 ++ [y7]))) u us := fun _ _ s => SqT.off nt s
                        exact ⟨accV4, a7.eD, lacc, μ7, h7, _, _, a8, ((sr5.ext hr5.noTup ex6).ext hr6.noTup ex7).mono P T, ((ir5.ext hr5.noTup ex6).ext hr6.noTup ex7).mono P T, ((zr5.ext hr5.noTup ex6).ext hr6.noTup ex7).mono P T, ((jr5.ext hr5.noTup ex6).ext hr6.noTup ex7).mono P T⟩
end
end Mi
namespace Mi
open PySem PySem.Spec PyProof.Rows L2
section
variable {K : PySem.W.Frag} {fa : FA} {ca : Nat → Addr} {μ μ1 μ2 : Mu} {H H1 : Hp} {σ : L2.St} {W : WX} {ρ : Rho} {h h' : Hm} {X : Cx}
mutual
theorem VR.pure {x : MV} {v : V} : VR K fa μ H x v → 1 ≤ rk x → VR K fa μ1 H x v
  | .opq v, h => absurd h (by show ¬ 1 ≤ 0; omega)
  | .non, _ => .non
  | .bl b, _ => .bl b
  | .int i, _ => .int i
  | .str x, _ => .str x
  | .fn _, h => absurd h (by show ¬ 1 ≤ 0; omega)
  | .lref _, h => absurd h (by show ¬ 1 ≤ 0; omega)
  | .tup (d := d) s r k, h => .tup s (VRs.pure r (by
      have h : 1 ≤ d := h
      rcases k with k | ⟨_, _, k⟩
      · omega
      · exact fun x hx => (k x hx).1)) k
theorem VRs.pure {xs : List MV} {vs : List V} : VRs K fa μ H xs vs → (∀ x ∈ xs, 1 ≤ rk x) → VRs K fa μ1 H xs vs
  | .nil, _ => .nil
  | .cons r t, h => .cons (VR.pure r (h _ List.mem_cons_self)) (VRs.pure t fun x hx => h x (List.mem_cons_of_mem _ hx))
end
theorem isP_rk {x : MV} (h : isP x = true) : 1 ≤ rk x := Nat.le_of_ble_eq_true h
theorem rk_sh (n : Nat) (x : MV) : rk (shV n x) = rk x := by cases x <;> rfl
theorem shL_map (n : Nat) : ∀ xs : List MV, shL n xs = xs.map (shV n)
  | [] => rfl
  | x :: xs => congrArg (shV n x :: ·) (shL_map n xs)
theorem rkOk_sh {n d : Nat} {xs : List MV} (k : RkOk d xs) : RkOk d (shL n xs) := by
  rcases k with k | ⟨k1, k2, k3⟩
  · exact .inl k
  · refine .inr ⟨k1, k2, fun x hx => ?_⟩
    rw [shL_map] at hx
    obtain ⟨y, hy, rfl⟩ := List.mem_map.mp hx
    rw [rk_sh]; exact k3 y hy
mutual
theorem VR.shift (μ : Mu) {x : MV} {v : V} : VR K fa μ1 H x v → VR K fa (μ ++ μ1) H (shV μ.length x) v
  | .opq v => .opq v
  | .non => .non
  | .bl b => .bl b
  | .int i => .int i
  | .str x => .str x
  | .fn h => .fn h
  | .lref (n := n) h => .lref (by rw [List.getElem?_append_right (Nat.le_add_right _ _)]; simpa using h)
  | .tup s r k => .tup s (VRs.shift μ r) (rkOk_sh k)
theorem VRs.shift (μ : Mu) {xs : List MV} {vs : List V} : VRs K fa μ1 H xs vs → VRs K fa (μ ++ μ1) H (shL μ.length xs) vs
  | .nil => .nil
  | .cons r t => .cons (VR.shift μ r) (VRs.shift μ t)
end
theorem OR.shift (μ : Mu) {a : Addr} {o : MO} (x : OR K fa μ1 H a o) : OR K fa (μ ++ μ1) H a (shO μ.length o) := by
  cases o with
  | lst xs => obtain ⟨vs, e, r⟩ := x; exact ⟨vs, e, r.shift μ⟩
  | ro xs => obtain ⟨vs, e, r⟩ := x; exact ⟨vs, e, r.shift μ⟩
  | dic kvs =>
    obtain ⟨kws, e, r⟩ := x
    refine ⟨kws, e, ?_⟩
    have key : ∀ {kvs : List (Int × MV)} {kws : List (Key × V)}, Paired (fun (p : Int × MV) (q : Key × V) => q.1 = Sum.inl p.1 ∧ VR K fa μ1 H p.2 q.2) kvs kws → Paired (fun (p : Int × MV) (q : Key × V) => q.1 = Sum.inl p.1 ∧ VR K fa (μ ++ μ1) H p.2 q.2) (shK μ.length kvs) kws := by
      intro kvs kws q
      induction q with
      | nil => exact .nil
      | cons hd tl ih => exact .cons ⟨hd.1, hd.2.shift μ⟩ ih
    exact key r
theorem HR.both (x : HR K fa μ h H) (y : HR K fa μ1 h' H) (dj : ∀ a ∈ μ, a ∉ μ1) : HR K fa (μ ++ μ1) (h ++ h'.map (shO h.length)) H := by
  refine ⟨by simp [x.len, y.len], List.nodup_append.mpr ⟨x.nd, y.nd, fun a ha b hb e => dj a ha (by rw [e]; exact hb)⟩, fun n a o ha ho => ?_⟩
  by_cases hn : n < μ.length
  · rw [List.getElem?_append_left hn] at ha
    rw [List.getElem?_append_left (by rw [← x.len]; exact hn)] at ho
    exact (x.at_ n a o ha ho).mono (fun m b e => by rw [List.getElem?_append_left (by exact (List.getElem?_eq_some_iff.mp e).1)]; exact e) (fun _ _ s => s) rfl
  · rw [List.getElem?_append_right (by omega)] at ha
    rw [List.getElem?_append_right (by rw [← x.len]; omega), List.getElem?_map] at ho
    cases q : h'[n - h.length]? with
    | none => rw [q] at ho; cases ho
    | some u =>
      rw [q] at ho
      cases ho
      rw [← x.len]
      exact (y.at_ (n - μ.length) a u ha (by rw [x.len]; exact q)).shift μ
theorem HR.nil : HR K fa [] [] H := ⟨rfl, List.nodup_nil, fun n a o e => by simp at e⟩
theorem HR.beside (x : HR K fa μ h H) (e : Ext [] H μ1 H1) : HR K fa μ h H1 :=
  ⟨x.len, x.nd, fun n a o ha ho => (x.at_ n a o ha ho).mono (fun _ _ z => z) (fun _ _ s => SqT.ext (μ := []) (fun _ hb => absurd hb (by simp)) e s) (by
    cases q : H a with
    | none => exact absurd q (x.tracked (List.mem_of_getElem? ha))
    | some u => exact e.keep a u q (by simp))⟩
def spOf (K : PySem.W.Frag) (fa : FA) (ca : Nat → Addr) (cf : CF) (np f : Nat) : Sp := fun vs H Q E => ∃ (μ : Mu) (h : Hm) (ms : List MV), HR K fa μ h H ∧ VRs K fa μ H ms vs ∧ ms.length = np ∧ PostR K fa ca (VR K fa) μ H [] (fun cls d _ H' => E cls d H') Q (cf f ms h)
theorem call_ok0 {cf : CF} {f np : Nat} {ms : List MV} {vs : List V} {Q : VK} (hr : HR K fa μ h H) (r : VRs K fa μ H ms vs) (hl : ms.length = np) (p : PostR K fa ca (VR K fa) μ H σ W Q (doCall cf f ms h)) : spOf K fa ca cf np f vs H Q (WE W σ) := by
  have p' : PostR K fa ca (VR K fa) μ H σ W Q (match ms.all isP with
    | true => (match cf f ms [] with
      | .ok v h' => (match isP v with
        | true => .ok v h
        | false => .ok (shV h.length v) (h ++ h'.map (shO h.length)))
      | .exc c _ => .exc c h
      | .bad => .bad)
    | false => cf f ms h) := p
  cases e : ms.all isP with
  | false =>
    rw [e] at p'
    refine ⟨μ, h, ms, hr, r, hl, ?_⟩
    dsimp only at p'
    cases q : cf f ms h with
    | ok v h1 => rw [q] at p'; exact p'
    | exc c h1 => rw [q] at p'; exact p'
    | bad => rw [q] at p'; exact p'
  | true =>
    rw [e] at p'
    dsimp only at p'
    have pure := List.all_eq_true.mp e
    refine ⟨[], [], ms, HR.nil, r.pure fun x hx => isP_rk (pure x hx), hl, ?_⟩
    cases q : cf f ms [] with
    | bad => rw [q] at p'; exact p'
    | exc c h1 =>
      rw [q] at p'
      intro μ' H' ex hr'
      exact p' μ H' ⟨fun _ _ z => z, fun _ z => .inl z, fun a o z _ => ex.keep a o z (by simp)⟩ (hr.beside ex)
    | ok v h1 =>
      rw [q] at p'
      dsimp only at p'
      intro μ' H' x ex hr' vr
      cases eP : isP v with
      | true =>
        rw [eP] at p'
        exact p' μ H' x ⟨fun _ _ z => z, fun _ z => .inl z, fun a o z _ => ex.keep a o z (by simp)⟩ (hr.beside ex) (vr.pure (isP_rk eP))
      | false =>
        rw [eP] at p'
        have dj : ∀ a ∈ μ, a ∉ μ' := fun a ha hb => by
          rcases ex.new a hb with z | z
          · simp at z
          · exact hr.tracked ha z
        refine p' (μ ++ μ') H' x ⟨fun n a z => by rw [List.getElem?_append_left (by exact (List.getElem?_eq_some_iff.mp z).1)]; exact z, fun a ha => ?_, fun a o z _ => ex.keep a o z (by simp)⟩ ((hr.beside ex).both hr' dj) (by rw [← hr.len]; exact vr.shift μ)
        rcases List.mem_append.mp ha with z | z
        · exact .inl z
        · rcases ex.new a z with w | w
          · simp at w
          · exact .inr w
theorem call_len {cf : CF} {f np : Nat} {ms : List MV} {Q : VK} (ar : ∀ (ms : List MV) (h : Hm), ms.length ≠ np → cf f ms h = .bad) (p : PostR K fa ca (VR K fa) μ H σ W Q (doCall cf f ms h)) : ms.length = np := by
  by_cases hl : ms.length = np
  · exact hl
  · refine no ?_
    unfold doCall at p
    rw [ar ms [] hl, ar ms h hl] at p
    cases e : ms.all isP <;> (rw [e] at p; exact p)
def permV (vs : List Value) (pm : List Nat) : List Value := pm.map fun i => vs.getD i Value.none
structure FnH (X : Cx) (lvl : Nat) (cf : CF) (fa : FA) (ca : Nat → Addr) (kp : List KPat) (f : Nat) (x : Str) (ps : List Str) : Prop where
  ar : ∀ (ms : List MV) (h : Hm), ms.length ≠ ps.length → cf f ms h = .bad
  ex : ∃ (a : Addr) (fd : FuncData), fa f = some a ∧ X.mg x = some (.ref a) ∧ PySem.W.keepIn X.K (.ref a) = true ∧ FnOk X.prog X.w X.K X.mg X.base (L2.CX X.prog X.w) lvl a fd ps (spOf X.K fa ca cf ps.length f) ∧ Binds X.K fd ps [] ∧
    ∀ p ∈ kp, p.f = f → p.pm.length = ps.length ∧ ∀ (s : Shared) (us ws : List Value), us.length = p.n → ws.length = p.ks.length → BindsTo s fd ⟨us, p.ks.zip ws⟩ (ps.zip (permV (us ++ ws) p.pm))
section
variable {cf : CF} {f lvl : Nat} {x : Str} {ps : List Str} {kp : List KPat} {pins : List (Addr × Obj)} {s : Shared}
theorem run_any {a : Addr} {fd : FuncData} {sp : Sp} {us ws : List Value} {kw : List (Str × Value)} {vs : List V} {Q : VK} (F : FnOk X.prog X.w X.K X.mg X.base (L2.CX X.prog X.w) lvl a fd ps sp) (hr : Room lvl X.A) (tk : Takes X W) (I : Inv X pins σ H s) (b : BindsTo s fd ⟨us, kw⟩ (ps.zip ws)) (r : Vals vs ws) (h : sp vs H Q (WE W σ)) :
    wpAny (model X.prog X.w) X.A (call (.ref a) us kw) (EP X pins σ Q) X.xe s := by
  refine wpAny_call (codeAny_mono (F.run X.A X.stack s H ⟨us, kw⟩ ws vs Q (WE W σ) hr I.env0 b r h) fun r s' hq => ?_)
  cases r with
  | error e => exact passAt tk σ pins H s e s' I hq
  | ok fl =>
    cases fl with
    | ret u => exact I.after hq
    | next => exact False.elim hq
    | brk => exact False.elim hq
    | cont => exact False.elim hq
theorem binds_pos {fd : FuncData} (b : Binds X.K fd ps []) (I : Inv X pins σ H s) {us : List Value} (hl : us.length = ps.length) : BindsTo s fd ⟨us, []⟩ (ps.zip us) := by
  have z := b s us I.kIn (by rw [List.append_nil]; exact hl)
  rw [List.append_nil] at z
  exact z
theorem Vals.permM {vs : List V} {us : List Value} (r : Vals vs us) : ∀ (pm : List Nat), (∀ i ∈ pm, i < vs.length) → Vals (pm.map fun i => vs.getD i .non) (permV us pm)
  | [], _ => .nil
  | i :: pm, hi => by
    have hl := hi i List.mem_cons_self
    obtain ⟨u, hu, ru⟩ := r.get (List.getElem?_eq_getElem hl)
    refine .cons ?_ (Vals.permM r pm fun j hj => hi j (List.mem_cons_of_mem _ hj))
    show RelV (vs.getD i .non) (us.getD i Value.none)
    rw [List.getD_eq_getElem?_getD, List.getD_eq_getElem?_getD, hu, List.getElem?_eq_getElem hl]
    exact ru
theorem VRs.permM {ms : List MV} {vs : List V} (r : VRs K fa μ H ms vs) : ∀ (pm : List Nat) {os : List MV}, permM ms pm = some os → (∀ i ∈ pm, i < vs.length) ∧ VRs K fa μ H os (pm.map fun i => vs.getD i .non)
  | [], os, e => by cases e; exact ⟨fun i hi => absurd hi (by simp), .nil⟩
  | i :: pm, os, e => by
    have e' : (match getn ms i with
      | some v => (match Mi.permM ms pm with
        | some r => some (v :: r)
        | none => none)
      | none => none) = some os := e
    rw [getn_eq] at e'
    cases q : ms[i]? with
    | none => rw [q] at e'; cases e'
    | some m =>
      rw [q] at e'
      dsimp only at e'
      cases z : Mi.permM ms pm with
      | none => rw [z] at e'; cases e'
      | some ns =>
        rw [z] at e'
        cases e'
        obtain ⟨h1, h2⟩ := VRs.permM r pm z
        obtain ⟨v, hv, rv⟩ := r.get q
        have hl := (List.getElem?_eq_some_iff.mp hv).1
        refine ⟨fun j hj => ?_, .cons ?_ h2⟩
        · rcases List.mem_cons.mp hj with w | w
          · rw [w]; exact hl
          · exact h1 j w
        · show VR K fa μ H m (vs.getD i .non)
          rw [List.getD_eq_getElem?_getD, hv]; exact rv
def Arg (K : PySem.W.Frag) (fa : FA) (ca : Nat → Addr) (σ : L2.St) (W : WX) (Q : VK) (k : List MV → Hm → RE) (vs : List V) (H : Hp) : Prop := ∃ (μ : Mu) (ms : List MV) (h : Hm), HR K fa μ h H ∧ VRs K fa μ H ms vs ∧ PostR K fa ca (VR K fa) μ H σ W Q (k ms h)
inductive ArgW (X : Cx) (pos : Pos) : List Expr → Prop
  | some {e : Expr} {r : List Expr} : starEach (e :: r) X.env = (false, eval e X.env) :: starEach r X.env → (backTo pos (starEach r X.env)).any (·.1) = false → ArgW X pos (e :: r)
  | star {e : Expr} {r : List Expr} : starEach (e :: r) X.env = (false, eval e X.env) :: starEach r X.env → (backTo pos (starEach r X.env)).any (·.1) = true → ArgW X pos (e :: r)
theorem run_arg {a : Addr} {fd : FuncData} {us : List Value} {vs : List V} {Q : VK} (ar : ∀ (ms : List MV) (h : Hm), ms.length ≠ ps.length → cf f ms h = .bad) (F : FnOk X.prog X.w X.K X.mg X.base (L2.CX X.prog X.w) lvl a fd ps (spOf X.K fa ca cf ps.length f)) (B : Binds X.K fd ps []) (hr : Room lvl X.A) (tk : Takes X W) (I : Inv X pins σ H s) (r : Vals vs us)
    (q : Arg X.K fa ca σ W Q (fun ms h => doCall cf f ms h) vs H) : wpAny (model X.prog X.w) X.A (call (.ref a) us) (EP X pins σ Q) X.xe s := by
  obtain ⟨μ1, ms, h1, hm1, vr, p1⟩ := q
  have hl := call_len ar p1
  exact run_any F hr tk I (binds_pos B I (by rw [← r.length, ← vr.length, hl])) r (call_ok0 hm1 vr hl p1)
theorem pe_callM {sl : SL} {p pos : Pos} {es : List Expr} (G : FnH X lvl cf fa ca kp f x ps) (hr : Room lvl X.A) (tk : Takes X W) (hg : Gl X x) (hdb : (x == ("__debug__" : Str)) = false) (ha : PA X es (TAo X.K fa ca W sl)) (hn : ArgW X pos es) :
    PE X (.Call (.Name x p) es [] pos) (TEo X.K fa ca W (fun ρ h => (sl ρ h).bind fun vs h1 => doCall cf f vs h1)) := by
  obtain ⟨a, fd, e1, e2, e3, F, B, _⟩ := G.ex
  refine ⟨fun pins s σ H Q I ⟨μ, ρ, h, hm, sr, pp⟩ => ?_⟩
  refine wpAny_Call_Name_kw (ld_glob I hg e2 ?_ hdb)
  have arg : TAo X.K fa ca W sl σ H (Arg X.K fa ca σ W Q fun ms h => doCall cf f ms h) := ⟨μ, ρ, h, hm, sr, pp.first fun ms h1 μ1 H1 vs _ _ hm1 vr p1 => ⟨μ1, ms, h1, hm1, vr, p1⟩⟩
  cases hn with
  | some he hpl => exact PySem.W.callWith_K (h₀ := X.base) I.ok.mod.kin e3 (thn (ha.run pos pins s σ H _ I arg) fun us s1 ⟨vs, H1, I1, r1, q⟩ => ⟨I1.kIn, run_arg G.ar F B hr tk I1 r1 q⟩) he hpl
  | star he hst => exact PySem.W.callWith_S2 (h₀ := X.base) I.ok.mod.kin e3 (thn (ha.run pos pins s σ H _ I arg) fun us s1 ⟨vs, H1, I1, r1, q⟩ => ⟨I1.kIn, run_arg G.ar F B hr tk I1 r1 q⟩) he hst
theorem pe_callM0 {p pos : Pos} (G : FnH X lvl cf fa ca kp f x ps) (hr : Room lvl X.A) (tk : Takes X W) (hg : Gl X x) (hdb : (x == ("__debug__" : Str)) = false) : PE X (.Call (.Name x p) [] [] pos) (TEo X.K fa ca W (fun _ h => doCall cf f [] h)) := by
  obtain ⟨a, fd, e1, e2, e3, F, B, _⟩ := G.ex
  refine ⟨fun pins s σ H Q I ⟨μ, ρ, h, hm, sr, pp⟩ => ?_⟩
  refine wpAny_Call_Name_kw (ld_glob I hg e2 ?_ hdb)
  exact PySem.W.callWith_K0 I.kIn e3 (run_arg (us := []) G.ar F B hr tk I .nil ⟨μ, [], h, hm, .nil, pp⟩)
theorem pe_callMs {se : SE} {p pos sp : Pos} {e : Expr} (G : FnH X lvl cf fa ca kp f x ps) (hr : Room lvl X.A) (tk : Takes X W) (hg : Gl X x) (hdb : (x == ("__debug__" : Str)) = false) (he : PE X e (TEo X.K fa ca W se)) (hst : starEach [.Starred e sp] X.env = [(true, eval e X.env)]) :
    PE X (.Call (.Name x p) [.Starred e sp] [] pos) (TEo X.K fa ca W (fun ρ h => (se ρ h).bind fun v h1 => match v with
      | .tup _ vs => doCall cf f vs h1
      | _ => .bad)) := by
  obtain ⟨a, fd, e1, e2, e3, F, B, _⟩ := G.ex
  refine ⟨fun pins s σ H Q I ⟨μ, ρ, h, hm, sr, pp⟩ => ?_⟩
  refine wpAny_Call_Name_kw (ld_glob I hg e2 ?_ hdb)
  have arg : TEo X.K fa ca W se σ H (fun y H1 => ∃ a xs, y = V.ref a ∧ SqT X.K H1 a xs ∧ Arg X.K fa ca σ W Q (fun ms h => doCall cf f ms h) xs H1) := ⟨μ, ρ, h, hm, sr, pp.first fun m h1 μ1 H1 v _ _ hm1 vr p1 => by
    cases vr with
    | tup s q k => exact ⟨_, _, rfl, s, μ1, _, h1, hm1, q, p1⟩
    | _ => exact no p1⟩
  refine PySem.W.callWith_S (h₀ := X.base) I.ok.mod.kin e3 (thn (he.run pins s σ H _ I arg) fun v s1 ⟨y, H1, I1, ry, a', xs, ey, hxs, q⟩ => ?_) hst
  subst ey
  obtain rfl : v = Value.ref a' := ry
  exact StX.star_any I1 (.inl hxs) fun us s2 I2 rv => ⟨I2.kIn, run_arg G.ar F B hr tk I2 rv q⟩
theorem run_kw {a : Addr} {fd : FuncData} {us ws : List Value} {vs zs : List V} {Q : VK} {pt : KPat} (ar : ∀ (ms : List MV) (h : Hm), ms.length ≠ ps.length → cf f ms h = .bad) (F : FnOk X.prog X.w X.K X.mg X.base (L2.CX X.prog X.w) lvl a fd ps (spOf X.K fa ca cf ps.length f))
    (B : ∀ (s : Shared) (us ws : List Value), us.length = pt.n → ws.length = pt.ks.length → BindsTo s fd ⟨us, pt.ks.zip ws⟩ (ps.zip (permV (us ++ ws) pt.pm))) (hr : Room lvl X.A) (tk : Takes X W) (I : Inv X pins σ H s) (r : Vals vs us) (rz : Vals zs ws) (l1 : vs.length = pt.n) (l2 : zs.length = pt.ks.length)
    (q : Arg X.K fa ca σ W Q (fun ms h => match permM ms pt.pm with
      | some us => doCall cf f us h
      | none => .bad) (vs ++ zs) H) : wpAny (model X.prog X.w) X.A (call (.ref a) us (pt.ks.zip ws)) (EP X pins σ Q) X.xe s := by
  obtain ⟨μ1, ms, h1, hm1, vr, p1⟩ := q
  dsimp only at p1
  cases e : permM ms pt.pm with
  | none => rw [e] at p1; exact no p1
  | some os =>
    rw [e] at p1
    obtain ⟨hi, vo⟩ := vr.permM pt.pm e
    have hl := call_len ar p1
    exact run_any F hr tk I (B s us ws (by rw [← r.length, l1]) (by rw [← rz.length, l2])) (Vals.permM (r.append rz) pt.pm hi) (call_ok0 hm1 vo hl p1)
def TKo (K : PySem.W.Frag) (fa : FA) (ca : Nat → Addr) (W : WX) (s : SL) : TA := TAo K fa ca W s
theorem PK_weak {kws : List Keyword} {t t' : TA} (h : PK X kws t) (w : ∀ σ H Q, t' σ H Q → t σ H Q) : PK X kws t' := ⟨fun pos pins s σ H Q I q => h.run pos pins s σ H Q I (w σ H Q q)⟩
theorem tk_len {sl : SL} {n : Nat} {Q : List V → Hp → Prop} (hl : ∀ ρ h vs h1, sl ρ h = .ok vs h1 → vs.length = n) (t : TAo K fa ca W sl σ H Q) : TAo K fa ca W sl σ H fun vs H1 => vs.length = n ∧ Q vs H1 := by
  obtain ⟨μ, ρ, h, hm, sr, p⟩ := t
  refine ⟨μ, ρ, h, hm, sr, ?_⟩
  cases e : sl ρ h with
  | bad => rw [e] at p; exact p
  | exc c h1 => rw [e] at p; exact p
  | ok vs h1 => rw [e] at p; exact fun μ' H' xs ex hr' vr => ⟨by rw [← vr.length]; exact hl ρ h vs h1 e, p μ' H' xs ex hr' vr⟩
theorem pe_callMk {sl sk : SL} {p pos : Pos} {es : List Expr} {kws : List Keyword} {pt : KPat} (G : FnH X lvl cf fa ca kp f x ps) (hp : pt ∈ kp) (hf : pt.f = f) (hr : Room lvl X.A) (tk : Takes X W) (hg : Gl X x) (hdb : (x == ("__debug__" : Str)) = false) (ha : PA X es (TAo X.K fa ca W sl)) (hk : PK X kws (TAo X.K fa ca W sk))
    (l1 : ∀ ρ h vs h1, sl ρ h = .ok vs h1 → vs.length = pt.n) (l2 : ∀ ρ h vs h1, sk ρ h = .ok vs h1 → vs.length = pt.ks.length)
    (hall : (backToKw pos (keywordEach kws X.env)).all (·.1.isSome) = true) (hks : (backToKw pos (keywordEach kws X.env)).filterMap (·.1) = pt.ks)
    (hes : (es = [] ∧ ∀ ρ h, sl ρ h = .ok [] h) ∨ ∃ e r, es = e :: r ∧ starEach (e :: r) X.env = (false, eval e X.env) :: starEach r X.env)
    (hpl : ((backTo pos (starEach es X.env)).any (·.1) || (backToKw pos (keywordEach kws X.env)).any (·.1.isNone)) = false) :
    PE X (.Call (.Name x p) es kws pos) (TEo X.K fa ca W (fun ρ h => (sl ρ h).bind fun vs h1 => (sk ρ h1).bind fun zs h2 => (match permM (vs ++ zs) pt.pm with
      | some us => doCall cf f us h2
      | none => .bad))) := by
  obtain ⟨a, fd, e1, e2, e3, F, _, B⟩ := G.ex
  obtain ⟨_, B⟩ := B pt hp hf
  refine ⟨fun pins s σ H Q I ⟨μ, ρ, h, hm, sr, pp⟩ => ?_⟩
  refine wpAny_Call_Name_kw (ld_glob I hg e2 ?_ hdb)
  have two : ∀ {μ : Mu} {H : Hp} {h : Hm} {vs : List V} {ms : List MV}, HR X.K fa μ h H → SR X.K fa μ H ρ σ → VRs X.K fa μ H ms vs → PostR X.K fa ca (VR X.K fa) μ H σ W Q ((sk ρ h).bind fun zs h2 => (match permM (ms ++ zs) pt.pm with
      | some us => doCall cf f us h2
      | none => .bad)) → TAo X.K fa ca W sk σ H fun zs H2 => zs.length = pt.ks.length ∧ Arg X.K fa ca σ W Q (fun ms h => match permM ms pt.pm with
      | some us => doCall cf f us h
      | none => .bad) (vs ++ zs) H2 := fun hm1 sr1 vr p1 =>
    tk_len l2 ⟨_, ρ, _, hm1, sr1, p1.first fun zs h2 μ2 H2 ws _ e2 hm2 zr p2 => ⟨μ2, _, h2, hm2, (vr.ext hm1.noTup e2).append zr, p2⟩⟩
  rcases hes with ⟨rfl, hsl⟩ | ⟨e, r, rfl, he⟩
  · dsimp only at pp
    rw [hsl ρ h] at pp
    refine PySem.W.callWith_KW0 (h₀ := X.base) I.ok.mod.kin e3 hall ?_ hpl
    refine thn (hk.run pos pins s σ H _ I (two (vs := []) hm sr .nil pp)) fun ws s2 ⟨zs, H2, I2, rz, l3, q⟩ => ⟨I2.kIn, ?_⟩
    rw [hks]
    exact run_kw (us := []) G.ar F B hr tk I2 .nil rz (l1 ρ h [] h (hsl ρ h)) l3 q
  · have arg : TAo X.K fa ca W sl σ H fun vs H1 => vs.length = pt.n ∧ TAo X.K fa ca W sk σ H1 fun zs H2 => zs.length = pt.ks.length ∧ Arg X.K fa ca σ W Q (fun ms h => match permM ms pt.pm with
      | some us => doCall cf f us h
      | none => .bad) (vs ++ zs) H2     := tk_len l1 ⟨μ, ρ, h, hm, sr, pp.first fun ms h1 μ1 H1 vs _ e1 hm1 vr p1 => two hm1 (sr.ext hm.noTup e1) vr p1⟩
    refine PySem.W.callWith_KW (h₀ := X.base) I.ok.mod.kin e3 hall (thn (ha.run pos pins s σ H _ I arg) fun us s1 ⟨vs, H1, I1, r1, l3, q⟩ => ?_) hpl he
    refine thn (hk.run pos pins s1 σ H1 _ I1 q) fun ws s2 ⟨zs, H2, I2, rz, l4, q2⟩ => ⟨I2.kIn, ?_⟩
    rw [hks]
    exact run_kw G.ar F B hr tk I2 r1 rz l3 l4 q2
theorem pe_callMv {p pos : Pos} {i : Nat} {y : Str} (fns : ∀ k a, fa k = some a → ∃ x ps, FnH X lvl cf fa ca kp k x ps) (hr : Room lvl X.A) (tk : Takes X W) (hN : X.N[i]? = some y) (hv : Vis X.env.scope y) (hdb : (y == ("__debug__" : Str)) = false) (hcd : (y == ("__classdict__" : Str)) = false) :
    PE X (.Call (.Name y p) [] [] pos) (TEo X.K fa ca W (fun ρ h => (match getn ρ i with
      | some (.fn k) => doCall cf k [] h
      | _ => .bad))) := by
  refine ⟨fun pins s σ H Q I ⟨μ, ρ, h, hm, sr, pp⟩ => ?_⟩
  dsimp only at pp
  rw [getn_eq] at pp
  cases e : ρ[i]? with
  | none => rw [e] at pp; exact no pp
  | some m =>
    rw [e] at pp
    cases m with
    | fn k =>
      obtain ⟨v, ev, rv⟩ := sr.get e (by intro z; cases z) (by intro a b z; cases z)
      cases rv with
      | fn ha =>
        rename_i a
        obtain ⟨x, ps, G⟩ := fns k a ha
        obtain ⟨a', fd, e1, e2, e3, F, B, _⟩ := G.ex
        rw [ha] at e1
        cases e1
        refine wpAny_Call_Name_kw (thn ((pe_var (pos := p) hN hv hdb hcd).run pins s σ H (fun v H1 => v = .ref a ∧ H1 = H) I ⟨.ref a, ev, rfl, rfl⟩) fun u s1 ⟨v, H1, I1, r1, q1⟩ => ?_)
        obtain ⟨rfl, rfl⟩ := q1
        cases r1
        exact PySem.W.callWith_K0 I1.kIn e3 (run_arg (us := []) G.ar F B hr tk I1 .nil ⟨μ, [], h, hm, .nil, pp⟩)
    | _ => exact no pp
end
end
end Mi
namespace Mi
open PySem PySem.Spec PyProof.Rows L2
def plainE : Expr → Bool
  | .Set _ _ _ => false
  | .Starred _ _ => false
  | .Slice _ _ _ _ => false
  | _ => true
def valE : Expr → Bool
  | .UnaryOp _ _ _ => false
  | .BoolOp _ _ _ => false
  | .IfExp _ _ _ _ => false
  | .Compare _ _ _ _ => false
  | .Starred _ _ => false
  | _ => true
def baseE : Expr → Bool
  | .Name _ _ => true
  | .Subscript _ _ _ => true
  | _ => false
theorem star_plain {e : Expr} (h : plainE e = true) (es : List Expr) (env : Env) : starEach (e :: es) env = (false, eval e env) :: starEach es env := by
  cases e <;> first | (cases h; done) | rfl
theorem asgn_plain {e : Expr} (h : plainE e = true) (es : List Expr) (env : Env) : assignEach (e :: es) env = (false, assign e env) :: assignEach es env := by
  cases e <;> first | (cases h; done) | rfl
theorem behind_plain {e : Expr} (h : plainE e = true) (op : CmpOp) : behindInMarks op e = false := by
  cases e <;> first | (cases h; done) | rfl
theorem last_plain {b c : Expr} (h : plainE c = true) (o o' : CmpOp) : lastMarks [o, o'] [b, c] = false := by
  show behindInMarks o' c = false
  exact behind_plain h o'
theorem fold_plain {e : Expr} (h : plainE e = true) (env : Env) (x : Value) : foldedSetIterable e env x = pure x := by
  cases e <;> first | (cases h; done) | rfl
theorem ix_plain {e : Expr} (h : plainE e = true) : PlainIx e := by
  intro o i
  cases e <;> first | (cases h; done) | rfl
theorem true_plain {e : Expr} (h : valE e = true) (env : Env) (whole : Sem Value) : isTrue e env whole = (do let v ← whole; standAt e.pos; holding [v] (truthy v)) := by
  cases e <;> first | (cases h; done) | rfl
theorem base_plain {e : Expr} (h : baseE e = true) (name : Str) (env : Env) : attributeBase e name env (eval e env) = eval e env := by
  cases e <;> first | (cases h; done) | rfl
def plainL : List Expr → Bool
  | [] => true
  | e :: r => plainE e && plainL r
theorem any_plain : ∀ {es : List Expr} (pos : Pos) (env : Env), plainL es = true → (backTo pos (starEach es env)).any (·.1) = false
  | [], _, _, _ => rfl
  | e :: r, pos, env, h => by
    obtain ⟨h1, h2⟩ := Bool.and_eq_true_iff.mp h
    rw [star_plain h1]
    show (false || (backTo pos (starEach r env)).any (·.1)) = false
    rw [any_plain pos env h2]; rfl
theorem all_plain : ∀ {es : List Expr} (pos : Pos) (env : Env), plainL es = true → (backTo pos (starEach es env)).all (fun x => !x.1) = true
  | [], _, _, _ => rfl
  | e :: r, pos, env, h => by
    obtain ⟨h1, h2⟩ := Bool.and_eq_true_iff.mp h
    rw [star_plain h1]
    show (true && (backTo pos (starEach r env)).all (fun x => !x.1)) = true
    rw [all_plain pos env h2]; rfl
def dName : Expr → Option Str
  | .Name x _ => some x
  | _ => none
theorem dName_eq {e : Expr} {x : Str} (h : dName e = some x) : ∃ p, e = .Name x p := by
  cases e <;> first | (cases h; done) | (cases h; exact ⟨_, rfl⟩)
def dNeg : Expr → Option Expr
  | .UnaryOp .USub e _ => some e
  | _ => none
theorem dNeg_eq {e a : Expr} (h : dNeg e = some a) : ∃ p, e = .UnaryOp .USub a p := by
  unfold dNeg at h
  split at h <;> cases h
  exact ⟨_, rfl⟩
def dNot : Expr → Option Expr
  | .UnaryOp .Not e _ => some e
  | _ => none
theorem dNot_eq {e a : Expr} (h : dNot e = some a) : ∃ p, e = .UnaryOp .Not a p := by
  unfold dNot at h
  split at h <;> cases h
  exact ⟨_, rfl⟩
def dBin : Expr → Option (Expr × Operator × Expr)
  | .BinOp a o b _ => some (a, o, b)
  | _ => none
theorem dBin_eq {e a b : Expr} {o : Operator} (h : dBin e = some (a, o, b)) : ∃ p, e = .BinOp a o b p := by
  cases e <;> first | (cases h; done) | (cases h; exact ⟨_, rfl⟩)
def dCmp : Expr → Option (Expr × CmpOp × Expr)
  | .Compare a [o] [b] _ => some (a, o, b)
  | _ => none
theorem dCmp_eq {e a b : Expr} {o : CmpOp} (h : dCmp e = some (a, o, b)) : ∃ p, e = .Compare a [o] [b] p := by
  unfold dCmp at h
  split at h <;> cases h
  exact ⟨_, rfl⟩
def dChain : Expr → Option (Expr × CmpOp × Expr × CmpOp × Expr)
  | .Compare a [o, q] [b, c] _ => some (a, o, b, q, c)
  | _ => none
theorem dChain_eq {e a b c : Expr} {o q : CmpOp} (h : dChain e = some (a, o, b, q, c)) : ∃ p, e = .Compare a [o, q] [b, c] p := by
  unfold dChain at h
  split at h <;> cases h
  exact ⟨_, rfl⟩
def dAnd : Expr → Option (Expr × Expr)
  | .BoolOp .And (a :: b :: r) p => some (a, .BoolOp .And (b :: r) p)
  | _ => none
theorem dAnd_eq {e a r : Expr} (h : dAnd e = some (a, r)) : ∃ b l p, e = .BoolOp .And (a :: b :: l) p ∧ r = .BoolOp .And (b :: l) p := by
  unfold dAnd at h
  split at h <;> cases h
  exact ⟨_, _, _, rfl, rfl⟩
def dOr : Expr → Option (Expr × Expr)
  | .BoolOp .Or (a :: b :: r) p => some (a, .BoolOp .Or (b :: r) p)
  | _ => none
theorem dOr_eq {e a r : Expr} (h : dOr e = some (a, r)) : ∃ b l p, e = .BoolOp .Or (a :: b :: l) p ∧ r = .BoolOp .Or (b :: l) p := by
  unfold dOr at h
  split at h <;> cases h
  exact ⟨_, _, _, rfl, rfl⟩
def dOne : Expr → Option Expr
  | .BoolOp _ [a] _ => some a
  | _ => none
theorem dOne_eq {e a : Expr} (h : dOne e = some a) : ∃ o p, e = .BoolOp o [a] p := by
  unfold dOne at h
  split at h <;> cases h
  exact ⟨_, _, rfl⟩
def dIte : Expr → Option (Expr × Expr × Expr)
  | .IfExp c a b _ => some (c, a, b)
  | _ => none
theorem dIte_eq {e c a b : Expr} (h : dIte e = some (c, a, b)) : ∃ p, e = .IfExp c a b p := by
  cases e <;> first | (cases h; done) | (cases h; exact ⟨_, rfl⟩)
def dTup : Expr → Option (List Expr)
  | .Tuple es _ _ => some es
  | _ => none
theorem dTup_eq {e : Expr} {es : List Expr} (h : dTup e = some es) : ∃ k p, e = .Tuple es k p := by
  cases e <;> first | (cases h; done) | (cases h; exact ⟨_, _, rfl⟩)
def dLst : Expr → Option (List Expr)
  | .List es _ => some es
  | _ => none
theorem dLst_eq {e : Expr} {es : List Expr} (h : dLst e = some es) : ∃ p, e = .List es p := by
  cases e <;> first | (cases h; done) | (cases h; exact ⟨_, rfl⟩)
def dSub : Expr → Option (Expr × Expr)
  | .Subscript a b _ => some (a, b)
  | _ => none
theorem dSub_eq {e a b : Expr} (h : dSub e = some (a, b)) : ∃ p, e = .Subscript a b p := by
  cases e <;> first | (cases h; done) | (cases h; exact ⟨_, rfl⟩)
def dSlc : Expr → Option (Expr × Option Expr × Option Expr)
  | .Subscript a (.Slice l u none _) _ => some (a, l, u)
  | _ => none
theorem dSlc_eq {e a : Expr} {l u : Option Expr} (h : dSlc e = some (a, l, u)) : ∃ q p, e = .Subscript a (.Slice l u none q) p := by
  unfold dSlc at h
  split at h <;> cases h
  exact ⟨_, _, rfl⟩
def dRev : Expr → Option (Expr × Option Expr × Option Expr)
  | .Subscript a (.Slice l u (some (.UnaryOp .USub (.Constant (.int (.ofNat 1)) 0 _) _)) _) _ => some (a, l, u)
  | _ => none
theorem dRev_eq {e a : Expr} {l u : Option Expr} (h : dRev e = some (a, l, u)) : ∃ p1 p2 p3 p4, e = .Subscript a (.Slice l u (some (.UnaryOp .USub (.Constant (.int 1) 0 p1) p2)) p3) p4 := by
  unfold dRev at h
  split at h <;> cases h
  exact ⟨_, _, _, _, rfl⟩
def dCall : Expr → Option (Str × List Expr × List Keyword × Pos)
  | .Call (.Name x _) es ks p => some (x, es, ks, p)
  | _ => none
theorem dCall_eq {e : Expr} {x : Str} {es : List Expr} {ks : List Keyword} {p : Pos} (h : dCall e = some (x, es, ks, p)) : ∃ q, e = .Call (.Name x q) es ks p := by
  unfold dCall at h
  split at h <;> cases h
  exact ⟨_, rfl⟩
def dMth : Expr → Option (Expr × Str × Pos × List Expr × Pos)
  | .Call (.Attribute o m q) es [] p => some (o, m, q, es, p)
  | _ => none
theorem dMth_eq {e o : Expr} {m : Str} {q p : Pos} {es : List Expr} (h : dMth e = some (o, m, q, es, p)) : e = .Call (.Attribute o m q) es [] p := by
  unfold dMth at h
  split at h <;> cases h
  rfl
def dLc : Expr → Option (Expr × Expr × Expr × List Expr × Scope)
  | .ListComp e [⟨t, i, cs, 0⟩] sc _ => some (e, t, i, cs, sc)
  | _ => none
theorem dLc_eq {x e t i : Expr} {cs : List Expr} {sc : Scope} (h : dLc x = some (e, t, i, cs, sc)) : ∃ p, x = .ListComp e [⟨t, i, cs, 0⟩] sc p := by
  unfold dLc at h
  split at h <;> cases h
  exact ⟨_, rfl⟩
def dLc2 : Expr → Option (Expr × Expr × Expr × Expr × Expr × Scope)
  | .ListComp e [⟨t, i, [], 0⟩, ⟨t2, i2, [], 0⟩] sc _ => some (e, t, i, t2, i2, sc)
  | _ => none
theorem dLc2_eq {x e t i t2 i2 : Expr} {sc : Scope} (h : dLc2 x = some (e, t, i, t2, i2, sc)) : ∃ p, x = .ListComp e [⟨t, i, [], 0⟩, ⟨t2, i2, [], 0⟩] sc p := by
  unfold dLc2 at h
  split at h <;> cases h
  exact ⟨_, rfl⟩
def cstB : MV → Expr → Bool
  | .int i, .Constant (.int j) _ _ => ieq i j
  | .bl b, .Constant (.bool c) _ _ => beqB b c
  | .non, .Constant .none _ _ => true
  | .str x, .Constant (.str y) _ _ => decide (x = y)
  | _, _ => false
structure SC where
  N : List Str
  sc : Scope
  cel : Str → Bool
def visB (Γ : SC) (x : Str) : Bool := match Γ.sc.names.lookup x with
  | some .local => true
  | some .cell => true
  | some .free => true
  | _ => false
def locB (Γ : SC) (x : Str) : Bool := match Γ.sc.names.lookup x with
  | some .local => true
  | some .cell => Γ.cel x
  | _ => false
def plcB (Γ : SC) (x : Str) : Bool := match Γ.sc.names.lookup x with
  | some .local => true
  | _ => false
def glB (Γ : SC) (x : Str) : Bool := match Γ.sc.names.lookup x with
  | some .globalImplicit => true
  | _ => false
def okN (x : Str) : Bool := !(x == ("__debug__" : Str)) && (!(x == ("__classdict__" : Str)) && !(decide (x = ("__name__" : Str))))
def atB (l : List Str) (i : Nat) (x : Str) : Bool := match l[i]? with
  | some y => decide (y = x)
  | none => false
theorem atB_eq {l : List Str} {i : Nat} {x : Str} (h : atB l i x = true) : l[i]? = some x := by
  unfold atB at h
  split at h
  · rename_i y e; rw [e, of_decide_eq_true h]
  · cases h
theorem okN_1 {x : Str} (h : okN x = true) : (x == ("__debug__" : Str)) = false := by
  have := (Bool.and_eq_true_iff.mp h).1
  simpa using this
theorem okN_2 {x : Str} (h : okN x = true) : (x == ("__classdict__" : Str)) = false := by
  have := (Bool.and_eq_true_iff.mp (Bool.and_eq_true_iff.mp h).2).1
  simpa using this
theorem okN_3 {x : Str} (h : okN x = true) : x ≠ "__name__" := by
  have := (Bool.and_eq_true_iff.mp (Bool.and_eq_true_iff.mp h).2).2
  simpa using this
def inB (x : Str) : List Str → Bool
  | [] => false
  | y :: r => decide (y = x) || inB x r
theorem inB_mem {x : Str} : ∀ {l : List Str}, inB x l = true → x ∈ l
  | y :: r, h => by
    rcases Bool.or_eq_true_iff.mp h with h | h
    · rw [← of_decide_eq_true h]; exact List.mem_cons_self
    · exact List.mem_cons_of_mem _ (inB_mem h)
structure GM (T : PTb) (lvl : Nat) (cf : CF) (G : List MV) (fa : FA) (ca : Nat → Addr) (X : Cx) : Prop where
  fn : ∀ (k : Nat) (x : Str) (ps : List Str), T.fns[k]? = some (x, ps) → FnH X lvl cf fa ca T.kp k x ps
  fv : ∀ (k : Nat) (a : Addr), fa k = some a → ∃ x ps, FnH X lvl cf fa ca T.kp k x ps
  gl : ∀ (i : Nat) (x : Str), T.gls[i]? = some x → ∃ m v u, G[i]? = some m ∧ X.mg x = some u ∧ RelV v u ∧ ∀ μ H, VR X.K fa μ H m v
  bi : ∀ x : Str, x ∈ T.bis → X.mg x = none
  ma : ∀ p : Str × String, p ∈ T.mas → X.mg p.1 = some (.builtin p.2)
structure XOk (T : PTb) (lvl : Nat) (cf : CF) (G : List MV) (fa : FA) (ca : Nat → Addr) (Γ : SC) (X : Cx) : Prop where
  eN : X.N = Γ.N
  es : X.env.scope = Γ.sc
  nd : X.N.Nodup
  cl : X.calm = true
  fc : ∀ x : Str, Γ.cel x = true → X.fn x = true
  rm : Room lvl X.A
  gm : GM T lvl cf G fa ca X
section
variable {T : PTb} {lvl : Nat} {cf : CF} {G : List MV} {fa : FA} {ca : Nat → Addr} {Γ : SC} {X : Cx} {W : WX}
theorem XOk.slot (o : XOk T lvl cf G fa ca Γ X) {i : Nat} {x : Str} (h : atB Γ.N i x = true) : X.N[i]? = some x := by rw [o.eN]; exact atB_eq h
theorem XOk.vis (o : XOk T lvl cf G fa ca Γ X) {x : Str} (h : visB Γ x = true) : Vis X.env.scope x := by
  unfold visB at h
  unfold Vis
  rw [o.es]
  split at h
  · exact .inl (by assumption)
  · exact .inr (.inl (by assumption))
  · exact .inr (.inr (by assumption))
  · cases h
theorem XOk.loc (o : XOk T lvl cf G fa ca Γ X) {x : Str} (h : locB Γ x = true) : Loc X.env.scope x ∧ (X.fn x = true ∨ X.env.scope.names.lookup x = some .local) := by
  unfold locB at h
  unfold L2.Loc
  rw [o.es]
  split at h
  · exact ⟨.inl (by assumption), .inr (by assumption)⟩
  · exact ⟨.inr (by assumption), .inl (o.fc x h)⟩
  · cases h
theorem XOk.plc (o : XOk T lvl cf G fa ca Γ X) {x : Str} (h : plcB Γ x = true) : X.env.scope.names.lookup x = some .local := by
  unfold plcB at h
  rw [o.es]
  split at h
  · assumption
  · cases h
theorem XOk.glo (o : XOk T lvl cf G fa ca Γ X) {x : Str} (h : glB Γ x = true) : Gl X x := by
  unfold glB at h
  show X.env.scope.names.lookup x = some .globalImplicit
  rw [o.es]
  split at h
  · assumption
  · cases h
theorem XOk.cu (o : XOk T lvl cf G fa ca Γ X) : X.A.units + 64 < cLine := o.rm.units
end
end Mi
namespace Mi
open PySem PySem.Spec PyProof.Rows L2
section
variable {K : PySem.W.Frag} {fa : FA} {ca : Nat → Addr} {μ μ1 : Mu} {H H1 : Hp} {σ : L2.St} {W : WX} {ρ : Rho} {h : Hm} {X : Cx}
def truT (r : RE) : R Bool := match r with
  | .ok v h => (match tru v h with
    | some b => .ok b h
    | none => .bad)
  | .exc c h => .exc c h
  | .bad => .bad
theorem truT_ok {v : MV} {b : Bool} (e : tru v h = some b) : truT (.ok v h) = .ok b h := by
  show (match tru v h with
    | some b => R.ok b h
    | none => .bad) = _
  rw [e]
theorem truT_none {v : MV} (e : tru v h = none) : truT (.ok v h) = .bad := by
  show (match tru v h with
    | some b => R.ok b h
    | none => .bad) = _
  rw [e]
def TTt (K : PySem.W.Frag) (fa : FA) (ca : Nat → Addr) (W : WX) (s : SE) : TT := fun σ H Q => ∃ (μ : Mu) (ρ : Rho) (h : Hm), HR K fa μ h H ∧ SR K fa μ H ρ σ ∧ PostR K fa ca EqV μ H σ W Q (truT (s ρ h))
theorem post_tru {r : RE} {Q : Bool → Hp → Prop} (p : PostR K fa ca EqV μ H σ W Q (truT r)) : PostR K fa ca (VR K fa) μ H σ W (fun x H' => ∃ k, TruV K x H' k ∧ Q k H') r := by
  cases r with
  | bad => exact p
  | exc c h => exact p
  | ok v h =>
    intro μ' H' x e hr vr
    cases q : tru v h with
    | none => rw [truT_none q] at p; exact no p
    | some b => rw [truT_ok q] at p; exact ⟨b, k_tru hr vr q, p μ' H' b e hr rfl⟩
theorem post_bl {r : RE} {Q : Bool → Hp → Prop} (hb : ∀ v h, r = .ok v h → ∃ b, v = .bl b) (p : PostR K fa ca EqV μ H σ W Q (truT r)) : PostR K fa ca (VR K fa) μ H σ W (fun x H' => ∃ k, x = .bl k ∧ Q k H') r := by
  cases r with
  | bad => exact p
  | exc c h => exact p
  | ok v h =>
    obtain ⟨b, rfl⟩ := hb v h rfl
    intro μ' H' x e hr vr
    cases vr
    exact ⟨b, rfl, p μ' H' b e hr rfl⟩
theorem PostR.firstT {α β : Type} {V : Mu → Hp → α → β → Prop} {Q : Bool → Hp → Prop} {Q' : β → Hp → Prop} {r : R α} {k : α → Hm → RE} (p : PostR K fa ca EqV μ H σ W Q (truT (r.bind k)))
    (hk : ∀ (v : α) (h1 : Hm) (μ1 : Mu) (H1 : Hp) (x : β), r = .ok v h1 → Ext μ H μ1 H1 → HR K fa μ1 h1 H1 → V μ1 H1 v x → PostR K fa ca EqV μ1 H1 σ W Q (truT (k v h1)) → Q' x H1) : PostR K fa ca V μ H σ W Q' r := by
  cases r with
  | ok v h1 => exact fun μ' H' y e hr vr => hk v h1 μ' H' y rfl e hr vr (PostR.step e (show PostR K fa ca EqV μ H σ W Q (truT (k v h1)) from p))
  | exc c h1 => exact p
  | bad => exact p
theorem PostR.truth {γ δ : Type} {V' : Mu → Hp → γ → δ → Prop} {Q : δ → Hp → Prop} {Q' : Bool → Hp → Prop} {r : RE} {k : MV → Hm → R γ} (p : PostR K fa ca V' μ H σ W Q (r.bind k)) (hn : ∀ v h, tru v h = none → k v h = .bad)
    (hk : ∀ (b : Bool) (v : MV) (h1 : Hm) (μ1 : Mu) (H1 : Hp), r = .ok v h1 → tru v h1 = some b → Ext μ H μ1 H1 → HR K fa μ1 h1 H1 → PostR K fa ca V' μ1 H1 σ W Q (k v h1) → Q' b H1) : PostR K fa ca EqV μ H σ W Q' (truT r) := by
  cases r with
  | bad => exact p
  | exc c h => exact p
  | ok v h =>
    have p' : PostR K fa ca V' μ H σ W Q (k v h) := p
    cases q : tru v h with
    | none => rw [hn v h q] at p'; exact no p'
    | some b =>
      rw [truT_ok q]
      intro μ' H' b' e hr eb
      have eb : b = b' := eb
      subst eb
      exact hk b v h μ' H' rfl q e hr (PostR.step e p')
theorem PostR.truthT {Q : Bool → Hp → Prop} {Q' : Bool → Hp → Prop} {r : RE} {k : MV → Hm → RE} (p : PostR K fa ca EqV μ H σ W Q (truT (r.bind k))) (hn : ∀ v h, tru v h = none → k v h = .bad)
    (hk : ∀ (b : Bool) (v : MV) (h1 : Hm) (μ1 : Mu) (H1 : Hp), r = .ok v h1 → tru v h1 = some b → Ext μ H μ1 H1 → HR K fa μ1 h1 H1 → PostR K fa ca EqV μ1 H1 σ W Q (truT (k v h1)) → Q' b H1) : PostR K fa ca EqV μ H σ W Q' (truT r) := by
  cases r with
  | bad => exact p
  | exc c h => exact p
  | ok v h =>
    have p' : PostR K fa ca EqV μ H σ W Q (truT (k v h)) := p
    cases q : tru v h with
    | none => rw [hn v h q] at p'; exact no p'
    | some b =>
      rw [truT_ok q]
      intro μ' H' b' e hr eb
      have eb : b = b' := eb
      subst eb
      exact hk b v h μ' H' rfl q e hr (PostR.step e p')
theorem r_var {i : Nat} {x : Str} {p : Pos} (hN : X.N[i]? = some x) (hv : Vis X.env.scope x) (hd : (x == ("__debug__" : Str)) = false) (hcd : (x == ("__classdict__" : Str)) = false) : PE X (.Name x p) (TEo X.K fa ca W (fun ρ h => varM ρ i h)) := by
  refine PE_weak (pe_var hN hv hd hcd) fun σ H Q ⟨μ, ρ, h, hr, sr, p⟩ => ?_
  unfold varM at p
  dsimp only at p
  rw [getn_eq] at p
  cases e : ρ[i]? with
  | none => rw [e] at p; exact no p
  | some m =>
    rw [e] at p
    have go : m ≠ .und → (∀ a b, m ≠ .zipv a b) → PostR X.K fa ca (VR X.K fa) μ H σ W Q (.ok m h) → tVar i σ H Q := fun h1 h2 p => by
      obtain ⟨v, e1, r⟩ := sr.get e h1 h2
      exact ⟨v, e1, p.fin hr r⟩
    cases m with
    | und => exact no p
    | zipv a b => exact no p
    | _ => exact go (by intro z; cases z) (by intro a b z; cases z) p
theorem r_cst {v : MV} {e : Expr} (hc : cstB v e = true) : PE X e (TEo X.K fa ca W (fun _ h => .ok v h)) := by
  unfold cstB at hc
  split at hc
  · rename_i i j k p
    have e : i = j := by rw [ieq_eq] at hc; exact of_decide_eq_true hc
    subst e
    exact PE_weak pe_int fun σ H Q ⟨μ, ρ, h, hr, sr, p⟩ => p.fin hr (.int _)
  · rename_i b c k p
    have e : b = c := by rw [beqB_eq] at hc; exact eq_of_beq hc
    subst e
    exact PE_weak pe_bl fun σ H Q ⟨μ, ρ, h, hr, sr, p⟩ => p.fin hr (.bl _)
  · exact PE_weak pe_non fun σ H Q ⟨μ, ρ, h, hr, sr, p⟩ => p.fin hr .non
  · rename_i x y k p
    have e : x = y := of_decide_eq_true hc
    subst e
    exact PE_weak pe_str fun σ H Q ⟨μ, ρ, h, hr, sr, p⟩ => p.fin hr (.str _)
  · cases hc
theorem r_glb {G : List MV} {i : Nat} {x : Str} {p : Pos} (hg : Gl X x) (gl : ∃ m v u, G[i]? = some m ∧ X.mg x = some u ∧ RelV v u ∧ ∀ μ H, VR X.K fa μ H m v) (hd : (x == ("__debug__" : Str)) = false) : PE X (.Name x p) (TEo X.K fa ca W (fun _ h => varM G i h)) := by
  obtain ⟨m, v, u, e1, e2, rv, vr⟩ := gl
  refine PE_weak (pe_glob hg e2 rv hd) fun σ H Q ⟨μ, ρ, h, hr, sr, p⟩ => ?_
  unfold varM at p
  dsimp only at p
  rw [getn_eq, e1] at p
  have vr := vr μ H
  cases m with
  | und => exact no p
  | zipv a b => exact no p
  | _ => exact PostR.fin (V := VR X.K fa) p hr vr
theorem r_fref {lvl : Nat} {cf : CF} {kp : List KPat} {k : Nat} {x : Str} {ps : List Str} {p : Pos} (F : FnH X lvl cf fa ca kp k x ps) (hg : Gl X x) (hd : (x == ("__debug__" : Str)) = false) : PE X (.Name x p) (TEo X.K fa ca W (fun _ h => .ok (.fn k) h)) := by
  obtain ⟨a, fd, e1, e2, _⟩ := F.ex
  exact PE_weak (pe_glob (v := .ref a) hg e2 rfl hd) fun σ H Q ⟨μ, ρ, h, hr, sr, p⟩ => p.fin hr (.fn e1)
variable {sa sb sc : SE} {a b c : Expr} {pos : Pos}
theorem r_neg (ha : PE X a (TEo X.K fa ca W sa)) : PE X (.UnaryOp .USub a pos) (TEo X.K fa ca W (fun ρ h => (sa ρ h).bind vNeg)) :=
  PE_weak (pe_un un_neg ha) fun σ H Q q => w1 (k := vNeg) (fun hr vr p => k_neg hr vr p) σ H Q q
theorem r_not (ha : PE X a (TEo X.K fa ca W sa)) : PE X (.UnaryOp .Not a pos) (TEo X.K fa ca W (fun ρ h => (sa ρ h).bind vNot)) :=
  PE_weak (pe_not ha) fun σ H Q ⟨μ, ρ, h, hr, sr, p⟩ => ⟨μ, ρ, h, hr, sr, p.first fun v h1 μ1 H1 x _ _ hr1 vr p1 => by
    cases vr with
    | bl b => exact ⟨b, rfl, PostR.fin (V := VR X.K fa) p1 hr1 (.bl _)⟩
    | _ => exact no p1⟩
theorem t_not (ha : PT X a (TTt X.K fa ca W sa)) : PT X (.UnaryOp .Not a pos) (TTt X.K fa ca W (fun ρ h => (sa ρ h).bind vNot)) := by
  refine PT_weak (pt_not ha) fun σ H Q ⟨μ, ρ, h, hr, sr, p⟩ => ⟨μ, ρ, h, hr, sr, p.truthT (fun v h q => ?_) fun b v h1 μ1 H1 _ q e hr1 p1 => ?_⟩
  · cases v <;> first | rfl | cases q
  · cases v with
    | bl c => cases q; exact PostR.fin (V := EqV) (v := !b) (show PostR X.K fa ca EqV μ1 H1 σ W Q (.ok (!b) h1) from p1) hr1 rfl
    | _ => exact no p1
theorem r_bin (op : BOp) (ha : PE X a (TEo X.K fa ca W sa)) (hb : PE X b (TEo X.K fa ca W sb)) : PE X (.BinOp a (PyOp op) b pos) (TEo X.K fa ca W (fun ρ h => (sa ρ h).bind fun x h1 => (sb ρ h1).bind fun y h2 => vBin op x y h2)) :=
  PE_weak (pe_op (op_binM op) ha hb) fun σ H Q q => w2 (k := vBin op) (fun hr vr wr p => k_bin op hr vr wr p) σ H Q q
theorem obl_bl {o : Option Bool} {v : MV} {h h' : Hm} (e : obl o h = .ok v h') : ∃ b, v = .bl b := by
  cases o with
  | none => cases e
  | some b => cases e; exact ⟨_, rfl⟩
theorem vCmp_bl {op : COp} {x y v : MV} {h h' : Hm} (e : vCmp op x y h = .ok v h') : ∃ b, v = .bl b := by
  cases op with
  | eq => exact obl_bl e
  | ne => exact obl_bl e
  | inn => exact obl_bl e
  | notin => exact obl_bl e
  | isN =>
    cases y with
    | non => cases x <;> first | (cases e; done) | (cases e; exact ⟨_, rfl⟩)
    | _ => cases e
  | notN =>
    cases y with
    | non => cases x <;> first | (cases e; done) | (cases e; exact ⟨_, rfl⟩)
    | _ => cases e
  | lt =>
    cases x with
    | int i => cases y <;> first | (cases e; done) | (cases e; exact ⟨_, rfl⟩)
    | tup d xs => exact obl_bl (o := ltM h (.tup d xs) y) e
    | _ => cases e
  | _ =>
    cases x with
    | int i => cases y <;> first | (cases e; done) | (cases e; exact ⟨_, rfl⟩)
    | _ => cases e
theorem bind_ok {α β : Type} {r : R α} {k : α → Hm → R β} {v : β} {h' : Hm} (e : r.bind k = .ok v h') : ∃ x h1, r = .ok x h1 ∧ k x h1 = .ok v h' := by
  cases r with
  | ok x h1 => exact ⟨x, h1, rfl, e⟩
  | exc c h => cases e
  | bad => cases e
theorem r_cmp (hu : X.A.units + 64 < cLine) (op : COp) (ha : PE X a (TEo X.K fa ca W sa)) (hb : PE X b (TEo X.K fa ca W sb)) (hm : plainE b = true) : PE X (.Compare a [PyCmp op] [b] pos) (TEo X.K fa ca W (fun ρ h => (sa ρ h).bind fun x h1 => (sb ρ h1).bind fun y h2 => vCmp op x y h2)) :=
  PE_weak (pe_cmpR (op_cmpM hu op) ha hb (behind_plain hm _)) fun σ H Q q => w2 (k := vCmp op) (fun hr vr wr p => k_cmp op hr vr wr p) σ H Q q
theorem t_cmp (hu : X.A.units + 64 < cLine) (op : COp) (ha : PE X a (TEo X.K fa ca W sa)) (hb : PE X b (TEo X.K fa ca W sb)) (hm : plainE b = true) : PT X (.Compare a [PyCmp op] [b] pos) (TTt X.K fa ca W (fun ρ h => (sa ρ h).bind fun x h1 => (sb ρ h1).bind fun y h2 => vCmp op x y h2)) :=
  PT_weak (pt_cmpR (op_cmpM hu op) ha hb (behind_plain hm _)) fun σ H Q ⟨μ, ρ, h, hr, sr, p⟩ => w2 (k := vCmp op) (fun hr vr wr p => k_cmp op hr vr wr p) σ H _ ⟨μ, ρ, h, hr, sr, post_bl (fun v h' e => by
    obtain ⟨x, h1, _, e⟩ := bind_ok e
    obtain ⟨y, h2, _, e⟩ := bind_ok e
    exact vCmp_bl e) p⟩
abbrev denCh (op oq : COp) (sa sb sc : SE) : SE := fun ρ h => (sa ρ h).bind fun x h1 => (sb ρ h1).bind fun y h2 => (vCmp op x y h2).bind fun z h3 => iteM z h3 (fun h4 => (sc ρ h4).bind fun w h5 => vCmp oq y w h5) (fun h4 => .ok (.bl false) h4)
theorem w_chain (op oq : COp) (σ : L2.St) (H : Hp) (Q : VK) : TEo K fa ca W (denCh op oq sa sb sc) σ H Q → tChain (rCmpM K op) (rCmpM K oq) (TEo K fa ca W sa) (TEo K fa ca W sb) (TEo K fa ca W sc) σ H Q := fun ⟨μ, ρ, h, hr, sr, p⟩ =>
  ⟨μ, ρ, h, hr, sr, p.first fun v h1 μ1 H1 x _ e1 hr1 vr p1 => ⟨μ1, ρ, h1, hr1, sr.ext hr.noTup e1, p1.first fun w h2 μ2 H2 y _ e2 hr2 wr p2 => by
    have sr2 := (sr.ext hr.noTup e1).ext hr1.noTup e2
    refine k_cmp op (σ := σ) (ca := ca) (W := W) hr2 (VR.ext hr1.noTup e2 vr) wr (p2.first fun z h3 μ3 H3 zx _ e3 hr3 zr p3 => ?_)
    cases zr with
    | bl t =>
      refine ⟨t, rfl, ?_⟩
      cases t with
      | false => exact PostR.fin (V := VR K fa) p3 hr3 (.bl false)
      | true => exact ⟨μ3, ρ, h3, hr3, sr2.ext hr2.noTup e3, PostR.first (V' := VR K fa) p3 fun u h4 μ4 H4 ux _ e4 hr4 ur p4 => k_cmp oq hr4 (VR.ext hr3.noTup e4 (VR.ext hr2.noTup e3 wr)) ur p4⟩
    | _ => exact no p3⟩⟩
theorem r_chain (hu : X.A.units + 64 < cLine) (op oq : COp) (ha : PE X a (TEo X.K fa ca W sa)) (hb : PE X b (TEo X.K fa ca W sb)) (hc : PE X c (TEo X.K fa ca W sc)) (hm : plainE c = true) : PE X (.Compare a [PyCmp op, PyCmp oq] [b, c] pos) (TEo X.K fa ca W (denCh op oq sa sb sc)) :=
  PE_weak (pe_chain (op_cmpM hu op) (op_cmpM hu oq) ha hb hc (last_plain hm _ _)) fun σ H Q q => w_chain op oq σ H Q q
theorem t_chain (hu : X.A.units + 64 < cLine) (op oq : COp) (ha : PE X a (TEo X.K fa ca W sa)) (hb : PE X b (TEo X.K fa ca W sb)) (hc : PE X c (TEo X.K fa ca W sc)) (hm : plainE c = true) : PT X (.Compare a [PyCmp op, PyCmp oq] [b, c] pos) (TTt X.K fa ca W (denCh op oq sa sb sc)) :=
  PT_weak (pt_chain (op_cmpM hu op) (op_cmpM hu oq) ha hb hc (last_plain hm _ _)) fun σ H Q ⟨μ, ρ, h, hr, sr, p⟩ => w_chain op oq σ H _ ⟨μ, ρ, h, hr, sr, post_bl (fun v h' e => by
    obtain ⟨x, h1, _, e⟩ := bind_ok e
    obtain ⟨y, h2, _, e⟩ := bind_ok e
    obtain ⟨z, h3, _, e⟩ := bind_ok e
    cases z with
    | bl t =>
      cases t with
      | false => cases e; exact ⟨_, rfl⟩
      | true =>
        obtain ⟨w, h4, _, e⟩ := bind_ok (r := sc ρ h3) e
        exact vCmp_bl e
    | _ => cases e) p⟩
variable {rest : List Expr}
theorem andM_none {x : MV} {k : Hm → RE} (e : tru x h = none) : andM x h k = .bad := by unfold andM; rw [e]
theorem orM_none {x : MV} {k : Hm → RE} (e : tru x h = none) : orM x h k = .bad := by unfold orM; rw [e]
theorem andM_some {x : MV} {k : Hm → RE} {b : Bool} (e : tru x h = some b) : andM x h k = (if b = true then k h else .ok x h) := by unfold andM; rw [e]; cases b <;> rfl
theorem orM_some {x : MV} {k : Hm → RE} {b : Bool} (e : tru x h = some b) : orM x h k = (if b = true then .ok x h else k h) := by unfold orM; rw [e]; cases b <;> rfl
abbrev denAnd (sa sb : SE) : SE := fun ρ h => (sa ρ h).bind fun x h1 => andM x h1 (sb ρ)
abbrev denOr (sa sb : SE) : SE := fun ρ h => (sa ρ h).bind fun x h1 => orM x h1 (sb ρ)
theorem r_and (ha : PE X a (TEo X.K fa ca W sa)) (hb : PE X (.BoolOp .And (b :: rest) pos) (TEo X.K fa ca W sb)) : PE X (.BoolOp .And (a :: b :: rest) pos) (TEo X.K fa ca W (denAnd sa sb)) :=
  PE_weak (pe_andT ha hb) fun σ H Q ⟨μ, ρ, h, hr, sr, p⟩ => ⟨μ, ρ, h, hr, sr, p.first fun v h1 μ1 H1 x _ e1 hr1 vr p1 => by
    cases q : tru v h1 with
    | none => rw [andM_none q] at p1; exact no p1
    | some b =>
      rw [andM_some q] at p1
      refine ⟨b, k_tru hr1 vr q, ?_⟩
      cases b with
      | true => exact ⟨μ1, ρ, h1, hr1, sr.ext hr.noTup e1, p1⟩
      | false => exact PostR.fin (V := VR X.K fa) p1 hr1 vr⟩
theorem r_or (ha : PE X a (TEo X.K fa ca W sa)) (hb : PE X (.BoolOp .Or (b :: rest) pos) (TEo X.K fa ca W sb)) : PE X (.BoolOp .Or (a :: b :: rest) pos) (TEo X.K fa ca W (denOr sa sb)) :=
  PE_weak (pe_orT ha hb) fun σ H Q ⟨μ, ρ, h, hr, sr, p⟩ => ⟨μ, ρ, h, hr, sr, p.first fun v h1 μ1 H1 x _ e1 hr1 vr p1 => by
    cases q : tru v h1 with
    | none => rw [orM_none q] at p1; exact no p1
    | some b =>
      rw [orM_some q] at p1
      refine ⟨b, k_tru hr1 vr q, ?_⟩
      cases b with
      | false => exact ⟨μ1, ρ, h1, hr1, sr.ext hr.noTup e1, p1⟩
      | true => exact PostR.fin (V := VR X.K fa) p1 hr1 vr⟩
theorem p_and (ha : PT X a (TTt X.K fa ca W sa)) (hb : PW X (.BoolOp .And (b :: rest) pos) (TTt X.K fa ca W sb)) : PW X (.BoolOp .And (a :: b :: rest) pos) (TTt X.K fa ca W (denAnd sa sb)) :=
  PW_weak (pw_and ha hb) fun σ H Q ⟨μ, ρ, h, hr, sr, p⟩ => ⟨μ, ρ, h, hr, sr, p.truthT (fun v h q => andM_none q) fun b v h1 μ1 H1 _ q e hr1 p1 => by
    rw [andM_some q] at p1
    cases b with
    | true => exact ⟨μ1, ρ, h1, hr1, sr.ext hr.noTup e, p1⟩
    | false =>
      rw [if_neg (by decide), truT_ok q] at p1
      exact PostR.fin (V := EqV) p1 hr1 rfl⟩
theorem p_or (ha : PT X a (TTt X.K fa ca W sa)) (hb : PW X (.BoolOp .Or (b :: rest) pos) (TTt X.K fa ca W sb)) : PW X (.BoolOp .Or (a :: b :: rest) pos) (TTt X.K fa ca W (denOr sa sb)) :=
  PW_weak (pw_or ha hb) fun σ H Q ⟨μ, ρ, h, hr, sr, p⟩ => ⟨μ, ρ, h, hr, sr, p.truthT (fun v h q => orM_none q) fun b v h1 μ1 H1 _ q e hr1 p1 => by
    rw [orM_some q] at p1
    cases b with
    | false => exact ⟨μ1, ρ, h1, hr1, sr.ext hr.noTup e, p1⟩
    | true =>
      rw [if_pos rfl, truT_ok q] at p1
      exact PostR.fin (V := EqV) p1 hr1 rfl⟩
theorem p_one {o : BoolOp} (ha : PT X a (TTt X.K fa ca W sa)) : PW X (.BoolOp o [a] pos) (TTt X.K fa ca W sa) := by
  cases o with
  | And => exact pw_and1 ha
  | Or => exact pw_or1 ha
theorem iteM_none {x : MV} {f g : Hm → RE} (e : tru x h = none) : iteM x h f g = .bad := by cases x <;> first | rfl | cases e
theorem r_ite (hc : PT X c (TTt X.K fa ca W sc)) (ha : PE X a (TEo X.K fa ca W sa)) (hb : PE X b (TEo X.K fa ca W sb)) : PE X (.IfExp c a b pos) (TEo X.K fa ca W (fun ρ h => (sc ρ h).bind fun x h1 => iteM x h1 (sa ρ) (sb ρ))) :=
  PE_weak (pe_ifExp hc ha hb) fun σ H Q ⟨μ, ρ, h, hr, sr, p⟩ => ⟨μ, ρ, h, hr, sr, p.truth (fun v h q => iteM_none q) fun b v h1 μ1 H1 _ q e hr1 p1 => by
    cases v with
    | bl c =>
      cases q
      cases b with
      | true => exact ⟨μ1, ρ, h1, hr1, sr.ext hr.noTup e, p1⟩
      | false => exact ⟨μ1, ρ, h1, hr1, sr.ext hr.noTup e, p1⟩
    | _ => exact no p1⟩
theorem t_val (he : valE a = true) (ha : PE X a (TEo X.K fa ca W sa)) : PT X a (TTt X.K fa ca W sa) :=
  PT_weak (pt_truth ha fun whole => true_plain he _ _) fun σ H Q ⟨μ, ρ, h, hr, sr, p⟩ => ⟨μ, ρ, h, hr, sr, post_tru p⟩
variable {sl : SL} {es : List Expr}
theorem r_nil : PA X [] (TAo X.K fa ca W (fun _ h => .ok [] h)) := PA_weak pa_nil fun σ H Q ⟨μ, ρ, h, hr, sr, p⟩ => p.fin hr .nil
abbrev denCons (sa : SE) (sl : SL) : SL := fun ρ h => (sa ρ h).bind fun x h1 => (sl ρ h1).bind fun xs h2 => .ok (x :: xs) h2
theorem w_cons (σ : L2.St) (H : Hp) (Q : List V → Hp → Prop) : TAo K fa ca W (denCons sa sl) σ H Q → tCons (TEo K fa ca W sa) (TAo K fa ca W sl) σ H Q := fun ⟨μ, ρ, h, hr, sr, p⟩ =>
  ⟨μ, ρ, h, hr, sr, p.first fun v h1 μ1 H1 x _ e1 hr1 vr p1 => ⟨μ1, ρ, h1, hr1, sr.ext hr.noTup e1, p1.first fun w h2 μ2 H2 y _ e2 hr2 wr p2 => PostR.fin (V := VRs K fa) p2 hr2 (.cons (VR.ext hr1.noTup e2 vr) wr)⟩⟩
theorem r_cons (hp : plainE a = true) (ha : PE X a (TEo X.K fa ca W sa)) (hl : PA X es (TAo X.K fa ca W sl)) : PA X (a :: es) (TAo X.K fa ca W (denCons sa sl)) :=
  PA_weak (pa_cons ha hl (star_plain hp _ _)) fun σ H Q q => w_cons σ H Q q
theorem k_nil : PK X [] (TAo X.K fa ca W (fun _ h => .ok [] h)) := PK_weak pk_nil fun σ H Q ⟨μ, ρ, h, hr, sr, p⟩ => p.fin hr .nil
theorem k_cons {nm : Option Str} {kpos : Pos} {kws : List Keyword} (ha : PE X a (TEo X.K fa ca W sa)) (hl : PK X kws (TAo X.K fa ca W sl)) : PK X (⟨nm, a, kpos⟩ :: kws) (TAo X.K fa ca W (denCons sa sl)) :=
  PK_weak (pk_cons ha hl) fun σ H Q q => w_cons σ H Q q
def LenIs (sl : SL) (n : Nat) : Prop := ∀ ρ h vs h1, sl ρ h = .ok vs h1 → vs.length = n
theorem len_nil : LenIs (fun _ h => .ok [] h) 0 := fun ρ h vs h1 e => by cases e; rfl
theorem len_cons {n : Nat} (l : LenIs sl n) : LenIs (denCons sa sl) (n + 1) := fun ρ h vs h1 e => by
  obtain ⟨x, h2, _, e⟩ := bind_ok e
  obtain ⟨xs, h3, e2, e⟩ := bind_ok e
  cases e
  exact congrArg (· + 1) (l _ _ _ _ e2)
theorem r_tup {k n : Nat} (hl : PA X es (TAo X.K fa ca W sl)) (l : LenIs sl n) (hn : n ≤ 100000) : PE X (.Tuple es k pos) (TEo X.K fa ca W (fun ρ h => (sl ρ h).bind fun vs h1 => .ok (mkT vs) h1)) :=
  PE_weak (pe_tup hl) fun σ H Q ⟨μ, ρ, h, hr, sr, p⟩ => ⟨μ, ρ, h, hr, sr, p.first fun vs h1 μ1 H1 xs e _ hr1 vr p1 => k_tup (by rw [l ρ h vs h1 e]; exact hn) hr1 vr p1⟩
theorem r_lst {n : Nat} (hl : PA X es (TAo X.K fa ca W sl)) (l : LenIs sl n) (hn : n ≤ 100000) : PE X (.List es pos) (TEo X.K fa ca W (fun ρ h => (sl ρ h).bind fun vs h1 => newL vs h1)) :=
  PE_weak (pe_lst hl) fun σ H Q ⟨μ, ρ, h, hr, sr, p⟩ => ⟨μ, ρ, h, hr, sr, p.first fun vs h1 μ1 H1 xs e _ hr1 vr p1 => k_lst (by rw [l ρ h vs h1 e]; exact hn) hr1 vr p1⟩
theorem r_idx (hb' : plainE b = true) (ha : PE X a (TEo X.K fa ca W sa)) (hb : PE X b (TEo X.K fa ca W sb)) : PE X (.Subscript a b pos) (TEo X.K fa ca W (fun ρ h => (sa ρ h).bind fun x h1 => (sb ρ h1).bind fun y h2 => vIx x y h2)) :=
  PE_weak (pe_ix ix_seq ha hb (ix_plain hb')) fun σ H Q q => w2 (k := vIx) (fun hr vr wr p => k_ix hr vr wr p) σ H Q q
abbrev SO := Rho → Hm → R (Option Int)
abbrev EqO : Mu → Hp → Option Int → Option Int → Prop := fun _ _ a b => a = b
def TOo (K : PySem.W.Frag) (fa : FA) (ca : Nat → Addr) (W : WX) (s : SO) : TO := fun σ H Q => ∃ (μ : Mu) (ρ : Rho) (h : Hm), HR K fa μ h H ∧ SR K fa μ H ρ σ ∧ PostR K fa ca EqO μ H σ W Q (s ρ h)
theorem PO_weak {e : Option Expr} {t t' : TO} (h : PO X e t) (w : ∀ σ H Q, t' σ H Q → t σ H Q) : PO X e t' := ⟨fun pins s σ H Q I q => h.run pins s σ H Q I (w σ H Q q)⟩
theorem r_noe : PO X none (TOo X.K fa ca W (fun _ h => .ok none h)) := PO_weak po_none fun σ H Q ⟨μ, ρ, h, hr, sr, p⟩ => PostR.fin (V := EqO) p hr rfl
theorem r_bnd (ha : PE X a (TEo X.K fa ca W sa)) : PO X (some a) (TOo X.K fa ca W (fun ρ h => toI (sa ρ h))) :=
  PO_weak (po_some ha) fun σ H Q ⟨μ, ρ, h, hr, sr, p⟩ => ⟨μ, ρ, h, hr, sr, by
    dsimp only at p
    cases e : sa ρ h with
    | bad => rw [e] at p; exact p
    | exc c h1 => rw [e] at p; exact p
    | ok v h1 =>
      rw [e] at p
      intro μ' H' x ex hr' vr
      cases vr with
      | int i => exact ⟨i, rfl, p μ' H' (some i) ex hr' rfl⟩
      | _ => exact no p⟩
variable {slo shi : SO} {lo hi : Option Expr}
theorem r_slc {p2 : Pos} (ha : PE X a (TEo X.K fa ca W sa)) (hl : PO X lo (TOo X.K fa ca W slo)) (hh : PO X hi (TOo X.K fa ca W shi)) : PE X (.Subscript a (.Slice lo hi none p2) pos) (TEo X.K fa ca W (fun ρ h => (sa ρ h).bind fun x h1 => (slo ρ h1).bind fun l h2 => (shi ρ h2).bind fun u h3 => vSl x l u h3)) :=
  PE_weak (pe_slice sl_M ha hl hh) fun σ H Q ⟨μ, ρ, h, hr, sr, p⟩ => ⟨μ, ρ, h, hr, sr, p.first fun v h1 μ1 H1 x _ e1 hr1 vr p1 =>
    ⟨μ1, ρ, h1, hr1, sr.ext hr.noTup e1, p1.first fun l h2 μ2 H2 l' _ e2 hr2 el p2 => by
      have el : l = l' := el
      subst el
      exact ⟨μ2, ρ, h2, hr2, (sr.ext hr.noTup e1).ext hr1.noTup e2, p2.first fun u h3 μ3 H3 u' _ e3 hr3 eu p3 => by
        have eu : u = u' := eu
        subst eu
        exact k_sl hr3 (VR.ext hr2.noTup e3 (VR.ext hr1.noTup e2 vr)) p3⟩⟩⟩
end
end Mi
namespace Mi
open PySem PySem.Spec PyProof.Rows L2
section
variable {K : PySem.W.Frag} {fa : FA} {ca : Nat → Addr} {μ μ1 : Mu} {H H1 : Hp} {σ : L2.St} {W : WX} {ρ : Rho} {h : Hm} {X : Cx}
variable {sa sb sc : SE} {a b c : Expr} {pos : Pos}
theorem vrs1 {x : MV} {vs : List V} (r : VRs K fa μ H [x] vs) : ∃ v, vs = [v] ∧ VR K fa μ H x v := by
  cases r with
  | cons a b => cases b; exact ⟨_, rfl, a⟩
theorem vrs2 {x y : MV} {vs : List V} (r : VRs K fa μ H [x, y] vs) : ∃ v w, vs = [v, w] ∧ VR K fa μ H x v ∧ VR K fa μ H y w := by
  cases r with
  | cons a b =>
    obtain ⟨w, e, q⟩ := vrs1 b
    subst e
    exact ⟨_, _, rfl, a, q⟩
theorem tupV_eq {x : MV} (e : isTupV x = true) : ∃ d z zs, x = .tup d (z :: zs) := by
  unfold isTupV at e
  split at e
  · exact ⟨_, _, _, rfl⟩
  · cases e
theorem toD_tup {x : MV} (e : isTupV x = true) : ∃ d r, toD h 20 x = .tuple (d :: r) := by
  obtain ⟨d, z, zs, rfl⟩ := tupV_eq e
  exact ⟨_, _, rfl⟩
theorem sorted1 {α : Type} (le : α → α → Bool) (x : α) : [x].mergeSort le = [x] := by simp [List.mergeSort]
theorem sorted2 {α : Type} (le : α → α → Bool) (x y : α) : [x, y].mergeSort le = if le x y then [x, y] else [y, x] := by
  cases e : le x y <;> simp [List.mergeSort, List.MergeSort.Internal.splitInTwo, List.merge, e]
theorem k_sorted {W : WX} {σ : L2.St} {ms : List MV} {vs : List V} {Q : VK} (hr : HR K fa μ h H) (vr : VRs K fa μ H ms vs) (p : PV K fa ca μ H σ W Q (vBi .sorted ms h)) : rSortM K vs H Q := by
  match ms, vr, p with
  | [.tup d xs], vr, p =>
    obtain ⟨v, rfl, r⟩ := vrs1 vr
    cases r with
    | @tup _ _ a ws s q k =>
      have p' : PV K fa ca μ H σ W Q (match sort2 h xs with
        | some ys => newL ys h
        | none => .bad) := p
      match xs, q, p' with
      | [x], q, p' =>
        obtain ⟨v, rfl, r⟩ := vrs1 q
        have p2 : PV K fa ca μ H σ W Q (match (match isTupV x && shp 20 x x with
          | true => some [x]
          | false => none) with
          | some ys => newL ys h
          | none => .bad) := p'
        cases e : (isTupV x && shp 20 x x) with
        | false => rw [e] at p2; exact no p2
        | true =>
          rw [e] at p2
          obtain ⟨e1, e2⟩ := Bool.and_eq_true_iff.mp e
          obtain ⟨z, zs, e3⟩ := toD_tup (h := h) e1
          refine ⟨a, [(v, toD h 20 x)], rfl, s, fun b hb => ?_, fun d hd d' hd' => ?_, .inl fun d hd => ?_, fun b hb => ?_, ?_⟩
          · obtain rfl := List.mem_singleton.mp hb
            exact dp_of hr 20 r (shp_okD e2).1
          · obtain rfl := List.mem_singleton.mp hd
            obtain rfl := List.mem_singleton.mp hd'
            exact shp_alike 20 x x e2
          · obtain rfl := List.mem_singleton.mp hd
            exact ⟨z, zs, e3⟩
          · obtain rfl := List.mem_singleton.mp hb
            have := depth_toD (h := h) 20 x
            show (toD h 20 x).depth ≤ 60
            omega
          · rw [sorted1]
            exact PostR.lst (show PV K fa ca μ H σ W Q (newL [x] h) from p2) hr (.cons r .nil)
      | [x, y], q, p' =>
        obtain ⟨v, w, rfl, r, t⟩ := vrs2 q
        have p2 : PV K fa ca μ H σ W Q (match (match isTupV x && (isTupV y && (shp 20 x x && (shp 20 y y && (shp 20 x y && shp 20 y x)))) with
          | true => (match ltB h 20 y x with
            | true => some [y, x]
            | false => some [x, y])
          | false => none) with
          | some ys => newL ys h
          | none => .bad) := p'
        cases e : (isTupV x && (isTupV y && (shp 20 x x && (shp 20 y y && (shp 20 x y && shp 20 y x))))) with
        | false => rw [e] at p2; exact no p2
        | true =>
          rw [e] at p2
          simp only [Bool.and_eq_true] at e
          obtain ⟨e1, e2, e3, e4, e5, e6⟩ := e
          obtain ⟨z, zs, ez⟩ := toD_tup (h := h) e1
          obtain ⟨z', zs', ez'⟩ := toD_tup (h := h) e2
          have two : ∀ {α : Type} {x y z : α}, z ∈ [x, y] → z = x ∨ z = y := fun hz => by
            rcases List.mem_cons.mp hz with q | q
            · exact .inl q
            · exact .inr (List.mem_singleton.mp q)
          refine ⟨a, [(v, toD h 20 x), (w, toD h 20 y)], rfl, s, fun b hb => ?_, fun d hd d' hd' => ?_, .inl fun d hd => ?_, fun b hb => ?_, ?_⟩
          · rcases two hb with rfl | rfl
            · exact dp_of hr 20 r (shp_okD e3).1
            · exact dp_of hr 20 t (shp_okD e4).1
          · rcases two hd with rfl | rfl <;> rcases two hd' with rfl | rfl
            · exact shp_alike 20 x x e3
            · exact shp_alike 20 x y e5
            · exact shp_alike 20 y x e6
            · exact shp_alike 20 y y e4
          · rcases two hd with rfl | rfl
            · exact ⟨z, zs, ez⟩
            · exact ⟨z', zs', ez'⟩
          · rcases two hb with rfl | rfl
            · have := depth_toD (h := h) 20 x
              show (toD h 20 x).depth ≤ 60
              omega
            · have := depth_toD (h := h) 20 y
              show (toD h 20 y).depth ≤ 60
              omega
          · have eb := ltB_data 20 y x e6 (good_of hr 20 t (shp_okD e6).1) (good_of hr 20 r (shp_okD e6).2)
            have e8 : PySem.W.dataLe false Prod.snd (v, toD h 20 x) (w, toD h 20 y) = !ltB h 20 y x := by rw [eb]; rfl
            rw [sorted2, e8]
            cases e7 : ltB h 20 y x with
            | true =>
              rw [e7] at p2
              exact PostR.lst (show PV K fa ca μ H σ W Q (newL [y, x] h) from p2) hr (.cons t (.cons r .nil))
            | false =>
              rw [e7] at p2
              exact PostR.lst (show PV K fa ca μ H σ W Q (newL [x, y] h) from p2) hr (.cons r (.cons t .nil))
      | [], _, p' => exact no p'
      | _ :: _ :: _ :: _, _, p' => exact no p'
  | [], _, p => exact no p
  | [.und], _, p => exact no p
  | [.opq], _, p => exact no p
  | [.non], _, p => exact no p
  | [.bl _], _, p => exact no p
  | [.int _], _, p => exact no p
  | [.str _], _, p => exact no p
  | [.fn _], _, p => exact no p
  | [.lref _], _, p => exact no p
  | [.zipv _ _], _, p => exact no p
  | x :: _ :: _, _, p => exact no (by cases x <;> exact p)
abbrev Ent (K : PySem.W.Frag) (fa : FA) (μ : Mu) (H : Hp) : Int × MV → Key × V → Prop := fun p q => q.1 = Sum.inl p.1 ∧ VR K fa μ H p.2 q.2
theorem ent_key {p : Int × MV} {q : Key × V} (e : Ent K fa μ H p q) (k : Int) : ieq p.1 k = decide (q.1 = (Sum.inl k : Key)) := by
  rw [ieq_eq, e.1]
  by_cases h : p.1 = k
  · rw [decide_eq_true h, decide_eq_true (by rw [h])]
  · rw [decide_eq_false h, decide_eq_false fun z => h (Sum.inl.inj z)]
theorem ent_has (k : Int) : ∀ {d : List (Int × MV)} {dv : List (Key × V)}, Paired (Ent K fa μ H) d dv → dHas k d = (dv.any fun kv => decide (kv.1 = (Sum.inl k : Key)))
  | _, _, .nil => rfl
  | p :: d, q :: dv, .cons e t => by
    show (match ieq p.1 k with
      | true => true
      | false => dHas k d) = (decide (q.1 = (Sum.inl k : Key)) || dv.any fun kv => decide (kv.1 = (Sum.inl k : Key)))
    rw [ent_key e, ent_has k t]
    cases decide (q.1 = (Sum.inl k : Key)) <;> rfl
theorem paired_snoc {α β : Type} {R : α → β → Prop} {x : α} {y : β} (r : R x y) : ∀ {l : List α} {m : List β}, Paired R l m → Paired R (l ++ [x]) (m ++ [y])
  | _, _, .nil => .cons r .nil
  | _, _, .cons e t => .cons e (paired_snoc r t)
theorem dic_ok : ∀ (xs : List MV) {ws : List V} {acc d : List (Int × MV)} {av : List (Key × V)}, VRs K fa μ H xs ws → Paired (Ent K fa μ H) acc av → dicOf xs acc = some d →
    ∃ (ps : List Addr) (kvs : List (Key × V)), ws = ps.map V.ref ∧ Paired (fun p kv => SqT K H p [kV kv.1, kv.2]) ps kvs ∧ Paired (Ent K fa μ H) d (mergeK av kvs)
  | [], _, _, _, _, r, a, e => by
    cases r
    cases e
    exact ⟨[], [], rfl, .nil, a⟩
  | x :: xs, _, acc, d, av, r, a, e => by
    cases r with
    | @cons _ v _ ws rx rs =>
      cases rx with
      | @tup dd ys p vs s q k =>
        match ys, q, e with
        | [.int i, y], q, e =>
          obtain ⟨u, w, rfl, r1, r2⟩ := vrs2 q
          cases r1
          have e' : (match dHas i acc with
            | true => none
            | false => dicOf xs (acc ++ [(i, y)])) = some d := e
          cases eh : dHas i acc with
          | true => rw [eh] at e'; cases e'
          | false =>
            rw [eh] at e'
            obtain ⟨ps, kvs, e1, e2, e3⟩ := dic_ok xs (av := av ++ [(Sum.inl i, w)]) rs (paired_snoc ⟨rfl, r2⟩ a) e'
            refine ⟨p :: ps, (Sum.inl i, w) :: kvs, by rw [e1]; rfl, .cons s e2, ?_⟩
            have ep : putK av (Sum.inl i : Key) w = av ++ [(Sum.inl i, w)] := by
              unfold putK
              rw [← ent_has i a, eh]
              rfl
            show Paired (Ent K fa μ H) d (mergeK (putK av (Sum.inl i) w) kvs)
            rw [ep]
            exact e3
        | [], _, e => cases e
        | [.und], _, e => cases e
        | [.opq], _, e => cases e
        | [.non], _, e => cases e
        | [.bl _], _, e => cases e
        | [.int _], _, e => cases e
        | [.str _], _, e => cases e
        | [.fn _], _, e => cases e
        | [.lref _], _, e => cases e
        | [.tup _ _], _, e => cases e
        | [.zipv _ _], _, e => cases e
        | .und :: _ :: _, _, e => cases e
        | .opq :: _ :: _, _, e => cases e
        | .non :: _ :: _, _, e => cases e
        | .bl _ :: _ :: _, _, e => cases e
        | .str _ :: _ :: _, _, e => cases e
        | .fn _ :: _ :: _, _, e => cases e
        | .lref _ :: _ :: _, _, e => cases e
        | .tup _ _ :: _ :: _, _, e => cases e
        | .zipv _ _ :: _ :: _, _, e => cases e
        | .int _ :: _ :: _ :: _, _, e => cases e
      | _ => cases e
def rDictM (K : PySem.W.Frag) : List V → Hp → VK → Prop := fun xs H Q => ∃ (a : Addr) (ps : List Addr) (kvs : List (Key × V)), xs = [.ref a] ∧ SqL K H a (ps.map V.ref) ∧ Paired (fun p kv => SqT K H p [kV kv.1, kv.2]) ps kvs ∧
    ∀ p, H p = none → Q (.ref p) (upd H p (.dK (mergeK [] kvs)))
theorem k_dict {W : WX} {σ : L2.St} {ms : List MV} {vs : List V} {Q : VK} (hr : HR K fa μ h H) (vr : VRs K fa μ H ms vs) (p : PV K fa ca μ H σ W Q (vBi .dict ms h)) : rDictM K vs H Q := by
  match ms, vr, p with
  | [x], vr, p =>
    obtain ⟨v, rfl, r⟩ := vrs1 vr
    have p' : PV K fa ca μ H σ W Q (match lstOf h x with
      | some xs => (match fits xs, dicOf xs [] with
        | true, some d => .ok (.lref h.length) (h ++ [.dic d])
        | _, _ => .bad)
      | none => .bad) := p
    cases e : lstOf h x with
    | none => rw [e] at p'; exact no p'
    | some xs =>
      rw [e] at p'
      dsimp only at p'
      cases e1 : fits xs with
      | false => rw [e1] at p'; exact no p'
      | true =>
        rw [e1] at p'
        cases e2 : dicOf xs [] with
        | none => rw [e2] at p'; exact no p'
        | some d =>
          rw [e2] at p'
          obtain ⟨n, a, ws, _, rfl, _, _, hl, q⟩ := lstOf_ok hr r e
          obtain ⟨ps, kvs, rfl, f2, f3⟩ := dic_ok xs q .nil e2
          refine ⟨a, ps, kvs, rfl, .inl (.inl hl), f2, fun b hb => ?_⟩
          have p2 : PV K fa ca μ H σ W Q (.ok (.lref h.length) (h ++ [.dic d])) := p'
          refine p2 (μ ++ [b]) _ _ (Ext.grow hb) (hr.grow hb ⟨_, upd_same, ?_⟩) (.lref (by rw [← hr.len]; simp))
          exact Paired.mapP f3 fun p q z => ⟨z.1, VR.ext hr.noTup (Ext.grow hb) z.2⟩
  | [], _, p => exact no p
  | _ :: _ :: _, _, p => exact no p
theorem dic_at (hr : HR K fa μ h H) {x : MV} {v : V} {d : List (Int × MV)} (r : VR K fa μ H x v) (e : dicAt h x = some d) : ∃ a kws, v = .ref a ∧ H a = some (.dK kws) ∧ Paired (Ent K fa μ H) d kws := by
  cases r with
  | @lref n a ha =>
    have e' : (match geth h n with
      | some (.dic kvs) => some kvs
      | _ => none) = some d := e
    rw [geth_eq] at e'
    cases q : h[n]? with
    | none => rw [q] at e'; cases e'
    | some o =>
      rw [q] at e'
      have z := hr.at_ n a o ha q
      cases o with
      | dic kvs => cases e'; obtain ⟨kws, h1, h2⟩ := z; exact ⟨a, kws, rfl, h1, h2⟩
      | lst ys => cases e'
      | ro ys => cases e'
  | _ => cases e
theorem ent_get (k : Int) : ∀ {d : List (Int × MV)} {dv : List (Key × V)}, Paired (Ent K fa μ H) d dv → (∀ w, dGet k d = some w → ∃ u, valV dv (Sum.inl k : Key) = some u ∧ VR K fa μ H w u) ∧ (dGet k d = none → valV dv (Sum.inl k : Key) = none)
  | _, _, .nil => ⟨fun w e => (nomatch e), fun _ => rfl⟩
  | p :: d, q :: dv, .cons e t => by
    have ek := ent_key e k
    have i := ent_get k t
    have ed : dGet k (p :: d) = (match ieq p.1 k with
      | true => some p.2
      | false => dGet k d) := rfl
    rw [ed, ek]
    by_cases h : q.1 = (Sum.inl k : Key)
    · rw [decide_eq_true h, valV_pos h]
      exact ⟨fun w ew => by cases ew; exact ⟨_, rfl, e.2⟩, fun z => nomatch z⟩
    · rw [decide_eq_false h, valV_neg h]
      exact i
abbrev denGet (sa sb sc : SE) : SE := fun ρ h => (sa ρ h).bind fun x h1 => isD x h1 fun h2 => (sb ρ h2).bind fun k h3 => (sc ρ h3).bind fun v h4 => vGet x k v h4
theorem w_get (σ : L2.St) (H : Hp) (Q : VK) : TEo K fa ca W (denGet sa sb sc) σ H Q → tDGet2 (TEo K fa ca W sa) (TEo K fa ca W sb) (TEo K fa ca W sc) σ H Q := fun ⟨μ, ρ, h, hr, sr, p⟩ =>
  ⟨μ, ρ, h, hr, sr, p.first fun v h1 μ1 H1 x _ e1 hr1 vr p1 => by
    have p1 : PV K fa ca μ1 H1 σ W Q (match dicAt h1 v with
      | some _ => (sb ρ h1).bind fun k h3 => (sc ρ h3).bind fun w h4 => vGet v k w h4
      | none => .bad) := p1
    cases e : dicAt h1 v with
    | none => rw [e] at p1; exact no p1
    | some d =>
      rw [e] at p1
      obtain ⟨a, kws, rfl, ha, _⟩ := dic_at hr1 vr e
      refine ⟨a, rfl, .inl ⟨kws, .inl ha⟩, μ1, ρ, h1, hr1, sr.ext hr.noTup e1, PostR.first (V := VR K fa) (show PV K fa ca μ1 H1 σ W Q ((sb ρ h1).bind fun k h3 => (sc ρ h3).bind fun w h4 => vGet v k w h4) from p1) fun k h2 μ2 H2 y _ e2 hr2 kr p2 => ?_⟩
      refine ⟨μ2, ρ, h2, hr2, (sr.ext hr.noTup e1).ext hr1.noTup e2, p2.first fun w h3 μ3 H3 z _ e3 hr3 wr p3 => ?_⟩
      have vr3 := VR.ext hr2.noTup e3 (VR.ext hr1.noTup e2 vr)
      have kr3 := VR.ext hr2.noTup e3 kr
      cases kr3 with
      | int i =>
        have p4 : PV K fa ca μ3 H3 σ W Q (match dicAt h3 v with
          | some kvs => (match dGet i kvs with
            | some w => .ok w h3
            | none => .ok w h3)
          | none => .bad) := p3
        cases e5 : dicAt h3 v with
        | none => rw [e5] at p4; exact no p4
        | some d3 =>
          rw [e5] at p4
          obtain ⟨a', kws', ea, ha', pr⟩ := dic_at hr3 vr3 e5
          cases ea
          have g := ent_get i pr
          refine ⟨valV kws' (Sum.inl i), .inl ⟨kws', Sum.inl i, .inl ha', rfl, rfl⟩, ?_⟩
          cases e6 : dGet i d3 with
          | none =>
            rw [g.2 e6]
            dsimp only at p4
            rw [e6] at p4
            exact PostR.fin (V := VR K fa) (show PV K fa ca μ3 H3 σ W Q (.ok w h3) from p4) hr3 wr
          | some w' =>
            obtain ⟨u, eu, ru⟩ := g.1 w' e6
            rw [eu]
            dsimp only at p4
            rw [e6] at p4
            exact PostR.fin (V := VR K fa) (show PV K fa ca μ3 H3 σ W Q (.ok w' h3) from p4) hr3 ru
      | _ => exact no p3⟩
theorem r_get {apos : Pos} (hu : X.A.units + 64 < cLine) (hb : baseE a = true) (hl : (apos.endLine == pos.line) = true) (ha : PE X a (TEo X.K fa ca W sa)) (hp : plainL [b, c] = true) (h1 : PE X b (TEo X.K fa ca W sb)) (h2 : PE X c (TEo X.K fa ca W sc)) :
    PE X (.Call (.Attribute a "get" apos) [b, c] [] pos) (TEo X.K fa ca W (denGet sa sb sc)) := by
  obtain ⟨k1, k2⟩ := Bool.and_eq_true_iff.mp hp
  have k3 := (Bool.and_eq_true_iff.mp k2).1
  refine PE_weak (pe_dget2 (by omega) ha h1 h2 ⟨base_plain hb _ _, ?_, hl, ?_⟩) w_get
  · rw [all_plain pos X.env hp]
    rfl
  · rw [star_plain k1, star_plain k3]
    rfl
end
end Mi
namespace Mi
open PySem PySem.Spec PyProof.Rows L2
section
variable {K : PySem.W.Frag} {fa : FA} {ca : Nat → Addr} {μ μ1 : Mu} {H H1 : Hp} {σ : L2.St} {W : WX} {ρ : Rho} {h : Hm} {X : Cx}
def numV : V → Option Int
  | .int i => some i
  | .bl b => some (if b = true then 1 else 0)
  | _ => none
def numsV : List V → Option (List Int)
  | [] => some []
  | v :: r => (match numV v, numsV r with
    | some i, some l => some (i :: l)
    | _, _ => none)
theorem numsV_at : ∀ {vs : List V} {ns : List Int} {its : List Value} {i : Nat} {u : Value}, numsV vs = some ns → Vals vs its → its[i]? = some u → NumOf (ns.getD i 0) u
  | [], _, _, i, u, _, .nil, e => by simp at e
  | v :: r, ns, w :: _, i, u, h, .cons rv rt, e => by
    have h' : (match numV v, numsV r with
      | some i, some l => some (i :: l)
      | _, _ => none) = some ns := h
    cases q1 : numV v with
    | none => rw [q1] at h'; cases h'
    | some a =>
      cases q2 : numsV r with
      | none => rw [q1, q2] at h'; cases h'
      | some l =>
        rw [q1, q2] at h'
        cases h'
        cases i with
        | zero =>
          have e : w = u := by simpa using e
          subst e
          cases v with
          | int i => cases q1; obtain ⟨t, rfl⟩ := rv; exact .inl ⟨t, rfl⟩
          | bl b => cases q1; cases rv; exact .inr ⟨b, rfl, rfl⟩
          | _ => cases q1
        | succ i => exact numsV_at (i := i) q2 rt (by simpa using e)
theorem numsV_len : ∀ {vs : List V} {ns : List Int}, numsV vs = some ns → ns.length = vs.length
  | [], _, h => by cases h; rfl
  | v :: r, ns, h => by
    have h' : (match numV v, numsV r with
      | some i, some l => some (i :: l)
      | _, _ => none) = some ns := h
    cases q1 : numV v with
    | none => rw [q1] at h'; cases h'
    | some a =>
      cases q2 : numsV r with
      | none => rw [q1, q2] at h'; cases h'
      | some l => rw [q1, q2] at h'; cases h'; exact congrArg (· + 1) (numsV_len q2)
theorem preSum_take (ns : List Int) : ∀ n : Nat, preSum (fun i => ns.getD i 0) n = (ns.take n).sum
  | 0 => rfl
  | n + 1 => by
    show preSum (fun i => ns.getD i 0) n + ns.getD n 0 = _
    rw [preSum_take ns n, List.take_add_one, List.sum_append, List.getD_eq_getElem?_getD]
    cases ns[n]? <;> simp
theorem preSum_list (ns : List Int) : preSum (fun i => ns.getD i 0) ns.length = ns.sum := by rw [preSum_take, List.take_of_length_le (Nat.le_refl _)]
def rSumM (K : PySem.W.Frag) : List V → Hp → VK → Prop := fun xs H Q => ∃ (a : Addr) (vs : List V) (ns : List Int), xs = [.ref a] ∧ SqL K H a vs ∧ numsV vs = some ns ∧ Q (.int ns.sum) H
theorem cr_sumM (hc : X.calm = true) : CallR X (.builtin "sum") (rSumM X.K) := by
  intro pins s σ H xs us Q I r hq
  obtain ⟨a, vs, ns, rfl, hs, hn, q⟩ := hq
  obtain ⟨its, rv, hl, _⟩ := I.list hs
  rw [Vals.ref1 r]
  refine call_sum_walkAnyB (iter_any hl.isList fun s2 e2 st hne => ?_)
  subst e2
  refine ⟨_, _, _, _, _, _, _, fun i => ns.getD i 0, rfl, (Walks.list (A := X.A.in1) (I.ok.hd hc) _ a hne its.toArray).toS, st, fun b hb => ?_, fun i v hP => ?_, fun s' t' hm => ?_⟩
  · rcases List.mem_cons.mp hb with rfl | hb
    · exact Heap.lt_size (Heap.get?_push_size _ rfl)
    · obtain rfl := List.mem_singleton.mp hb
      obtain ⟨_, eo, _⟩ := hl.isList
      exact Heap.lt_size (Heap.get?_push_of_some _ eo)
  · exact numsV_at hn rv (by simpa using hP)
  · obtain ⟨h1, g1, d1, t1, o1⟩ := s'
    have e1 : g1 = s.gens := hm.gens
    have e2 : d1 = s.drawn := hm.drawn
    have e3 : o1 = s.os := hm.os
    subst e1 e2 e3
    have kp : ∀ b o, s.heap.get? b = some o → h1.get? b = some o := fun b o eo => hm.heap b o (fun hb => absurd (Heap.lt_size eo) ((List.mem_singleton.mp hb) ▸ Nat.lt_irrefl _)) (Heap.get?_push_of_some _ eo)
    have hlen : its.length = ns.length := by rw [numsV_len hn, rv.length]
    refine ⟨.int ns.sum, H, I.kept kp, ⟨t', ?_⟩, q⟩
    rw [List.size_toArray, hlen, preSum_list]
theorem cr_lcmM : CallR X (.builtin "math.lcm") (fun xs H Q => ∃ i j : Int, xs = [.int i, .int j] ∧ i.natAbs < 2 ^ 64 ∧ j.natAbs < 2 ^ 64 ∧ Q (.int ((Nat.lcm i.natAbs j.natAbs : Nat) : Int)) H) := by
  intro pins s σ H xs us Q I r hq
  obtain ⟨i, j, rfl, h1, h2, q⟩ := hq
  obtain ⟨t, u, rfl⟩ := Vals.int2 r
  refine PySem.W.mg_lcm_v h1 h2 (by rw [PySem.W.mc_lcm_one]) ?_ ⟨.int _, H, I.tok _, ⟨_, rfl⟩, q⟩
  have hz : Nat.lcm i.natAbs j.natAbs ≤ 2 ^ 128 := Nat.le_trans (PySem.W.mc_lcm_le _ _) (by
    have := Nat.mul_le_mul (Nat.le_of_lt h1) (Nat.le_of_lt h2)
    rwa [← Nat.pow_add] at this)
  show (Nat.lcm i.natAbs j.natAbs).log2 < bitsLine
  rw [bitsLine_eq]
  by_cases z : Nat.lcm i.natAbs j.natAbs = 0
  · rw [z]; decide
  · have := (Nat.log2_lt z (k := 129)).mpr (by omega)
    omega
theorem VRs.one {x : MV} {vs : List V} (r : VRs K fa μ H [x] vs) : ∃ v, vs = [v] ∧ VR K fa μ H x v := by
  cases r with
  | cons a b => cases b; exact ⟨_, rfl, a⟩
theorem VRs.two {x y : MV} {vs : List V} (r : VRs K fa μ H [x, y] vs) : ∃ v w, vs = [v, w] ∧ VR K fa μ H x v ∧ VR K fa μ H y w := by
  cases r with
  | cons a b =>
    obtain ⟨w, e, q⟩ := b.one
    subst e
    exact ⟨_, w, rfl, a, q⟩
theorem isums_num : ∀ {xs : List MV} {vs : List V} {i : Int}, VRs K fa μ H xs vs → isums xs = some i → ∃ ns, numsV vs = some ns ∧ ns.sum = i
  | _, _, i, .nil, e => by cases e; exact ⟨[], rfl, rfl⟩
  | x :: xs, _, i, .cons (v := v) r t, e => by
    have go : ∀ {a : Int}, numV v = some a → (match isums xs with
      | some s => some (a + s)
      | none => none) = some i → ∃ ns, numsV (v :: _) = some ns ∧ ns.sum = i := fun {a} e1 e2 => by
      cases q : isums xs with
      | none => rw [q] at e2; cases e2
      | some z =>
        rw [q] at e2
        cases e2
        obtain ⟨ns, h1, h2⟩ := isums_num t q
        refine ⟨a :: ns, ?_, by rw [List.sum_cons, h2]⟩
        show (match numV v, numsV _ with
          | some i, some l => some (i :: l)
          | _, _ => none) = _
        rw [e1, h1]
    cases r with
    | int j => exact go rfl e
    | bl b => exact go (a := bint b) (by rw [bint_eq]; rfl) e
    | _ => cases e
theorem ball_bl : ∀ {xs : List MV} {vs : List V} {b : Bool}, VRs K fa μ H xs vs → ball xs = some b → ∃ bs : List Bool, vs = bs.map V.bl ∧ bs.all id = b
  | _, _, b, .nil, e => by cases e; exact ⟨[], rfl, rfl⟩
  | x :: xs, _, b, .cons r t, e => by
    cases r with
    | bl c =>
      have e' : (match ball xs with
        | some s => some (c && s)
        | none => none) = some b := e
      cases q : ball xs with
      | none => rw [q] at e'; cases e'
      | some z =>
        rw [q] at e'
        cases e'
        obtain ⟨bs, h1, h2⟩ := ball_bl t q
        exact ⟨c :: bs, by rw [h1]; rfl, by rw [List.all_cons, h2]; rfl⟩
    | _ => cases e
theorem bany_bl : ∀ {xs : List MV} {vs : List V} {b : Bool}, VRs K fa μ H xs vs → bany xs = some b → ∃ bs : List Bool, vs = bs.map V.bl ∧ bs.any id = b
  | _, _, b, .nil, e => by cases e; exact ⟨[], rfl, rfl⟩
  | x :: xs, _, b, .cons r t, e => by
    cases r with
    | bl c =>
      have e' : (match bany xs with
        | some s => some (c || s)
        | none => none) = some b := e
      cases q : bany xs with
      | none => rw [q] at e'; cases e'
      | some z =>
        rw [q] at e'
        cases e'
        obtain ⟨bs, h1, h2⟩ := bany_bl t q
        exact ⟨c :: bs, by rw [h1]; rfl, by rw [List.any_cons, h2]; rfl⟩
    | _ => cases e
def biV : Bi → Value
  | .len => .builtin "len"
  | .abs => .builtin "abs"
  | .gcd => .builtin "math.gcd"
  | .lcm => .builtin "math.lcm"
  | .min => .builtin "min"
  | .max => .builtin "max"
  | .sum => .builtin "sum"
  | .all => .builtin "all"
  | .any => .builtin "any"
  | .int => .type "int"
  | .tuple => .type "tuple"
  | .list => .type "list"
  | .dict => .type "dict"
  | .sorted => .builtin "sorted"
def rBi (K : PySem.W.Frag) (fa : FA) (ca : Nat → Addr) (b : Bi) : List V → Hp → VK → Prop := fun vs H Q => ∃ (W : WX) (σ : L2.St) (μ : Mu) (ms : List MV) (h : Hm), HR K fa μ h H ∧ VRs K fa μ H ms vs ∧ PV K fa ca μ H σ W Q (vBi b ms h)
theorem callW {f : Value} {r r' : List V → Hp → VK → Prop} (c : CallR X f r) (w : ∀ vs H Q, r' vs H Q → r vs H Q) : CallR X f r' := fun pins s σ H xs us Q I rv q => c pins s σ H xs us Q I rv (w _ _ _ q)
theorem gt_eq {α : Type} (i j : Int) (a b : α) : (match ilt i j with
    | true => a
    | false => b) = if i < j then a else b := by
  rw [ilt_eq]
  by_cases e : i < j
  · rw [if_pos e, decide_eq_true e]
  · rw [if_neg e, decide_eq_false e]
theorem cr_bi (hc : X.calm = true) (hu : X.A.units + 64 < cLine) (b : Bi) : CallR X (biV b) (rBi X.K fa ca b) := by
  cases b with
  | len =>
    refine callW call_len_seq fun vs H Q ⟨W, σ, μ, ms, h, hr, vr, p⟩ => ?_
    match ms, vr, p with
    | [x], vr, p =>
      obtain ⟨v, rfl, r⟩ := vr.one
      have p' : PV X.K fa ca μ H σ W Q (match seqOf h x with
        | some xs => .ok (.int (.ofNat xs.length)) h
        | none => .bad) := p
      cases e : seqOf h x with
      | none => rw [e] at p'; exact no p'
      | some xs =>
        rw [e] at p'
        obtain ⟨a, ws, e1, e2, q⟩ := seqOf_ok hr r e
        subst e1
        have p2 : PV X.K fa ca μ H σ W Q (.ok (.int (.ofNat xs.length)) h) := p'
        rw [q.length] at p2
        exact ⟨a, ws, rfl, e2, p2.fin hr (.int _)⟩
    | [], _, p => exact no p
    | _ :: _ :: _, _, p => exact no p
  | abs =>
    refine callW call_abs fun vs H Q ⟨W, σ, μ, ms, h, hr, vr, p⟩ => ?_
    unfold vBi at p
    dsimp only at p
    split at p
    · rename_i i
      obtain ⟨v, rfl, r⟩ := vr.one
      cases r
      rw [iz_eq] at p
      have e : (Int.ofNat i.natAbs) = (if i < 0 then -i else i) := by
        show ((i.natAbs : Nat) : Int) = _
        split <;> omega
      rw [e] at p
      exact ⟨i, rfl, PostR.fin (V := VR X.K fa) p hr (.int _)⟩
    · exact no p
  | gcd =>
    refine callW cr_gcd fun vs H Q ⟨W, σ, μ, ms, h, hr, vr, p⟩ => ?_
    unfold vBi at p
    dsimp only at p
    split at p
    · rename_i i j
      obtain ⟨v, w, rfl, r, q⟩ := vr.two
      cases r
      cases q
      rw [iz_eq, iz_eq] at p
      exact ⟨i, j, rfl, PostR.fin (V := VR X.K fa) p hr (.int _)⟩
    · exact no p
  | lcm =>
    refine callW cr_lcmM fun vs H Q ⟨W, σ, μ, ms, h, hr, vr, p⟩ => ?_
    unfold vBi at p
    dsimp only at p
    split at p
    · rename_i i j
      obtain ⟨v, w, rfl, r, q⟩ := vr.two
      cases r
      cases q
      split at p
      · rename_i e
        obtain ⟨e1, e2⟩ := Bool.and_eq_true_iff.mp e
        have z1 := Nat.le_of_ble_eq_true e1
        have z2 := Nat.le_of_ble_eq_true e2
        rw [iz_eq] at z1 z2
        rw [iz_eq, iz_eq] at p
        exact ⟨i, j, rfl, by omega, by omega, PostR.fin (V := VR X.K fa) p hr (.int _)⟩
      · exact no p
    · exact no p
  | min =>
    refine callW (call_min2 hc) fun vs H Q ⟨W, σ, μ, ms, h, hr, vr, p⟩ => ?_
    unfold vBi at p
    dsimp only at p
    split at p
    · rename_i i j
      obtain ⟨v, w, rfl, r, q⟩ := vr.two
      cases r
      cases q
      have p2 : PV X.K fa ca μ H σ W Q (.ok (.int (if j < i then j else i)) h) := by rw [← gt_eq]; exact p
      exact ⟨i, j, rfl, p2.fin hr (.int _)⟩
    · exact no p
  | max =>
    refine callW (call_max2 hc) fun vs H Q ⟨W, σ, μ, ms, h, hr, vr, p⟩ => ?_
    unfold vBi at p
    dsimp only at p
    split at p
    · rename_i i j
      obtain ⟨v, w, rfl, r, q⟩ := vr.two
      cases r
      cases q
      have p2 : PV X.K fa ca μ H σ W Q (.ok (.int (if i < j then j else i)) h) := by rw [← gt_eq]; exact p
      exact ⟨i, j, rfl, p2.fin hr (.int _)⟩
    · exact no p
  | sum =>
    refine callW (cr_sumM hc) fun vs H Q ⟨W, σ, μ, ms, h, hr, vr, p⟩ => ?_
    unfold vBi at p
    dsimp only at p
    split at p
    · obtain ⟨v, rfl, r⟩ := vr.one
      split at p
      · rename_i xs e
        split at p
        · rename_i i e2
          obtain ⟨n, a, ws, _, rfl, _, _, h1, q⟩ := lstOf_ok hr r e
          obtain ⟨ns, z1, z2⟩ := isums_num q e2
          refine ⟨a, ws, ns, rfl, .inl (.inl h1), z1, ?_⟩
          rw [z2]
          exact PostR.fin (V := VR X.K fa) p hr (.int _)
        · exact no p
      · exact no p
    · exact no p
  | all =>
    refine callW (cr_all hc) fun vs H Q ⟨W, σ, μ, ms, h, hr, vr, p⟩ => ?_
    unfold vBi at p
    dsimp only at p
    split at p
    · obtain ⟨v, rfl, r⟩ := vr.one
      split at p
      · rename_i xs e
        cases e2 : ball xs with
        | none => rw [e2] at p; exact no p
        | some b =>
          rw [e2] at p
          obtain ⟨n, a, ws, _, rfl, _, _, h1, q⟩ := lstOf_ok hr r e
          obtain ⟨bs, z1, z2⟩ := ball_bl q e2
          subst z1
          refine ⟨a, bs, rfl, .inl (.inl h1), ?_⟩
          rw [z2]
          exact PostR.fin (V := VR X.K fa) (show PV X.K fa ca μ H σ W Q (.ok (.bl b) h) from p) hr (.bl _)
      · exact no p
    · exact no p
  | any =>
    refine callW (cr_any hc) fun vs H Q ⟨W, σ, μ, ms, h, hr, vr, p⟩ => ?_
    unfold vBi at p
    dsimp only at p
    split at p
    · obtain ⟨v, rfl, r⟩ := vr.one
      split at p
      · rename_i xs e
        cases e2 : bany xs with
        | none => rw [e2] at p; exact no p
        | some b =>
          rw [e2] at p
          obtain ⟨n, a, ws, _, rfl, _, _, h1, q⟩ := lstOf_ok hr r e
          obtain ⟨bs, z1, z2⟩ := bany_bl q e2
          subst z1
          refine ⟨a, bs, rfl, .inl (.inl h1), ?_⟩
          rw [z2]
          exact PostR.fin (V := VR X.K fa) (show PV X.K fa ca μ H σ W Q (.ok (.bl b) h) from p) hr (.bl _)
      · exact no p
    · exact no p
  | int =>
    refine callW call_int1 fun vs H Q ⟨W, σ, μ, ms, h, hr, vr, p⟩ => ?_
    unfold vBi at p
    dsimp only at p
    split at p
    · rename_i i
      obtain ⟨v, rfl, r⟩ := vr.one
      cases r
      exact .inl ⟨i, rfl, PostR.fin (V := VR X.K fa) p hr (.int _)⟩
    · rename_i b
      obtain ⟨v, rfl, r⟩ := vr.one
      cases r
      refine .inr ⟨b, rfl, ?_⟩
      have z := PostR.fin (V := VR X.K fa) p hr (.int _)
      rw [bint_eq] at z
      exact z
    · exact no p
  | tuple =>
    refine callW call_tuple_of fun vs H Q ⟨W, σ, μ, ms, h, hr, vr, p⟩ => ?_
    unfold vBi at p
    dsimp only at p
    split at p
    · rename_i d xs
      obtain ⟨v, rfl, r⟩ := vr.one
      cases r with
      | tup s q k => exact ⟨_, _, rfl, .inr ⟨s, PostR.fin (V := VR X.K fa) p hr (.tup s q k)⟩⟩
    · rename_i x nt
      obtain ⟨v, rfl, r⟩ := vr.one
      split at p
      · rename_i xs e
        cases r with
        | tup s q k => exact absurd rfl (nt _ _)
        | lref ha =>
          obtain ⟨ws, sq, q⟩ := list_at hr ha e
          exact ⟨_, ws, rfl, .inl ⟨sq, PostR.tup (show PV X.K fa ca μ H σ W Q (.ok (mkT xs) h) from p) hr q⟩⟩
        | _ => cases e
      · exact no p
    · exact no p
  | list =>
    refine callW call_list_of fun vs H Q ⟨W, σ, μ, ms, h, hr, vr, p⟩ => ?_
    unfold vBi at p
    dsimp only at p
    split at p
    · obtain ⟨v, rfl, r⟩ := vr.one
      split at p
      · rename_i xs e
        obtain ⟨a, ws, rfl, e2, q⟩ := seqOf_ok hr r e
        exact ⟨a, ws, rfl, e2, PostR.lst (show PV X.K fa ca μ H σ W Q (newL xs h) from p) hr q⟩
      · exact no p
    · exact no p
  | dict => exact callW (call_dictP hc) fun vs H Q ⟨W, σ, μ, ms, h, hr, vr, p⟩ => k_dict hr vr p
  | sorted => exact callW (cr_sortedM hu) fun vs H Q ⟨W, σ, μ, ms, h, hr, vr, p⟩ => k_sorted hr vr p
end
end Mi
namespace Mi
open PySem PySem.Spec PyProof.Rows L2
section
variable {K : PySem.W.Frag} {fa : FA} {ca : Nat → Addr} {μ μ1 : Mu} {H H1 : Hp} {σ : L2.St} {W : WX} {ρ : Rho} {h : Hm} {X : Cx}
variable {sa sb sc : SE} {a b c : Expr} {pos p : Pos} {sl : SL} {es : List Expr} {x : Str}
def BiAt (X : Cx) (x : Str) (b : Bi) : Prop := (X.mg x = none ∧ bootBuiltins x = some (biV b)) ∨ (∃ id, biV b = .builtin id ∧ X.mg x = some (.builtin id))
theorem w_bi (b : Bi) (σ : L2.St) (H : Hp) (Q : VK) : TEo K fa ca W (fun ρ h => (sl ρ h).bind fun vs h1 => vBi b vs h1) σ H Q → tCB (rBi K fa ca b) (TAo K fa ca W sl) σ H Q := fun ⟨μ, ρ, h, hr, sr, p⟩ =>
  ⟨μ, ρ, h, hr, sr, p.first fun ms h1 μ1 H1 vs _ _ hr1 vr p1 => ⟨W, σ, μ1, ms, h1, hr1, vr, p1⟩⟩
theorem r_bi (hc : X.calm = true) (hu : X.A.units + 64 < cLine) (b : Bi) (hb : BiAt X x b) (hg : Gl X x) (hn : x ≠ "__name__") (hd : (x == ("__debug__" : Str)) = false) (hp : plainL (a :: es) = true) (ha : PA X (a :: es) (TAo X.K fa ca W sl)) :
    PE X (.Call (.Name x p) (a :: es) [] pos) (TEo X.K fa ca W (fun ρ h => (sl ρ h).bind fun vs h1 => vBi b vs h1)) := by
  obtain ⟨h1, h2⟩ := Bool.and_eq_true_iff.mp hp
  have he := star_plain h1 es X.env
  have hpl := any_plain pos X.env h2
  rcases hb with ⟨hm, hv⟩ | ⟨id, e, hm⟩
  · have cr := cr_bi (fa := fa) (ca := ca) hc hu b
    have fun_ : ∀ id : String, biV b = .builtin id → PE X (.Call (.Name x p) (a :: es) [] pos) (TEo X.K fa ca W (fun ρ h => (sl ρ h).bind fun vs h1 => vBi b vs h1)) := fun id e => by
      rw [e] at cr hv
      exact PE_weak (pe_callB cr hg hm hv ha hn hd he hpl) (w_bi b)
    have ty_ : ∀ T : String, biV b = .type T → PE X (.Call (.Name x p) (a :: es) [] pos) (TEo X.K fa ca W (fun ρ h => (sl ρ h).bind fun vs h1 => vBi b vs h1)) := fun T e => by
      rw [e] at cr hv
      exact PE_weak (pe_callTy cr hg hm hv ha hn hd he hpl) (w_bi b)
    cases b <;> first | exact fun_ _ rfl | exact ty_ _ rfl
  · have cr := cr_bi (fa := fa) (ca := ca) hc hu b
    rw [e] at cr
    exact PE_weak (pe_callBfun cr hg hm ha hd he hpl) (w_bi b)
def TyAt (X : Cx) (x : Str) (t : Ty) : Prop := Gl X x ∧ X.mg x = none ∧ bootBuiltins x = some (.type (PyTy t)) ∧ x ≠ "__name__" ∧ (x == ("__debug__" : Str)) = false
theorem r_ty {t : Ty} (T : TyAt X x t) : PE X (.Name x p) (tC (.ty (PyTy t))) := pe_bltn T.1 T.2.1 T.2.2.1 rfl T.2.2.2.1 T.2.2.2.2
theorem kit_any {v : MV} {b : Bool} : ∀ {ts : List Ty}, tyAny ts v h = some b → PySem.W.kitAny K (.type (tyN v)) (ts.map fun t => .type (PyTy t)) = some b
  | [], e => e
  | t :: ts, e => by
    have e' : (match tyIs t v h with
      | some true => some true
      | some false => tyAny ts v h
      | none => none) = some b := e
    show (match PySem.W.kitOne K (.type (tyN v)) (.type (PyTy t)) with
      | some true => some true
      | some false => PySem.W.kitAny K (.type (tyN v)) (ts.map fun t => .type (PyTy t))
      | none => none) = some b
    cases q : tyIs t v h with
    | none => rw [q] at e'; cases e'
    | some c =>
      rw [kit_ty (tyIs_kit q)]
      rw [q] at e'
      cases c with
      | true => exact e'
      | false => exact kit_any e'
theorem ty_some {v : MV} {b : Bool} {t : Ty} {ts : List Ty} (e : tyAny (t :: ts) v h = some b) : ∃ c, tyIs t v h = some c := by
  have e' : (match tyIs t v h with
    | some true => some true
    | some false => tyAny ts v h
    | none => none) = some b := e
  cases q : tyIs t v h with
  | none => rw [q] at e'; cases e'
  | some c => exact ⟨c, rfl⟩
theorem clsV_all : ∀ ts : List Ty, Paired ClsV (ts.map fun t => V.ty (PyTy t)) (ts.map fun t => Value.type (PyTy t))
  | [] => .nil
  | t :: ts => .cons (.ty _) (clsV_all ts)
theorem r_isi1 {q1 q2 : Pos} {y : Str} {t : Ty} (hg : Gl X "isinstance") (hm : X.mg "isinstance" = none) (T : TyAt X y t) (hp : plainE a = true) (ha : PE X a (TEo X.K fa ca W sa)) :
    PE X (.Call (.Name "isinstance" p) [a, .Name y q1] [] pos) (TEo X.K fa ca W (fun ρ h => (sa ρ h).bind fun x h1 => obl (tyAny [t] x h1) h1)) := by
  refine PE_weak (pe_callB call_isi hg hm (by decide +kernel) (pa_cons ha (pa_cons (r_ty T) pa_nil rfl) (star_plain hp _ _)) (by decide) (by decide) (star_plain hp _ _) rfl) fun σ H Q ⟨μ, ρ, h, hr, sr, p⟩ => ⟨μ, ρ, h, hr, sr, p.first fun v h1 μ1 H1 w _ _ hr1 vr p1 => ?_⟩
  cases e : tyAny [t] v h1 with
  | none => rw [e] at p1; exact no p1
  | some b =>
    rw [e] at p1
    obtain ⟨c, e2⟩ := ty_some e
    have k := kit_any (K := X.K) e
    have k' : PySem.W.kitOne X.K (.type (tyN v)) (.type (PyTy t)) = some b := by
      rw [kit_ty (tyIs_kit e2)]
      have k2 : (match PySem.W.kitOne X.K (.type (tyN v)) (.type (PyTy t)) with
        | some true => some true
        | some false => some false
        | none => none) = some b := k
      rw [kit_ty (tyIs_kit e2)] at k2
      cases c <;> exact k2
    exact ⟨w, .ty (PyTy t), .type (tyN v), .type (PyTy t), b, rfl, .ty _, tyX_of hr1 vr e2, k', PostR.fin (V := VR X.K fa) p1 hr1 (.bl _)⟩
def TysAt (X : Cx) : List Expr → List Ty → Prop
  | [], [] => True
  | .Name x _ :: es, t :: ts => TyAt X x t ∧ TysAt X es ts
  | _, _ => False
def tTys : List Ty → TA
  | [] => tNil
  | t :: ts => tCons (tC (.ty (PyTy t))) (tTys ts)
theorem pa_tys : ∀ {es : List Expr} {ts : List Ty}, TysAt X es ts → PA X es (tTys ts)
  | [], [], _ => pa_nil
  | .Name x _ :: es, t :: ts, T => pa_cons (r_ty T.1) (pa_tys T.2) rfl
theorem tTys_run {Q : List V → Hp → Prop} : ∀ {ts : List Ty}, Q (ts.map fun t => V.ty (PyTy t)) H → tTys ts σ H Q
  | [], q => q
  | t :: ts, q => tTys_run (ts := ts) (Q := fun xs H2 => Q (V.ty (PyTy t) :: xs) H2) q
theorem r_isiT {q2 : Pos} {k : Nat} {es : List Expr} {t : Ty} {ts : List Ty} (hg : Gl X "isinstance") (hm : X.mg "isinstance" = none) (T : TysAt X es (t :: ts)) (hn : ts.length ≤ 100) (hp : plainE a = true) (ha : PE X a (TEo X.K fa ca W sa)) :
    PE X (.Call (.Name "isinstance" p) [a, .Tuple es k q2] [] pos) (TEo X.K fa ca W (fun ρ h => (sa ρ h).bind fun x h1 => obl (tyAny (t :: ts) x h1) h1)) := by
  refine PE_weak (pe_callB call_isiT hg hm (by decide +kernel) (pa_cons ha (pa_cons (pe_tup (pa_tys T)) pa_nil rfl) (star_plain hp _ _)) (by decide) (by decide) (star_plain hp _ _) rfl) fun σ H Q ⟨μ, ρ, h, hr, sr, p⟩ => ⟨μ, ρ, h, hr, sr, p.first fun v h1 μ1 H1 w _ _ hr1 vr p1 => ?_⟩
  cases e : tyAny (t :: ts) v h1 with
  | none => rw [e] at p1; exact no p1
  | some b =>
    rw [e] at p1
    obtain ⟨c, e2⟩ := ty_some e
    refine tTys_run ⟨?_, fun q hq => ?_⟩
    · rw [List.length_map, List.length_cons, sizeLine_eq]; omega
    · refine ⟨w, q, (t :: ts).map fun t => V.ty (PyTy t), .type (tyN v), (t :: ts).map fun t => Value.type (PyTy t), b, rfl, upd_same, clsV_all _, tyX_of (hr1.laid hq) (VR.ext hr1.noTup (.laid hq) vr) e2, kit_any e, ?_⟩
      exact p1 μ1 _ (.bl b) (.laid hq) (hr1.laid hq) (.bl b)
def mtN : Mth → Str
  | .append => "append"
  | .extend => "extend"
  | .pop => "pop"
  | .popAt => "pop"
  | .get => "get"
theorem eqL_ref {a b : Addr} (h : V.ref a = V.ref b) : a = b := by cases h; rfl
theorem PostR.put {Q : VK} {n : Nat} {a : Addr} {v : MV} {x : V} {xs : List MV} {vs : List V} (p : PostR K fa ca (VR K fa) μ H σ W Q (.ok v (seth h n (.lst xs)))) (hr : HR K fa μ h H) (ha : μ[n]? = some a) {ys : List V} (e : H a = some (.lst ys)) (r : VRs K fa μ H xs vs) (rv : VR K fa μ H v x) : Q x (upd H a (.lst vs)) := by
  have nt := notTup_lst e
  refine p μ _ _ (.change (List.mem_of_getElem? ha)) ?_ (VR.mono (fun _ _ z => z) (fun _ _ s => SqT.off nt s) rv)
  rw [seth_eq]
  exact hr.change ha ⟨vs, upd_same, VRs.mono (fun _ _ z => z) (fun _ _ s => SqT.off nt s) r⟩
theorem VRs.none {vs : List V} (r : VRs K fa μ H [] vs) : vs = [] := by cases r; rfl
theorem eraseIdx_vr : ∀ {xs : List MV} {vs : List V} (i : Nat), VRs K fa μ H xs vs → VRs K fa μ H (xs.eraseIdx i) (vs.eraseIdx i)
  | _, _, _, .nil => .nil
  | _, _, 0, .cons _ t => t
  | _, _, i + 1, .cons q t => .cons q (eraseIdx_vr i t)
theorem dropLast_vr : ∀ {xs : List MV} {vs : List V}, VRs K fa μ H xs vs → VRs K fa μ H xs.dropLast vs.dropLast
  | _, _, .nil => .nil
  | _, _, .cons _ .nil => .nil
  | _, _, .cons q (.cons q2 t) => .cons q (dropLast_vr (.cons q2 t))
abbrev denM (m : Mth) (sa : SE) (sl : SL) : SE := fun ρ h => (sa ρ h).bind fun x h1 => isL x h1 fun h2 => (sl ρ h2).bind fun vs h3 => vMth m x vs h3
theorem w_mth (m : Mth) {r : V → List V → Hp → VK → Prop} (hk : ∀ {μ : Mu} {H : Hp} {σ : L2.St} {W : WX} {h : Hm} {Q : VK} {v : MV} {x : V} {ms : List MV} {vs : List V}, HR K fa μ h H → VR K fa μ H v x → VRs K fa μ H ms vs → PV K fa ca μ H σ W Q (vMth m v ms h) → r x vs H Q) (σ : L2.St) (H : Hp) (Q : VK) :
    TEo K fa ca W (denM m sa sl) σ H Q → tBM K "list" r (TEo K fa ca W sa) (TAo K fa ca W sl) σ H Q := fun ⟨μ, ρ, h, hr, sr, p⟩ =>
  ⟨μ, ρ, h, hr, sr, p.first fun v h1 μ1 H1 x _ e1 hr1 vr p1 => by
    unfold isL at p1
    cases e : lstOf h1 v with
    | none => rw [e] at p1; exact no p1
    | some xs =>
      rw [e] at p1
      obtain ⟨n, a, vs, rfl, rfl, ha, _, hl, q⟩ := lstOf_ok hr1 vr e
      refine ⟨.inl ⟨rfl, vs, .inl (.inl hl)⟩, μ1, ρ, h1, hr1, sr.ext hr.noTup e1, ?_⟩
      exact PostR.first (V' := VR K fa) p1 fun ms h2 μ2 H2 vs _ e2 hr2 vr2 p2 => hk hr2 (VR.ext hr1.noTup e2 vr) vr2 p2⟩
theorem k_append {Q : VK} {v : MV} {y : V} {ms : List MV} {vs : List V} (hr : HR K fa μ h H) (vr : VR K fa μ H v y) (rs : VRs K fa μ H ms vs) (p : PV K fa ca μ H σ W Q (vMth .append v ms h)) : rAppend y vs H Q := by
  cases vr with
  | lref ha =>
    rename_i n a
    unfold vMth at p
    dsimp only at p
    split at p
    · rename_i u xs e
      obtain ⟨w, rfl, ru⟩ := rs.one
      split at p
      · rename_i ef
        obtain ⟨_, a', ws, en, ea, _, _, hl, q⟩ := lstOf_ok hr (.lref (K := K) (fa := fa) ha) e
        cases ea
        have lacc : ws.length < sizeLine := by
          have z := fits_le ef
          rw [q.length] at z
          exact cap_line z
        exact ⟨a, ws, w, rfl, rfl, hl, lacc, PostR.put p hr ha hl (q.append (.cons ru .nil)) .non⟩
      · exact no p
    · exact no p
  | _ => exact no p
theorem k_extend {Q : VK} {v : MV} {y : V} {ms : List MV} {vs : List V} (hr : HR K fa μ h H) (vr : VR K fa μ H v y) (rs : VRs K fa μ H ms vs) (p : PV K fa ca μ H σ W Q (vMth .extend v ms h)) : rExtend y vs H Q := by
  cases vr with
  | lref ha =>
    rename_i n a
    unfold vMth at p
    dsimp only at p
    split at p
    · rename_i u
      obtain ⟨w, rfl, ru⟩ := rs.one
      split at p
      · rename_i xs ys e e2
        split at p
        · rename_i ef
          obtain ⟨_, a', ws, en, ea, _, _, hl, q⟩ := lstOf_ok hr (.lref (K := K) (fa := fa) ha) e
          cases ea
          obtain ⟨_, b', zs, _, rfl, _, _, hl2, q2⟩ := lstOf_ok hr ru e2
          have r3 := q.append q2
          have hz := cap_line (fits_le ef)
          rw [r3.length, List.length_append] at hz
          exact ⟨a, b', ws, zs, rfl, rfl, hl, hl2, Nat.le_of_lt hz, PostR.put p hr ha hl r3 .non⟩
        · exact no p
      · exact no p
    · exact no p
  | _ => exact no p
theorem k_pop {Q : VK} {v : MV} {y : V} {ms : List MV} {vs : List V} (hr : HR K fa μ h H) (vr : VR K fa μ H v y) (rs : VRs K fa μ H ms vs) (p : PV K fa ca μ H σ W Q (vMth .pop v ms h)) : rPop y vs H Q := by
  cases vr with
  | lref ha =>
    rename_i n a
    unfold vMth at p
    dsimp only at p
    split at p
    · rename_i xs e
      obtain rfl := rs.none
      split at p
      · rename_i u eu
        rw [getn_eq] at eu
        obtain ⟨_, a', ws, en, ea, _, _, hl, q⟩ := lstOf_ok hr (.lref (K := K) (fa := fa) ha) e
        cases ea
        obtain ⟨w, hw, rw'⟩ := q.get eu
        rw [q.length] at hw
        exact ⟨a, ws, w, rfl, rfl, hl, hw, PostR.put p hr ha hl (dropLast_vr q) rw'⟩
      · exact no p
    · exact no p
  | _ => exact no p
theorem k_popAt {Q : VK} {v : MV} {y : V} {ms : List MV} {vs : List V} (hr : HR K fa μ h H) (vr : VR K fa μ H v y) (rs : VRs K fa μ H ms vs) (p : PV K fa ca μ H σ W Q (vMth .popAt v ms h)) : rPopAt y vs H Q := by
  cases vr with
  | lref ha =>
    rename_i n a
    unfold vMth at p
    dsimp only at p
    split at p
    · rename_i i xs e
      obtain ⟨w0, rfl, r0⟩ := rs.one
      cases r0
      split at p
      · rename_i u eu
        split at p
        · rename_i ei
          have z := Nat.le_of_ble_eq_true ei
          have z : i ≤ 100000 := z
          rw [getn_eq] at eu
          obtain ⟨_, a', ws, en, ea, _, _, hl, q⟩ := lstOf_ok hr (.lref (K := K) (fa := fa) ha) e
          cases ea
          obtain ⟨w, hw, rw'⟩ := q.get eu
          have hi := (List.getElem?_eq_some_iff.mp hw).1
          refine ⟨a, ws, ((i : Nat) : Int), i, w, rfl, rfl, hl, by omega, by omega, ?_, hw, PostR.put p hr ha hl (eraseIdx_vr i q) rw'⟩
          unfold seqIndex?
          have h1 : ¬ ((i : Nat) : Int) < 0 := by omega
          simp [h1, hi]
        · exact no p
      · exact no p
    · exact no p
  | _ => exact no p
theorem r_append {apos : Pos} (hb : baseE a = true) (hl : (apos.endLine == pos.line) = true) (ha : PE X a (TEo X.K fa ca W sa)) (hp : plainL [b] = true) (hb2 : PA X [b] (TAo X.K fa ca W sl)) : PE X (.Call (.Attribute a "append" apos) [b] [] pos) (TEo X.K fa ca W (denM .append sa sl)) := by
  have h1 := (Bool.and_eq_true_iff.mp hp).1
  refine PE_weak (pe_bm PySem.F.plainAttrs_list PySem.F.slot_list_append PySem.F.type_list_append mt_append ha hb2 (base_plain hb _ _) ?_ hl (star_plain h1 _ _) rfl) (w_mth .append fun hr vr rs p => k_append hr vr rs p)
  rw [all_plain pos X.env hp]
  rfl
theorem r_extend {apos : Pos} (hb : baseE a = true) (hl : (apos.endLine == pos.line) = true) (ha : PE X a (TEo X.K fa ca W sa)) (hp : plainL [b] = true) (hb2 : PA X [b] (TAo X.K fa ca W sl)) : PE X (.Call (.Attribute a "extend" apos) [b] [] pos) (TEo X.K fa ca W (denM .extend sa sl)) := by
  have h1 := (Bool.and_eq_true_iff.mp hp).1
  refine PE_weak (pe_bm PySem.F.plainAttrs_list PySem.F.slot_list_extend PySem.F.type_list_extend mt_extend ha hb2 (base_plain hb _ _) ?_ hl (star_plain h1 _ _) rfl) (w_mth .extend fun hr vr rs p => k_extend hr vr rs p)
  rw [all_plain pos X.env hp]
  rfl
theorem r_popAt {apos : Pos} (hb : baseE a = true) (hl : (apos.endLine == pos.line) = true) (ha : PE X a (TEo X.K fa ca W sa)) (hp : plainL [b] = true) (hb2 : PA X [b] (TAo X.K fa ca W sl)) : PE X (.Call (.Attribute a "pop" apos) [b] [] pos) (TEo X.K fa ca W (denM .popAt sa sl)) := by
  have h1 := (Bool.and_eq_true_iff.mp hp).1
  refine PE_weak (pe_bm PySem.F.plainAttrs_list PySem.F.slot_list_pop PySem.F.type_list_pop mt_popAt ha hb2 (base_plain hb _ _) ?_ hl (star_plain h1 _ _) rfl) (w_mth .popAt fun hr vr rs p => k_popAt hr vr rs p)
  rw [all_plain pos X.env hp]
  rfl
theorem r_pop {apos : Pos} (hb : baseE a = true) (hl : (apos.endLine == pos.line) = true) (ha : PE X a (TEo X.K fa ca W sa)) : PE X (.Call (.Attribute a "pop" apos) [] [] pos) (TEo X.K fa ca W (denM .pop sa (fun _ h => .ok [] h))) := by
  refine PE_weak (pe_bm0 PySem.F.plainAttrs_list PySem.F.slot_list_pop PySem.F.type_list_pop mt_pop ha (base_plain hb _ _) hl) fun σ H Q ⟨μ, ρ, h, hr, sr, p⟩ => ⟨μ, ρ, h, hr, sr, p.first fun v h1 μ1 H1 x _ e1 hr1 vr p1 => ?_⟩
  unfold isL at p1
  cases e : lstOf h1 v with
  | none => rw [e] at p1; exact no p1
  | some xs =>
    rw [e] at p1
    obtain ⟨n, a, vs, rfl, rfl, ha, _, hl, q⟩ := lstOf_ok hr1 vr e
    exact ⟨.inl ⟨rfl, vs, .inl (.inl hl)⟩, k_pop hr1 vr .nil p1⟩
end
end Mi
namespace Mi
open PySem PySem.Spec PyProof.Rows L2
theorem fm_congr {α β : Type} {f g : α → Option β} : ∀ {l : List α}, (∀ x ∈ l, f x = g x) → l.filterMap f = l.filterMap g
  | [], _ => rfl
  | x :: l, h => by
    rw [List.filterMap_cons, List.filterMap_cons, h x List.mem_cons_self, fm_congr fun y hy => h y (List.mem_cons_of_mem _ hy)]
theorem pick_back {α : Type} (its : List α) (a b : Nat) (hab : b ≤ a) (ha : a ≤ its.length) : (List.range (a - b)).filterMap (fun j => its[a - 1 - j]?) = ((its.take a).drop b).reverse := by
  have hl : ((its.take a).drop b).reverse.length = a - b := by simp; omega
  have all : ∀ M : List α, (List.range M.length).filterMap (fun j => M[j]?) = M := fun M => by
    induction M with
    | nil => rfl
    | cons x M ih =>
      rw [List.length_cons, List.range_succ_eq_map, List.filterMap_cons]
      simp only [List.getElem?_cons_zero, List.filterMap_map]
      congr 1
  have := all ((its.take a).drop b).reverse
  rw [hl] at this
  rw [← this]
  refine fm_congr fun j hj => ?_
  have hj := List.mem_range.mp hj
  have hl2 : ((its.take a).drop b).length = a - b := by simp; omega
  rw [List.getElem?_reverse (by omega), hl2, List.getElem?_drop, List.getElem?_take_of_lt (by omega)]
  congr 1
  omega
def OkA : Option Int → Prop
  | none => True
  | some k => 0 ≤ k
def OkB : Option Int → Prop
  | none => True
  | some k => k = 0
theorem bounds_back (lo hi : Option Int) (n : Nat) (h1 : OkA lo) (h2 : OkB hi) : sliceBounds lo hi (some (-1)) n = ((aOf n lo : Int) - 1, (bOf n hi : Int) - 1, -1) := by
  have hc : ¬ ((-1 : Int) > 0) := by decide
  unfold sliceBounds
  simp only [Option.getD_some, hc, if_false]
  refine Prod.ext ?_ (Prod.ext ?_ rfl)
  · cases lo with
    | none => rfl
    | some k =>
      have h1 : 0 ≤ k := h1
      show max (-1) (min (if k < 0 then k + (n : Int) else k) ((n : Int) - 1)) = ((min (k.toNat + 1) n : Nat) : Int) - 1
      rw [if_neg (by omega)]
      omega
  · cases hi with
    | none => rfl
    | some k =>
      have h2 : k = 0 := h2
      subst h2
      show max (-1) (min (if (0 : Int) < 0 then (0 : Int) + (n : Int) else 0) ((n : Int) - 1)) = ((min 1 n : Nat) : Int) - 1
      rw [if_neg (by decide)]
      omega
theorem b_le_a {lo hi : Option Int} {n : Nat} (h1 : OkA lo) : bOf n hi ≤ aOf n lo ∧ aOf n lo ≤ n := by
  cases lo with
  | none => cases hi with
    | none => exact ⟨Nat.zero_le _, Nat.le_refl _⟩
    | some k => exact ⟨Nat.min_le_right _ _, Nat.le_refl _⟩
  | some j =>
    refine ⟨?_, Nat.min_le_right _ _⟩
    cases hi with
    | none => exact Nat.zero_le _
    | some k => show min 1 n ≤ min (j.toNat + 1) n; omega
theorem range_back (a b : Nat) (h : b ≤ a) : sliceRange ((a : Int) - 1) ((b : Int) - 1) (-1) = (List.range (a - b)).map fun j => a - 1 - j := by
  unfold sliceRange
  have hc : ¬ ((-1 : Int) > 0) := by decide
  simp only [hc, if_false]
  by_cases e : ((a : Int) - 1) > ((b : Int) - 1)
  · have e2 : (((a : Int) - 1) - ((b : Int) - 1) - -1 - 1) / (- -1) = ((a - b : Nat) : Int) := by
      rw [show (- -1 : Int) = 1 by decide, Int.ediv_one]
      omega
    rw [if_pos e, e2, Int.toNat_natCast]
    refine List.map_congr_left fun k hk => ?_
    have := List.mem_range.mp hk
    omega
  · have e2 : a - b = 0 := by omega
    rw [if_neg e, e2]
    rfl
theorem pick_list (items : Array Value) (lo hi : Option Int) (h1 : OkA lo) (h2 : OkB hi) : slicePick items lo hi (some (-1)) = (((items.toList.take (aOf items.size lo)).drop (bOf items.size hi)).reverse).toArray := by
  unfold slicePick
  rw [bounds_back lo hi _ h1 h2]
  dsimp only
  obtain ⟨z1, z2⟩ := b_le_a (lo := lo) (hi := hi) (n := items.size) h1
  rw [range_back _ _ z1, List.filterMap_map]
  congr 1
  rw [← pick_back items.toList _ _ z1 (by simpa using z2)]
  refine fm_congr fun j _ => ?_
  simp
theorem adjust_back (lo hi : Option Int) (n : Nat) (h1 : OkA lo) (h2 : OkB hi) : Builtin.Slice.sliceAdjust lo hi (-1) (n : Int) = ((aOf n lo : Int) - 1, (bOf n hi : Int) - 1) := by
  have hc : ((-1 : Int) < 0) := by decide
  unfold Builtin.Slice.sliceAdjust
  simp only [hc, if_true]
  refine Prod.ext ?_ ?_
  · cases lo with
    | none => rfl
    | some k =>
      have h1 : 0 ≤ k := h1
      show (if k < 0 then max (k + (n : Int)) (-1) else min k ((n : Int) - 1)) = ((min (k.toNat + 1) n : Nat) : Int) - 1
      rw [if_neg (by omega)]
      omega
  · cases hi with
    | none => rfl
    | some k =>
      have h2 : k = 0 := h2
      subst h2
      show (if (0 : Int) < 0 then max ((0 : Int) + (n : Int)) (-1) else min 0 ((n : Int) - 1)) = ((min 1 n : Nat) : Int) - 1
      rw [if_neg (by decide)]
      omega
theorem places_back (a b : Nat) (h : b ≤ a) : Builtin.Slice.slicePlaces ((a : Int) - 1) ((b : Int) - 1) (-1) = a - b := by
  unfold Builtin.Slice.slicePlaces
  have hc : ¬ ((-1 : Int) > 0) := by decide
  simp only [hc, if_false]
  by_cases e : ((a : Int) - 1) > ((b : Int) - 1)
  · rw [if_pos e, show (-(-1 : Int)) = 1 by decide, Int.ediv_one]
    omega
  · rw [if_neg e]
    omega
section
variable {prog : Program} {w : World} {A : Around} {E : Value → Shared → Prop} {s : Shared}
theorem applied_back {sl : Addr} {vl vu : Value} {t : Tok} {lo hi : Option Int} {n : Nat} {Q : Int × Int × Nat → Shared → Prop} (hs : s.heap.IsSliceOf sl vl vu (.int (-1) t)) (pl : IsPart vl lo) (pu : IsPart vu hi) (h1 : OkA lo) (h2 : OkB hi)
    (h : Q ((aOf n lo : Int) - 1, -1, aOf n lo - bOf n hi) s) : wpAny (model prog w) A (Builtin.Slice.sliceApplied (.ref sl) (pure (n : Int))) Q E s := by
  obtain ⟨ob, e1, e2, e3⟩ := id hs
  unfold Builtin.Slice.sliceApplied Builtin.Slice.sliceFields
  refine wpAny_bind (wpAny_bind (wpAny_field e1 e3 (x := vl) rfl (wpAny_bind (wpAny_field e1 e3 (x := vu) rfl (wpAny_bind (wpAny_field e1 e3 (x := Value.int (-1) t) rfl (wpAny_pure ?_)))))))
  refine wpAny_bind (HT.slicePart_ (.int (-1) t) ?_)
  show wpAny _ _ (if ((-1 : Int) == 0) = true then _ else _) _ _ s
  rw [if_neg (by decide)]
  refine wpAny_bind (HT.slicePart_ pl (wpAny_bind (HT.slicePart_ pu (wpAny_bind (wpAny_pure ?_)))))
  show wpAny _ _ (match Builtin.Slice.sliceAdjust lo hi (-1) (n : Int) with
    | (a, b) => pure (a, (-1 : Int), Builtin.Slice.slicePlaces a b (-1))) _ _ s
  rw [adjust_back lo hi n h1 h2]
  show wpAny _ _ (pure ((aOf n lo : Int) - 1, (-1 : Int), Builtin.Slice.slicePlaces ((aOf n lo : Int) - 1) ((bOf n hi : Int) - 1) (-1))) _ _ s
  rw [places_back _ _ (b_le_a h1).1]
  exact wpAny_pure h
theorem item_back {t sl : Addr} {items : Array Value} {vl vu : Value} {tk : Tok} {lo hi : Option Int} {Q : Value → Shared → Prop} (ht : IsTup s.heap t items) (hs : s.heap.IsSliceOf sl vl vu (.int (-1) tk)) (pl : IsPart vl lo) (pu : IsPart vu hi) (h1 : OkA lo) (h2 : OkB hi)
    (hq : Q (.ref s.heap.objs.size) { s with heap := s.heap.push { cls := .type "tuple", data := .seq (((items.toList.take (aOf items.size lo)).drop (bOf items.size hi)).reverse).toArray } })
    (hz : items.size ≤ sizeLine) : wpAny (model prog w) A (getItem (.ref t) (.ref sl)) Q E s := by
  have hok : sizeOk (.seq (((items.toList.take (aOf items.size lo)).drop (bOf items.size hi)).reverse).toArray) := by
    show ((((items.toList.take (aOf items.size lo)).drop (bOf items.size hi)).reverse).toArray).size ≤ sizeLine
    rw [List.size_toArray, List.length_reverse, List.length_drop, List.length_take, Array.length_toList]
    omega
  obtain ⟨z1, z2⟩ := b_le_a (lo := lo) (hi := hi) (n := items.size) h1
  have pk : ((List.range (aOf items.size lo - bOf items.size hi)).filterMap fun (k : Nat) => items[(((aOf items.size lo : Nat) : Int) - 1 + (k : Int) * (-1)).toNat]?).toArray = (((items.toList.take (aOf items.size lo)).drop (bOf items.size hi)).reverse).toArray := by
    rw [← pick_back items.toList _ _ z1 (by simpa using z2)]
    congr 1
    refine fm_congr fun j hj => ?_
    have hj := List.mem_range.mp hj
    have : (((aOf items.size lo : Nat) : Int) - 1 + (j : Int) * (-1)).toNat = aOf items.size lo - 1 - j := by omega
    rw [this]
    simp
  obtain ⟨ob, e1, e2, e3⟩ := id hs
  have tys : s.TypeIs (.ref sl) "slice" := ⟨ob, e1, e2⟩
  unfold getItem
  try with_reducible refine wpAny_holding ?_
  first | refine wpAny_bind (wpAny_pure ?_) | skip
  refine wpAny_bind (wpAny_sequenceKey (ht.typeIs) (by decide) ?_)
  refine wpAny_bind (wpAny_callSpecial?_slot (name := Str.ofString "__getitem__") (ht.typeIs) PyProof.Rows.slot_tuple_getitem
    (wpAny_call_entry PyProof.Rows.slot_tuple_getitem (ht.typeIs) PyProof.Rows.entry_tuple_getitem ?_ (PyProof.Rows.args_tuple_getitem _ _)))
  show wpAny _ _ (Builtin.Tuple.tupleItemsOf (.ref t) >>= _) _ _ s
  refine wpAny_bind (PyProof.Rows.tupleItemsOf_ ht ?_)
  refine wpAny_bind (wpAny_typeOf tys ?_)
  rw [if_pos (by decide)]
  refine wpAny_bind (applied_back hs pl pu h1 h2 ?_)
  show wpAny _ _ (if ((((aOf items.size lo : Nat) : Int) - 1) == 0 && (-1 : Int) == 1 && (aOf items.size lo - bOf items.size hi) == items.size) = true then _ else _) _ _ s
  rw [if_neg (by rw [show ((-1 : Int) == 1) = false by decide, Bool.and_false, Bool.false_and]; decide), pk]
  first
    | exact wpAny_bind (m := Builtin.Tuple.tupleExact _) (wpAny_newObj_type (wpAny_pure ⟨_, rfl, wpAny_pure hq⟩) hok)
    | exact wpAny_bind (m := Builtin.Tuple.tupleExact _) (wpAny_newObj_type (wpAny_bind (wpAny_pure (wpAny_pure ⟨_, rfl, wpAny_pure hq⟩))) hok)
    | exact wpAny_bind (wpAny_bind (m := Builtin.Tuple.tupleExact _) (wpAny_newObj_type (wpAny_pure (wpAny_pure ⟨_, rfl, wpAny_pure hq⟩)) hok))
    | exact wpAny_bind (wpAny_bind (m := Builtin.Tuple.tupleExact _) (wpAny_newObj_type (wpAny_pure ⟨_, rfl, wpAny_pure hq⟩) hok))
end
section
variable {X : Cx} {e : Expr} {te : TE} {lo hi : Option Expr} {tl th : TO} {p1 p2 p3 pos : Pos}
theorem revV_len {α : Type} (vs : List α) (l u : Option Int) : (revV vs l u).length ≤ vs.length := by
  unfold revV
  rw [List.length_reverse, List.length_drop, List.length_take]
  omega
def tBack (K : PySem.W.Frag) (te : TE) (tl th : TO) : TE := fun σ H Q => te σ H fun x H1 => tl σ H1 fun l H2 => th σ H2 fun u H3 => ∃ (a : Addr) (vs : List V), x = .ref a ∧ OkA l ∧ OkB u ∧
  ((SqL K H3 a vs ∧ ∀ q, H3 q = none → Q (.ref q) (upd H3 q (.lst (revV vs l u)))) ∨ (SqT K H3 a vs ∧ ∀ q, H3 q = none → Q (.ref q) (upd H3 q (.tup (revV vs l u)))))
theorem pe_back (he : PE X e te) (hl : PO X lo tl) (hu : PO X hi th) : PE X (.Subscript e (.Slice lo hi (some (.UnaryOp .USub (.Constant (.int 1) 0 p1) p2)) p3) pos) (tBack X.K te tl th) := by
  refine ⟨fun pins s σ H Q I hq => ?_⟩
  refine Subscript_ (thn (he.run pins s σ H _ I hq) fun v s1 ⟨x, H1, I1, r1, q1⟩ => ?_)
  have hst : PO X (some (.UnaryOp .USub (.Constant (.int 1) 0 p1) p2)) (tPart (tUn (rU fun i => .int (-i)) (tC (.int 1)))) := po_some (pe_un un_neg pe_int)
  refine wpAny_Slice (thn (hl.run pins s1 σ H1 _ I1 q1) fun vl s2 ⟨l, H2, I2, pl, q2⟩ => thn (hu.run pins s2 σ H2 _ I2 q2) fun vu s3 ⟨u, H3, I3, pu, q3⟩ => ?_)
  refine thn (hst.run pins s3 σ H3 (fun o H4 => o = some (-1) ∧ H4 = H3) I3 ⟨1, rfl, -1, rfl, rfl, rfl⟩) fun vs s4 ⟨o, H4, I4, pstep, eo, e4⟩ => ?_
  subst eo e4
  obtain ⟨a, ws, ex, oa, ob, q⟩ := q3
  subst ex
  cases r1
  have I5 : Inv X pins σ H4 { s4 with heap := s4.heap.push { cls := .type "slice", data := .fields #[vl, vu, vs] } } := I4.kept (t' := s4.toks) fun b ob q => Heap.get?_push_of_some _ q
  have isl := Heap.IsSliceOf.new s4.heap vl vu vs
  generalize hs5 : ({ s4 with heap := s4.heap.push { cls := .type "slice", data := .fields #[vl, vu, vs] } } : Shared) = s5 at I5
  have isl5 : s5.heap.IsSliceOf s4.heap.objs.size vl vu vs := by rw [← hs5]; exact isl
  rcases q with ⟨hx, q⟩ | ⟨hx, q⟩
  · obtain ⟨its, r, ht, hz⟩ := I5.list hx
    have hlen := r.length
    refine tail_any (ops := [.ref a, .ref s4.heap.objs.size]) (ht.isList.typeIs) (PySem.slot_list_getitem.lookup) ?_ (by with_unfolding_all rfl)
    refine wpAny_getItem_list_slice ht.isList isl5 pl pu pstep (by decide) ?_ (by rw [List.size_toArray]; omega)
    rw [pick_list _ _ _ oa ob]
    refine ⟨.ref _, _, I5.laid (t' := s5.toks) (o := .lst (revV ws l u)) (fun b ob q => Heap.get?_push_of_some _ q) (Nat.le_refl _) ?_, rfl, q _ (I5.hok.fresh (Nat.le_refl _))⟩
    refine ⟨Nat.le_trans (revV_len _ _ _) hz, _, 0, ?_, Heap.get?_push_size _ rfl⟩
    show Vals (revV ws l u) (((its.take (aOf its.toArray.size l)).drop (bOf its.toArray.size u)).reverse)
    rw [List.size_toArray, ← hlen]
    exact ((r.take _).drop _).reverse
  · obtain ⟨its, r, ht, hz⟩ := I5.tuple hx
    have hlen := r.length
    cases pstep with
    | int _ tk =>
      refine tail_any (ops := [.ref a, .ref s4.heap.objs.size]) (ht.typeIs) (PyProof.Rows.slot_tuple_getitem.lookup) ?_ (by with_unfolding_all rfl)
      refine item_back ht isl5 pl pu oa ob ?_ (by rw [List.size_toArray]; omega)
      refine ⟨.ref _, _, I5.laid (t' := s5.toks) (o := .tup (revV ws l u)) (fun b ob q => Heap.get?_push_of_some _ q) (Nat.le_refl _) ?_, rfl, q _ (I5.hok.fresh (Nat.le_refl _))⟩
      refine ⟨Nat.le_trans (revV_len _ _ _) hz, ((its.take (aOf its.toArray.size l)).drop (bOf its.toArray.size u)).reverse, ?_, ⟨_, Heap.get?_push_size _ rfl, rfl, _, rfl⟩⟩
      rw [List.size_toArray, ← hlen]
      exact ((r.take _).drop _).reverse
end
section
variable {K : PySem.W.Frag} {fa : FA} {ca : Nat → Addr} {μ μ1 : Mu} {H H1 : Hp} {σ : L2.St} {W : WX} {ρ : Rho} {h : Hm} {X : Cx}
variable {sa sb sc : SE} {a b c : Expr} {p1 p2 p3 pos : Pos} {slo shi : SO} {lo hi : Option Expr}
theorem VRs.back {xs : List MV} {vs : List V} (r : VRs K fa μ H xs vs) (l u : Option Int) : VRs K fa μ H (revV xs l u) (revV vs l u) := by
  unfold revV
  rw [r.length]
  exact ((r.take _).drop _).rev
theorem okA_of {l : Option Int} (h : okA l = true) : OkA l := by
  cases l with
  | none => exact True.intro
  | some k => cases k with
    | ofNat n => exact Int.natCast_nonneg n
    | negSucc n => cases h
theorem okB_of {l : Option Int} (h : okB l = true) : OkB l := by
  cases l with
  | none => exact True.intro
  | some k => cases k with
    | ofNat n => cases n with
      | zero => rfl
      | succ n => cases h
    | negSucc n => cases h
theorem r_back (ha : PE X a (TEo X.K fa ca W sa)) (hl : PO X lo (TOo X.K fa ca W slo)) (hh : PO X hi (TOo X.K fa ca W shi)) :
    PE X (.Subscript a (.Slice lo hi (some (.UnaryOp .USub (.Constant (.int 1) 0 p1) p2)) p3) pos) (TEo X.K fa ca W (fun ρ h => (sa ρ h).bind fun x h1 => (slo ρ h1).bind fun l h2 => (shi ρ h2).bind fun u h3 => vBack x l u h3)) :=
  PE_weak (pe_back ha hl hh) fun σ H Q ⟨μ, ρ, h, hr, sr, p⟩ => ⟨μ, ρ, h, hr, sr, p.first fun v h1 μ1 H1 x _ e1 hr1 vr p1 =>
    ⟨μ1, ρ, h1, hr1, sr.ext hr.noTup e1, p1.first fun l h2 μ2 H2 l' el0 e2 hr2 el p2 => by
      have el : l = l' := el
      subst el
      exact ⟨μ2, ρ, h2, hr2, (sr.ext hr.noTup e1).ext hr1.noTup e2, p2.first fun u h3 μ3 H3 u' eu0 e3 hr3 eu p3 => by
        have eu : u = u' := eu
        subst eu
        have vr3 := VR.ext hr2.noTup e3 (VR.ext hr1.noTup e2 vr)
        have p4 : PV X.K fa ca μ3 H3 σ W Q (match okA l && okB u with
          | true => (match seqOf h3 v with
            | some xs => reM v (revV xs l u) h3
            | none => .bad)
          | false => .bad) := p3
        cases eo : (okA l && okB u) with
        | false => rw [eo] at p4; exact no p4
        | true =>
        rw [eo] at p4
        obtain ⟨oa, ob⟩ := Bool.and_eq_true_iff.mp eo
        have p3' : PV X.K fa ca μ3 H3 σ W Q (match seqOf h3 v with
          | some xs => reM v (revV xs l u) h3
          | none => .bad) := p4
        cases e : seqOf h3 v with
        | none => rw [e] at p3'; exact no p3'
        | some xs =>
          rw [e] at p3'
          cases vr3 with
          | tup s q k =>
            cases e
            exact ⟨_, _, rfl, okA_of oa, okB_of ob, .inr ⟨s, PostR.tup p3' hr3 (q.back l u)⟩⟩
          | lref ha =>
            obtain ⟨ws, sq, q⟩ := list_at hr3 ha e
            exact ⟨_, ws, rfl, okA_of oa, okB_of ob, .inl ⟨sq, PostR.lst p3' hr3 (q.back l u)⟩⟩
          | _ => cases e⟩⟩⟩
end
end Mi
namespace Mi
open PySem PySem.Spec PyProof.Rows L2
section
variable {K : PySem.W.Frag} {fa : FA} {ca : Nat → Addr} {μ μ1 : Mu} {H H1 : Hp} {σ : L2.St} {W : WX} {ρ : Rho} {h : Hm} {X : Cx}
variable {sa sb sc : SE} {a b c tg : Expr} {pos p : Pos} {sl : SL} {es : List Expr} {x : Str}
abbrev IV (K : PySem.W.Frag) (fa : FA) : Mu → Hp → IT → It → Prop := fun μ H it J => ITR K fa μ H it J 0
theorem lref_get {n : Nat} {x : V} (vr : VR K fa μ H (.lref n) x) : ∃ a, x = .ref a ∧ μ[n]? = some a := by
  cases vr with
  | lref ha => exact ⟨_, rfl, ha⟩
theorem r_itv (ha : PE X a (TEo X.K fa ca W sa)) : PI X tg a (TIo X.K fa ca W (fun ρ h => (sa ρ h).bind itOf)) := by
  refine ⟨fun pins s σ H R I ⟨μ, ρ, h, hr, sr, p⟩ => ?_⟩
  dsimp only at p
  cases e : sa ρ h with
  | bad => rw [e] at p; exact no p
  | exc c h1 =>
    rw [e] at p
    exact (pi_tup ha).run pins s σ H R I ⟨μ, ρ, h, hr, sr, by rw [e]; exact p⟩
  | ok v h1 =>
    rw [e] at p
    have p : PostR X.K fa ca (IV X.K fa) μ H σ W R (itOf v h1) := p
    cases v with
    | tup d xs =>
      refine (pi_tup ha).run pins s σ H R I ⟨μ, ρ, h, hr, sr, ?_⟩
      rw [e]
      intro μ' H' y ex hr' vr
      cases vr with
      | tup sq q k => exact ⟨_, rfl, ⟨_, sq⟩, p μ' H' _ ex hr' (.tup sq q (Nat.zero_le _))⟩
    | lref n =>
      refine (pi_list ha).run pins s σ H R I ⟨μ, ρ, h, hr, sr, ?_⟩
      rw [e]
      intro μ' H' y ex hr' vr
      obtain ⟨a, rfl, hm⟩ := lref_get vr
      have p' : PostR X.K fa ca (IV X.K fa) μ H σ W R (match seqOf h1 (.lref n) with
        | some _ => .ok (.lst n 0) h1
        | none => .bad) := p
      cases e2 : seqOf h1 (.lref n) with
      | none => rw [e2] at p'; exact no p'
      | some xs =>
        rw [e2] at p'
        obtain ⟨vs, sq, _⟩ := list_at hr' hm e2
        exact ⟨a, rfl, ⟨vs, sq⟩, p' μ' H' _ ex hr' (.lst hm)⟩
    | zipv u w =>
      refine (pi_list ha).run pins s σ H R I ⟨μ, ρ, h, hr, sr, ?_⟩
      rw [e]
      intro μ' H' y ex hr' vr
      cases vr
    | _ => exact no p
theorem VRs.three {x y z : MV} {vs : List V} (r : VRs K fa μ H [x, y, z] vs) : ∃ u v w, vs = [u, v, w] ∧ VR K fa μ H x u ∧ VR K fa μ H y v ∧ VR K fa μ H z w := by
  cases r with
  | cons a b =>
    obtain ⟨v, w, e, q, q2⟩ := b.two
    subst e
    exact ⟨_, v, w, rfl, a, q, q2⟩
theorem small_bd {i : Int} (h : small i = true) : -(2 ^ 62) ≤ i ∧ i < 2 ^ 62 := by
  have := Nat.le_of_ble_eq_true h
  rw [iz_eq] at this
  omega
theorem itR_ok {v w : MV} {R : It → Hp → Prop} {x y : V} (hr : HR K fa μ h H) (vr : VR K fa μ H v x) (wr : VR K fa μ H w y) (p : PostR K fa ca (IV K fa) μ H σ W R (itR v w h)) : ∃ i j : Int, x = .int i ∧ y = .int j ∧ (-(2 ^ 62) ≤ i ∧ i < 2 ^ 62 ∧ -(2 ^ 62) ≤ j ∧ j < 2 ^ 62) ∧ R (Itr i (j - i).toNat) H := by
  cases vr with
  | int i =>
    cases wr with
    | int j =>
      have p' : PostR K fa ca (IV K fa) μ H σ W R (match small i && small j with
        | true => .ok (.rng i 1 (rngN i j)) h
        | false => .bad) := p
      cases e : (small i && small j) with
      | false => rw [e] at p'; exact no p'
      | true =>
        rw [e] at p'
        obtain ⟨e1, e2⟩ := Bool.and_eq_true_iff.mp e
        exact ⟨i, j, rfl, rfl, ⟨(small_bd e1).1, (small_bd e1).2, (small_bd e2).1, (small_bd e2).2⟩, PostR.fin (V := IV K fa) p' hr (.rng (by unfold rngN; omega) (by omega))⟩
    | _ => exact no p
  | _ => exact no p
theorem itRd_ok {v w : MV} {R : It → Hp → Prop} {x y : V} (hr : HR K fa μ h H) (vr : VR K fa μ H v x) (wr : VR K fa μ H w y) (p : PostR K fa ca (IV K fa) μ H σ W R (itRd v w h)) : ∃ i j : Int, x = .int i ∧ y = .int j ∧ (-(2 ^ 62) ≤ i ∧ i < 2 ^ 62 ∧ -(2 ^ 62) ≤ j ∧ j < 2 ^ 62) ∧ R (Itc i (-1) (i - j).toNat) H := by
  cases vr with
  | int i =>
    cases wr with
    | int j =>
      have p' : PostR K fa ca (IV K fa) μ H σ W R (match small i && small j with
        | true => .ok (.rng i (-1) (rngN j i)) h
        | false => .bad) := p
      cases e : (small i && small j) with
      | false => rw [e] at p'; exact no p'
      | true =>
        rw [e] at p'
        obtain ⟨e1, e2⟩ := Bool.and_eq_true_iff.mp e
        exact ⟨i, j, rfl, rfl, ⟨(small_bd e1).1, (small_bd e1).2, (small_bd e2).1, (small_bd e2).2⟩, PostR.fin (V := IV K fa) p' hr (.rngd (by unfold rngN; omega) (by omega))⟩
    | _ => exact no p
  | _ => exact no p
theorem r_it1 (hg : Gl X "range") (hm : X.mg "range" = none) (hp : plainE a = true) (ha : PE X a (TEo X.K fa ca W sa)) : PI X tg (.Call (.Name "range" p) [a] [] pos) (TIo X.K fa ca W (fun ρ h => (sa ρ h).bind fun x h1 => itR (.int (.ofNat 0)) x h1)) :=
  PI_weak (pi_range1 hg hm (pa_cons ha pa_nil (star_plain hp _ _)) (star_plain hp _ _)) fun σ H R ⟨μ, ρ, h, hr, sr, p⟩ => ⟨μ, ρ, h, hr, sr, p.first fun v h1 μ1 H1 x _ _ hr1 vr p1 => by
    obtain ⟨i, j, e1, e2, e3, q⟩ := itR_ok (v := .int (.ofNat 0)) hr1 (.int _) vr p1
    cases e1
    refine ⟨j, by rw [e2], e3.2.2.1, e3.2.2.2, ?_⟩
    have e : (j - Int.ofNat 0).toNat = j.toNat := by show (j - 0).toNat = _; rw [Int.sub_zero]
    rw [e] at q
    exact q⟩
theorem r_it2 (hg : Gl X "range") (hm : X.mg "range" = none) (hp : plainE a = true) (hp2 : plainE b = true) (ha : PE X a (TEo X.K fa ca W sa)) (hb : PE X b (TEo X.K fa ca W sb)) : PI X tg (.Call (.Name "range" p) [a, b] [] pos) (TIo X.K fa ca W (fun ρ h => (sa ρ h).bind fun x h1 => (sb ρ h1).bind fun y h2 => itR x y h2)) :=
  PI_weak (pi_range2 hg hm (pa_cons ha (pa_cons hb pa_nil (star_plain hp2 _ _)) (star_plain hp _ _)) (by rw [star_plain hp, star_plain hp2]; rfl) (star_plain hp2 _ _)) fun σ H R ⟨μ, ρ, h, hr, sr, p⟩ => ⟨μ, ρ, h, hr, sr, p.first fun v h1 μ1 H1 x _ e1 hr1 vr p1 =>
    ⟨μ1, ρ, h1, hr1, sr.ext hr.noTup e1, p1.first fun w h2 μ2 H2 y _ e2 hr2 wr p2 => by
      obtain ⟨i, j, q1, q2, q3, q⟩ := itR_ok hr2 (VR.ext hr1.noTup e2 vr) wr p2
      exact ⟨i, j, by rw [q1, q2], q3, q⟩⟩⟩
theorem r_it3 {p1 p2 : Pos} (hg : Gl X "range") (hm : X.mg "range" = none) (hp : plainE a = true) (hp2 : plainE b = true) (ha : PE X a (TEo X.K fa ca W sa)) (hb : PE X b (TEo X.K fa ca W sb)) :
    PI X tg (.Call (.Name "range" p) [a, b, .UnaryOp .USub (.Constant (.int 1) 0 p1) p2] [] pos) (TIo X.K fa ca W (fun ρ h => (sa ρ h).bind fun x h1 => (sb ρ h1).bind fun y h2 => itRd x y h2)) := by
  refine PI_weak (pi_range3 hg hm (pa_cons ha (pa_cons hb (pa_cons (pe_un un_neg pe_int) pa_nil rfl) (star_plain hp2 _ _)) (star_plain hp _ _)) (by rw [star_plain hp]) ?_) fun σ H R ⟨μ, ρ, h, hr, sr, p⟩ => ⟨μ, ρ, h, hr, sr, p.first fun v h1 μ1 H1 x _ e1 hr1 vr p1 =>
    ⟨μ1, ρ, h1, hr1, sr.ext hr.noTup e1, p1.first fun w h2 μ2 H2 y _ e2 hr2 wr p2 => ⟨1, rfl, ?_⟩⟩⟩
  · exact any_plain pos X.env (by show (plainE b && (true && true)) = true; rw [hp2]; rfl)
  · obtain ⟨i, j, q1, q2, q3, q⟩ := itRd_ok hr2 (VR.ext hr1.noTup e2 vr) wr p2
    exact ⟨i, j, -1, _, by rw [q1, q2], RgC.neg q3.1 q3.2.1 q3.2.2.1 q3.2.2.2, q⟩
theorem sq_of (hr : HR K fa μ h H) {v : MV} {x : V} {R : RI} (vr : VR K fa μ H v x) (hz : ∀ a b, v ≠ .zipv a b) {it : IT} {h' : Hm} (e : itOf v h = .ok it h') : ∃ k a vs, x = .ref a ∧ Sq K k H a vs ∧ ZR K fa μ H it k a 0 := by
  cases vr with
  | tup s q k => cases e; exact ⟨true, _, _, rfl, s, .tup s q (Nat.zero_le _)⟩
  | lref ha =>
    rename_i n a
    have e' : (match seqOf h (.lref n) with
      | some _ => (.ok (.lst n 0) h : RI)
      | none => .bad) = .ok it h' := e
    cases e2 : seqOf h (.lref n) with
    | none => rw [e2] at e'; cases e'
    | some xs =>
      rw [e2] at e'
      cases e'
      obtain ⟨vs, sq, _⟩ := list_at hr ha e2
      exact ⟨false, a, vs, rfl, sq, .lst ha⟩
  | _ => cases e
theorem r_itn {elts : List Expr} {kk : Nat} {tpos : Pos} (hg : Gl X "enumerate") (hm : X.mg "enumerate" = none) (hp : plainE a = true) (ha : PE X a (TEo X.K fa ca W sa)) : PI X (.Tuple elts kk tpos) (.Call (.Name "enumerate" p) [a] [] pos) (TIo X.K fa ca W (fun ρ h => (sa ρ h).bind itNOf)) :=
  PI_weak (pi_enumX hg hm (pa_cons ha pa_nil (star_plain hp _ _)) (star_plain hp _ _)) fun σ H R ⟨μ, ρ, h, hr, sr, p⟩ => ⟨μ, ρ, h, hr, sr, p.first fun v h1 μ1 H1 x _ _ hr1 vr p1 => by
    cases vr with
    | tup s q k => exact ⟨true, _, _, rfl, s, PostR.fin (V := IV X.K fa) (show PostR X.K fa ca (IV X.K fa) μ1 H1 σ W R (.ok (.ent 0 _) h1) from p1) hr1 (.ent s q (Nat.zero_le _))⟩
    | @lref n a0 hm =>
      have p' : PostR X.K fa ca (IV X.K fa) μ1 H1 σ W R (match seqOf h1 (.lref n) with
        | some _ => .ok (.enl 0 n) h1
        | none => .bad) := p1
      cases e2 : seqOf h1 (.lref n) with
      | none => rw [e2] at p'; exact no p'
      | some xs =>
        rw [e2] at p'
        obtain ⟨vs, sq, _⟩ := list_at hr1 hm e2
        exact ⟨false, a0, vs, rfl, sq, PostR.fin (V := IV X.K fa) p' hr1 (.enl hm)⟩
    | _ => exact no p1⟩
theorem r_itz {elts : List Expr} {kk : Nat} {tpos : Pos} (hg : Gl X "zip") (hm : X.mg "zip" = none) (hp : plainE a = true) (hp2 : plainE b = true) (ha : PE X a (TEo X.K fa ca W sa)) (hb : PE X b (TEo X.K fa ca W sb)) :
    PI X (.Tuple elts kk tpos) (.Call (.Name "zip" p) [a, b] [] pos) (TIo X.K fa ca W (fun ρ h => (sa ρ h).bind fun x h1 => (sb ρ h1).bind fun y h2 => itZ x y h2)) :=
  PI_weak (pi_zipX hg hm (pa_cons ha (pa_cons hb pa_nil (star_plain hp2 _ _)) (star_plain hp _ _)) (star_plain hp _ _) (any_plain pos X.env (by show (plainE b && true) = true; rw [hp2]; rfl))) fun σ H R ⟨μ, ρ, h, hr, sr, p⟩ => ⟨μ, ρ, h, hr, sr, p.first fun v h1 μ1 H1 x _ e1 hr1 vr p1 =>
    ⟨μ1, ρ, h1, hr1, sr.ext hr.noTup e1, p1.first fun w h2 μ2 H2 y _ e2 hr2 wr p2 => by
      have vr2 := VR.ext hr1.noTup e2 vr
      unfold itZ at p2
      cases q1 : itOf v h2 with
      | bad => rw [q1] at p2; exact no p2
      | exc c h3 => rw [q1] at p2; exact no p2
      | ok i h3 =>
        rw [q1] at p2
        dsimp only at p2
        cases q2 : itOf w h2 with
        | bad => rw [q2] at p2; exact no p2
        | exc c h4 => rw [q2] at p2; exact no p2
        | ok j h4 =>
          rw [q2] at p2
          obtain ⟨k, a, vs, rfl, s1, z1⟩ := sq_of (R := .bad) hr2 vr2 (fun a b z => by subst z; cases vr2) q1
          obtain ⟨k2, a2, ws, rfl, s2, z2⟩ := sq_of (R := .bad) hr2 wr (fun a b z => by subst z; cases wr) q2
          exact ⟨k, k2, a, a2, vs, ws, rfl, s1, s2, PostR.fin (V := IV X.K fa) p2 hr2 (.zp z1 z2)⟩⟩⟩
theorem to_tru {r : RE} {Q : Bool → Hp → Prop} (p : PostR K fa ca EqV μ H σ W Q (toT r)) : PostR K fa ca EqV μ H σ W Q (truT r) := by
  cases r with
  | bad => exact p
  | exc c h => exact p
  | ok v h => cases v <;> first | exact p | exact no p
theorem tto (σ : L2.St) (H : Hp) (Q : Bool → Hp → Prop) : TTo K fa ca W sc σ H Q → TTt K fa ca W sc σ H Q := fun ⟨μ, ρ, h, hr, sr, p⟩ => ⟨μ, ρ, h, hr, sr, to_tru p⟩
theorem PTs_weak {ifs : List Expr} {t t' : TT} (h : PTs X ifs t) (w : ∀ σ H Q, t' σ H Q → t σ H Q) : PTs X ifs t' := ⟨fun pins s σ H Q I q => h.run pins s σ H Q I (w σ H Q q)⟩
theorem r_if0 : PTs X [] (TTo X.K fa ca W (fun _ h => .ok (.bl true) h)) := PTs_weak pts_nil fun σ H Q ⟨μ, ρ, h, hr, sr, p⟩ => PostR.fin (V := EqV) p hr rfl
theorem r_if1 (hc : PT X c (TTt X.K fa ca W sc)) : PTs X [c] (TTo X.K fa ca W sc) := PTs_weak (pts_one hc) (tto (sc := sc))
variable {si : SI} {T : Tg} {elt iter : Expr} {ifs : List Expr} {scope : Scope} {own : List (Str × Nat)}
theorem w_lc (hown : ∀ i ∈ tgSlots T, i ∈ own.map (·.2)) (σ : L2.St) (H : Hp) (Q : VK) : TEo K fa ca W (fun ρ h => (si ρ h).bind fun j h1 => fitL (lcRun (tgt T) sc sa (wipeM ρ (own.map (·.2))) fuel j h1)) σ H Q →
    tLc (TIo K fa ca W si) (rawG K T) (TTo K fa ca W0 sc) (TEo K fa ca W0 sa) (own.map (·.2)) σ H Q := fun ⟨μ, ρ, h, hr, sr, p⟩ =>
  ⟨μ, ρ, h, hr, sr, p.first fun j h1 μ1 H1 J _ e1 hr1 ir p1 => fun D hD => lc_run hD hown hr1 (sr.ext hr.noTup e1) ir p1⟩
theorem r_lc (hc : X.calm = true) (hN : X.N.Nodup) (hf : plainE iter = true) (hi : PI X tg iter (TIo X.K fa ca W si)) (ok : BlkOk X.N X.env.scope scope own) (hown : ∀ i ∈ tgSlots T, i ∈ own.map (·.2))
    (hg : ∀ (s : Shared) (H : Hp) (C : Addr) (cl : List (Str × Addr)) (fp : List Addr), PG (X.blk s H scope (compEnvC scope cl C X.env) fp) tg (rawG X.K T)) (ht : ∀ (s : Shared) (H : Hp) (C : Addr) (cl : List (Str × Addr)) (fp : List Addr), PTs (X.blk s H scope (compEnvC scope cl C X.env) fp) ifs (TTo X.K fa ca W0 sc))
    (he : ∀ (s : Shared) (H : Hp) (C : Addr) (cl : List (Str × Addr)) (fp : List Addr), PE (X.blk s H scope (compEnvC scope cl C X.env) fp) elt (TEo X.K fa ca W0 sa)) :
    PE X (.ListComp elt [⟨tg, iter, ifs, 0⟩] scope pos) (TEo X.K fa ca W (fun ρ h => (si ρ h).bind fun j h1 => fitL (lcRun (tgt T) sc sa (wipeM ρ (own.map (·.2))) fuel j h1))) :=
  PE_weak (pe_lc hc hN hi ok hg ht he (fold_plain hf _)) (w_lc hown)
theorem r_setLc {i : Nat} {y : Str} {py spos : Pos} (hc : X.calm = true) (hN : X.N.Nodup) (hy : X.N[i]? = some y) (hyl : X.env.scope.names.lookup y = some .local) (hsw : swapsWith (.ListComp elt [⟨tg, iter, ifs, 0⟩] scope pos) (some (.Name y py)) spos.line X.env = pure true)
    (hf : plainE iter = true) (hi : PI X tg iter (TIo X.K fa ca W si)) (ok : BlkOk X.N X.env.scope scope own) (hown : ∀ i ∈ tgSlots T, i ∈ own.map (·.2))
    (hg : ∀ (s : Shared) (H : Hp) (C : Addr) (cl : List (Str × Addr)) (fp : List Addr), PG (X.blk s H scope (compEnvC scope cl C X.env) fp) tg (rawG X.K T)) (ht : ∀ (s : Shared) (H : Hp) (C : Addr) (cl : List (Str × Addr)) (fp : List Addr), PTs (X.blk s H scope (compEnvC scope cl C X.env) fp) ifs (TTo X.K fa ca W0 sc))
    (he : ∀ (s : Shared) (H : Hp) (C : Addr) (cl : List (Str × Addr)) (fp : List Addr), PE (X.blk s H scope (compEnvC scope cl C X.env) fp) elt (TEo X.K fa ca W0 sa)) :
    PS X (.Assign [.Name y py] (.ListComp elt [⟨tg, iter, ifs, 0⟩] scope pos) spos) (tAsg (TEo X.K fa ca W (fun ρ h => (si ρ h).bind fun j h1 => fitL (lcRun (tgt T) sc sa (wipeM ρ (own.map (·.2))) fuel j h1))) (gName i)) :=
  PS_weak (ps_setLc hc hN hy hyl hsw hi ok hg ht he (fold_plain hf _)) fun D σ H q => w_lc hown σ H _ q
theorem w_lc2 {si2 : SI} {T2 : Tg} {vs1 : List Nat} (hown : ∀ i ∈ tgSlots T, i ∈ own.map (·.2)) (hown2 : ∀ i ∈ tgSlots T2, i ∈ vs1) (σ : L2.St) (H : Hp) (Q : VK) : TEo K fa ca W (fun ρ h => (si ρ h).bind fun j h1 => fitL (lcRun2 (tgt T) si2 (tgt T2) sa vs1 (wipeM ρ (own.map (·.2))) fuel j h1)) σ H Q →
    tLc2 (TIo K fa ca W si) (rawG K T) (TTo K fa ca W0 tru1) (TIo K fa ca W0 si2) (rawG K T2) (TTo K fa ca W0 tru1) (TEo K fa ca W0 sa) (own.map (·.2)) vs1 σ H Q := fun ⟨μ, ρ, h, hr, sr, p⟩ =>
  ⟨μ, ρ, h, hr, sr, p.first fun j h1 μ1 H1 J _ e1 hr1 ir p1 => fun D hD => lc2_run hD hown hown2 hr1 (sr.ext hr.noTup e1) ir p1⟩
theorem r_lc2 {si2 : SI} {T2 : Tg} {vs1 : List Nat} {tg2 iter2 : Expr} (hc : X.calm = true) (hN : X.N.Nodup) (hf : plainE iter = true) (hf2 : plainE iter2 = true) (hi : PI X tg iter (TIo X.K fa ca W si)) (ok : BlkOk X.N X.env.scope scope own) (hown : ∀ i ∈ tgSlots T, i ∈ own.map (·.2)) (hown2 : ∀ i ∈ tgSlots T2, i ∈ vs1) (hv : ∀ i ∈ vs1, i ∈ own.map (·.2))
    (hg : ∀ (s : Shared) (H : Hp) (C : Addr) (cl : List (Str × Addr)) (fp : List Addr), PG (X.blk s H scope (compEnvC scope cl C X.env) fp) tg (rawG X.K T))
    (hi2 : ∀ (s : Shared) (H : Hp) (C : Addr) (cl : List (Str × Addr)) (fp : List Addr), PI (X.blk s H scope (compEnvC scope cl C X.env) fp) tg2 iter2 (TIo X.K fa ca W0 si2))
    (hg2 : ∀ (s : Shared) (H : Hp) (C : Addr) (cl : List (Str × Addr)) (fp : List Addr), PG (X.blk s H scope (compEnvC scope cl C X.env) fp) tg2 (rawG X.K T2))
    (he : ∀ (s : Shared) (H : Hp) (C : Addr) (cl : List (Str × Addr)) (fp : List Addr), PE (X.blk s H scope (compEnvC scope cl C X.env) fp) elt (TEo X.K fa ca W0 sa)) :
    PE X (.ListComp elt [⟨tg, iter, [], 0⟩, ⟨tg2, iter2, [], 0⟩] scope pos) (TEo X.K fa ca W (fun ρ h => (si ρ h).bind fun j h1 => fitL (lcRun2 (tgt T) si2 (tgt T2) sa vs1 (wipeM ρ (own.map (·.2))) fuel j h1))) :=
  PE_weak (pe_lc2 hc hN hi ok hv hg (fun _ _ _ _ _ => r_if0) hi2 hg2 (fun _ _ _ _ _ => r_if0) he (fold_plain hf _) fun _ => fold_plain hf2 _) (w_lc2 hown hown2)
end
end Mi
namespace Mi
open PySem PySem.Spec PyProof.Rows L2
mutual
def mTg (Γ : SC) : Tg → Expr → Bool
  | .nm i, e => (match dName e with
    | some x => atB Γ.N i x && locB Γ x
    | none => false)
  | .tp r, e => (match dTup e with
    | some es => mTgs Γ r es
    | none => false)
  | _, _ => false
def mTgs (Γ : SC) : Tg → List Expr → Bool
  | .nil, es => (match es with
    | [] => true
    | _ => false)
  | .cons t r, es => (match es with
    | e :: es => plainE e && (mTg Γ t e && mTgs Γ r es)
    | [] => false)
  | _, _ => false
end
section
variable {T : PTb} {lvl : Nat} {cf : CF} {G : List MV} {fa : FA} {ca : Nat → Addr} {Γ : SC} {X : Cx}
mutual
theorem snd_tg (o : XOk T lvl cf G fa ca Γ X) : ∀ (t : Tg) (e : Expr), mTg Γ t e = true → PG X e (rawG X.K t)
  | .nm i, e, h => by
    have h : (match dName e with
      | some x => atB Γ.N i x && locB Γ x
      | none => false) = true := h
    cases q : dName e with
    | none => rw [q] at h; cases h
    | some x =>
      rw [q] at h
      obtain ⟨h1, h2⟩ := Bool.and_eq_true_iff.mp h
      obtain ⟨p, rfl⟩ := dName_eq q
      exact pg_name o.nd (o.slot h1) (o.loc h2).1 (o.loc h2).2
  | .tp r, e, h => by
    have h : (match dTup e with
      | some es => mTgs Γ r es
      | none => false) = true := h
    cases q : dTup e with
    | none => rw [q] at h; cases h
    | some es =>
      rw [q] at h
      obtain ⟨k, p, rfl⟩ := dTup_eq q
      obtain ⟨h1, h2, h3⟩ := snd_tgs o r es h
      exact pg_tup o.cl h1 h2 h3
  | .nil, e, h => by cases h
  | .cons _ _, e, h => by cases h
theorem snd_tgs (o : XOk T lvl cf G fa ca Γ X) : ∀ (t : Tg) (es : List Expr), mTgs Γ t es = true → PGs X es (rawGs X.K t) ∧ (assignEach es X.env).length = tgLen t ∧ (assignEach es X.env).findIdx? (·.1) = none
  | .nil, es, h => by
    cases es with
    | nil => exact ⟨pgs_nil, rfl, rfl⟩
    | cons e es => cases h
  | .cons t r, es, h => by
    cases es with
    | nil => cases h
    | cons e es =>
      have h : (plainE e && (mTg Γ t e && mTgs Γ r es)) = true := h
      obtain ⟨h1, h⟩ := Bool.and_eq_true_iff.mp h
      obtain ⟨h2, h3⟩ := Bool.and_eq_true_iff.mp h
      obtain ⟨g1, g2, g3⟩ := snd_tgs o r es h3
      have ea := asgn_plain h1 es X.env
      refine ⟨pgs_cons (snd_tg o t e h2) g1 (by rw [ea]; rfl), by rw [ea]; exact congrArg (· + 1) g2, ?_⟩
      rw [ea, List.findIdx?_cons, g3]
      rfl
  | .nm _, _, h => by cases h
  | .tp _, _, h => by cases h
end
end
def tstE : Expr → Bool
  | .IfExp _ _ _ _ => false
  | .Starred _ _ => false
  | .UnaryOp .Not _ _ => true
  | .UnaryOp _ _ _ => false
  | _ => true
def boolE : Expr → Bool
  | .BoolOp _ _ _ => true
  | _ => false
def fnAt (T : PTb) (k : Nat) (x : Str) : Bool := match T.fns[k]? with
  | some p => decide (p.1 = x)
  | none => false
def gName' (Γ : SC) (x : Str) : Bool := glB Γ x && okN x
def opEq (o : Operator) (op : BOp) : Bool := decide (PyOp op = o)
def cmpEq (o : CmpOp) (op : COp) : Bool := decide (PyCmp op = o)
def biVs : Bi → Str
  | .len => "len" | .abs => "abs" | .gcd => "gcd" | .lcm => "lcm" | .min => "min" | .max => "max" | .sum => "sum" | .all => "all" | .any => "any" | .int => "int" | .tuple => "tuple" | .list => "list" | .dict => "dict" | .sorted => "sorted"
def isMath : Bi → Bool
  | .gcd => true
  | .lcm => true
  | _ => false
def inMas (x : Str) (id : String) : List (Str × String) → Bool
  | [] => false
  | p :: r => (decide (p.1 = x) && decide (p.2 = id)) || inMas x id r
def biN : Bi → String
  | .gcd => "math.gcd"
  | .lcm => "math.lcm"
  | _ => ""
def biB (T : PTb) (b : Bi) (x : Str) : Bool := match isMath b with
  | true => inMas x (biN b) T.mas
  | false => decide (x = biVs b) && inB x T.bis
def tyName : Ty → Str
  | .int => "int" | .bool => "bool" | .str => "str" | .tuple => "tuple" | .list => "list"
def tyB (T : PTb) (Γ : SC) (t : Ty) (e : Expr) : Bool := match dName e with
  | some x => decide (x = tyName t) && (inB x T.bis && glB Γ x)
  | none => false
def tysB (T : PTb) (Γ : SC) : List Ty → List Expr → Bool
  | [], [] => true
  | t :: ts, e :: es => tyB T Γ t e && tysB T Γ ts es
  | _, _ => false
def clsB (T : PTb) (Γ : SC) (ts : List Ty) (e : Expr) : Bool := match dTup e with
  | some es => (match ts with
    | [] => false
    | t :: r => Nat.ble r.length 100 && tysB T Γ (t :: r) es)
  | none => (match ts with
    | [t] => tyB T Γ t e
    | _ => false)
def kwN : List Keyword → Option (List Str)
  | [] => some []
  | ⟨some x, _, _⟩ :: r => (match kwN r with
    | some l => some (x :: l)
    | none => none)
  | _ => none
def kwHas (T : PTb) (f n : Nat) (ks : List Str) (pm : List Nat) : Bool := T.kp.any fun p => decide (p = ⟨f, n, ks, pm⟩)
def gBlt (T : PTb) (Γ : SC) (x : Str) : Bool := inB x T.bis && glB Γ x
def isTupE (e : Expr) : Bool := match dTup e with
  | some _ => true
  | none => false
def namesAt (N : List Str) : List Nat → List (Str × Nat)
  | [] => []
  | i :: r => ((N[i]?).getD "", i) :: namesAt N r
def rng1 (x : Str) : Bool := decide (x = "range")
def litOne : Expr → Bool
  | .UnaryOp .USub (.Constant (.int (.ofNat 1)) 0 _) _ => true
  | _ => false
def blkG (Γ : SC) (scope : Scope) : SC := ⟨Γ.N, relS scope Γ.sc, fun x => scope.names.lookup x == some .cell⟩
def noCond : Ex → Bool
  | .cst (.bl true) => true
  | _ => false
theorem noCond_eq {c : Ex} (h : noCond c = true) : c = .cst (.bl true) := by
  unfold noCond at h
  split at h
  · rfl
  · cases h
def mtOk : Mth → Nat → Bool
  | .pop, n => Nat.beq n 0
  | .get, _ => false
  | _, n => Nat.beq n 1
mutual
def mE (T : PTb) : Ex → SC → Expr → Bool
  | .var i => fun Γ e => (match dName e with
    | some x => atB Γ.N i x && (visB Γ x && okN x)
    | none => false)
  | .cst v => fun _ e => cstB v e
  | .glb i => fun Γ e => (match dName e with
    | some x => atB T.gls i x && gName' Γ x
    | none => false)
  | .fref k => fun Γ e => (match dName e with
    | some x => fnAt T k x && gName' Γ x
    | none => false)
  | .neg a => fun Γ e => (match dNeg e with
    | some x => mE T a Γ x
    | none => false)
  | .nt a => fun Γ e => (match dNot e with
    | some x => tstE x && mE T a Γ x
    | none => false)
  | .bin op a b => fun Γ e => (match dBin e with
    | some (x, o, y) => opEq o op && (mE T a Γ x && mE T b Γ y)
    | none => false)
  | .cmp op a b => fun Γ e => (match dCmp e with
    | some (x, o, y) => (cmpEq o op && plainE y) && (mE T a Γ x && mE T b Γ y)
    | none => false)
  | .chain op oq a b c => fun Γ e => (match dChain e with
    | some (x, o, y, o2, z) => (cmpEq o op && (cmpEq o2 oq && plainE z)) && (mE T a Γ x && (mE T b Γ y && mE T c Γ z))
    | none => false)
  | .and a b => fun Γ e => (match dAnd e with
    | some (x, r) => tstE x && (mE T a Γ x && mE T b Γ r)
    | none => false)
  | .or a b => fun Γ e => (match dOr e with
    | some (x, r) => tstE x && (mE T a Γ x && mE T b Γ r)
    | none => false)
  | .one a => fun Γ e => (match dOne e with
    | some x => tstE x && mE T a Γ x
    | none => false)
  | .ite c a b => fun Γ e => (match dIte e with
    | some (x, y, z) => tstE x && (mE T c Γ x && (mE T a Γ y && mE T b Γ z))
    | none => false)
  | .tup es => fun Γ e => (match dTup e with
    | some l => Nat.ble l.length 1000 && mL T es Γ l
    | none => false)
  | .lst es => fun Γ e => (match dLst e with
    | some l => Nat.ble l.length 1000 && mL T es Γ l
    | none => false)
  | .idx a b => fun Γ e => (match dSub e with
    | some (x, y) => plainE y && (mE T a Γ x && mE T b Γ y)
    | none => false)
  | .slc a lo hi => fun Γ e => (match dSlc e with
    | some (x, l, u) => mE T a Γ x && (mO T lo Γ l && mO T hi Γ u)
    | none => false)
  | .back a lo hi => fun Γ e => (match dRev e with
    | some (x, l, u) => mE T a Γ x && (mO T lo Γ l && mO T hi Γ u)
    | none => false)
  | .call f es => fun Γ e => (match dCall e with
    | some (x, l, ks, _) => (ks.isEmpty && (fnAt T f x && gName' Γ x)) && mL T es Γ l
    | none => false)
  | .callk f es zs pm => fun Γ e => (match dCall e with
    | some (x, l, ks, _) => (match kwN ks with
      | some ns => (kwHas T f l.length ns pm && (fnAt T f x && gName' Γ x)) && (mL T es Γ l && mK T zs Γ ks)
      | none => false)
    | none => false)
  | .callv i => fun Γ e => (match dCall e with
    | some (x, l, ks, _) => (ks.isEmpty && l.isEmpty) && (atB Γ.N i x && (visB Γ x && okN x))
    | none => false)
  | .bi b es => fun Γ e => (match dCall e with
    | some (x, l, ks, _) => (ks.isEmpty && (!l.isEmpty && (biB T b x && gName' Γ x))) && mL T es Γ l
    | none => false)
  | .isin a ts => fun Γ e => (match dCall e with
    | some (x, [y, z], ks, _) => (ks.isEmpty && (decide (x = "isinstance") && (gBlt T Γ x && (plainE y && clsB T Γ ts z)))) && mE T a Γ y
    | _ => false)
  | .mth m a es => fun Γ e => (match dMth e with
    | some (o, x, q, l, p) => (decide (x = mtN m) && (baseE o && ((q.endLine == p.line) && mtOk m l.length))) && (mE T a Γ o && mL T es Γ l)
    | none => false)
  | .lc tg it cond elt own => fun Γ e => (match dLc e with
    | some (y, t, i, cs, scope) => (blkC Γ.N Γ.sc scope (namesAt Γ.N own) && (plainE i && (tgSlots tg).all (fun j => own.contains j))) &&
        (mI T it Γ t i && (mTg (blkG Γ scope) tg t && ((match cs with
          | [] => noCond cond
          | [c] => tstE c && mE T cond (blkG Γ scope) c
          | _ => false) && mE T elt (blkG Γ scope) y)))
    | none => false)
  | .get a b c => fun Γ e => (match dMth e with
    | some (o, x, q, [y, z], p) => (decide (x = "get") && (baseE o && ((q.endLine == p.line) && (plainE y && plainE z)))) && (mE T a Γ o && (mE T b Γ y && mE T c Γ z))
    | _ => false)
  | .lc2 tg it tg2 it2 elt own own2 => fun Γ e => (match dLc2 e with
    | some (y, t, i, t2, i2, scope) => (blkC Γ.N Γ.sc scope (namesAt Γ.N own) && ((plainE i && plainE i2) && ((tgSlots tg).all (fun j => own.contains j) && ((tgSlots tg2).all (fun j => own2.contains j) && own2.all (fun j => own.contains j))))) &&
        ((mI T it Γ t i && mTg (blkG Γ scope) tg t) && ((mI T it2 (blkG Γ scope) t2 i2 && mTg (blkG Γ scope) tg2 t2) && mE T elt (blkG Γ scope) y))
    | none => false)
  | _ => fun _ _ => false
def mL (T : PTb) : Ex → SC → List Expr → Bool
  | .nil => fun _ l => (match l with
    | [] => true
    | _ => false)
  | .cons a r => fun Γ l => (match l with
    | x :: l => plainE x && (mE T a Γ x && mL T r Γ l)
    | [] => false)
  | _ => fun _ _ => false
def mK (T : PTb) : Ex → SC → List Keyword → Bool
  | .nil => fun _ l => (match l with
    | [] => true
    | _ => false)
  | .cons a r => fun Γ l => (match l with
    | ⟨_, x, _⟩ :: l => mE T a Γ x && mK T r Γ l
    | [] => false)
  | _ => fun _ _ => false
def mO (T : PTb) : Ex → SC → Option Expr → Bool
  | .noe => fun _ o => (match o with
    | none => true
    | some _ => false)
  | .bnd a => fun Γ o => (match o with
    | some x => mE T a Γ x
    | none => false)
  | _ => fun _ _ => false
def mI (T : PTb) : Ex → SC → Expr → Expr → Bool
  | .itv a => fun Γ _ e => mE T a Γ e
  | .itr1 a => fun Γ _ e => (match dCall e with
    | some (x, [y], ks, _) => (ks.isEmpty && (decide (x = "range") && (gBlt T Γ x && plainE y))) && mE T a Γ y
    | _ => false)
  | .itr2 a b => fun Γ _ e => (match dCall e with
    | some (x, [y, z], ks, _) => (ks.isEmpty && (decide (x = "range") && (gBlt T Γ x && (plainE y && plainE z)))) && (mE T a Γ y && mE T b Γ z)
    | _ => false)
  | .itr3 a b => fun Γ _ e => (match dCall e with
    | some (x, [y, z, u], ks, _) => (ks.isEmpty && (decide (x = "range") && (gBlt T Γ x && (plainE y && (plainE z && litOne u))))) && (mE T a Γ y && mE T b Γ z)
    | _ => false)
  | .itn a => fun Γ t e => (match dCall e with
    | some (x, [y], ks, _) => (ks.isEmpty && (decide (x = "enumerate") && (gBlt T Γ x && (plainE y && isTupE t)))) && mE T a Γ y
    | _ => false)
  | .itz a b => fun Γ t e => (match dCall e with
    | some (x, [y, z], ks, _) => (ks.isEmpty && (decide (x = "zip") && (gBlt T Γ x && (plainE y && (plainE z && isTupE t))))) && (mE T a Γ y && mE T b Γ z)
    | _ => false)
  | _ => fun _ _ _ => false
end
end Mi
namespace Mi
open PySem PySem.Spec PyProof.Rows L2
section
variable {T : PTb} {lvl : Nat} {cf : CF} {G : List MV} {fa : FA} {ca : Nat → Addr} {Γ : SC} {X : Cx} {W : WX}
structure OkE (X : Cx) (fa : FA) (ca : Nat → Addr) (W : WX) (e : Expr) (s : SE) : Prop where
  v : PE X e (TEo X.K fa ca W s)
  t : tstE e = true → PT X e (TTt X.K fa ca W s)
  w : boolE e = true → PW X e (TTt X.K fa ca W s)
structure OkL (X : Cx) (fa : FA) (ca : Nat → Addr) (W : WX) (l : List Expr) (s : SL) : Prop where
  v : PA X l (TAo X.K fa ca W s)
  n : LenIs s l.length
  p : plainL l = true
  z : l = [] → ∀ ρ h, s ρ h = .ok [] h
structure OkK (X : Cx) (fa : FA) (ca : Nat → Addr) (W : WX) (l : List Keyword) (s : SL) : Prop where
  v : PK X l (TAo X.K fa ca W s)
  n : LenIs s l.length
theorem OkE.val {e : Expr} {s : SE} (h : PE X e (TEo X.K fa ca W s)) (he : valE e = true) : OkE X fa ca W e s :=
  ⟨h, fun _ => t_val he h, fun z => by cases e <;> first | (cases z; done) | (cases he; done)⟩
def SE' (T : PTb) (lvl : Nat) (cf : CF) (G : List MV) (fa : FA) (ca : Nat → Addr) (c : Ex) : Prop := ∀ (Γ : SC) (e : Expr) (X : Cx) (W : WX), mE T c Γ e = true → XOk T lvl cf G fa ca Γ X → Takes X W → OkE X fa ca W e (den cf G c)
def SL' (T : PTb) (lvl : Nat) (cf : CF) (G : List MV) (fa : FA) (ca : Nat → Addr) (c : Ex) : Prop := ∀ (Γ : SC) (l : List Expr) (X : Cx) (W : WX), mL T c Γ l = true → XOk T lvl cf G fa ca Γ X → Takes X W → OkL X fa ca W l (denL cf G c)
def SK' (T : PTb) (lvl : Nat) (cf : CF) (G : List MV) (fa : FA) (ca : Nat → Addr) (c : Ex) : Prop := ∀ (Γ : SC) (l : List Keyword) (X : Cx) (W : WX), mK T c Γ l = true → XOk T lvl cf G fa ca Γ X → Takes X W → OkK X fa ca W l (denL cf G c)
def SO' (T : PTb) (lvl : Nat) (cf : CF) (G : List MV) (fa : FA) (ca : Nat → Addr) (c : Ex) : Prop := ∀ (Γ : SC) (o : Option Expr) (X : Cx) (W : WX), mO T c Γ o = true → XOk T lvl cf G fa ca Γ X → Takes X W → PO X o (TOo X.K fa ca W (denO cf G c))
def SI' (T : PTb) (lvl : Nat) (cf : CF) (G : List MV) (fa : FA) (ca : Nat → Addr) (c : Ex) : Prop := ∀ (Γ : SC) (t e : Expr) (X : Cx) (W : WX), mI T c Γ t e = true → XOk T lvl cf G fa ca Γ X → Takes X W → PI X t e (TIo X.K fa ca W (denI cf G c))
theorem and2 {a b : Bool} (h : (a && b) = true) : a = true ∧ b = true := Bool.and_eq_true_iff.mp h
theorem glo (o : XOk T lvl cf G fa ca Γ X) {x : Str} (h : gName' Γ x = true) : Gl X x ∧ (x == ("__debug__" : Str)) = false ∧ x ≠ "__name__" := ⟨o.glo (and2 h).1, okN_1 (and2 h).2, okN_3 (and2 h).2⟩
theorem fnAt_eq {k : Nat} {x : Str} (h : fnAt T k x = true) : ∃ ps, T.fns[k]? = some (x, ps) := by
  unfold fnAt at h
  split at h
  · rename_i p e
    obtain ⟨y, ps⟩ := p
    have : y = x := of_decide_eq_true h
    subst this
    exact ⟨ps, e⟩
  · cases h
theorem blt (o : XOk T lvl cf G fa ca Γ X) {x : Str} (h : gBlt T Γ x = true) : Gl X x ∧ X.mg x = none := ⟨o.glo (and2 h).2, o.gm.bi x (inB_mem (and2 h).1)⟩
theorem s_var (i : Nat) : SE' T lvl cf G fa ca (.var i) := by
  intro Γ e X W h o tk
  have h : (match dName e with
    | some x => atB Γ.N i x && (visB Γ x && okN x)
    | none => false) = true := h
  split at h
  · rename_i x q
    obtain ⟨h1, h2⟩ := and2 h
    obtain ⟨h2, h3⟩ := and2 h2
    obtain ⟨p, rfl⟩ := dName_eq q
    exact .val (r_var (o.slot h1) (o.vis h2) (okN_1 h3) (okN_2 h3)) rfl
  · cases h
theorem s_cst (v : MV) : SE' T lvl cf G fa ca (.cst v) := by
  intro Γ e X W h o tk
  have h : cstB v e = true := h
  refine .val (r_cst h) ?_
  unfold cstB at h
  split at h <;> first | rfl | cases h
theorem s_glb (i : Nat) : SE' T lvl cf G fa ca (.glb i) := by
  intro Γ e X W h o tk
  have h : (match dName e with
    | some x => atB T.gls i x && gName' Γ x
    | none => false) = true := h
  split at h
  · rename_i x q
    obtain ⟨h1, h2⟩ := and2 h
    obtain ⟨g1, g2, g3⟩ := glo o h2
    obtain ⟨p, rfl⟩ := dName_eq q
    exact .val (r_glb g1 (o.gm.gl i x (atB_eq h1)) g2) rfl
  · cases h
theorem s_fref (k : Nat) : SE' T lvl cf G fa ca (.fref k) := by
  intro Γ e X W h o tk
  have h : (match dName e with
    | some x => fnAt T k x && gName' Γ x
    | none => false) = true := h
  split at h
  · rename_i x q
    obtain ⟨h1, h2⟩ := and2 h
    obtain ⟨g1, g2, g3⟩ := glo o h2
    obtain ⟨p, rfl⟩ := dName_eq q
    obtain ⟨ps, hf⟩ := fnAt_eq h1
    exact .val (r_fref (o.gm.fn k x ps hf) g1 g2) rfl
  · cases h
variable {a b c : Ex}
theorem s_neg (sa : SE' T lvl cf G fa ca a) : SE' T lvl cf G fa ca (.neg a) := by
  intro Γ e X W h o tk
  have h : (match dNeg e with
    | some x => mE T a Γ x
    | none => false) = true := h
  split at h
  · rename_i x q
    obtain ⟨p, rfl⟩ := dNeg_eq q
    exact ⟨r_neg (sa Γ x X W h o tk).v, (fun z => nomatch z), (fun z => nomatch z)⟩
  · cases h
theorem s_nt (sa : SE' T lvl cf G fa ca a) : SE' T lvl cf G fa ca (.nt a) := by
  intro Γ e X W h o tk
  have h : (match dNot e with
    | some x => tstE x && mE T a Γ x
    | none => false) = true := h
  split at h
  · rename_i x q
    obtain ⟨h1, h2⟩ := and2 h
    obtain ⟨p, rfl⟩ := dNot_eq q
    have z := sa Γ x X W h2 o tk
    exact ⟨r_not z.v, fun _ => t_not (z.t h1), (fun z => nomatch z)⟩
  · cases h
theorem s_bin (op : BOp) (sa : SE' T lvl cf G fa ca a) (sb : SE' T lvl cf G fa ca b) : SE' T lvl cf G fa ca (.bin op a b) := by
  intro Γ e X W h o tk
  have h : (match dBin e with
    | some (x, o, y) => opEq o op && (mE T a Γ x && mE T b Γ y)
    | none => false) = true := h
  split at h
  · rename_i x u y q
    obtain ⟨h1, h2⟩ := and2 h
    obtain ⟨h2, h3⟩ := and2 h2
    have e1 : PyOp op = u := of_decide_eq_true h1
    subst e1
    obtain ⟨p, rfl⟩ := dBin_eq q
    exact .val (r_bin op (sa Γ x X W h2 o tk).v (sb Γ y X W h3 o tk).v) rfl
  · cases h
theorem s_cmp (op : COp) (sa : SE' T lvl cf G fa ca a) (sb : SE' T lvl cf G fa ca b) : SE' T lvl cf G fa ca (.cmp op a b) := by
  intro Γ e X W h o tk
  have h : (match dCmp e with
    | some (x, o, y) => (cmpEq o op && plainE y) && (mE T a Γ x && mE T b Γ y)
    | none => false) = true := h
  split at h
  · rename_i x u y q
    obtain ⟨h1, h2⟩ := and2 h
    obtain ⟨h1, hp⟩ := and2 h1
    obtain ⟨h2, h3⟩ := and2 h2
    have e1 : PyCmp op = u := of_decide_eq_true h1
    subst e1
    obtain ⟨p, rfl⟩ := dCmp_eq q
    have z1 := (sa Γ x X W h2 o tk).v
    have z2 := (sb Γ y X W h3 o tk).v
    exact ⟨r_cmp o.cu op z1 z2 hp, fun _ => t_cmp o.cu op z1 z2 hp, (fun z => nomatch z)⟩
  · cases h
theorem s_chain (op oq : COp) (sa : SE' T lvl cf G fa ca a) (sb : SE' T lvl cf G fa ca b) (sc : SE' T lvl cf G fa ca c) : SE' T lvl cf G fa ca (.chain op oq a b c) := by
  intro Γ e X W h o tk
  have h : (match dChain e with
    | some (x, o, y, o2, z) => (cmpEq o op && (cmpEq o2 oq && plainE z)) && (mE T a Γ x && (mE T b Γ y && mE T c Γ z))
    | none => false) = true := h
  split at h
  · rename_i x u y u2 z q
    obtain ⟨h5, h6⟩ := and2 h
    obtain ⟨h1, h7⟩ := and2 h5
    obtain ⟨hp1, hp⟩ := and2 h7
    obtain ⟨h2, h8⟩ := and2 h6
    obtain ⟨h3, h4⟩ := and2 h8
    have e1 : PyCmp op = u := of_decide_eq_true h1
    have e2 : PyCmp oq = u2 := of_decide_eq_true hp1
    subst e1 e2
    obtain ⟨p, rfl⟩ := dChain_eq q
    have z1 := (sa Γ x X W h2 o tk).v
    have z2 := (sb Γ y X W h3 o tk).v
    have z3 := (sc Γ z X W h4 o tk).v
    exact ⟨r_chain o.cu op oq z1 z2 z3 hp, fun _ => t_chain o.cu op oq z1 z2 z3 hp, (fun z => nomatch z)⟩
  · cases h
theorem s_and (sa : SE' T lvl cf G fa ca a) (sb : SE' T lvl cf G fa ca b) : SE' T lvl cf G fa ca (.and a b) := by
  intro Γ e X W h o tk
  have h : (match dAnd e with
    | some (x, r) => tstE x && (mE T a Γ x && mE T b Γ r)
    | none => false) = true := h
  split at h
  · rename_i x r q
    obtain ⟨h1, h0⟩ := and2 h
    obtain ⟨h2, h3⟩ := and2 h0
    obtain ⟨y, l, p, rfl, rfl⟩ := dAnd_eq q
    have z1 := sa Γ x X W h2 o tk
    have z2 := sb Γ _ X W h3 o tk
    have w := p_and (z1.t h1) (z2.w rfl)
    exact ⟨r_and z1.v z2.v, fun _ => w.pt, fun _ => w⟩
  · cases h
theorem s_or (sa : SE' T lvl cf G fa ca a) (sb : SE' T lvl cf G fa ca b) : SE' T lvl cf G fa ca (.or a b) := by
  intro Γ e X W h o tk
  have h : (match dOr e with
    | some (x, r) => tstE x && (mE T a Γ x && mE T b Γ r)
    | none => false) = true := h
  split at h
  · rename_i x r q
    obtain ⟨h1, h0⟩ := and2 h
    obtain ⟨h2, h3⟩ := and2 h0
    obtain ⟨y, l, p, rfl, rfl⟩ := dOr_eq q
    have z1 := sa Γ x X W h2 o tk
    have z2 := sb Γ _ X W h3 o tk
    have w := p_or (z1.t h1) (z2.w rfl)
    exact ⟨r_or z1.v z2.v, fun _ => w.pt, fun _ => w⟩
  · cases h
theorem s_one (sa : SE' T lvl cf G fa ca a) : SE' T lvl cf G fa ca (.one a) := by
  intro Γ e X W h o tk
  have h : (match dOne e with
    | some x => tstE x && mE T a Γ x
    | none => false) = true := h
  split at h
  · rename_i x q
    obtain ⟨h1, h2⟩ := and2 h
    obtain ⟨u, p, rfl⟩ := dOne_eq q
    have z1 := sa Γ x X W h2 o tk
    have w := p_one (pos := p) (o := u) (z1.t h1)
    exact ⟨pe_one z1.v, fun _ => w.pt, fun _ => w⟩
  · cases h
theorem s_ite (sc : SE' T lvl cf G fa ca c) (sa : SE' T lvl cf G fa ca a) (sb : SE' T lvl cf G fa ca b) : SE' T lvl cf G fa ca (.ite c a b) := by
  intro Γ e X W h o tk
  have h : (match dIte e with
    | some (x, y, z) => tstE x && (mE T c Γ x && (mE T a Γ y && mE T b Γ z))
    | none => false) = true := h
  split at h
  · rename_i x y z q
    obtain ⟨h1, h2⟩ := and2 h
    obtain ⟨h2, h3⟩ := and2 h2
    obtain ⟨h3, h4⟩ := and2 h3
    obtain ⟨p, rfl⟩ := dIte_eq q
    exact ⟨r_ite ((sc Γ x X W h2 o tk).t h1) (sa Γ y X W h3 o tk).v (sb Γ z X W h4 o tk).v, (fun z => nomatch z), (fun z => nomatch z)⟩
  · cases h
theorem s_tup (sl : SL' T lvl cf G fa ca a) : SE' T lvl cf G fa ca (.tup a) := by
  intro Γ e X W h o tk
  have h : (match dTup e with
    | some l => Nat.ble l.length 1000 && mL T a Γ l
    | none => false) = true := h
  split at h
  · rename_i l q
    obtain ⟨h1, h2⟩ := and2 h
    obtain ⟨k, p, rfl⟩ := dTup_eq q
    have z := sl Γ l X W h2 o tk
    exact .val (r_tup z.v z.n (by have := Nat.le_of_ble_eq_true h1; omega)) rfl
  · cases h
theorem s_lst (sl : SL' T lvl cf G fa ca a) : SE' T lvl cf G fa ca (.lst a) := by
  intro Γ e X W h o tk
  have h : (match dLst e with
    | some l => Nat.ble l.length 1000 && mL T a Γ l
    | none => false) = true := h
  split at h
  · rename_i l q
    obtain ⟨h1, h2⟩ := and2 h
    obtain ⟨p, rfl⟩ := dLst_eq q
    have z := sl Γ l X W h2 o tk
    exact .val (r_lst z.v z.n (by have := Nat.le_of_ble_eq_true h1; omega)) rfl
  · cases h
theorem s_idx (sa : SE' T lvl cf G fa ca a) (sb : SE' T lvl cf G fa ca b) : SE' T lvl cf G fa ca (.idx a b) := by
  intro Γ e X W h o tk
  have h : (match dSub e with
    | some (x, y) => plainE y && (mE T a Γ x && mE T b Γ y)
    | none => false) = true := h
  split at h
  · rename_i x y q
    obtain ⟨h1, h2⟩ := and2 h
    obtain ⟨h2, h3⟩ := and2 h2
    obtain ⟨p, rfl⟩ := dSub_eq q
    exact .val (r_idx h1 (sa Γ x X W h2 o tk).v (sb Γ y X W h3 o tk).v) rfl
  · cases h
theorem s_slc (sa : SE' T lvl cf G fa ca a) (sb : SO' T lvl cf G fa ca b) (sc : SO' T lvl cf G fa ca c) : SE' T lvl cf G fa ca (.slc a b c) := by
  intro Γ e X W h o tk
  have h : (match dSlc e with
    | some (x, l, u) => mE T a Γ x && (mO T b Γ l && mO T c Γ u)
    | none => false) = true := h
  split at h
  · rename_i x l u q
    obtain ⟨h1, h2⟩ := and2 h
    obtain ⟨h2, h3⟩ := and2 h2
    obtain ⟨q1, p, rfl⟩ := dSlc_eq q
    exact .val (r_slc (sa Γ x X W h1 o tk).v (sb Γ l X W h2 o tk) (sc Γ u X W h3 o tk)) rfl
  · cases h
theorem s_back (sa : SE' T lvl cf G fa ca a) (sb : SO' T lvl cf G fa ca b) (sc : SO' T lvl cf G fa ca c) : SE' T lvl cf G fa ca (.back a b c) := by
  intro Γ e X W h o tk
  have h : (match dRev e with
    | some (x, l, u) => mE T a Γ x && (mO T b Γ l && mO T c Γ u)
    | none => false) = true := h
  split at h
  · rename_i x l u q
    obtain ⟨h1, h2⟩ := and2 h
    obtain ⟨h2, h3⟩ := and2 h2
    obtain ⟨p1, p2, p3, p4, rfl⟩ := dRev_eq q
    exact .val (r_back (sa Γ x X W h1 o tk).v (sb Γ l X W h2 o tk) (sc Γ u X W h3 o tk)) rfl
  · cases h
theorem isEmpty_nil {α : Type} {l : List α} (h : l.isEmpty = true) : l = [] := by cases l <;> first | rfl | cases h
theorem s_call (f : Nat) (sl : SL' T lvl cf G fa ca a) : SE' T lvl cf G fa ca (.call f a) := by
  intro Γ e X W h o tk
  have h : (match dCall e with
    | some (x, l, ks, _) => (ks.isEmpty && (fnAt T f x && gName' Γ x)) && mL T a Γ l
    | none => false) = true := h
  split at h
  · rename_i x l ks pos q
    obtain ⟨h1, h2⟩ := and2 h
    obtain ⟨h1, h3⟩ := and2 h1
    obtain ⟨h3, h4⟩ := and2 h3
    obtain rfl := isEmpty_nil h1
    obtain ⟨p, rfl⟩ := dCall_eq q
    obtain ⟨ps, hf⟩ := fnAt_eq h3
    obtain ⟨g1, g2, _⟩ := glo o h4
    have z := sl Γ l X W h2 o tk
    have F := o.gm.fn f x ps hf
    refine .val ?_ rfl
    cases l with
    | nil =>
      refine PE_weak (pe_callM0 F o.rm tk g1 g2) fun σ H Q ⟨μ, ρ, h, hr, sr, pp⟩ => ⟨μ, ρ, h, hr, sr, ?_⟩
      have pp : PostR X.K fa ca (VR X.K fa) μ H σ W Q ((denL cf G a ρ h).bind fun vs h1 => doCall cf f vs h1) := pp
      rw [z.z rfl ρ h] at pp
      exact pp
    | cons y l =>
      have hp := z.p
      exact pe_callM F o.rm tk g1 g2 z.v (.some (star_plain (and2 hp).1 _ _) (any_plain pos X.env (and2 hp).2))
  · cases h
theorem kwN_len : ∀ {ks : List Keyword} {ns : List Str}, kwN ks = some ns → ks.length = ns.length
  | [], ns, h => by cases h; rfl
  | ⟨some x, v, p⟩ :: r, ns, h => by
    have h : (match kwN r with
      | some l => some (x :: l)
      | none => none) = some ns := h
    cases q : kwN r with
    | none => rw [q] at h; cases h
    | some l => rw [q] at h; cases h; exact congrArg (· + 1) (kwN_len q)
  | ⟨none, v, p⟩ :: r, ns, h => by cases h
theorem kwN_ok (pos : Pos) (env : Env) : ∀ {ks : List Keyword} {ns : List Str}, kwN ks = some ns → (backToKw pos (keywordEach ks env)).all (·.1.isSome) = true ∧ (backToKw pos (keywordEach ks env)).filterMap (·.1) = ns ∧ (backToKw pos (keywordEach ks env)).any (·.1.isNone) = false
  | [], ns, h => by cases h; exact ⟨rfl, rfl, rfl⟩
  | ⟨some x, v, p⟩ :: r, ns, h => by
    have h : (match kwN r with
      | some l => some (x :: l)
      | none => none) = some ns := h
    cases q : kwN r with
    | none => rw [q] at h; cases h
    | some l =>
      rw [q] at h
      cases h
      obtain ⟨h1, h2, h3⟩ := kwN_ok pos env q
      refine ⟨?_, ?_, ?_⟩
      · show (true && (backToKw pos (keywordEach r env)).all (·.1.isSome)) = true
        rw [h1]; rfl
      · show x :: (backToKw pos (keywordEach r env)).filterMap (·.1) = x :: l
        rw [h2]
      · show (false || (backToKw pos (keywordEach r env)).any (·.1.isNone)) = false
        rw [h3]; rfl
  | ⟨none, v, p⟩ :: r, ns, h => by cases h
theorem s_callk (f : Nat) (pm : List Nat) (sl : SL' T lvl cf G fa ca a) (sk : SK' T lvl cf G fa ca b) : SE' T lvl cf G fa ca (.callk f a b pm) := by
  intro Γ e X W h o tk
  have h : (match dCall e with
    | some (x, l, ks, _) => (match kwN ks with
      | some ns => (kwHas T f l.length ns pm && (fnAt T f x && gName' Γ x)) && (mL T a Γ l && mK T b Γ ks)
      | none => false)
    | none => false) = true := h
  split at h
  · rename_i x l ks pos q
    split at h
    · rename_i ns q2
      obtain ⟨h1, h2⟩ := and2 h
      obtain ⟨h1, h3⟩ := and2 h1
      obtain ⟨h3, h4⟩ := and2 h3
      obtain ⟨h5, h6⟩ := and2 h2
      obtain ⟨p, rfl⟩ := dCall_eq q
      obtain ⟨ps, hf⟩ := fnAt_eq h3
      obtain ⟨g1, g2, _⟩ := glo o h4
      obtain ⟨k1, k2, k3⟩ := kwN_ok pos X.env q2
      have z := sl Γ l X W h5 o tk
      have zk := sk Γ ks X W h6 o tk
      have hp : (⟨f, l.length, ns, pm⟩ : KPat) ∈ T.kp := by
        obtain ⟨y, hy, e⟩ := List.any_eq_true.mp h1
        rw [← of_decide_eq_true e]
        exact hy
      refine .val (pe_callMk (pt := ⟨f, l.length, ns, pm⟩) (o.gm.fn f x ps hf) hp rfl o.rm tk g1 g2 z.v zk.v z.n (fun ρ h vs h1 e => by rw [zk.n ρ h vs h1 e, kwN_len q2]) k1 k2 ?_ ?_) rfl
      · cases l with
        | nil => exact .inl ⟨rfl, z.z rfl⟩
        | cons y l => exact .inr ⟨y, l, rfl, star_plain (and2 z.p).1 _ _⟩
      · rw [any_plain pos X.env z.p, k3]; rfl
    · cases h
  · cases h
theorem s_callv (i : Nat) : SE' T lvl cf G fa ca (.callv i) := by
  intro Γ e X W h o tk
  have h : (match dCall e with
    | some (x, l, ks, _) => (ks.isEmpty && l.isEmpty) && (atB Γ.N i x && (visB Γ x && okN x))
    | none => false) = true := h
  split at h
  · rename_i x l ks pos q
    obtain ⟨h1, h2⟩ := and2 h
    obtain ⟨h1, h3⟩ := and2 h1
    obtain ⟨h2, h4⟩ := and2 h2
    obtain ⟨h4, h5⟩ := and2 h4
    obtain rfl := isEmpty_nil h1
    obtain rfl := isEmpty_nil h3
    obtain ⟨p, rfl⟩ := dCall_eq q
    exact .val (pe_callMv o.gm.fv o.rm tk (o.slot h2) (o.vis h4) (okN_1 h5) (okN_2 h5)) rfl
  · cases h
theorem mas_mem {x : Str} {id : String} : ∀ {l : List (Str × String)}, inMas x id l = true → (x, id) ∈ l
  | p :: r, h => by
    rcases Bool.or_eq_true_iff.mp h with h | h
    · obtain ⟨h1, h2⟩ := and2 h
      rw [← of_decide_eq_true h1, ← of_decide_eq_true h2]
      exact List.mem_cons_self
    · exact List.mem_cons_of_mem _ (mas_mem h)
theorem boot_bi : ∀ b : Bi, isMath b = false → bootBuiltins (biVs b) = some (biV b) := fun b => by
  cases b <;> first | (intro h; cases h; done) | (intro _; decide +kernel)
theorem bi_at (o : XOk T lvl cf G fa ca Γ X) {b : Bi} {x : Str} (h : biB T b x = true) : BiAt X x b := by
  unfold biB at h
  cases q : isMath b with
  | true =>
    rw [q] at h
    have m := o.gm.ma _ (mas_mem h)
    exact .inr ⟨biN b, (by cases b <;> first | rfl | (cases q; done)), m⟩
  | false =>
    rw [q] at h
    obtain ⟨h1, h2⟩ := and2 h
    have e : x = biVs b := of_decide_eq_true h1
    exact .inl ⟨o.gm.bi x (inB_mem h2), by rw [e]; exact boot_bi b q⟩
theorem s_bi (b : Bi) (sl : SL' T lvl cf G fa ca a) : SE' T lvl cf G fa ca (.bi b a) := by
  intro Γ e X W h o tk
  have h : (match dCall e with
    | some (x, l, ks, _) => (ks.isEmpty && (!l.isEmpty && (biB T b x && gName' Γ x))) && mL T a Γ l
    | none => false) = true := h
  split at h
  · rename_i x l ks pos q
    obtain ⟨h1, h2⟩ := and2 h
    obtain ⟨h1, h3⟩ := and2 h1
    obtain ⟨h3, h4⟩ := and2 h3
    obtain ⟨h4, h5⟩ := and2 h4
    obtain rfl := isEmpty_nil h1
    obtain ⟨p, rfl⟩ := dCall_eq q
    obtain ⟨g1, g2, g3⟩ := glo o h5
    have z := sl Γ l X W h2 o tk
    cases l with
    | nil => cases h3
    | cons y l => exact .val (r_bi o.cl o.cu b (bi_at o h4) g1 g3 g2 z.p z.v) rfl
  · cases h
theorem boot_ty : ∀ t : Ty, bootBuiltins (tyName t) = some (.type (PyTy t)) := fun t => by cases t <;> decide +kernel
theorem ty_name : ∀ t : Ty, tyName t ≠ "__name__" ∧ (tyName t == ("__debug__" : Str)) = false := fun t => by cases t <;> exact ⟨by decide, by decide⟩
theorem ty_at (o : XOk T lvl cf G fa ca Γ X) {t : Ty} {e : Expr} (h : tyB T Γ t e = true) : ∃ p, e = .Name (tyName t) p ∧ TyAt X (tyName t) t := by
  unfold tyB at h
  split at h
  · rename_i x q
    obtain ⟨h1, h2⟩ := and2 h
    obtain ⟨h2, h3⟩ := and2 h2
    have e1 : x = tyName t := of_decide_eq_true h1
    subst e1
    obtain ⟨p, rfl⟩ := dName_eq q
    exact ⟨p, rfl, o.glo h3, o.gm.bi _ (inB_mem h2), boot_ty t, (ty_name t).1, (ty_name t).2⟩
  · cases h
theorem tys_at (o : XOk T lvl cf G fa ca Γ X) : ∀ {ts : List Ty} {es : List Expr}, tysB T Γ ts es = true → TysAt X es ts
  | [], [], _ => True.intro
  | t :: ts, e :: es, h => by
    obtain ⟨h1, h2⟩ := and2 (show (tyB T Γ t e && tysB T Γ ts es) = true from h)
    obtain ⟨p, rfl, k⟩ := ty_at o h1
    exact ⟨k, tys_at o h2⟩
  | [], _ :: _, h => by cases h
  | _ :: _, [], h => by cases h
theorem s_isin (ts : List Ty) (sa : SE' T lvl cf G fa ca a) : SE' T lvl cf G fa ca (.isin a ts) := by
  intro Γ e X W h o tk
  have h : (match dCall e with
    | some (x, [y, z], ks, _) => (ks.isEmpty && (decide (x = "isinstance") && (gBlt T Γ x && (plainE y && clsB T Γ ts z)))) && mE T a Γ y
    | _ => false) = true := h
  split at h
  · rename_i x y z ks pos q
    obtain ⟨w1, h2⟩ := and2 h
    obtain ⟨h1, w2⟩ := and2 w1
    obtain ⟨h3, w3⟩ := and2 w2
    obtain ⟨h4, w4⟩ := and2 w3
    obtain ⟨h5, h6⟩ := and2 w4
    have e1 : x = "isinstance" := of_decide_eq_true h3
    subst e1
    obtain rfl := isEmpty_nil h1
    obtain ⟨p, rfl⟩ := dCall_eq q
    obtain ⟨g1, g2⟩ := blt o h4
    have k := (sa Γ y X W h2 o tk).v
    unfold clsB at h6
    split at h6
    · rename_i es q2
      split at h6
      · cases h6
      · rename_i t r
        obtain ⟨h7, h8⟩ := and2 h6
        obtain ⟨kk, p2, rfl⟩ := dTup_eq q2
        exact .val (r_isiT g1 g2 (tys_at o h8) (Nat.le_of_ble_eq_true h7) h5 k) rfl
    · split at h6
      · rename_i t
        obtain ⟨p2, rfl, k2⟩ := ty_at o h6
        exact .val (r_isi1 (q2 := p2) g1 g2 k2 h5 k) rfl
      · cases h6
  · cases h
theorem s_mth (m : Mth) (sa : SE' T lvl cf G fa ca a) (sl : SL' T lvl cf G fa ca b) : SE' T lvl cf G fa ca (.mth m a b) := by
  intro Γ e X W h o tk
  have h : (match dMth e with
    | some (o, x, q, l, p) => (decide (x = mtN m) && (baseE o && ((q.endLine == p.line) && mtOk m l.length))) && (mE T a Γ o && mL T b Γ l)
    | none => false) = true := h
  split at h
  · rename_i u x ap l pos q
    obtain ⟨w1, h2⟩ := and2 h
    obtain ⟨h1, w2⟩ := and2 w1
    obtain ⟨h3, w3⟩ := and2 w2
    obtain ⟨h4, h5⟩ := and2 w3
    obtain ⟨h6, h7⟩ := and2 h2
    have e1 : x = mtN m := of_decide_eq_true h1
    subst e1
    obtain rfl := dMth_eq q
    have k := (sa Γ u X W h6 o tk).v
    have z := sl Γ l X W h7 o tk
    have one : l.length = 1 → ∃ y, l = [y] := fun e => by
      match l, e with
      | [y], _ => exact ⟨y, rfl⟩
    cases m with
    | append =>
      obtain ⟨y, rfl⟩ := one (Nat.eq_of_beq_eq_true h5)
      exact .val (r_append h3 h4 k z.p z.v) rfl
    | extend =>
      obtain ⟨y, rfl⟩ := one (Nat.eq_of_beq_eq_true h5)
      exact .val (r_extend h3 h4 k z.p z.v) rfl
    | popAt =>
      obtain ⟨y, rfl⟩ := one (Nat.eq_of_beq_eq_true h5)
      exact .val (r_popAt h3 h4 k z.p z.v) rfl
    | pop =>
      obtain rfl : l = [] := List.eq_nil_of_length_eq_zero (Nat.eq_of_beq_eq_true h5)
      refine .val (PE_weak (r_pop h3 h4 k) fun σ H Q ⟨μ, ρ, h, hr, sr, pp⟩ => ⟨μ, ρ, h, hr, sr, ?_⟩) rfl
      have pp : PostR X.K fa ca (VR X.K fa) μ H σ W Q (denM .pop (den cf G a) (denL cf G b) ρ h) := pp
      have e : denL cf G b = fun _ h => .ok [] h := by funext ρ h; exact z.z rfl ρ h
      rw [e] at pp
      exact pp
    | get => cases h5
  · cases h
theorem s_get (sa : SE' T lvl cf G fa ca a) (sb : SE' T lvl cf G fa ca b) (sc : SE' T lvl cf G fa ca c) : SE' T lvl cf G fa ca (.get a b c) := by
  intro Γ e X W h o tk
  have h : (match dMth e with
    | some (o, x, q, [y, z], p) => (decide (x = "get") && (baseE o && ((q.endLine == p.line) && (plainE y && plainE z)))) && (mE T a Γ o && (mE T b Γ y && mE T c Γ z))
    | _ => false) = true := h
  split at h
  · rename_i ob x qq y z p q
    obtain ⟨w1, w2⟩ := and2 h
    obtain ⟨h1, w3⟩ := and2 w1
    obtain ⟨h2, w4⟩ := and2 w3
    obtain ⟨h3, w5⟩ := and2 w4
    obtain ⟨h4, h5⟩ := and2 w5
    obtain ⟨h6, w6⟩ := and2 w2
    obtain ⟨h7, h8⟩ := and2 w6
    have e1 : x = "get" := of_decide_eq_true h1
    subst e1
    obtain rfl := dMth_eq q
    exact .val (r_get o.cu h2 h3 (sa Γ ob X W h6 o tk).v (by show (plainE y && (plainE z && true)) = true; rw [h4, h5]; rfl) (sb Γ y X W h7 o tk).v (sc Γ z X W h8 o tk).v) rfl
  · cases h
end
end Mi
namespace Mi
open PySem PySem.Spec PyProof.Rows L2
section
variable {T : PTb} {lvl : Nat} {cf : CF} {G : List MV} {fa : FA} {ca : Nat → Addr} {Γ : SC} {X : Cx} {W : WX} {a b c : Ex}
theorem sl_nil : SL' T lvl cf G fa ca .nil := by
  intro Γ l X W h o tk
  cases l with
  | nil => exact ⟨r_nil, len_nil, rfl, fun _ _ _ => rfl⟩
  | cons x l => cases h
theorem sl_cons (sa : SE' T lvl cf G fa ca a) (sl : SL' T lvl cf G fa ca b) : SL' T lvl cf G fa ca (.cons a b) := by
  intro Γ l X W h o tk
  cases l with
  | nil => cases h
  | cons x l =>
    have h : (plainE x && (mE T a Γ x && mL T b Γ l)) = true := h
    obtain ⟨h1, w⟩ := and2 h
    obtain ⟨h2, h3⟩ := and2 w
    have z := sl Γ l X W h3 o tk
    exact ⟨r_cons h1 (sa Γ x X W h2 o tk).v z.v, len_cons z.n, (by show (plainE x && plainL l) = true; rw [h1, z.p]; rfl), fun e => nomatch e⟩
theorem sk_nil : SK' T lvl cf G fa ca .nil := by
  intro Γ l X W h o tk
  cases l with
  | nil => exact ⟨k_nil, len_nil⟩
  | cons x l => cases h
theorem sk_cons (sa : SE' T lvl cf G fa ca a) (sl : SK' T lvl cf G fa ca b) : SK' T lvl cf G fa ca (.cons a b) := by
  intro Γ l X W h o tk
  cases l with
  | nil => cases h
  | cons x l =>
    obtain ⟨nm, x, kp⟩ := x
    have h : (mE T a Γ x && mK T b Γ l) = true := h
    obtain ⟨h2, h3⟩ := and2 h
    have z := sl Γ l X W h3 o tk
    exact ⟨k_cons (sa Γ x X W h2 o tk).v z.v, len_cons z.n⟩
theorem so_noe : SO' T lvl cf G fa ca .noe := by
  intro Γ l X W h o tk
  cases l with
  | none => exact r_noe
  | some x => cases h
theorem so_bnd (sa : SE' T lvl cf G fa ca a) : SO' T lvl cf G fa ca (.bnd a) := by
  intro Γ l X W h o tk
  cases l with
  | none => cases h
  | some x => exact r_bnd (sa Γ x X W h o tk).v
theorem si_v (sa : SE' T lvl cf G fa ca a) : SI' T lvl cf G fa ca (.itv a) := by
  intro Γ t e X W h o tk
  exact r_itv (sa Γ e X W h o tk).v
theorem si_1 (sa : SE' T lvl cf G fa ca a) : SI' T lvl cf G fa ca (.itr1 a) := by
  intro Γ t e X W h o tk
  have h : (match dCall e with
    | some (x, [y], ks, _) => (ks.isEmpty && (decide (x = "range") && (gBlt T Γ x && plainE y))) && mE T a Γ y
    | _ => false) = true := h
  split at h
  · rename_i x y ks pos q
    obtain ⟨w1, h2⟩ := and2 h
    obtain ⟨h1, w2⟩ := and2 w1
    obtain ⟨h3, w3⟩ := and2 w2
    obtain ⟨h4, h5⟩ := and2 w3
    have e1 : x = "range" := of_decide_eq_true h3
    subst e1
    obtain rfl := isEmpty_nil h1
    obtain ⟨p, rfl⟩ := dCall_eq q
    obtain ⟨g1, g2⟩ := blt o h4
    exact r_it1 g1 g2 h5 (sa Γ y X W h2 o tk).v
  · cases h
theorem si_2 (sa : SE' T lvl cf G fa ca a) (sb : SE' T lvl cf G fa ca b) : SI' T lvl cf G fa ca (.itr2 a b) := by
  intro Γ t e X W h o tk
  have h : (match dCall e with
    | some (x, [y, z], ks, _) => (ks.isEmpty && (decide (x = "range") && (gBlt T Γ x && (plainE y && plainE z)))) && (mE T a Γ y && mE T b Γ z)
    | _ => false) = true := h
  split at h
  · rename_i x y z ks pos q
    obtain ⟨w1, w4⟩ := and2 h
    obtain ⟨h1, w2⟩ := and2 w1
    obtain ⟨h3, w3⟩ := and2 w2
    obtain ⟨h4, w5⟩ := and2 w3
    obtain ⟨h5, h6⟩ := and2 w5
    obtain ⟨h7, h8⟩ := and2 w4
    have e1 : x = "range" := of_decide_eq_true h3
    subst e1
    obtain rfl := isEmpty_nil h1
    obtain ⟨p, rfl⟩ := dCall_eq q
    obtain ⟨g1, g2⟩ := blt o h4
    exact r_it2 g1 g2 h5 h6 (sa Γ y X W h7 o tk).v (sb Γ z X W h8 o tk).v
  · cases h
theorem litOne_eq {e : Expr} (h : litOne e = true) : ∃ p1 p2, e = .UnaryOp .USub (.Constant (.int 1) 0 p1) p2 := by
  unfold litOne at h
  split at h
  · exact ⟨_, _, rfl⟩
  · cases h
theorem si_3 (sa : SE' T lvl cf G fa ca a) (sb : SE' T lvl cf G fa ca b) : SI' T lvl cf G fa ca (.itr3 a b) := by
  intro Γ t e X W h o tk
  have h : (match dCall e with
    | some (x, [y, z, u], ks, _) => (ks.isEmpty && (decide (x = "range") && (gBlt T Γ x && (plainE y && (plainE z && litOne u))))) && (mE T a Γ y && mE T b Γ z)
    | _ => false) = true := h
  split at h
  · rename_i x y z u ks pos q
    obtain ⟨w1, w4⟩ := and2 h
    obtain ⟨h1, w2⟩ := and2 w1
    obtain ⟨h3, w3⟩ := and2 w2
    obtain ⟨h4, w5⟩ := and2 w3
    obtain ⟨h5, w6⟩ := and2 w5
    obtain ⟨h6, h9⟩ := and2 w6
    obtain ⟨h7, h8⟩ := and2 w4
    have e1 : x = "range" := of_decide_eq_true h3
    subst e1
    obtain rfl := isEmpty_nil h1
    obtain ⟨p1, p2, rfl⟩ := litOne_eq h9
    obtain ⟨p, rfl⟩ := dCall_eq q
    obtain ⟨g1, g2⟩ := blt o h4
    exact r_it3 g1 g2 h5 h6 (sa Γ y X W h7 o tk).v (sb Γ z X W h8 o tk).v
  · cases h
theorem isTup_eq {e : Expr} (h : isTupE e = true) : ∃ l k p, e = .Tuple l k p := by
  unfold isTupE at h
  split at h
  · rename_i l q
    obtain ⟨k, p, rfl⟩ := dTup_eq q
    exact ⟨l, k, p, rfl⟩
  · cases h
theorem si_n (sa : SE' T lvl cf G fa ca a) : SI' T lvl cf G fa ca (.itn a) := by
  intro Γ t e X W h o tk
  have h : (match dCall e with
    | some (x, [y], ks, _) => (ks.isEmpty && (decide (x = "enumerate") && (gBlt T Γ x && (plainE y && isTupE t)))) && mE T a Γ y
    | _ => false) = true := h
  split at h
  · rename_i x y ks pos q
    obtain ⟨w1, h2⟩ := and2 h
    obtain ⟨h1, w2⟩ := and2 w1
    obtain ⟨h3, w3⟩ := and2 w2
    obtain ⟨h4, w4⟩ := and2 w3
    obtain ⟨h5, h6⟩ := and2 w4
    have e1 : x = "enumerate" := of_decide_eq_true h3
    subst e1
    obtain rfl := isEmpty_nil h1
    obtain ⟨p, rfl⟩ := dCall_eq q
    obtain ⟨l, k, p2, rfl⟩ := isTup_eq h6
    obtain ⟨g1, g2⟩ := blt o h4
    exact r_itn g1 g2 h5 (sa Γ y X W h2 o tk).v
  · cases h
theorem si_z (sa : SE' T lvl cf G fa ca a) (sb : SE' T lvl cf G fa ca b) : SI' T lvl cf G fa ca (.itz a b) := by
  intro Γ t e X W h o tk
  have h : (match dCall e with
    | some (x, [y, z], ks, _) => (ks.isEmpty && (decide (x = "zip") && (gBlt T Γ x && (plainE y && (plainE z && isTupE t))))) && (mE T a Γ y && mE T b Γ z)
    | _ => false) = true := h
  split at h
  · rename_i x y z ks pos q
    obtain ⟨w1, w4⟩ := and2 h
    obtain ⟨h1, w2⟩ := and2 w1
    obtain ⟨h3, w3⟩ := and2 w2
    obtain ⟨h4, w5⟩ := and2 w3
    obtain ⟨h5, w6⟩ := and2 w5
    obtain ⟨h6, h9⟩ := and2 w6
    obtain ⟨h7, h8⟩ := and2 w4
    have e1 : x = "zip" := of_decide_eq_true h3
    subst e1
    obtain rfl := isEmpty_nil h1
    obtain ⟨p, rfl⟩ := dCall_eq q
    obtain ⟨l, k, p2, rfl⟩ := isTup_eq h9
    obtain ⟨g1, g2⟩ := blt o h4
    exact r_itz g1 g2 h5 h6 (sa Γ y X W h7 o tk).v (sb Γ z X W h8 o tk).v
  · cases h
theorem GM.blk (g : GM T lvl cf G fa ca X) (s : Shared) (H : Hp) (scope : Scope) (ce : Env) (fp : List Addr) : GM T lvl cf G fa ca (X.blk s H scope ce fp) :=
  ⟨fun k x ps e => ⟨(g.fn k x ps e).ar, (g.fn k x ps e).ex⟩, fun k a e => (g.fv k a e).imp fun x q => q.imp fun ps F => ⟨F.ar, F.ex⟩, g.gl, g.bi, g.ma⟩
theorem XOk.blk (o : XOk T lvl cf G fa ca Γ X) (s : Shared) (H : Hp) (scope : Scope) (C : Addr) (cl : List (Str × Addr)) (fp : List Addr) : XOk T lvl cf G fa ca (blkG Γ scope) (X.blk s H scope (compEnvC scope cl C X.env) fp) where
  eN := o.eN
  es := by
    show relS scope X.env.scope = relS scope Γ.sc
    rw [o.es]
  nd := o.nd
  cl := o.cl
  fc := fun x h => h
  rm := o.rm
  gm := o.gm.blk ..
theorem names_map (N : List Str) : ∀ own : List Nat, (namesAt N own).map (·.2) = own
  | [] => rfl
  | i :: r => congrArg (i :: ·) (names_map N r)
structure LcParts (T : PTb) (Γ : SC) (tg : Tg) (it cond elt : Ex) (own : List Nat) (y t i : Expr) (cs : List Expr) (scope : Scope) : Prop where
  bk : blkC Γ.N Γ.sc scope (namesAt Γ.N own) = true
  pl : plainE i = true
  ow : (tgSlots tg).all (fun j => own.contains j) = true
  mi : mI T it Γ t i = true
  mt : mTg (blkG Γ scope) tg t = true
  mc : (cs = [] ∧ cond = .cst (.bl true)) ∨ ∃ c, cs = [c] ∧ tstE c = true ∧ mE T cond (blkG Γ scope) c = true
  me : mE T elt (blkG Γ scope) y = true
theorem lc_parts {tg : Tg} {it cond elt : Ex} {own : List Nat} {e : Expr} (h : mE T (.lc tg it cond elt own) Γ e = true) : ∃ y t i cs scope p, e = .ListComp y [⟨t, i, cs, 0⟩] scope p ∧ LcParts T Γ tg it cond elt own y t i cs scope := by
  have h : (match dLc e with
    | some (y, t, i, cs, scope) => (blkC Γ.N Γ.sc scope (namesAt Γ.N own) && (plainE i && (tgSlots tg).all (fun j => own.contains j))) &&
        (mI T it Γ t i && (mTg (blkG Γ scope) tg t && ((match cs with
          | [] => noCond cond
          | [c] => tstE c && mE T cond (blkG Γ scope) c
          | _ => false) && mE T elt (blkG Γ scope) y)))
    | none => false) = true := h
  split at h
  · rename_i y t i cs scope q
    obtain ⟨w1, w2⟩ := and2 h
    obtain ⟨h1, w3⟩ := and2 w1
    obtain ⟨h2, h3⟩ := and2 w3
    obtain ⟨h4, w4⟩ := and2 w2
    obtain ⟨h5, w5⟩ := and2 w4
    obtain ⟨h6, h7⟩ := and2 w5
    obtain ⟨p, rfl⟩ := dLc_eq q
    refine ⟨y, t, i, cs, scope, p, rfl, h1, h2, h3, h4, h5, ?_, h7⟩
    split at h6
    · exact .inl ⟨rfl, noCond_eq h6⟩
    · obtain ⟨k1, k2⟩ := and2 h6
      exact .inr ⟨_, rfl, k1, k2⟩
    · cases h6
  · cases h
theorem lc_if {cond : Ex} {cs : List Expr} (sc : SE' T lvl cf G fa ca cond) (o : XOk T lvl cf G fa ca Γ X) (tk : Takes X W) (h : (cs = [] ∧ cond = .cst (.bl true)) ∨ ∃ c, cs = [c] ∧ tstE c = true ∧ mE T cond Γ c = true) : PTs X cs (TTo X.K fa ca W (den cf G cond)) := by
  rcases h with ⟨rfl, rfl⟩ | ⟨c, rfl, h1, h2⟩
  · exact r_if0
  · exact r_if1 ((sc Γ c X W h2 o tk).t h1)
theorem blk_ok (o : XOk T lvl cf G fa ca Γ X) {scope : Scope} {own : List Nat} (h : blkC Γ.N Γ.sc scope (namesAt Γ.N own) = true) : BlkOk X.N X.env.scope scope (namesAt Γ.N own) := by
  rw [o.eN, o.es]
  exact blkOk_by h
theorem s_lc {tg : Tg} {it cond elt : Ex} {own : List Nat} (si : SI' T lvl cf G fa ca it) (sc : SE' T lvl cf G fa ca cond) (se : SE' T lvl cf G fa ca elt) : SE' T lvl cf G fa ca (.lc tg it cond elt own) := by
  intro Γ e X W h o tk
  obtain ⟨y, t, i, cs, scope, p, rfl, L⟩ := lc_parts h
  have k := r_lc (pos := p) (own := namesAt Γ.N own) (sa := den cf G elt) (sc := den cf G cond) (T := tg) (W := W) o.cl o.nd L.pl (si Γ t i X W L.mi o tk) (blk_ok o L.bk) (by rw [names_map]; exact tgSlots_all L.ow)
    (fun s H C cl fp => snd_tg (o.blk s H scope C cl fp) tg t L.mt) (fun s H C cl fp => lc_if sc (o.blk s H scope C cl fp) takes0 L.mc) (fun s H C cl fp => (se _ y _ W0 L.me (o.blk s H scope C cl fp) takes0).v)
  rw [names_map] at k
  exact .val k rfl
theorem s_lc2 {tg tg2 : Tg} {it it2 elt : Ex} {own own2 : List Nat} (si : SI' T lvl cf G fa ca it) (si2 : SI' T lvl cf G fa ca it2) (se : SE' T lvl cf G fa ca elt) : SE' T lvl cf G fa ca (.lc2 tg it tg2 it2 elt own own2) := by
  intro Γ e X W h o tk
  have h : (match dLc2 e with
    | some (y, t, i, t2, i2, scope) => (blkC Γ.N Γ.sc scope (namesAt Γ.N own) && ((plainE i && plainE i2) && ((tgSlots tg).all (fun j => own.contains j) && ((tgSlots tg2).all (fun j => own2.contains j) && own2.all (fun j => own.contains j))))) &&
        ((mI T it Γ t i && mTg (blkG Γ scope) tg t) && ((mI T it2 (blkG Γ scope) t2 i2 && mTg (blkG Γ scope) tg2 t2) && mE T elt (blkG Γ scope) y))
    | none => false) = true := h
  split at h
  · rename_i y t i t2 i2 scope q
    obtain ⟨w1, w2⟩ := and2 h
    obtain ⟨h1, w3⟩ := and2 w1
    obtain ⟨w4, w5⟩ := and2 w3
    obtain ⟨h2, h3⟩ := and2 w4
    obtain ⟨h4, w6⟩ := and2 w5
    obtain ⟨h5, h6⟩ := and2 w6
    obtain ⟨w7, w8⟩ := and2 w2
    obtain ⟨h7, h8⟩ := and2 w7
    obtain ⟨w9, h11⟩ := and2 w8
    obtain ⟨h9, h10⟩ := and2 w9
    obtain ⟨p, rfl⟩ := dLc2_eq q
    have k := r_lc2 (pos := p) (own := namesAt Γ.N own) (vs1 := own2) (sa := den cf G elt) (T := tg) (T2 := tg2) (W := W) o.cl o.nd h2 h3 (si Γ t i X W h7 o tk) (blk_ok o h1) (by rw [names_map]; exact tgSlots_all h4) (tgSlots_all h5)
      (by rw [names_map]; intro j hj; have := List.all_eq_true.mp h6 j hj; simpa using this)
      (fun s H C cl fp => snd_tg (o.blk s H scope C cl fp) tg t h8) (fun s H C cl fp => si2 _ t2 i2 _ W0 h9 (o.blk s H scope C cl fp) takes0) (fun s H C cl fp => snd_tg (o.blk s H scope C cl fp) tg2 t2 h10)
      (fun s H C cl fp => (se _ y _ W0 h11 (o.blk s H scope C cl fp) takes0).v)
    rw [names_map] at k
    exact .val k rfl
  · cases h
theorem snd_all : ∀ c : Ex, SE' T lvl cf G fa ca c ∧ SL' T lvl cf G fa ca c ∧ SK' T lvl cf G fa ca c ∧ SO' T lvl cf G fa ca c ∧ SI' T lvl cf G fa ca c := by
  have nE : ∀ {c : Ex}, (∀ Γ e, mE T c Γ e = false) → SE' T lvl cf G fa ca c := fun h Γ e X W q => by rw [h] at q; cases q
  have nL : ∀ {c : Ex}, (∀ Γ e, mL T c Γ e = false) → SL' T lvl cf G fa ca c := fun h Γ e X W q => by rw [h] at q; cases q
  have nK : ∀ {c : Ex}, (∀ Γ e, mK T c Γ e = false) → SK' T lvl cf G fa ca c := fun h Γ e X W q => by rw [h] at q; cases q
  have nO : ∀ {c : Ex}, (∀ Γ e, mO T c Γ e = false) → SO' T lvl cf G fa ca c := fun h Γ e X W q => by rw [h] at q; cases q
  have nI : ∀ {c : Ex}, (∀ Γ t e, mI T c Γ t e = false) → SI' T lvl cf G fa ca c := fun h Γ t e X W q => by rw [h] at q; cases q
  have onE : ∀ {c : Ex}, SE' T lvl cf G fa ca c → (∀ Γ e, mL T c Γ e = false) → (∀ Γ e, mK T c Γ e = false) → (∀ Γ e, mO T c Γ e = false) → (∀ Γ t e, mI T c Γ t e = false) → SE' T lvl cf G fa ca c ∧ SL' T lvl cf G fa ca c ∧ SK' T lvl cf G fa ca c ∧ SO' T lvl cf G fa ca c ∧ SI' T lvl cf G fa ca c := fun s h1 h2 h3 h4 => ⟨s, nL h1, nK h2, nO h3, nI h4⟩
  intro c
  induction c with
  | var i => exact onE (s_var i) (fun _ _ => rfl) (fun _ _ => rfl) (fun _ _ => rfl) fun _ _ _ => rfl
  | cst v => exact onE (s_cst v) (fun _ _ => rfl) (fun _ _ => rfl) (fun _ _ => rfl) fun _ _ _ => rfl
  | glb i => exact onE (s_glb i) (fun _ _ => rfl) (fun _ _ => rfl) (fun _ _ => rfl) fun _ _ _ => rfl
  | fref i => exact onE (s_fref i) (fun _ _ => rfl) (fun _ _ => rfl) (fun _ _ => rfl) fun _ _ _ => rfl
  | neg a ha => exact onE (s_neg ha.1) (fun _ _ => rfl) (fun _ _ => rfl) (fun _ _ => rfl) fun _ _ _ => rfl
  | nt a ha => exact onE (s_nt ha.1) (fun _ _ => rfl) (fun _ _ => rfl) (fun _ _ => rfl) fun _ _ _ => rfl
  | bin op a b ha hb => exact onE (s_bin op ha.1 hb.1) (fun _ _ => rfl) (fun _ _ => rfl) (fun _ _ => rfl) fun _ _ _ => rfl
  | cmp op a b ha hb => exact onE (s_cmp op ha.1 hb.1) (fun _ _ => rfl) (fun _ _ => rfl) (fun _ _ => rfl) fun _ _ _ => rfl
  | chain op oq a b c ha hb hc => exact onE (s_chain op oq ha.1 hb.1 hc.1) (fun _ _ => rfl) (fun _ _ => rfl) (fun _ _ => rfl) fun _ _ _ => rfl
  | and a b ha hb => exact onE (s_and ha.1 hb.1) (fun _ _ => rfl) (fun _ _ => rfl) (fun _ _ => rfl) fun _ _ _ => rfl
  | or a b ha hb => exact onE (s_or ha.1 hb.1) (fun _ _ => rfl) (fun _ _ => rfl) (fun _ _ => rfl) fun _ _ _ => rfl
  | one a ha => exact onE (s_one ha.1) (fun _ _ => rfl) (fun _ _ => rfl) (fun _ _ => rfl) fun _ _ _ => rfl
  | ite c a b hc ha hb => exact onE (s_ite hc.1 ha.1 hb.1) (fun _ _ => rfl) (fun _ _ => rfl) (fun _ _ => rfl) fun _ _ _ => rfl
  | nil => exact ⟨nE fun _ _ => rfl, sl_nil, sk_nil, nO fun _ _ => rfl, nI fun _ _ _ => rfl⟩
  | cons a b ha hb => exact ⟨nE fun _ _ => rfl, sl_cons ha.1 hb.2.1, sk_cons ha.1 hb.2.2.1, nO fun _ _ => rfl, nI fun _ _ _ => rfl⟩
  | tup a ha => exact onE (s_tup ha.2.1) (fun _ _ => rfl) (fun _ _ => rfl) (fun _ _ => rfl) fun _ _ _ => rfl
  | lst a ha => exact onE (s_lst ha.2.1) (fun _ _ => rfl) (fun _ _ => rfl) (fun _ _ => rfl) fun _ _ _ => rfl
  | idx a b ha hb => exact onE (s_idx ha.1 hb.1) (fun _ _ => rfl) (fun _ _ => rfl) (fun _ _ => rfl) fun _ _ _ => rfl
  | slc a b c ha hb hc => exact onE (s_slc ha.1 hb.2.2.2.1 hc.2.2.2.1) (fun _ _ => rfl) (fun _ _ => rfl) (fun _ _ => rfl) fun _ _ _ => rfl
  | noe => exact ⟨nE fun _ _ => rfl, nL fun _ _ => rfl, nK fun _ _ => rfl, so_noe, nI fun _ _ _ => rfl⟩
  | bnd a ha => exact ⟨nE fun _ _ => rfl, nL fun _ _ => rfl, nK fun _ _ => rfl, so_bnd ha.1, nI fun _ _ _ => rfl⟩
  | back a b c ha hb hc => exact onE (s_back ha.1 hb.2.2.2.1 hc.2.2.2.1) (fun _ _ => rfl) (fun _ _ => rfl) (fun _ _ => rfl) fun _ _ _ => rfl
  | call f a ha => exact onE (s_call f ha.2.1) (fun _ _ => rfl) (fun _ _ => rfl) (fun _ _ => rfl) fun _ _ _ => rfl
  | callk f a b pm ha hb => exact onE (s_callk f pm ha.2.1 hb.2.2.1) (fun _ _ => rfl) (fun _ _ => rfl) (fun _ _ => rfl) fun _ _ _ => rfl
  | callv i => exact onE (s_callv i) (fun _ _ => rfl) (fun _ _ => rfl) (fun _ _ => rfl) fun _ _ _ => rfl
  | bi b a ha => exact onE (s_bi b ha.2.1) (fun _ _ => rfl) (fun _ _ => rfl) (fun _ _ => rfl) fun _ _ _ => rfl
  | isin a ts ha => exact onE (s_isin ts ha.1) (fun _ _ => rfl) (fun _ _ => rfl) (fun _ _ => rfl) fun _ _ _ => rfl
  | mth m a b ha hb => exact onE (s_mth m ha.1 hb.2.1) (fun _ _ => rfl) (fun _ _ => rfl) (fun _ _ => rfl) fun _ _ _ => rfl
  | itv a ha => exact ⟨nE fun _ _ => rfl, nL fun _ _ => rfl, nK fun _ _ => rfl, nO fun _ _ => rfl, si_v ha.1⟩
  | itr1 a ha => exact ⟨nE fun _ _ => rfl, nL fun _ _ => rfl, nK fun _ _ => rfl, nO fun _ _ => rfl, si_1 ha.1⟩
  | itr2 a b ha hb => exact ⟨nE fun _ _ => rfl, nL fun _ _ => rfl, nK fun _ _ => rfl, nO fun _ _ => rfl, si_2 ha.1 hb.1⟩
  | itr3 a b ha hb => exact ⟨nE fun _ _ => rfl, nL fun _ _ => rfl, nK fun _ _ => rfl, nO fun _ _ => rfl, si_3 ha.1 hb.1⟩
  | itn a ha => exact ⟨nE fun _ _ => rfl, nL fun _ _ => rfl, nK fun _ _ => rfl, nO fun _ _ => rfl, si_n ha.1⟩
  | itz a b ha hb => exact ⟨nE fun _ _ => rfl, nL fun _ _ => rfl, nK fun _ _ => rfl, nO fun _ _ => rfl, si_z ha.1 hb.1⟩
  | lc tg it cond elt own hi hc he => exact onE (s_lc hi.2.2.2.2 hc.1 he.1) (fun _ _ => rfl) (fun _ _ => rfl) (fun _ _ => rfl) fun _ _ _ => rfl
  | lc2 tg it tg2 it2 elt own own2 hi hc he => exact onE (s_lc2 hi.2.2.2.2 hc.2.2.2.2 he.1) (fun _ _ => rfl) (fun _ _ => rfl) (fun _ _ => rfl) fun _ _ _ => rfl
  | get a b c ha hb hc => exact onE (s_get ha.1 hb.1 hc.1) (fun _ _ => rfl) (fun _ _ => rfl) (fun _ _ => rfl) fun _ _ _ => rfl
end
end Mi
namespace Mi
open PySem PySem.Spec PyProof.Rows L2
abbrev Cl := Value × Nat × (Addr → Value → Option Addr → TS)
def offs (D : Ends) (j : Nat) : Ends := { nx := fun σ' H' => D.nx (σ'.set j none) H', rt := D.rt, bk := fun σ' H' => D.bk (σ'.set j none) H', ct := fun σ' H' => D.ct (σ'.set j none) H' }
def wCl (K : PySem.W.Frag) (Wout : WX) (D : Ends) : List Cl → WX
  | [] => Wout
  | (c, j, ts) :: r => fun cls d σ H => ∃ b, PySem.W.exmOne K cls c = some b ∧ (b = true → ∀ a, H a = none → ts a cls d (offs D j) (σ.set j (some (.ref a))) H) ∧ (b = false → wCl K Wout D r cls d σ H)
inductive ClOk (X : Cx) : List ExceptHandler → List Cl → Prop
  | nil : ClOk X [] []
  | cons {x n : Str} {c : Value} {j : Nat} {ts : Addr → Value → Option Addr → TS} {b0 : Stmt} {su : List Stmt} {np pq : Pos} {hds : List ExceptHandler} {l : List Cl} (hc : Names X x c) (hi : X.N[j]? = some n) (hl : X.env.kindOf n = some .local)
      (hsu : ∀ (a : Addr) (oe : Obj) (cls : Value) (d : Option Addr) (pn : List (Addr × Obj)), Zc cls d oe → (∃ vs, oe.data = .fields vs) → PSs (X.suite a ((a, oe) :: pn)) (b0 :: su) (ts a cls d)) (r : ClOk X hds l) :
      ClOk X (.ExceptHandler (some (.Name x np)) (some n) (b0 :: su) pq :: hds) ((c, j, ts) :: l)
section
variable {X : Cx} {body : List Stmt} {h0 : ExceptHandler} {hds : List ExceptHandler} {l : List Cl} {pos : Pos} {tb : WX → TS} {Wout : WX}
theorem ps_try_cl (stk : X.stack = X.env :: X.outer) (efr : X.env.frame = some X.env.locals) (nd : X.N.Nodup) (tk : Takes X Wout)
    (hb : ∀ (W : WX) (pn : List (Addr × Obj)) (xe : Value → Shared → Prop), Takes (X.tr pn xe) W → PassesOwn (model X.prog X.w) X.A X.env xe → PSs (X.tr pn xe) body (tb W))
    (hh : ClOk X (h0 :: hds) l) : PS X (.Try body (h0 :: hds) [] [] pos) (fun D σ H => tb (wCl X.K Wout D l) D σ H) := by
  refine ⟨fun pins s σ H D I h => ?_⟩
  have ok := I.ok
  have fs0 : X.A.frames = some (X.env :: X.outer) := by rw [ok.frames, stk]
  refine wpAny_Try_except ?_
  have B := hb (wCl X.K Wout D l) (X.pn ++ pins) (fun e s1 => wpAny (model X.prog X.w) X.A (noteFrame e X.env) (fun _ s2 => wpAny (model X.prog X.w) X.A (setFlight e none) (fun _ s3 =>
    wpAny (model X.prog X.w) X.A (handleBy e X.env (h0 :: hds)) (SP X pins D) X.xe s3) X.xe s2) X.xe s1)
  refine wpAny_mono ((B (fun u s' xx => ?_) PassesOwn.looking).run [] s σ H D (I.toTry _) h) (fun f s1 q => ?_) (fun _ _ z => z)
  · obtain ⟨a, Bh, sI, pn2, σ2, H2, cls, d, rfl, J2, nb, up, sky, na, os, ag, w⟩ := xx
    have J : Inv X pins σ2 H2 sI := J2.ofTry ok
    have sky2 : Sky Bh (X.env :: X.outer) a (Zc cls d) X.env.locals s'.heap := stk ▸ sky
    show wpAny _ X.A (noteFrame (.ref a) X.env) _ _ _
    refine Sky.land Zc.steady fs0 efr sky2 fun h3 fl3 up3 => ?_
    have J3 : Inv X pins σ2 H2 { s' with heap := h3 } := J.landed nb fl3.1 (up.trans up3) os ag
    obtain ⟨oe3, vs3, he3, hz3, hd3⟩ := fl3.there
    have nfr : a ∉ frs (X.env :: X.outer) := fun hm => by
      obtain ⟨_, o1, e1, hnf⟩ := (fl3.2.2.1).mem hm
      cases he3.symm.trans e1
      exact hnf _ hd3
    have nL : a ≠ X.env.locals := fun z => nfr (List.mem_filterMap.mpr ⟨X.env, List.mem_cons_self, z ▸ efr⟩)
    have nF : a ∉ X.fs := fun hm => let ⟨ev, hv, qv⟩ := List.mem_filterMap.mp hm
      nfr (List.mem_filterMap.mpr ⟨ev, List.mem_cons_of_mem _ hv, qv⟩)
    have S3 := J3.suite he3 hd3 na nL nF
    have go : ∀ {hl : List ExceptHandler} {cl : List Cl}, ClOk X hl cl → wCl X.K Wout D cl cls d σ2 H2 → wpAny (model X.prog X.w) X.A (handleBy (.ref a) X.env hl) (SP X pins D) X.xe { s' with heap := h3 } := by
      intro hl cl hk
      induction hk with
      | nil =>
        intro w
        refine wpAny_handleBy_nil ?_
        obtain ⟨k1, k2, k3, oe, vs, Tr, oT, ts2, he, hz, hd, h1, hr⟩ := id fl3
        unfold PySem.passOn
        refine wpAny_bind (wpAny_field he hd h1 ?_)
        rw [if_neg (by simp : ¬ ((Value.ref Tr == Value.none) = true))]
        have fin : wpAny (model X.prog X.w) X.A (setFlight (.ref a) X.env.frame) (fun _ s4 => wpAny (model X.prog X.w) X.A (throw (.ref a) : Sem Flow) (SP X pins D) X.xe s4) X.xe { s' with heap := h3 } := by
          rw [efr]
          refine HandSPX.setFlight_upZ fl3 fun h4 hh4 up4 => wpAny_throw (tk _ _ ?_)
          exact ⟨a, Bh, sI, pins, σ2, H2, cls, d, rfl, J, nb, (up.trans up3).trans up4, .inr (.inr (stk ▸ hh4)), na, os, ag, w⟩
        first
          | exact wpAny_bind (wpAny_pure (wpAny_bind fin))
          | exact wpAny_bind fin
      | @cons x n c j ts b0 su np pq hd2 cl2 hc hi hl0 hsu r ih =>
        intro w
        obtain ⟨b, hb1, yes, no_⟩ := w
        refine wpAny_handleBy_cons (codeAny_handlers_test ?_) (fun q => nomatch q)
        have LT : PySem.W.Looks (model X.prog X.w) h3 (typeOf (.ref a)) cls := fun A2 Q2 E2 s2 k2 q2 => wpAny_typeOf_ref (k2 _ _ he3) (hz3.1.symm ▸ q2)
        have LM := PySem.W.exm_one (M := model X.prog X.w) (J3.kIn) LT hb1
        have nm : ∀ {Q2 : Value → Shared → Prop} {E2 : Value → Shared → Prop}, Q2 c { s' with heap := h3 } → wpAny (model X.prog X.w) (X.A.mark (some (.ref a))) (eval (.Name x np) X.env) Q2 E2 { s' with heap := h3 } := fun {Q2 E2} q2 => by
          obtain ⟨hg, hdb, hm | ⟨hm, hv, hnn⟩⟩ := hc
          · exact ld_glob (X := X.suite a ((a, oe3) :: (X.pn ++ pins))) S3 hg hm q2 hdb
          · exact ld_blt (X := X.suite a ((a, oe3) :: (X.pn ++ pins))) S3 hg hm hv q2 hnn hdb
        refine nm (LM.here ?_)
        cases b with
        | false =>
          show wpAny _ X.A (handleBy (.ref a) X.env hd2) _ _ _
          exact ih (no_ rfl)
        | true =>
          refine codeAny_handlers_suite_as ?_
          refine HandSPX.lands_againZ fl3 fun h4 fl4 up4 => ?_
          have J4 : Inv X pins σ2 H2 { s' with heap := h4 } := J.landed nb fl4.1 ((up.trans up3).trans up4) os ag
          obtain ⟨oe4, vs4, he4, hz4, hd4⟩ := fl4.there
          refine store_ok (X := X.suite a ((a, oe4) :: (X.pn ++ pins))) (v := .ref a) (J4.suite he4 hd4 na nL nF) nd hi (.inl hl0) rfl (fun s5 S5 => ?_) (.inr hl0)
          have suite_ := (hsu a oe4 cls d (X.pn ++ pins) hz4 ⟨_, hd4⟩).run [] s5 _ H2 _ S5 (yes rfl a na)
          refine wpAny_mono suite_ (fun f s6 q6 => ?_) (fun _ _ z => z.elim)
          have off : ∀ {σ6 : L2.St} {H6 : Hp} {Q6 : Shared → Prop}, Inv (X.suite a ((a, oe4) :: (X.pn ++ pins))) [] σ6 H6 s6 → (∀ s7, Inv X pins (σ6.set j none) H6 s7 → Q6 s7) →
              wpAny (model X.prog X.w) X.A (do bindName X.env n .none; unbindBehindTheSuite X.env n pq) (fun _ s7 => Q6 s7) X.xe s6 := fun {σ6 H6 Q6} S6 hq => gone_ok (S6.unsuite ok) nd hi hl0 hq
          cases f with
          | next => exact let ⟨_, _, S6, q⟩ := q6; off S6 fun s7 J7 => ⟨_, _, J7, q⟩
          | brk => exact let ⟨_, _, S6, q⟩ := q6; off S6 fun s7 J7 => ⟨_, _, J7, q⟩
          | cont => exact let ⟨_, _, S6, q⟩ := q6; off S6 fun s7 J7 => ⟨_, _, J7, q⟩
          | ret u => exact let ⟨_, _, _, S6, r6, q⟩ := q6; off S6 fun s7 J7 => ⟨_, _, _, J7, r6, q⟩
    exact go hh w
  · cases f with
    | next => exact let ⟨_, _, J2, q2⟩ := q; wpAny_execs_nil ⟨_, _, J2.ofTry ok, q2⟩
    | brk => exact let ⟨_, _, J2, q2⟩ := q; ⟨_, _, J2.ofTry ok, q2⟩
    | cont => exact let ⟨_, _, J2, q2⟩ := q; ⟨_, _, J2.ofTry ok, q2⟩
    | ret u => exact let ⟨_, _, _, J2, r2, q2⟩ := q; ⟨_, _, _, J2.ofTry ok, r2, q2⟩
end
section
variable {X : Cx} {C : Addr} {bmB : List Value} {B newId initId : String} {x : Str} {p pos : Pos}
theorem pmk_own0 (F : ExcBaseFacts B newId initId bmB) (q : PySem.W.excIn X.K C bmB newId = true) (gC : X.mg x = some (.ref C)) (kC : PySem.W.keepIn X.K (.ref C) = true) (r : Raises X (.ref C)) (hg : Gl X x) (hdb : (x == ("__debug__" : Str)) = false) :
    PMk X (.Call (.Name x p) [] [] pos) (fun _ H Q => Q (.ref C) none H) := by
  intro pins s σ H Q I hq
  refine wpAny_Call_Name_kw (ld_glob I hg gC ?_ hdb)
  refine PySem.W.callWith_K0 I.kIn kC ?_
  obtain ⟨bm, N, nm, qn, bs, hdct, sn, sub, ab, col, dd, k0, k1, k2, k3, k5, mN, hC, hN, hni, T⟩ := exc_obj I.kIn q
  refine wpAny_call_exc_subT F T hC hN hni (fun h' e hm => ?_) (by show 0 ≤ sizeLine; exact Nat.zero_le _)
  exact mk_of I hm r hq (I.hok.gone hm.new)
end
end Mi
namespace Mi
open PySem PySem.Spec PyProof.Rows L2
section
variable {K : PySem.W.Frag} {fa : FA} {ca : Nat → Addr} {μ μ1 : Mu} {H H1 : Hp} {σ : L2.St} {W : WX} {ρ : Rho} {h : Hm} {X : Cx} {D : Ends}
variable {sa sb sc : SE} {st su : SS} {a b c tg : Expr} {pos p : Pos} {sl : SL} {es : List Expr} {x : Str} {l m : List Stmt}
abbrev PvS (K : PySem.W.Frag) (fa : FA) (ca : Nat → Addr) (μ : Mu) (H : Hp) (W : WX) (D : Ends) (r : RS) : Prop := PostS K fa ca μ H W D r
abbrev runSeq (st su : SS) : SS := fun ρ h => match st ρ h with
  | .nx ρ1 h1 => su ρ1 h1
  | r => r
theorem q_nil : PSs X [] (TSo X.K fa ca W (fun ρ h => .nx ρ h)) := PSs_weak pss_nil fun D σ H ⟨μ, ρ, h, hr, sr, p⟩ => p μ H σ .refl hr sr
theorem q_seq {s : Stmt} (h1 : PS X s (TSo X.K fa ca W st)) (h2 : PSs X l (TSo X.K fa ca W su)) : PSs X (s :: l) (TSo X.K fa ca W (runSeq st su)) :=
  PSs_weak (pss_cons h1 h2) fun D σ H ⟨μ, ρ, h, hr, sr, p⟩ => ⟨μ, ρ, h, hr, sr, by
    have p : PvS X.K fa ca μ H W D (runSeq st su ρ h) := p
    unfold runSeq at p
    cases e : st ρ h with
    | nx ρ1 h1 => rw [e] at p; exact fun μ' H' σ' ex hr' sr' => ⟨μ', ρ1, h1, hr', sr', PostS.step ex p⟩
    | ret v h1 => rw [e] at p; exact p
    | brk ρ1 h1 => rw [e] at p; exact p
    | ct ρ1 h1 => rw [e] at p; exact p
    | exc c ρ1 h1 => rw [e] at p; exact p
    | bad => rw [e] at p; exact no p⟩
def asgM (t : Tg) (ρ : Rho) (v : MV) (h : Hm) : RS := match tgt t v ρ with
  | some ρ1 => .nx ρ1 h
  | none => .bad
theorem w_asg (t : Tg) (D : Ends) (σ : L2.St) (H : Hp) : TSo K fa ca W (fun ρ h => (sa ρ h).bindS ρ (asgM t ρ)) D σ H → tAsg (TEo K fa ca W sa) (rawG K t) D σ H := fun ⟨μ, ρ, h, hr, sr, p⟩ =>
  ⟨μ, ρ, h, hr, sr, PostS.first (V := VR K fa) hr sr p fun v h1 μ1 H1 x e ex hr1 sr1 vr p1 => by
    unfold asgM at p1
    cases e2 : tgt t v ρ with
    | none => rw [e2] at p1; exact no p1
    | some ρ1 =>
      rw [e2] at p1
      obtain ⟨σ1, g1, g2, _⟩ := tgt_run hr1 t vr sr1 e2
      exact g1 _ (p1 μ1 H1 σ1 .refl hr1 g2)⟩
theorem q_par2 {i j : Nat} {y : Str} {px py pt : Pos} {kt k2 : Nat} {pt2 : Pos} (hc : X.calm = true) (hN : X.N.Nodup) (hi : X.N[i]? = some x) (hj : X.N[j]? = some y) (hij : i ≠ j) (hx : X.env.scope.names.lookup x = some .local) (hy : X.env.scope.names.lookup y = some .local)
    (ha : PA X [a, b] (TAo X.K fa ca W sl)) (hw : swappedStores [.Tuple [.Name x px, .Name y py] kt pt] (.Tuple [a, b] k2 pt2) X.env = pure (some [x, y])) :
    PS X (.Assign [.Tuple [.Name x px, .Name y py] kt pt] (.Tuple [a, b] k2 pt2) pos) (TSo X.K fa ca W (fun ρ h => (sl ρ h).bindS ρ fun vs h1 => (match setAll ρ [i, j] vs with
      | some ρ1 => .nx ρ1 h1
      | none => .bad))) :=
  PS_weak (ps_par hc hN hi hj hij hx hy ha hw rfl) fun D σ H ⟨μ, ρ, h, hr, sr, p⟩ => ⟨μ, ρ, h, hr, sr, PostS.first (V := VRs X.K fa) hr sr p fun vs h1 μ1 H1 ws e ex hr1 sr1 vr p1 => by
    match vs, vr, p1 with
    | [v, w], vr, p1 =>
      obtain ⟨u1, u2, rfl, r1, r2⟩ := vr.two
      exact ⟨u1, u2, rfl, p1 μ1 H1 _ .refl hr1 ((sr1.set r1).set r2)⟩
    | [], _, p1 => exact no p1
    | [_], _, p1 => exact no p1
    | _ :: _ :: _ :: _, _, p1 => exact no p1⟩
theorem q_par3 {i j k : Nat} {y z : Str} {px py pz pt : Pos} {kt k2 : Nat} {pt2 : Pos} (hc : X.calm = true) (hN : X.N.Nodup) (hi : X.N[i]? = some x) (hj : X.N[j]? = some y) (hk : X.N[k]? = some z) (hij : i ≠ j) (hik : i ≠ k) (hjk : j ≠ k)
    (hx : X.env.scope.names.lookup x = some .local) (hy : X.env.scope.names.lookup y = some .local) (hz : X.env.scope.names.lookup z = some .local)
    (ha : PA X [a, b, c] (TAo X.K fa ca W sl)) (hw : swappedStores [.Tuple [.Name x px, .Name y py, .Name z pz] kt pt] (.Tuple [a, b, c] k2 pt2) X.env = pure (some [x, y, z])) :
    PS X (.Assign [.Tuple [.Name x px, .Name y py, .Name z pz] kt pt] (.Tuple [a, b, c] k2 pt2) pos) (TSo X.K fa ca W (fun ρ h => (sl ρ h).bindS ρ fun vs h1 => (match setAll ρ [i, j, k] vs with
      | some ρ1 => .nx ρ1 h1
      | none => .bad))) :=
  PS_weak (ps_par3 hc hN hi hj hk hij hik hjk hx hy hz ha hw rfl) fun D σ H ⟨μ, ρ, h, hr, sr, p⟩ => ⟨μ, ρ, h, hr, sr, PostS.first (V := VRs X.K fa) hr sr p fun vs h1 μ1 H1 ws e ex hr1 sr1 vr p1 => by
    match vs, vr, p1 with
    | [u, v, w], vr, p1 =>
      obtain ⟨u1, u2, u3, rfl, r1, r2, r3⟩ := vr.three
      exact ⟨u1, u2, u3, rfl, p1 μ1 H1 _ .refl hr1 (((sr1.set r1).set r2).set r3)⟩
    | [], _, p1 => exact no p1
    | [_], _, p1 => exact no p1
    | [_, _], _, p1 => exact no p1
    | _ :: _ :: _ :: _ :: _, _, p1 => exact no p1⟩
theorem w_put (D : Ends) (σ : L2.St) (H : Hp) : TSo K fa ca W (fun ρ h => (sc ρ h).bindS ρ fun v h1 => (sa ρ h1).bindS ρ fun x h2 => (sb ρ h2).bindS ρ fun k h3 => (match putM x k v h3 with
      | some h4 => .nx ρ h4
      | none => .bad)) D σ H → tAsg (TEo K fa ca W sc) (gSub (TEo K fa ca W sa) (TEo K fa ca W sb) rSetL) D σ H := fun ⟨μ, ρ, h, hr, sr, p⟩ =>
  ⟨μ, ρ, h, hr, sr, PostS.first (V := VR K fa) hr sr p fun v h1 μ1 H1 x e ex hr1 sr1 vr p1 =>
    ⟨μ1, ρ, h1, hr1, sr1, PostS.first (V := VR K fa) hr1 sr1 p1 fun y h2 μ2 H2 yv e2 ex2 hr2 sr2 yr p2 =>
      ⟨μ2, ρ, h2, hr2, sr2, PostS.first (V := VR K fa) hr2 sr2 p2 fun k h3 μ3 H3 kv e3 ex3 hr3 sr3 kr p3 => by
        have vr3 := VR.ext hr2.noTup ex3 (VR.ext hr1.noTup ex2 vr)
        have yr3 := VR.ext hr2.noTup ex3 yr
        cases y with
        | lref n =>
          obtain ⟨a, rfl, ha⟩ := lref_get yr3
          have p4 : PvS K fa ca μ3 H3 W D (match (match lstOf h3 (.lref n), k with
            | some xs, .int k => (match Nat.blt (ixOf xs.length k) xs.length with
              | true => some (seth h3 n (.lst (setn xs (ixOf xs.length k) v)))
              | false => none)
            | _, _ => none) with
            | some h4 => .nx ρ h4
            | none => .bad) := p3
          cases e4 : lstOf h3 (.lref n) with
          | none => rw [e4] at p4; exact no p4
          | some xs =>
            rw [e4] at p4
            cases kr with
            | int i =>
              dsimp only at p4
              cases e5 : Nat.blt (ixOf xs.length i) xs.length with
              | false => rw [e5] at p4; exact no p4
              | true =>
                rw [e5] at p4
                obtain ⟨_, _, ws, en, ea, ha2, _, hl, q⟩ := lstOf_ok hr3 (.lref (K := K) (fa := fa) ha) e4
                cases ea
                cases en
                have hlt : ixOf xs.length i < xs.length := Nat.le_of_ble_eq_true e5
                have nt := notTup_lst hl
                have P : ∀ (n : Nat) (a : Addr), μ3[n]? = some a → μ3[n]? = some a := fun _ _ z => z
                have T : ∀ u us, SqT K H3 u us → SqT K (upd H3 a (.lst (ws.set (ixOf xs.length i) x))) u us := fun _ _ s => SqT.off nt s
                refine ⟨a, ws, i, ixOf xs.length i, rfl, rfl, hl, by rw [← q.length]; exact ixN_ok hlt, ?_⟩
                refine p4 μ3 _ σ (.change (List.mem_of_getElem? ha)) ?_ (sr3.mono P T)
                rw [seth_eq]
                refine hr3.change ha ⟨_, upd_same, ?_⟩
                rw [setn_eq]
                exact VRs.mono P T (q.set vr3 _)
            | _ => exact no p4
        | _ => exact no p3⟩⟩⟩
theorem put1 {y k v : MV} {yv kv x : V} {cont : Hm → RS} {R : Hp → Prop} (hr : HR K fa μ h H) (sr : SR K fa μ H ρ σ) (yr : VR K fa μ H y yv) (kr : VR K fa μ H k kv) (vr : VR K fa μ H v x) (p : PvS K fa ca μ H W D (match putM y k v h with
      | some h4 => cont h4
      | none => .bad)) (hR : ∀ (H4 : Hp) (h4 : Hm), Ext μ H μ H4 → HR K fa μ h4 H4 → SR K fa μ H4 ρ σ → PvS K fa ca μ H4 W D (cont h4) → R H4) : rSetL yv kv x H R := by
  cases y with
  | lref n =>
    obtain ⟨a, rfl, ha⟩ := lref_get yr
    have p4 : PvS K fa ca μ H W D (match (match lstOf h (.lref n), k with
      | some xs, .int k => (match Nat.blt (ixOf xs.length k) xs.length with
        | true => some (seth h n (.lst (setn xs (ixOf xs.length k) v)))
        | false => none)
      | _, _ => none) with
      | some h4 => cont h4
      | none => .bad) := p
    cases e4 : lstOf h (.lref n) with
    | none => rw [e4] at p4; exact no p4
    | some xs =>
      rw [e4] at p4
      cases kr with
      | int i =>
        dsimp only at p4
        cases e5 : Nat.blt (ixOf xs.length i) xs.length with
        | false => rw [e5] at p4; exact no p4
        | true =>
          rw [e5] at p4
          obtain ⟨_, _, ws, en, ea, ha2, _, hl, q⟩ := lstOf_ok hr (.lref (K := K) (fa := fa) ha) e4
          cases ea
          cases en
          have hlt : ixOf xs.length i < xs.length := Nat.le_of_ble_eq_true e5
          have nt := notTup_lst hl
          have P : ∀ (n : Nat) (a : Addr), μ[n]? = some a → μ[n]? = some a := fun _ _ z => z
          have T : ∀ u us, SqT K H u us → SqT K (upd H a (.lst (ws.set (ixOf xs.length i) x))) u us := fun _ _ s => SqT.off nt s
          refine ⟨a, ws, i, ixOf xs.length i, rfl, rfl, hl, by rw [← q.length]; exact ixN_ok hlt, ?_⟩
          have hr4 : HR K fa μ (seth h n (.lst (setn xs (ixOf xs.length i) v))) (upd H a (.lst (ws.set (ixOf xs.length i) x))) := by
            rw [seth_eq]
            refine hr.change ha ⟨_, upd_same, ?_⟩
            rw [setn_eq]
            exact VRs.mono P T (q.set vr _)
          have ex4 : Ext μ H μ (upd H a (.lst (ws.set (ixOf xs.length i) x))) := .change (List.mem_of_getElem? ha)
          exact hR _ _ ex4 hr4 (sr.mono P T) (PostS.step ex4 p4)
      | _ => exact no p4
  | _ => exact no p
abbrev swpM (sa si sb sj : SE) (ρ : Rho) (t : MV) (h1 : Hm) : RS := match t with
  | .tup _ [v, w] => (sa ρ h1).bindS ρ fun x h2 => (si ρ h2).bindS ρ fun k h3 => (match putM x k v h3 with
    | some h4 => (sb ρ h4).bindS ρ fun y h5 => (sj ρ h5).bindS ρ fun l h6 => (match putM y l w h6 with
      | some h7 => .nx ρ h7
      | none => .bad)
    | none => .bad)
  | _ => .bad
theorem w_swp {se si sj : SE} (D : Ends) (σ : L2.St) (H : Hp) : TSo K fa ca W (fun ρ h => (se ρ h).bindS ρ (swpM sa si sb sj ρ)) D σ H →
    tAsg (TEo K fa ca W se) (gTup K 2 (gCons (gSub (TEo K fa ca W sa) (TEo K fa ca W si) rSetL) (gCons (gSub (TEo K fa ca W sb) (TEo K fa ca W sj) rSetL) gNil))) D σ H := fun ⟨μ, ρ, h, hr, sr, p⟩ =>
  ⟨μ, ρ, h, hr, sr, PostS.first (V := VR K fa) hr sr p fun t h1 μ1 H1 x e ex hr1 sr1 tr p1 => by
    match t, tr, p1 with
    | .tup d [v, w], tr, p1 =>
      cases tr with
      | @tup _ _ a vs s q k =>
        obtain ⟨u1, u2, rfl, r1, r2⟩ := q.two
        refine ⟨a, [u1, u2], rfl, s, rfl, u1, [u2], rfl, μ1, ρ, h1, hr1, sr1, PostS.first (V := VR K fa) hr1 sr1 p1 fun y h2 μ2 H2 yv e2 ex2 hr2 sr2 yr p2 => ?_⟩
        refine ⟨μ2, ρ, h2, hr2, sr2, PostS.first (V := VR K fa) hr2 sr2 p2 fun k h3 μ3 H3 kv e3 ex3 hr3 sr3 kr p3 => ?_⟩
        refine put1 hr3 sr3 (VR.ext hr2.noTup ex3 yr) kr (VR.ext hr2.noTup ex3 (VR.ext hr1.noTup ex2 r1)) p3 fun H4 h4 ex4 hr4 sr4 p4 => ?_
        have w4 := VR.ext hr3.noTup ex4 (VR.ext hr2.noTup ex3 (VR.ext hr1.noTup ex2 r2))
        refine ⟨u2, [], rfl, μ3, ρ, h4, hr4, sr4, PostS.first (V := VR K fa) hr4 sr4 p4 fun y h5 μ5 H5 yv e5 ex5 hr5 sr5 yr p5 => ?_⟩
        refine ⟨μ5, ρ, h5, hr5, sr5, PostS.first (V := VR K fa) hr5 sr5 p5 fun k h6 μ6 H6 kv e6 ex6 hr6 sr6 kr p6 => ?_⟩
        refine put1 hr6 sr6 (VR.ext hr5.noTup ex6 yr) kr (VR.ext hr5.noTup ex6 (VR.ext hr4.noTup ex5 w4)) p6 fun H7 h7 ex7 hr7 sr7 p7 => ?_
        exact ⟨rfl, p7 μ6 H7 σ .refl hr7 sr7⟩
    | .tup _ [], _, p1 => exact no p1
    | .tup _ [_], _, p1 => exact no p1
    | .tup _ (_ :: _ :: _ :: _), _, p1 => exact no p1
    | .und, _, p1 => exact no p1
    | .opq, _, p1 => exact no p1
    | .non, _, p1 => exact no p1
    | .bl _, _, p1 => exact no p1
    | .int _, _, p1 => exact no p1
    | .str _, _, p1 => exact no p1
    | .fn _, _, p1 => exact no p1
    | .lref _, _, p1 => exact no p1
    | .zipv _ _, _, p1 => exact no p1⟩
def augO : BOp → Option (Operator × (Int → Int → Int))
  | .add => some (.Add, fun i j => i + j)
  | .sub => some (.Sub, fun i j => i - j)
  | _ => none
theorem ip_of {op : BOp} {o : Operator} {f : Int → Int → Int} (e : augO op = some (o, f)) : PIp X o (ipI f) ∧ ∀ (i j : Int) (h : Hm), vBin op (.int i) (.int j) h = .ok (.int (f i j)) h := by
  cases op <;> first | (cases e; exact ⟨ip_add, fun _ _ _ => rfl⟩) | (cases e; exact ⟨ip_sub, fun _ _ _ => rfl⟩) | cases e
def augM (i : Nat) (op : BOp) (sa : SE) : SS := fun ρ h => match getn ρ i with
  | some (.int a) => (sa ρ h).bindS ρ fun v h1 => (match v with
    | .int b => (vBin op (.int a) (.int b) h1).bindS ρ fun z h2 => .nx (setn ρ i z) h2
    | _ => .bad)
  | _ => .bad
theorem q_aug {i : Nat} {op : BOp} {o : Operator} {f : Int → Int → Int} (eo : augO op = some (o, f)) (hN : X.N.Nodup) (hi : X.N[i]? = some x) (hx : L2.Loc X.env.scope x ∧ (X.fn x = true ∨ X.env.scope.names.lookup x = some .local)) (ha : PE X a (TEo X.K fa ca W sa)) :
    PS X (.AugAssign (.Name x p) o a pos) (TSo X.K fa ca W (augM i op sa)) := by
  obtain ⟨ip, ev⟩ := ip_of (X := X) eo
  refine PS_weak (ps_aug hN hi hx.1 ha ip hx.2) fun D σ H ⟨μ, ρ, h, hr, sr, pp⟩ => ?_
  unfold augM at pp
  rw [getn_eq] at pp
  cases e : ρ[i]? with
  | none => rw [e] at pp; exact no pp
  | some m =>
    rw [e] at pp
    cases m with
    | int k =>
      obtain ⟨v, ev1, rv⟩ := sr.get e (by intro z; cases z) (by intro a b z; cases z)
      cases rv
      refine ⟨.int k, ev1, μ, ρ, h, hr, sr, PostS.first (V := VR X.K fa) hr sr pp fun w h1 μ1 H1 y e1 ex hr1 sr1 wr p1 => ?_⟩
      cases wr with
      | int b =>
        dsimp only at p1
        rw [ev] at p1
        have p1 : PvS X.K fa ca μ1 H1 W D (.nx (setn ρ i (.int (f k b))) h1) := p1
        exact ⟨k, b, rfl, rfl, p1 μ1 H1 _ .refl hr1 (sr1.set (.int _))⟩
      | _ => exact no p1
    | _ => exact no pp
theorem q_exp (hs : ∀ l, swapsWith a none l X.env = pure false) (ha : PE X a (TEo X.K fa ca W sa)) : PS X (.Expr a pos) (TSo X.K fa ca W (fun ρ h => (sa ρ h).bindS ρ fun _ h1 => .nx ρ h1)) :=
  PS_weak (ps_expr ha (hs _)) fun D σ H ⟨μ, ρ, h, hr, sr, p⟩ => ⟨μ, ρ, h, hr, sr, PostS.first (V := VR X.K fa) hr sr p fun v h1 μ1 H1 x e ex hr1 sr1 vr p1 => p1 μ1 H1 σ .refl hr1 sr1⟩
theorem q_ret (ha : PE X a (TEo X.K fa ca W sa)) : PS X (.Return (some a) pos) (TSo X.K fa ca W (fun ρ h => (sa ρ h).bindS ρ fun v h1 => .ret v h1)) :=
  PS_weak (ps_ret ha) fun D σ H ⟨μ, ρ, h, hr, sr, p⟩ => ⟨μ, ρ, h, hr, sr, PostS.first (V := VR X.K fa) hr sr p fun v h1 μ1 H1 x e ex hr1 sr1 vr p1 => p1 μ1 H1 x .refl hr1 vr⟩
theorem q_brk : PS X (.Break pos) (TSo X.K fa ca W (fun ρ h => .brk ρ h)) := PS_weak ps_break fun D σ H ⟨μ, ρ, h, hr, sr, p⟩ => p μ H σ .refl hr sr
theorem q_ct : PS X (.Continue pos) (TSo X.K fa ca W (fun ρ h => .ct ρ h)) := PS_weak ps_continue fun D σ H ⟨μ, ρ, h, hr, sr, p⟩ => p μ H σ .refl hr sr
def ifM (x : MV) (f g : RS) : RS := match x with
  | .bl true => f
  | .bl false => g
  | _ => .bad
theorem PostS.bool {D : Ends} {Q' : Bool → Hp → Prop} {r : RE} {f g : Hm → RS} (hr : HR K fa μ h H) (sr : SR K fa μ H ρ σ) (p : PostS K fa ca μ H W D (r.bindS ρ fun x h1 => ifM x (f h1) (g h1)))
    (hk : ∀ (b : Bool) (h1 : Hm) (μ1 : Mu) (H1 : Hp), Ext μ H μ1 H1 → HR K fa μ1 h1 H1 → SR K fa μ1 H1 ρ σ → PostS K fa ca μ1 H1 W D (if b = true then f h1 else g h1) → Q' b H1) : PostR K fa ca EqV μ H σ W Q' (toT r) := by
  cases r with
  | bad => exact p
  | exc c h1 => exact fun μ' H' e hr' => p μ' H' σ e hr' (sr.ext hr.noTup e)
  | ok v h1 =>
    cases v with
    | bl b =>
      intro μ' H' b2 e hr' eb
      have eb : b = b2 := eb
      subst eb
      refine hk b h1 μ' H' e hr' (sr.ext hr.noTup e) (PostS.step e ?_)
      cases b <;> exact p
    | _ => exact no p
theorem q_if (hc : PT X c (TTt X.K fa ca W sc)) (ha : PSs X l (TSo X.K fa ca W st)) (hb : PSs X m (TSo X.K fa ca W su)) : PS X (.If c l m pos) (TSo X.K fa ca W (fun ρ h => (sc ρ h).bindS ρ fun x h1 => ifM x (st ρ h1) (su ρ h1))) :=
  PS_weak (ps_if (PT_weak hc (tto (sc := sc))) ha hb) fun D σ H ⟨μ, ρ, h, hr, sr, p⟩ => ⟨μ, ρ, h, hr, sr, PostS.bool (f := fun h1 => st ρ h1) (g := fun h1 => su ρ h1) hr sr p fun b h1 μ1 H1 ex hr1 sr1 p1 => by
    cases b with
    | true => exact ⟨μ1, ρ, h1, hr1, sr1, p1⟩
    | false => exact ⟨μ1, ρ, h1, hr1, sr1, p1⟩⟩
theorem q_while (hp : PassesOwn (model X.prog X.w) X.A X.env X.xe) (hc : PT X c (TTt X.K fa ca W sc)) (hb : PSs X l (TSo X.K fa ca W st)) : PS X (.While c l [] pos) (TSo X.K fa ca W (fun ρ h => whRun sc st fuel ρ h)) :=
  PS_weak (ps_while hp (PT_weak hc (tto (sc := sc))) hb) fun D σ H ⟨μ, ρ, h, hr, sr, p⟩ => by
    obtain ⟨Wl, h1, h2⟩ := while_run (K := X.K) (fa := fa) (ca := ca) (W := W) (cond := sc) (body := st) (D := D)
    exact ⟨Wl, h1 hr sr p, h2⟩
theorem q_for {T : Tg} {si : SI} (hp : PassesOwn (model X.prog X.w) X.A X.env X.xe) (hc : X.calm = true) (hf : plainE a = true) (hi : PI X tg a (TIo X.K fa ca W si)) (hg : PG X tg (rawG X.K T)) (hb : PSs X l (TSo X.K fa ca W st)) :
    PS X (.For tg a l [] pos) (TSo X.K fa ca W (fun ρ h => (si ρ h).bindS ρ fun j h1 => frRun (tgt T) st fuel j ρ h1)) :=
  PS_weak (ps_for hp hc hi hg hb (fold_plain hf _)) fun D σ H ⟨μ, ρ, h, hr, sr, p⟩ => ⟨μ, ρ, h, hr, sr, PostS.first (V := IV X.K fa) hr sr p fun j h1 μ1 H1 J e ex hr1 sr1 ir p1 => by
    obtain ⟨Wl, g1, g2⟩ := for_run (K := X.K) (fa := fa) (ca := ca) (W := W) (tg := T) (body := st) (J := J) (D := D)
    exact ⟨Wl, g1 hr1 sr1 ir p1, g2⟩⟩
theorem q_raise {k : Nat} (hc : X.calm = true) (tk : Takes X W) (he : PMk X a (fun _ H Q => Q (.ref (ca k)) none H)) : PS X (.Raise (some a) none pos) (TSo X.K fa ca W (fun ρ h => .exc k ρ h)) :=
  PS_weak (ps_raise hc tk he) fun D σ H ⟨μ, ρ, h, hr, sr, p⟩ => p μ H σ .refl hr sr
theorem q_thru {h0 : ExceptHandler} {hds : List ExceptHandler} (hb : PSs X.nox l (TSo X.K fa ca W0 st)) : PS X (.Try l (h0 :: hds) [] [] pos) (TSo X.K fa ca W (fun ρ h => match st ρ h with
    | .exc _ _ _ => .bad
    | r => r)) :=
  PS_weak (ps_try_thru0 hb) fun D σ H ⟨μ, ρ, h, hr, sr, p⟩ => ⟨μ, ρ, h, hr, sr, by
    dsimp only at p
    cases e : st ρ h with
    | nx ρ1 h1 => rw [e] at p; exact p
    | ret v h1 => rw [e] at p; exact p
    | brk ρ1 h1 => rw [e] at p; exact p
    | ct ρ1 h1 => rw [e] at p; exact p
    | exc c ρ1 h1 => rw [e] at p; exact no p
    | bad => rw [e] at p; exact no p⟩
end
end Mi
namespace Mi
open PySem PySem.Spec PyProof.Rows L2
def zX (k j : Bool) (a b : Addr) (N c : Nat) : Option HO :=
  if c = N then some (.ext fun h => IsIt k h N a 0)
  else if c = N + 1 then some (.ext fun h => IsIt j h (N + 1) b 0)
  else if c = N + 2 then some (.ext fun h => IsTupOf2 h (N + 2) (.ref N) (.ref (N + 1)))
  else if c = N + 3 then some (.ext fun h => ∃ x y, IsTupOf2 h (N + 3) x y)
  else if c = N + 4 then some (.ext fun h => IsZip h (N + 4) (N + 2) (N + 3) .none)
  else none
def zH (H : Hp) (k j : Bool) (a b : Addr) (N : Nat) : Hp := fun c => match zX k j a b N c with
  | some o => some o
  | none => H c
section
variable {k j : Bool} {a b : Addr} {N : Nat} {H : Hp}
theorem zX_0 : zX k j a b N N = some (.ext fun h => IsIt k h N a 0) := if_pos rfl
theorem zX_1 : zX k j a b N (N + 1) = some (.ext fun h => IsIt j h (N + 1) b 0) := by
  unfold zX; rw [if_neg (by omega), if_pos rfl]
theorem zX_2 : zX k j a b N (N + 2) = some (.ext fun h => IsTupOf2 h (N + 2) (.ref N) (.ref (N + 1))) := by
  unfold zX; rw [if_neg (by omega), if_neg (by omega), if_pos rfl]
theorem zX_3 : zX k j a b N (N + 3) = some (.ext fun h => ∃ x y, IsTupOf2 h (N + 3) x y) := by
  unfold zX; rw [if_neg (by omega), if_neg (by omega), if_neg (by omega), if_pos rfl]
theorem zX_4 : zX k j a b N (N + 4) = some (.ext fun h => IsZip h (N + 4) (N + 2) (N + 3) .none) := by
  unfold zX; rw [if_neg (by omega), if_neg (by omega), if_neg (by omega), if_neg (by omega), if_pos rfl]
theorem zX_off {c : Nat} (h : c < N ∨ N + 4 < c) : zX k j a b N c = none := by
  unfold zX; rw [if_neg (by omega), if_neg (by omega), if_neg (by omega), if_neg (by omega), if_neg (by omega)]
theorem zX_cases {c : Nat} (h : zX k j a b N c ≠ none) : c = N ∨ c = N + 1 ∨ c = N + 2 ∨ c = N + 3 ∨ c = N + 4 := by
  by_cases q : c < N ∨ N + 4 < c
  · exact absurd (zX_off q) h
  · omega
theorem zH_at {c : Nat} {o : HO} (h : zX k j a b N c = some o) : zH H k j a b N c = some o := by unfold zH; rw [h]
theorem zH_off {c : Nat} (h : c < N ∨ N + 4 < c) : zH H k j a b N c = H c := by unfold zH; rw [zX_off h]
end
section
variable {X : Cx} {pins : List (Addr × Obj)} {σ : L2.St} {H : Hp} {s : Shared} {k j : Bool} {a b : Addr} {h' : Heap} {t' : Nat}
theorem inv_zip (I : Inv X pins σ H s) (kp : ∀ b u, s.heap.get? b = some u → h'.get? b = some u) (h0 : IsIt k h' s.heap.objs.size a 0) (h1 : IsIt j h' (s.heap.objs.size + 1) b 0) (h2 : IsTupOf2 h' (s.heap.objs.size + 2) (.ref s.heap.objs.size) (.ref (s.heap.objs.size + 1)))
    (h3 : ∃ x y, IsTupOf2 h' (s.heap.objs.size + 3) x y) (h4 : IsZip h' (s.heap.objs.size + 4) (s.heap.objs.size + 2) (s.heap.objs.size + 3) .none) : Inv X pins σ (zH H k j a b s.heap.objs.size) { s with heap := h', toks := t' } := by
  have off : ∀ (c : Nat) u, H c = some u → zH H k j a b s.heap.objs.size c = some u := fun c u e => by
    have hc : c < s.heap.objs.size := by
      rcases Nat.lt_or_ge c s.heap.objs.size with z | z
      · exact z
      · rw [I.hok.fresh z] at e; cases e
    rw [zH_off (.inl hc)]; exact e
  refine I.un (t' := t') ⟨fun c u q _ _ _ => kp c u q, fun c u q _ _ _ => ⟨u.slots, kp c u q⟩, fun c u q n _ => ?_, fun c u q _ => ⟨u, kp c u q⟩, fun c xs q => off c _ q, fun c u xs q => off c _ q, fun c ps q => ⟨#[], by rw [off c _ q]; simp⟩⟩ fun c u e => ?_
  · rw [zH_off (.inl (Heap.lt_size q))]; exact n
  · cases q : zX k j a b s.heap.objs.size c with
    | none =>
      have e' : H c = some u := by
        unfold zH at e
        rw [q] at e
        exact e
      exact (I.hok c u e').stay (fun c v _ q => kp c v q) (fun c q => off c _ q) fun c xs q => off c _ q
    | some o =>
      rw [zH_at q] at e
      cases e
      rcases zX_cases (by rw [q]; intro z; cases z) with rfl | rfl | rfl | rfl | rfl
      · rw [zX_0] at q; cases q
        exact ⟨h0, h0.get.imp fun o z => z.1, fun g g' x y => x.to y⟩
      · rw [zX_1] at q; cases q
        exact ⟨h1, h1.get.imp fun o z => z.1, fun g g' x y => x.to y⟩
      · rw [zX_2] at q; cases q
        exact ⟨h2, ⟨_, h2⟩, fun g g' x y => y _ x⟩
      · rw [zX_3] at q; cases q
        exact ⟨h3, let ⟨_, _, z⟩ := h3; ⟨_, z⟩, fun g g' ⟨x, y, z⟩ f => ⟨x, y, f _ z⟩⟩
      · rw [zX_4] at q; cases q
        exact ⟨h4, ⟨_, h4⟩, fun g g' x y => y _ x⟩
theorem dropH_ne' {H : Hp} {a c : Nat} (h : c ≠ a) : ItX.dropH H a c = H c := ItX.dropH_ne h
theorem dropH_off {H : Hp} {a c : Nat} {o : Option HO} (h : c ≠ a) (e : H c = o) : ItX.dropH H a c = o := by rw [ItX.dropH_ne h]; exact e
theorem drop_all {N : Nat} (hN : ∀ c : Nat, N ≤ c → H c = none) : ItX.dropH (ItX.dropH (ItX.dropH (ItX.dropH (ItX.dropH (zH H k j a b N) N) (N + 1)) (N + 2)) (N + 3)) (N + 4) = H := by
  funext c'
  let c : Nat := c'
  show _ = H c
  by_cases q : c < N ∨ N + 4 < c
  · rw [dropH_ne' (by omega), dropH_ne' (by omega), dropH_ne' (by omega), dropH_ne' (by omega), dropH_ne' (by omega), zH_off q]
  · have e : c = N ∨ c = N + 1 ∨ c = N + 2 ∨ c = N + 3 ∨ c = N + 4 := by omega
    rw [hN c (by omega)]
    rcases e with rfl | rfl | rfl | rfl | rfl
    · rw [dropH_ne' (by omega), dropH_ne' (by omega), dropH_ne' (by omega), dropH_ne' (by omega), ItX.dropH_same]
    · rw [dropH_ne' (by omega), dropH_ne' (by omega), dropH_ne' (by omega), ItX.dropH_same]
    · rw [dropH_ne' (by omega), dropH_ne' (by omega), ItX.dropH_same]
    · rw [dropH_ne' (by omega), ItX.dropH_same]
    · rw [ItX.dropH_same]
theorem inv_dropZ {N : Nat} (I : Inv X pins σ (zH H k j a b N) s) (hN : ∀ c : Nat, N ≤ c → H c = none) : Inv X pins σ H s := by
  have I1 := ItX.inv_drop I (zH_at zX_0)
  have I2 := ItX.inv_drop I1 (dropH_off (by omega) (zH_at zX_1))
  have I3 := ItX.inv_drop I2 (dropH_off (by omega) (dropH_off (by omega) (zH_at zX_2)))
  have I4 := ItX.inv_drop I3 (dropH_off (by omega) (dropH_off (by omega) (dropH_off (by omega) (zH_at zX_3))))
  have I5 := ItX.inv_drop I4 (dropH_off (by omega) (dropH_off (by omega) (dropH_off (by omega) (dropH_off (by omega) (zH_at zX_4)))))
  rw [drop_all hN] at I5
  exact I5
end
def tZip (K : PySem.W.Frag) (n0 : Nat) (ta : TA) : TE := fun σ H Q => ta σ H fun vs H1 => ∃ k j a b xs ys, vs = [.ref a, .ref b] ∧ Sq K k H1 a xs ∧ Sq K j H1 b ys ∧ ∀ N : Nat, (∀ c : Nat, N ≤ c → H1 c = none) → n0 ≤ N → a < N → b < N → Q (.ref (N + 4)) (zH H1 k j a b N)
def iZv (K : PySem.W.Frag) (n0 i : Nat) : TI := fun σ H R => ∃ (N : Nat) (k j : Bool) (a b : Addr) (H1 : Hp), σ[i]? = some (some (.ref (N + 4))) ∧ H = zH H1 k j a b N ∧ (∀ c : Nat, N ≤ c → H1 c = none) ∧ n0 ≤ N ∧ a < N ∧ b < N ∧ R (ItzX K k j a b) H1
section
variable {X : Cx} {e e2 : Expr} {ta : TA} {p pos tpos : Pos} {x : Str}
theorem pe_zip (hg : Gl X "zip") (hm : X.mg "zip" = none) (ha : PA X [e, e2] ta)
    (hs : starEach [e, e2] X.env = (false, eval e X.env) :: starEach [e2] X.env) (hpl : (backTo pos (starEach [e2] X.env)).any (·.1) = false) : PE X (.Call (.Name "zip" p) [e, e2] [] pos) (tZip X.K X.s_0.heap.objs.size ta) := by
  refine ⟨fun pins s σ H Q I h => ?_⟩
  refine wpAny_Call_Name_kw (ld_blt I hg hm PyProof.Rows.boot_zip (PyProof.Rows.callWith_type1 (thn (ha.run pos pins s σ H _ I h) fun us s1 ⟨vs, H1, I1, r1, q1⟩ => ?_) hs hpl))
  obtain ⟨k, j, a, b, xs, ys, rfl, hqx, hqy, q⟩ := q1
  cases r1 with
  | cons r rr =>
    cases rr with
    | cons r' rr =>
      cases rr
      cases r
      cases r'
      obtain ⟨its, rv, p1⟩ := inv_sq I1 hqx
      obtain ⟨its2, rv2, p2⟩ := inv_sq I1 hqy
      refine zip_begins2 (begins_k k a its.toArray) (begins_k j b its2.toArray) p1 p2 fun h' hz hTI hTO h1 h2 hsz hk => ?_
      exact ⟨.ref (s1.heap.objs.size + 4), _, inv_zip (t' := s1.toks) I1 hk (itObj_is h1) (itObj_is h2) hTI ⟨_, _, hTO⟩ hz, rfl, q s1.heap.objs.size (fun c hc => I1.hok.fresh hc) I1.sz p1.lt p2.lt⟩
theorem pi_zv {elts : List Expr} {kk i : Nat} (hN : X.N[i]? = some x) (hv : Vis X.env.scope x) (hd : (x == ("__debug__" : Str)) = false) (hcd : (x == ("__classdict__" : Str)) = false) : PI X (.Tuple elts kk tpos) (.Name x p) (iZv X.K X.s_0.heap.objs.size i) := by
  refine ⟨fun pins s σ H R I h => ?_⟩
  obtain ⟨N, k, j, a, b, H1, hs, rfl, hf, hn, al, bl, q⟩ := h
  refine thn ((pe_var (pos := p) (i := i) hN hv hd hcd).run pins s σ _ (fun v H2 => v = .ref (N + 4) ∧ H2 = zH H1 k j a b N) I ⟨.ref (N + 4), hs, rfl, rfl⟩) fun u s1 ⟨v, H2, I1, r1, ev, eH⟩ => ?_
  subst ev
  rw [eH] at I1
  cases r1
  have f0 := (I1.hok _ _ (zH_at zX_0)).1
  have f1 := (I1.hok _ _ (zH_at zX_1)).1
  have f2 := (I1.hok _ _ (zH_at zX_2)).1
  have f3 := (I1.hok _ _ (zH_at zX_3)).1
  have f4 := (I1.hok _ _ (zH_at zX_4)).1
  have fp : ∀ (c : Nat) u, zX k j a b N c = some u → N ≤ c → FpOk X pins H1 c := fun c u e hc => ⟨hf c hc, (ItX.inv_fp I1 (zH_at e) (Nat.le_trans hn hc)).2⟩
  refine wpAny_pyIter_zip f4 ⟨N + 4, [N + 4, N + 2, N + 3, N, N + 1], _, _, H1, rfl, inv_dropZ I1 hf, turn_zipX k j (zip_sep2 (N := N) (fp1 := [a]) (fp2 := [b]) (by simpa using al) (by simpa using bl)) (Nat.ne_of_lt al) (Nat.ne_of_lt (Nat.lt_succ_of_lt bl)), ⟨f4, f2, f3, f0, f1⟩, fun c hc => ?_, q⟩
  have e' : c = N + 4 ∨ c = N + 2 ∨ c = N + 3 ∨ c = N ∨ c = N + 1 := by simpa using hc
  rcases e' with rfl | rfl | rfl | rfl | rfl
  · exact fp _ _ zX_4 (by omega)
  · exact fp _ _ zX_2 (by omega)
  · exact fp _ _ zX_3 (by omega)
  · exact fp _ _ zX_0 (by omega)
  · exact fp _ _ zX_1 (by omega)
end
section
variable {K : PySem.W.Frag} {fa : FA} {ca : Nat → Addr} {μ μ1 : Mu} {H H1 : Hp} {σ : L2.St} {W : WX} {ρ : Rho} {h : Hm} {X : Cx} {D : Ends} {cf : CF} {lvl f : Nat} {kp : List KPat} {x : Str} {ps : List Str}
variable {sa : SE} {st su : SS} {sl : SL} {es : List Expr} {T : Tg} {own : List Nat}
theorem pe_callR {t : TA} {p pos : Pos} (G : FnH X lvl cf fa ca kp f x ps) (hr : Room lvl X.A) (tk : Takes X W) (hg : Gl X x) (hdb : (x == ("__debug__" : Str)) = false) (ha : PA X es t) (hn : ArgW X pos es) :
    PE X (.Call (.Name x p) es [] pos) (fun σ H Q => t σ H (Arg X.K fa ca σ W Q fun ms h => doCall cf f ms h)) := by
  obtain ⟨a, fd, e1, e2, e3, F, B, _⟩ := G.ex
  refine ⟨fun pins s σ H Q I arg => ?_⟩
  refine wpAny_Call_Name_kw (ld_glob I hg e2 ?_ hdb)
  cases hn with
  | some he hpl => exact PySem.W.callWith_K (h₀ := X.base) I.ok.mod.kin e3 (thn (ha.run pos pins s σ H _ I arg) fun us s1 ⟨vs, H1, I1, r1, q⟩ => ⟨I1.kIn, run_arg G.ar F B hr tk I1 r1 q⟩) he hpl
  | star he hst => exact PySem.W.callWith_S2 (h₀ := X.base) I.ok.mod.kin e3 (thn (ha.run pos pins s σ H _ I arg) fun us s1 ⟨vs, H1, I1, r1, q⟩ => ⟨I1.kIn, run_arg G.ar F B hr tk I1 r1 q⟩) he hst
theorem seqP (p : PvS K fa ca μ H W D (runSeq st su ρ h)) : PvS K fa ca μ H W { D with nx := fun σ H => TSo K fa ca W su D σ H } (st ρ h) := by
  unfold runSeq at p
  cases e : st ρ h with
  | nx ρ1 h1 => rw [e] at p; exact fun μ' H' σ' ex hr' sr' => ⟨μ', ρ1, h1, hr', sr', PostS.step ex p⟩
  | ret v h1 => rw [e] at p; exact p
  | brk ρ1 h1 => rw [e] at p; exact p
  | ct ρ1 h1 => rw [e] at p; exact p
  | exc c ρ1 h1 => rw [e] at p; exact p
  | bad => rw [e] at p; exact no p
theorem SR.any' (sr : SR K fa μ H ρ σ) (j : Nat) (o : Option V) : SR K fa μ H (setn ρ j .und) (σ.set j o) := by
  rw [setn_eq]
  refine ⟨by rw [List.length_set, List.length_set, sr.1], fun i y hy => ?_⟩
  by_cases e : j = i
  · subst e
    have hl : j < ρ.length := by
      have := (List.getElem?_eq_some_iff.mp hy).1
      rwa [List.length_set] at this
    rw [List.getElem?_set_self hl] at hy
    cases hy
    exact True.intro
  · rw [List.getElem?_set_ne e] at hy
    rw [List.getElem?_set_ne e]
    exact sr.2 i y hy
def tZcall (K : PySem.W.Frag) (fa : FA) (ca : Nat → Addr) (W : WX) (cf : CF) (f n0 z : Nat) (T : Tg) (sa : SE) (own : List Nat) : TE := fun σ H Q =>
  tCons (tCB (rBi K fa ca .tuple) (tCons (tLc (iZv K n0 z) (rawG K T) (TTo K fa ca W0 tru1) (TEo K fa ca W0 sa) own) tNil)) tNil σ H (Arg K fa ca σ W Q fun ms h => doCall cf f ms h)
theorem w_zst {n0 z j : Nat} (hown : ∀ i ∈ tgSlots T, i ∈ own) (D : Ends) (σ : L2.St) (H : Hp) : TSo K fa ca W (runSeq (fun ρ h => (sl ρ h).bindS ρ (zstA cf z j f T sa own ρ)) su) D σ H →
    tSeq (tAsg (tZip K n0 (TAo K fa ca W sl)) (gName z)) (tSeq (tAsg (tZcall K fa ca W cf f n0 z T sa own) (gName j)) (TSo K fa ca W su)) D σ H := fun ⟨μ, ρ, h, hr, sr, p⟩ =>
  ⟨μ, ρ, h, hr, sr, PostS.first (V := VRs K fa) hr sr (seqP p) fun vs h1 μ1 H1 ws e ex hr1 sr1 vr p1 => by
    match vs, vr, p1 with
    | [x, y], vr, p1 =>
      obtain ⟨u1, u2, rfl, r1, r2⟩ := vrs2 vr
      unfold zstA at p1
      dsimp only at p1
      cases eg : getn ρ z with
      | none => rw [eg] at p1; exact no p1
      | some m =>
        rw [eg] at p1
        dsimp only at p1
        have hz : z < σ.length := by
          rw [getn_eq] at eg
          rw [← sr1.1]
          exact (List.getElem?_eq_some_iff.mp eg).1
        unfold itZ at p1
        cases q1 : itOf x h1 with
        | bad => rw [q1] at p1; exact no p1
        | exc c h => rw [q1] at p1; exact no p1
        | ok i hi =>
          rw [q1] at p1
          dsimp only at p1
          cases q2 : itOf y h1 with
          | bad => rw [q2] at p1; exact no p1
          | exc c h => rw [q2] at p1; exact no p1
          | ok i2 hi2 =>
            rw [q2] at p1
            dsimp only at p1
            obtain ⟨k, a, vs, rfl, s1, z1⟩ := sq_of (R := .bad) hr1 r1 (fun a b z => by subst z; cases r1) q1
            obtain ⟨k2, a2, ws, rfl, s2, z2⟩ := sq_of (R := .bad) hr1 r2 (fun a b z => by subst z; cases r2) q2
            refine ⟨k, k2, a, a2, vs, ws, rfl, s1, s2, fun N hN n0N aN bN => ?_⟩
            have srz := sr1.any' z (some (.ref (N + 4)))
            show tAsg (tZcall K fa ca W cf f n0 z T sa own) (gName j) { D with nx := fun σ H => TSo K fa ca W su D σ H } (σ.set z (some (.ref (N + 4)))) (zH H1 k k2 a a2 N)
            refine ⟨N, k, k2, a, a2, H1, by rw [List.getElem?_set_self hz], rfl, hN, n0N, aN, bN, fun Dl hD => ?_⟩
            refine lc_run (W := W) (Q := fun x H1 => rBi K fa ca .tuple [x] H1 fun v H2 => Arg K fa ca (σ.set z (some (.ref (N + 4)))) W (fun u H3 => TSo K fa ca W su D ((σ.set z (some (.ref (N + 4)))).set j (some u)) H3) (fun ms h => doCall cf f ms h) [v] H2) hD hown hr1 srz (.zp z1 z2) (PostS.first (V := VR K fa) hr1 srz p1 fun l h2 μ2 H2 lv e2 ex2 hr2 sr2 lr p2 => ?_)
            refine ⟨W, _, μ2, [l], h2, hr2, .cons lr .nil, PostS.first (V := VR K fa) hr2 sr2 p2 fun t h3 μ3 H3 tv e3 ex3 hr3 sr3 tr p3 => ?_⟩
            refine ⟨μ3, [t], h3, hr3, .cons tr .nil, PostS.first (V := VR K fa) hr3 sr3 p3 fun v h4 μ4 H4 vv e4 ex4 hr4 sr4 rv p4 => ?_⟩
            exact p4 μ4 H4 _ .refl hr4 (sr4.set rv)
    | [], _, p1 => exact no p1
    | [_], _, p1 => exact no p1
    | _ :: _ :: _ :: _, _, p1 => exact no p1⟩
end
end Mi
namespace Mi
open PySem PySem.Spec PyProof.Rows L2
def noCompE : Expr → Bool
  | .ListComp _ _ _ _ => false
  | .SetComp _ _ _ _ => false
  | .DictComp _ _ _ _ _ => false
  | _ => true
theorem noComp_sw {v : Expr} (h : noCompE v = true) (t : Option Expr) (l : Nat) (env : Env) : swapsWith v t l env = pure false := by
  cases v <;> first | (cases h; done) | rfl
def dAsg : Stmt → Option (Expr × Expr × Pos)
  | .Assign [t] v p => some (t, v, p)
  | _ => none
theorem dAsg_eq {s : Stmt} {t v : Expr} {p : Pos} (h : dAsg s = some (t, v, p)) : s = .Assign [t] v p := by
  unfold dAsg at h
  split at h <;> cases h
  rfl
def dAug : Stmt → Option (Str × Operator × Expr)
  | .AugAssign (.Name x _) o e _ => some (x, o, e)
  | _ => none
theorem dAug_eq {s : Stmt} {x : Str} {o : Operator} {e : Expr} (h : dAug s = some (x, o, e)) : ∃ p q, s = .AugAssign (.Name x p) o e q := by
  unfold dAug at h
  split at h <;> cases h
  exact ⟨_, _, rfl⟩
def dExp : Stmt → Option Expr
  | .Expr e _ => some e
  | _ => none
theorem dExp_eq {s : Stmt} {e : Expr} (h : dExp s = some e) : ∃ p, s = .Expr e p := by
  unfold dExp at h
  split at h <;> cases h
  exact ⟨_, rfl⟩
def dRet : Stmt → Option Expr
  | .Return (some e) _ => some e
  | _ => none
theorem dRet_eq {s : Stmt} {e : Expr} (h : dRet s = some e) : ∃ p, s = .Return (some e) p := by
  unfold dRet at h
  split at h <;> cases h
  exact ⟨_, rfl⟩
def dIf : Stmt → Option (Expr × List Stmt × List Stmt)
  | .If c a b _ => some (c, a, b)
  | _ => none
theorem dIf_eq {s : Stmt} {c : Expr} {a b : List Stmt} (h : dIf s = some (c, a, b)) : ∃ p, s = .If c a b p := by
  unfold dIf at h
  split at h <;> cases h
  exact ⟨_, rfl⟩
def dWh : Stmt → Option (Expr × List Stmt)
  | .While c a [] _ => some (c, a)
  | _ => none
theorem dWh_eq {s : Stmt} {c : Expr} {a : List Stmt} (h : dWh s = some (c, a)) : ∃ p, s = .While c a [] p := by
  unfold dWh at h
  split at h <;> cases h
  exact ⟨_, rfl⟩
def dFor : Stmt → Option (Expr × Expr × List Stmt)
  | .For t i a [] _ => some (t, i, a)
  | _ => none
theorem dFor_eq {s : Stmt} {t i : Expr} {a : List Stmt} (h : dFor s = some (t, i, a)) : ∃ p, s = .For t i a [] p := by
  unfold dFor at h
  split at h <;> cases h
  exact ⟨_, rfl⟩
def dRaise : Stmt → Option Str
  | .Raise (some (.Call (.Name x _) [] [] _)) none _ => some x
  | _ => none
theorem dRaise_eq {s : Stmt} {x : Str} (h : dRaise s = some x) : ∃ p q r, s = .Raise (some (.Call (.Name x p) [] [] q)) none r := by
  unfold dRaise at h
  split at h <;> cases h
  exact ⟨_, _, _, rfl⟩
def dTry : Stmt → Option (List Stmt × ExceptHandler × List ExceptHandler)
  | .Try b (h :: hs) [] [] _ => some (b, h, hs)
  | _ => none
theorem dTry_eq {s : Stmt} {b : List Stmt} {h : ExceptHandler} {hs : List ExceptHandler} (e : dTry s = some (b, h, hs)) : ∃ p, s = .Try b (h :: hs) [] [] p := by
  unfold dTry at e
  split at e <;> cases e
  exact ⟨_, rfl⟩
def dCl : ExceptHandler → Option (Str × Str × Str × Str × Str × Str × Str)
  | .ExceptHandler (some (.Name c _)) (some n) [.Assign [.Name t _] (.List [.Constant (.str x) _ _, .Call (.Name f _) [.Name m _, .Name v _] [] _] _) _] _ => some (c, n, t, x, f, m, v)
  | _ => none
theorem dCl_eq {e : ExceptHandler} {c n t x f m v : Str} (h : dCl e = some (c, n, t, x, f, m, v)) :
    ∃ p1 p2 p3 k p4 p5 p6 p7 p8 p9 p10, e = .ExceptHandler (some (.Name c p1)) (some n) [.Assign [.Name t p2] (.List [.Constant (.str x) k p3, .Call (.Name f p4) [.Name m p5, .Name v p6] [] p7] p8) p9] p10 := by
  unfold dCl at h
  split at h <;> cases h
  exact ⟨_, _, _, _, _, _, _, _, _, _, _, rfl⟩
def offN (Γ : SC) : Expr → Bool
  | .Name x _ => !plcB Γ x
  | _ => true
def swN (Γ : SC) (t v : Expr) : Bool := match dTup t with
  | some ts => noCompE v && (match dTup v with
    | some vs => !(ts.length == 2 || ts.length == 3) || (ts.any (offN Γ) || vs.all (foldedForSure 8))
    | none => true)
  | none => false
def cellB (Γ : SC) (x : Str) : Bool := match Γ.sc.names.lookup x with
  | some .cell => true
  | _ => false
def isLc : Ex → Bool
  | .lc _ _ _ _ _ => true
  | _ => false
def lcOn (Γ : SC) (x : Str) (p : Pos) : Expr → Bool
  | .ListComp _ _ scope q => plcB Γ x && ((p.line == q.line) && !(scope.names.any fun (n, k) => n == x && (k == .local || k == .cell)))
  | _ => false
def nmOf : Tg → Option Nat
  | .nm i => some i
  | _ => none
theorem nmOf_eq {t : Tg} {i : Nat} (h : nmOf t = some i) : t = .nm i := by
  cases t <;> first | (cases h; done) | (cases h; rfl)
def asgB (Γ : SC) (tg : Tg) (e : Ex) (t v : Expr) : Bool := match t with
  | .Name x p => (nmOf tg).isSome && (noCompE v || (cellB Γ x || (isLc e && lcOn Γ x p v)))
  | _ => swN Γ t v
def swY (Γ : SC) (ts vs : List Expr) : Bool := !(vs.any fun | .Starred .. => true | _ => false) && (!vs.all (foldedForSure 8) && !vs.all (constantsAlone 8))
def plcs (Γ : SC) : List Nat → List Expr → Option (List (Str × Pos))
  | [], [] => some []
  | i :: is, .Name x p :: ts => (match atB Γ.N i x && plcB Γ x with
    | true => (match plcs Γ is ts with
      | some l => some ((x, p) :: l)
      | none => none)
    | false => none)
  | _, _ => none
def sameL (l : List (Str × Pos)) : Bool := match l with
  | [] => true
  | (_, p) :: r => r.all fun q => q.2.line == p.line
def nodupN : List Nat → Bool
  | [] => true
  | i :: r => !(r.contains i) && nodupN r
def parB (Γ : SC) (is : List Nat) (t v : Expr) : Bool := match dTup t, dTup v with
  | some ts, some vs => swY Γ ts vs && (nodupN is && (Nat.beq vs.length ts.length && ((Nat.beq is.length 2 || Nat.beq is.length 3) && (match plcs Γ is ts with
    | some l => sameL l && ((l.map (·.1)).eraseDups.length == l.length)
    | none => false))))
  | _, _ => false
def vsOf (v : Expr) : List Expr := match dTup v with
  | some vs => vs
  | none => []
def clB (T : PTb) (Γ : SC) : List (Nat × Nat × Nat × Str) → List ExceptHandler → Bool
  | [], [] => true
  | (k, j, i, y) :: r, e :: es => (match dCl e with
    | some (c, n, t, x, f, m, v) => (atB T.exs k c && (glB Γ c && okN c)) && ((atB Γ.N j n && plcB Γ n) && ((atB Γ.N i t && plcB Γ t) && (decide (x = y) && ((decide (f = "isinstance") && gBlt T Γ f) && ((decide (m = n) && okN m) && (decide (v = "ValueError") && gBlt T Γ v))))))
    | none => false) && clB T Γ r es
  | _, _ => false
def augB (op : BOp) (o : Operator) : Bool := match augO op with
  | some q => decide (q.1 = o)
  | none => false
def isBrk : Stmt → Bool
  | .Break _ => true
  | _ => false
def isCt : Stmt → Bool
  | .Continue _ => true
  | _ => false
def one? : List Stmt → Option Stmt
  | [s] => some s
  | _ => none
theorem one_eq {l : List Stmt} {s : Stmt} (h : one? l = some s) : l = [s] := by
  unfold one? at h
  split at h <;> cases h
  rfl
def on1 (l : List Stmt) (f : Stmt → Bool) : Bool := match l with
  | [s] => f s
  | _ => false
def two? : List Expr → Option (Expr × Expr)
  | [a, b] => some (a, b)
  | _ => none
theorem two_eq {l : List Expr} {a b : Expr} (h : two? l = some (a, b)) : l = [a, b] := by
  unfold two? at h
  split at h <;> cases h
  rfl
def oneE : List Expr → Option Expr
  | [a] => some a
  | _ => none
theorem oneE_eq {l : List Expr} {a : Expr} (h : oneE l = some a) : l = [a] := by
  unfold oneE at h
  split at h <;> cases h
  rfl
def dSwp (t : Expr) : Option (Expr × Expr × Expr × Expr × Expr × Expr) := match dTup t with
  | some ts => (match two? ts with
    | some (t1, t2) => (match dSub t1, dSub t2 with
      | some (x, y), some (x2, y2) => some (t1, t2, x, y, x2, y2)
      | _, _ => none)
    | none => none)
  | none => none
def dAsgCall (s : Stmt) : Option (Str × Str × List Expr) := match dAsg s with
  | some (t, v, _) => (match dName t, dCall v with
    | some x, some (f, l, ks, _) => (match ks.isEmpty with
      | true => some (x, f, l)
      | false => none)
    | _, _ => none)
  | none => none
theorem dAsgCall_eq {s : Stmt} {x f : Str} {l : List Expr} (h : dAsgCall s = some (x, f, l)) : ∃ p1 p2 p3 p4, s = .Assign [.Name x p1] (.Call (.Name f p2) l [] p3) p4 := by
  unfold dAsgCall at h
  split at h
  · rename_i t v p q
    split at h
    · rename_i x2 f2 l2 ks pos e1 e2
      split at h
      · rename_i e3
        cases h
        obtain rfl := dAsg_eq q
        obtain ⟨p1, rfl⟩ := dName_eq e1
        obtain ⟨p2, rfl⟩ := dCall_eq e2
        cases ks with
        | nil => exact ⟨p1, p2, pos, p, rfl⟩
        | cons _ _ => cases e3
      · cases h
    · cases h
  · cases h
def zstB (T : PTb) (z : Nat) (es : Ex) (j f : Nat) (tg : Tg) (elt : Ex) (own : List Nat) (Γ : SC) (s1 s2 : Stmt) : Bool := match dAsgCall s1, dAsgCall s2 with
  | some (x1, f1, l1), some (x2, f2, l2) => (match two? l1, oneE l2 with
    | some (y1, y2), some w => (match dCall w with
      | some (xt, l3, ks3, _) => (match oneE l3 with
        | some c => (match dLc c with
          | some (y, t, i, cs, scope) => (match dName i with
            | some xi => (((decide (f1 = "zip") && gBlt T Γ f1) && ((plainE y1 && plainE y2) && mL T es Γ [y1, y2])) && ((atB Γ.N z x1 && locB Γ x1) && ((atB Γ.N j x2 && locB Γ x2) && (fnAt T f f2 && gName' Γ f2)))) &&
              (((ks3.isEmpty && (biB T .tuple xt && (decide (xt = "tuple") && gName' Γ xt))) && ((decide (xi = x1) && (visB Γ x1 && okN x1)) && (cs.isEmpty && isTupE t))) &&
                ((blkC Γ.N Γ.sc scope (namesAt Γ.N own) && (tgSlots tg).all (fun j => own.contains j)) && (mTg (blkG Γ scope) tg t && mE T elt (blkG Γ scope) y)))
            | none => false)
          | none => false)
        | none => false)
      | none => false)
    | _, _ => false)
  | _, _ => false
def mB (T : PTb) : St → SC → List Stmt → Bool
  | .skip => fun _ l => l.isEmpty
  | .seq a b => fun Γ l => (match l with
    | x :: y :: r => mB T a Γ [x] && mB T b Γ (y :: r)
    | _ => false)
  | .asg tg e => fun Γ l => on1 l fun s => (match dAsg s with
    | some (t, v, _) => asgB Γ tg e t v && (mTg Γ tg t && mE T e Γ v)
    | none => false)
  | .par is es => fun Γ l => on1 l fun s => (match dAsg s with
    | some (t, v, _) => parB Γ is t v && mL T es Γ (vsOf v)
    | none => false)
  | .put a i e => fun Γ l => on1 l fun s => (match dAsg s with
    | some (t, v, _) => (match dSub t with
      | some (x, y) => (noCompE v && plainE y) && (mE T a Γ x && (mE T i Γ y && mE T e Γ v))
      | none => false)
    | none => false)
  | .aug i op e => fun Γ l => on1 l fun s => (match dAug s with
    | some (x, o, v) => (augB op o && (atB Γ.N i x && locB Γ x)) && mE T e Γ v
    | none => false)
  | .exp e => fun Γ l => on1 l fun s => (match dExp s with
    | some v => noCompE v && mE T e Γ v
    | none => false)
  | .ret e => fun Γ l => on1 l fun s => (match dRet s with
    | some v => mE T e Γ v
    | none => false)
  | .ifs c a b => fun Γ l => on1 l fun s => (match dIf s with
    | some (v, x, y) => (tstE v && mE T c Γ v) && (mB T a Γ x && mB T b Γ y)
    | none => false)
  | .whl c b => fun Γ l => on1 l fun s => (match dWh s with
    | some (v, x) => (tstE v && mE T c Γ v) && mB T b Γ x
    | none => false)
  | .fr tg it b => fun Γ l => on1 l fun s => (match dFor s with
    | some (t, v, x) => (plainE v && mTg Γ tg t) && (mI T it Γ t v && mB T b Γ x)
    | none => false)
  | .raise k => fun Γ l => on1 l fun s => (match dRaise s with
    | some x => atB T.exs k x && gName' Γ x
    | none => false)
  | .trys b n hs => fun Γ l => on1 l fun s => (match dTry s with
    | some (x, h, r) => (Nat.beq n T.exs.length && clB T Γ hs (h :: r)) && mB T b Γ x
    | none => false)
  | .thru b => fun Γ l => on1 l fun s => (match dTry s with
    | some (x, _, _) => mB T b Γ x
    | none => false)
  | .swp a i b j es => fun Γ l => on1 l fun s => (match dAsg s with
    | some (t, v, _) => (match dSwp t with
      | some (t1, t2, x, y, x2, y2) => (swN Γ t v && (plainE t1 && plainE t2)) && ((plainE y && plainE y2) && (mE T (.tup es) Γ v && ((mE T a Γ x && mE T i Γ y) && (mE T b Γ x2 && mE T j Γ y2))))
      | none => false)
    | none => false)
  | .zst z es j f tg elt own b => fun Γ l => (match l with
    | s1 :: s2 :: r => zstB T z es j f tg elt own Γ s1 s2 && mB T b Γ r
    | _ => false)
  | .brk => fun _ l => on1 l isBrk
  | .ct => fun _ l => on1 l isCt
end Mi
namespace Mi
open PySem PySem.Spec PyProof.Rows L2
theorem block_fn {env : Env} (hk : env.scope.kind = .function) : env.blockKind = .function := by unfold Env.blockKind; rw [hk]; rfl
theorem sw2 {env : Env} {x y : Str} {px py pt pt2 : Pos} {kt k2 : Nat} {a b : Expr} (hk : env.scope.kind = .function) (hx : env.scope.names.lookup x = some .local) (hy : env.scope.names.lookup y = some .local) (hd : ([x, y].eraseDups.length == 2) = true) (hl : (py.line == px.line) = true)
    (ha : plainE a = true) (hb : plainE b = true) (h2 : [a, b].all (foldedForSure 8) = false) (h3 : [a, b].all (constantsAlone 8) = false) :
    swappedStores [.Tuple [.Name x px, .Name y py] kt pt] (.Tuple [a, b] k2 pt2) env = pure (some [x, y]) := by
  have kx : (env.kindOf x == some .local) = true := by unfold Env.kindOf; rw [hx]; rfl
  have ky : (env.kindOf y == some .local) = true := by unfold Env.kindOf; rw [hy]; rfl
  have bk : (env.blockKind != .function) = false := by rw [block_fn hk]; rfl
  have hd2 : [x, y].eraseDups.length = 2 := by simpa using hd
  have hl2 : py.line = px.line := by simpa using hl
  unfold swappedStores
  simp only [List.length_cons, List.length_nil, bk, h2, h3, List.head?_cons, List.filterMap_cons, List.filterMap_nil, kx, ky, hl2, Expr.pos, Option.map_some, Option.getD_some, Bool.and_self, beq_self_eq_true, if_true, hd2]
  simp
  intro hh
  rcases hh with hh | hh
  · cases a <;> first | (cases hh; done) | cases ha
  · cases b <;> first | (cases hh; done) | cases hb
theorem sw3 {env : Env} {x y z : Str} {px py pz pt pt2 : Pos} {kt k2 : Nat} {a b c : Expr} (hk : env.scope.kind = .function) (hx : env.scope.names.lookup x = some .local) (hy : env.scope.names.lookup y = some .local) (hz : env.scope.names.lookup z = some .local) (hd : ([x, y, z].eraseDups.length == 3) = true) (hl : (py.line == px.line) = true) (hl' : (pz.line == px.line) = true)
    (ha : plainE a = true) (hb : plainE b = true) (hc : plainE c = true) (h2 : [a, b, c].all (foldedForSure 8) = false) (h3 : [a, b, c].all (constantsAlone 8) = false) :
    swappedStores [.Tuple [.Name x px, .Name y py, .Name z pz] kt pt] (.Tuple [a, b, c] k2 pt2) env = pure (some [x, y, z]) := by
  have kx : (env.kindOf x == some .local) = true := by unfold Env.kindOf; rw [hx]; rfl
  have ky : (env.kindOf y == some .local) = true := by unfold Env.kindOf; rw [hy]; rfl
  have kz : (env.kindOf z == some .local) = true := by unfold Env.kindOf; rw [hz]; rfl
  have bk : (env.blockKind != .function) = false := by rw [block_fn hk]; rfl
  have hd2 : [x, y, z].eraseDups.length = 3 := by simpa using hd
  have hl2 : py.line = px.line := by simpa using hl
  have hl3 : pz.line = px.line := by simpa using hl'
  unfold swappedStores
  simp only [List.length_cons, List.length_nil, bk, h2, h3, List.head?_cons, List.filterMap_cons, List.filterMap_nil, kx, ky, kz, hl2, hl3, Expr.pos, Option.map_some, Option.getD_some, Bool.and_self, beq_self_eq_true, if_true, hd2]
  simp
  intro hh
  rcases hh with hh | hh | hh
  · cases a <;> first | (cases hh; done) | cases ha
  · cases b <;> first | (cases hh; done) | cases hb
  · cases c <;> first | (cases hh; done) | cases hc
theorem fm_off {Γ : SC} {env : Env} (hs : env.scope = Γ.sc) (f : Expr → Option Str) (hf : ∀ t, offN Γ t = true → f t = none) : ∀ ts : List Expr, ts.any (offN Γ) = true → (ts.filterMap f).length ≠ ts.length
  | t :: ts, h => by
    have le := List.length_filterMap_le f ts
    rcases Bool.or_eq_true_iff.mp h with h | h
    · rw [List.filterMap_cons, hf t h, List.length_cons]
      show (ts.filterMap f).length ≠ ts.length + 1
      omega
    · have := fm_off hs f hf ts h
      rw [List.filterMap_cons]
      cases f t with
      | none => show (ts.filterMap f).length ≠ ts.length + 1; omega
      | some y => show (ts.filterMap f).length + 1 ≠ ts.length + 1; omega
theorem swN_none {Γ : SC} {env : Env} {ts vs : List Expr} {k k2 : Nat} {p p2 : Pos} (hs : env.scope = Γ.sc) (h : (!(ts.length == 2 || ts.length == 3) || (ts.any (offN Γ) || vs.all (foldedForSure 8))) = true) : swappedStores [.Tuple ts k p] (.Tuple vs k2 p2) env = pure none := by
  unfold swappedStores
  dsimp only
  by_cases c1 : (!(ts.length == 2 || ts.length == 3) || vs.length != ts.length || env.blockKind != .function) = true
  · simp only [c1, if_true]
  · simp only [c1]
    rcases Bool.or_eq_true_iff.mp h with h | h
    · exact absurd (by rw [h]; rfl) c1
    · rcases Bool.or_eq_true_iff.mp h with h | h
      · have fo := fm_off hs (fun
          | .Name id pos => if env.kindOf id == some .local && pos.line == (ts.head?.map (·.pos.line)).getD 0 then some id else none
          | _ => none) (fun t ht => by
            cases t <;> first | rfl | skip
            rename_i x q
            have ht : (!plcB Γ x) = true := ht
            have : (env.kindOf x == some .local) = false := by
              unfold Env.kindOf
              rw [hs]
              unfold plcB at ht
              split at ht
              · cases ht
              · rename_i hne
                cases e : Γ.sc.names.lookup x with
                | none => rfl
                | some nk => cases nk <;> first | rfl | exact absurd e hne
            show (if (env.kindOf x == some .local && q.line == (ts.head?.map (·.pos.line)).getD 0) = true then some x else none) = none
            rw [this]; rfl) ts h
        have c2 : ((ts.filterMap (fun
          | .Name id pos => if env.kindOf id == some .local && pos.line == (ts.head?.map (·.pos.line)).getD 0 then some id else none
          | _ => none)).length != ts.length) = true := by simpa using fo
        rw [if_neg Bool.false_ne_true]
        split
        · rfl
        · exact if_pos (Bool.or_eq_true_iff.mpr (.inl c2))
      · rw [if_neg Bool.false_ne_true]
        split
        · rfl
        · split
          · rfl
          · first | rfl | exact if_pos h
section
variable {T : PTb} {lvl : Nat} {cf : CF} {G : List MV} {fa : FA} {ca : Nat → Addr} {Γ : SC} {X : Cx} {W : WX}
structure GE (T : PTb) (ca : Nat → Addr) (X : Cx) : Prop where
  cl : ∀ (k : Nat) (x : Str), T.exs[k]? = some x → X.mg x = some (.ref (ca k)) ∧ PySem.W.excIn X.K (ca k) [.type "ValueError", .type "Exception", .type "BaseException", .type "object"] "ValueError.__new__" = true ∧ PySem.W.keepIn X.K (.ref (ca k)) = true ∧ Raises X (.ref (ca k)) ∧ ExcC X.K (ca k) ∧ PySem.W.kitOne X.K (.ref (ca k)) (.type "ValueError") = some true
  em : ∀ (c k : Nat), c < T.exs.length → k < T.exs.length → PySem.W.exmOne X.K (.ref (ca c)) (.ref (ca k)) = some (Nat.beq k c)
structure SOk (T : PTb) (lvl : Nat) (cf : CF) (G : List MV) (fa : FA) (ca : Nat → Addr) (Γ : SC) (X : Cx) : Prop where
  o : XOk T lvl cf G fa ca Γ X
  hp : PassesOwn (model X.prog X.w) X.A X.env X.xe
  stk : X.stack = X.env :: X.outer
  efr : X.env.frame = some X.env.locals
  kd : X.env.scope.kind = .function
  ge : GE T ca X
structure OkS (X : Cx) (fa : FA) (ca : Nat → Addr) (W : WX) (l : List Stmt) (s : SS) : Prop where
  b : PSs X l (TSo X.K fa ca W s)
  s : ∀ x, l = [x] → PS X x (TSo X.K fa ca W s)
theorem OkS.one {x : Stmt} {s : SS} (h : PS X x (TSo X.K fa ca W s)) : OkS X fa ca W [x] s := ⟨pss_one h, fun y e => by cases e; exact h⟩
def SB' (T : PTb) (lvl : Nat) (cf : CF) (G : List MV) (fa : FA) (ca : Nat → Addr) (c : St) : Prop := ∀ (Γ : SC) (l : List Stmt) (X : Cx) (W : WX), mB T c Γ l = true → SOk T lvl cf G fa ca Γ X → Takes X W → OkS X fa ca W l (run cf G c)
theorem on1_eq {l : List Stmt} {f : Stmt → Bool} (h : on1 l f = true) : ∃ s, l = [s] ∧ f s = true := by
  unfold on1 at h
  split at h
  · exact ⟨_, rfl, h⟩
  · cases h
variable {a b c e : Ex} {s u : St}
theorem b_skip : SB' T lvl cf G fa ca .skip := by
  intro Γ l X W h o tk
  obtain rfl := isEmpty_nil (show l.isEmpty = true from h)
  exact ⟨q_nil, fun x e => nomatch e⟩
theorem b_seq (hs : SB' T lvl cf G fa ca s) (hu : SB' T lvl cf G fa ca u) : SB' T lvl cf G fa ca (.seq s u) := by
  intro Γ l X W h o tk
  match l, h with
  | x :: y :: r, h =>
    obtain ⟨h1, h2⟩ := and2 (show (mB T s Γ [x] && mB T u Γ (y :: r)) = true from h)
    exact ⟨q_seq ((hs Γ [x] X W h1 o tk).s x rfl) (hu Γ (y :: r) X W h2 o tk).b, fun z e => nomatch e⟩
theorem cellB_eq (o : XOk T lvl cf G fa ca Γ X) {x : Str} (h : cellB Γ x = true) : X.env.kindOf x = some .cell := by
  unfold cellB at h
  show X.env.scope.names.lookup x = some .cell
  rw [o.es]
  split at h
  · assumption
  · cases h
theorem sw_cell {v : Expr} {x : Str} {p : Pos} {l : Nat} {env : Env} (hk : env.kindOf x = some .cell) : swapsWith v (some (.Name x p)) l env = pure false := by
  cases v <;> first | rfl | skip
  all_goals
    unfold swapsWith
    dsimp only
    rw [hk]
    show pure (env.blockKind == .function && false && _ && _) = (pure false : Sem Bool)
    rw [Bool.and_false]
    rfl
theorem b_asg (tg : Tg) (he : SE' T lvl cf G fa ca e) (hl : ∀ tg2 it cond elt own, e = .lc tg2 it cond elt own → SI' T lvl cf G fa ca it ∧ SE' T lvl cf G fa ca cond ∧ SE' T lvl cf G fa ca elt) : SB' T lvl cf G fa ca (.asg tg e) := by
  intro Γ l X W h o tk
  have h : on1 l (fun z0 => (match dAsg z0 with
      | some (t, v, _) => asgB Γ tg e t v && (mTg Γ tg t && mE T e Γ v)
      | none => false)) = true := h
  obtain ⟨st, e9, h9⟩ := on1_eq h
  subst e9
  have h := h9
  split at h
  · rename_i t v p q
    obtain ⟨h1, h0⟩ := and2 h
    obtain ⟨h2, h3⟩ := and2 h0
    obtain rfl := dAsg_eq q
    have pv := (he Γ v X W h3 o.o tk).v
    have pg := snd_tg o.o tg t h2
    refine .one ?_
    cases ht : dName t with
    | some x =>
      obtain ⟨px, rfl⟩ := dName_eq ht
      have h1 : ((nmOf tg).isSome && (noCompE v || (cellB Γ x || (isLc e && lcOn Γ x px v)))) = true := h1
      obtain ⟨h4, h5⟩ := and2 h1
      cases en : nmOf tg with
      | none => rw [en] at h4; cases h4
      | some i =>
        obtain rfl := nmOf_eq en
        have h2' : (atB Γ.N i x && locB Γ x) = true := h2
        obtain ⟨k1, k2⟩ := and2 h2'
        have plain : swapsWith v (some (.Name x px)) p.line X.env = pure false → PS X (.Assign [.Name x px] v p) (TSo X.K fa ca W (run cf G (.asg (.nm i) e))) := fun hs =>
          PS_weak (ps_set o.o.nd (o.o.slot k1) (o.o.loc k2).1 pv hs (o.o.loc k2).2) fun D σ H q => w_asg (.nm i) D σ H q
        rcases Bool.or_eq_true_iff.mp h5 with h5 | h5
        · exact plain (noComp_sw h5 _ _ _)
        · rcases Bool.or_eq_true_iff.mp h5 with h5 | h5
          · exact plain (sw_cell (cellB_eq o.o h5))
          · obtain ⟨h6, h7⟩ := and2 h5
            match e, h6, h3, hl with
            | .lc tg2 it cond elt own, _, h3, hl =>
              obtain ⟨y, t2, i2, cs, scope, p2, rfl, L⟩ := lc_parts h3
              obtain ⟨si, sc, se⟩ := hl _ _ _ _ _ rfl
              have h8 : (plcB Γ x && ((px.line == p2.line) && !(scope.names.any fun (n, k) => n == x && (k == .local || k == .cell)))) = true := h7
              obtain ⟨w1, w2⟩ := and2 h8
              obtain ⟨w3, w4⟩ := and2 w2
              have w5 : (scope.names.any fun (n, k) => n == x && (k == .local || k == .cell)) = false := by simpa using w4
              have pl := o.o.plc w1
              have k := r_setLc (pos := p2) (spos := p) (py := px) (own := namesAt Γ.N own) (sa := den cf G elt) (sc := den cf G cond) (T := tg2) (W := W) o.o.cl o.o.nd (o.o.slot k1) pl (sw_true o.kd pl w3 w5) L.pl (si Γ t2 i2 X W L.mi o.o tk) (blk_ok o.o L.bk) (by rw [names_map]; exact tgSlots_all L.ow)
                (fun s H C cl fp => snd_tg (o.o.blk s H scope C cl fp) tg2 t2 L.mt) (fun s H C cl fp => lc_if sc (o.o.blk s H scope C cl fp) takes0 L.mc) (fun s H C cl fp => (se _ y _ W0 L.me (o.o.blk s H scope C cl fp) takes0).v)
              rw [names_map] at k
              exact PS_weak k fun D σ H q => w_asg (.nm i) D σ H q
    | none =>
      have h1 : swN Γ t v = true := by cases t <;> first | exact h1 | cases ht
      unfold swN at h1
      split at h1
      · rename_i ts qt
        obtain ⟨k, pt, rfl⟩ := dTup_eq qt
        obtain ⟨h4, h5⟩ := and2 h1
        have hw : swappedStores [.Tuple ts k pt] v X.env = pure none := by
          split at h5
          · rename_i vs qv
            obtain ⟨k2, pv2, rfl⟩ := dTup_eq qv
            exact swN_none o.o.es h5
          · rename_i qv
            cases v <;> first | rfl | cases qv
        exact PS_weak (ps_asg pv pg (noComp_sw h4 (some (.Tuple ts k pt)) p.line X.env) hw rfl) fun D σ H q => w_asg tg D σ H q
      · cases h1
  · cases h
theorem b_put (sa : SE' T lvl cf G fa ca a) (sb : SE' T lvl cf G fa ca b) (sc : SE' T lvl cf G fa ca c) : SB' T lvl cf G fa ca (.put a b c) := by
  intro Γ l X W h o tk
  have h : on1 l (fun z0 => (match dAsg z0 with
      | some (t, v, _) => (match dSub t with
        | some (x, y) => (noCompE v && plainE y) && (mE T a Γ x && (mE T b Γ y && mE T c Γ v))
        | none => false)
      | none => false)) = true := h
  obtain ⟨st, e9, h9⟩ := on1_eq h
  subst e9
  have h := h9
  split at h
  · rename_i t v p q
    split at h
    · rename_i x y q2
      obtain ⟨w1, w2⟩ := and2 h
      obtain ⟨h1, h2⟩ := and2 w1
      obtain ⟨h3, w3⟩ := and2 w2
      obtain ⟨h4, h5⟩ := and2 w3
      obtain ⟨p2, rfl⟩ := dSub_eq q2
      obtain rfl := dAsg_eq q
      have hsub : ∀ u, assign (.Subscript x y p2) X.env u = (do
          let ov ← holding [u] (eval x X.env)
          let iv ← holding [u, ov] (eval y X.env)
          standAt p2
          holding [u, ov, iv] (setItem ov iv u)
          release [u, ov, iv] []) := by
        intro u
        cases y <;> first | rfl | cases h2
      exact .one (PS_weak (ps_asg (sc Γ v X W h5 o.o tk).v (pg_sub (sa Γ x X W h3 o.o tk).v (sb Γ y X W h4 o.o tk).v set_list hsub) (noComp_sw h1 (some (.Subscript x y p2)) p.line X.env) rfl rfl) fun D σ H q => w_put D σ H q)
    · cases h
  · cases h
theorem sub_asg {X : Cx} {x y : Expr} {p2 : Pos} (h2 : plainE y = true) : ∀ u, assign (.Subscript x y p2) X.env u = (do
    let ov ← holding [u] (eval x X.env)
    let iv ← holding [u, ov] (eval y X.env)
    standAt p2
    holding [u, ov, iv] (setItem ov iv u)
    release [u, ov, iv] []) := by
  intro u
  cases y <;> first | rfl | cases h2
theorem b_swp {d : Ex} (sa : SE' T lvl cf G fa ca a) (si : SE' T lvl cf G fa ca b) (sb : SE' T lvl cf G fa ca c) (sj : SE' T lvl cf G fa ca d) (se : SE' T lvl cf G fa ca (.tup e)) : SB' T lvl cf G fa ca (.swp a b c d e) := by
  intro Γ l X W h o tk
  have h : on1 l (fun z0 => (match dAsg z0 with
    | some (t, v, _) => (match dSwp t with
      | some (t1, t2, x, y, x2, y2) => (swN Γ t v && (plainE t1 && plainE t2)) && ((plainE y && plainE y2) && (mE T (.tup e) Γ v && ((mE T a Γ x && mE T b Γ y) && (mE T c Γ x2 && mE T d Γ y2))))
      | none => false)
    | none => false)) = true := h
  obtain ⟨st, e9, h9⟩ := on1_eq h
  subst e9
  have h := h9
  split at h
  · rename_i t v p q
    split at h
    · rename_i t1 t2 x y x2 y2 q2
      obtain ⟨w1, w2⟩ := and2 h
      obtain ⟨h1, w3⟩ := and2 w1
      obtain ⟨h2, h3⟩ := and2 w3
      obtain ⟨w4, w5⟩ := and2 w2
      obtain ⟨h4, h5⟩ := and2 w4
      obtain ⟨h6, w6⟩ := and2 w5
      obtain ⟨w7, w8⟩ := and2 w6
      obtain ⟨h7, h8⟩ := and2 w7
      obtain ⟨m9, m10⟩ := and2 w8
      obtain rfl := dAsg_eq q
      unfold dSwp at q2
      split at q2
      · rename_i ts qt
        split at q2
        · rename_i u1 u2 qq
          split at q2
          · rename_i a1 a2 a3 a4 e1 e2
            cases q2
            obtain rfl := two_eq qq
            obtain ⟨k, pt, rfl⟩ := dTup_eq qt
            obtain ⟨p1, rfl⟩ := dSub_eq e1
            obtain ⟨p2, rfl⟩ := dSub_eq e2
            unfold swN at h1
            rw [qt] at h1
            dsimp only at h1
            obtain ⟨k1, k2⟩ := and2 h1
            have hw : swappedStores [.Tuple [.Subscript x y p1, .Subscript x2 y2 p2] k pt] v X.env = pure none := by
              split at k2
              · rename_i vs qv
                obtain ⟨k3, pv2, rfl⟩ := dTup_eq qv
                exact swN_none o.o.es k2
              · rename_i qv
                cases v <;> first | rfl | cases qv
            have pg : PG X (.Tuple [.Subscript x y p1, .Subscript x2 y2 p2] k pt) (gTup X.K 2 (gCons (gSub (TEo X.K fa ca W (den cf G a)) (TEo X.K fa ca W (den cf G b)) rSetL) (gCons (gSub (TEo X.K fa ca W (den cf G c)) (TEo X.K fa ca W (den cf G d)) rSetL) gNil))) := by
              have ea := asgn_plain h2 [.Subscript x2 y2 p2] X.env
              have eb := asgn_plain h3 [] X.env
              refine pg_tup o.o.cl (pgs_cons (pg_sub (sa Γ x X W h7 o.o tk).v (si Γ y X W h8 o.o tk).v set_list (sub_asg h4)) (pgs_cons (pg_sub (sb Γ x2 X W m9 o.o tk).v (sj Γ y2 X W m10 o.o tk).v set_list (sub_asg h5)) pgs_nil (by rw [eb]; rfl)) (by rw [ea]; rfl)) ?_ ?_
              · rw [ea, eb]; rfl
              · rw [ea, eb]; rfl
            exact .one (PS_weak (ps_asg (se Γ v X W h6 o.o tk).v pg (noComp_sw k1 (some (.Tuple [.Subscript x y p1, .Subscript x2 y2 p2] k pt)) p.line X.env) hw rfl) fun D σ H q => w_swp D σ H q)
          · cases q2
        · cases q2
      · cases q2
    · cases h
  · cases h
theorem b_zst (z j f : Nat) (tg : Tg) (own : List Nat) (hl : SL' T lvl cf G fa ca a) (he : SE' T lvl cf G fa ca b) (hu : SB' T lvl cf G fa ca u) : SB' T lvl cf G fa ca (.zst z a j f tg b own u) := by
  intro Γ l X W h o tk
  match l, h with
  | s1 :: s2 :: r, h =>
    obtain ⟨hz, hr⟩ := and2 (show (zstB T z a j f tg b own Γ s1 s2 && mB T u Γ r) = true from h)
    unfold zstB at hz
    split at hz
    · rename_i x1 f1 l1 x2 f2 l2 q1 q2
      split at hz
      · rename_i y1 y2 w q3 q4
        split at hz
        · rename_i xt l3 ks3 pos q5
          split at hz
          · rename_i c q6
            split at hz
            · rename_i y t i cs scope q7
              split at hz
              · rename_i xi q8
                obtain ⟨w1, w2⟩ := and2 hz
                obtain ⟨w3, w4⟩ := and2 w1
                obtain ⟨w5, w6⟩ := and2 w3
                obtain ⟨e1, h1⟩ := and2 w5
                obtain ⟨w7, h4⟩ := and2 w6
                obtain ⟨h2, h3⟩ := and2 w7
                obtain ⟨w8, w9⟩ := and2 w4
                obtain ⟨h5, h6⟩ := and2 w8
                obtain ⟨w10, w11⟩ := and2 w9
                obtain ⟨h7, h8⟩ := and2 w10
                obtain ⟨h9, h10⟩ := and2 w11
                obtain ⟨w12, w13⟩ := and2 w2
                obtain ⟨w14, w15⟩ := and2 w12
                obtain ⟨e2, w16⟩ := and2 w14
                obtain ⟨h11, w17⟩ := and2 w16
                obtain ⟨e3, h12⟩ := and2 w17
                obtain ⟨w18, w19⟩ := and2 w15
                obtain ⟨e4, w20⟩ := and2 w18
                obtain ⟨h13, h14⟩ := and2 w20
                obtain ⟨e5, h15⟩ := and2 w19
                obtain ⟨w21, w22⟩ := and2 w13
                obtain ⟨h16, h17⟩ := and2 w21
                obtain ⟨h18, h19⟩ := and2 w22
                obtain ⟨p1, p2, p3, p4, rfl⟩ := dAsgCall_eq q1
                obtain ⟨p5, p6, p7, p8, rfl⟩ := dAsgCall_eq q2
                obtain rfl := two_eq q3
                obtain rfl := oneE_eq q4
                obtain rfl := isEmpty_nil e2
                obtain ⟨p9, rfl⟩ := dCall_eq q5
                obtain rfl := oneE_eq q6
                obtain rfl := isEmpty_nil e5
                obtain ⟨p10, rfl⟩ := dLc_eq q7
                obtain ⟨p11, rfl⟩ := dName_eq q8
                obtain rfl : f1 = "zip" := of_decide_eq_true e1
                obtain rfl : xi = x1 := of_decide_eq_true e4
                obtain rfl : xt = "tuple" := of_decide_eq_true e3
                obtain ⟨tl, kt, pt, rfl⟩ := isTup_eq h15
                obtain ⟨g1, g2⟩ := blt o.o h1
                obtain ⟨g3, g4, g5⟩ := glo o.o h10
                obtain ⟨g6, g7, g8⟩ := glo o.o h12
                obtain ⟨ps, efn⟩ := fnAt_eq h9
                have zl := hl Γ [y1, y2] X W h4 o.o tk
                have z1 := pe_zip (p := p2) (pos := p3) g1 g2 zl.v (star_plain h2 _ _) (any_plain p3 X.env (by show (plainE y2 && true) = true; rw [h3]; rfl))
                have iz := pi_zv (X := X) (p := p11) (tpos := pt) (elts := tl) (kk := kt) (i := z) (o.o.slot h5) (o.o.vis h13) (okN_1 h14) (okN_2 h14)
                have lc := pe_lc (g := rawG X.K tg) (tt := TTo X.K fa ca W0 tru1) (te := TEo X.K fa ca W0 (den cf G b)) (pos := p10) (own := namesAt Γ.N own) o.o.cl o.o.nd iz (blk_ok o.o h16) (fun s H C cl fp => snd_tg (o.o.blk s H scope C cl fp) tg _ h18) (fun s H C cl fp => r_if0 (fa := fa) (ca := ca) (W := W0)) (fun s H C cl fp => (he _ y _ W0 h19 (o.o.blk s H scope C cl fp) takes0).v) (fold_plain (e := .Name xi p11) rfl X.env)
                rw [names_map] at lc
                have bt : X.mg "tuple" = none := by
                  rcases bi_at o.o h11 with q | ⟨id, q, _⟩
                  · exact q.1
                  · cases q
                have tu := pe_callTy (pos := pos) (p := p9) (r := rBi X.K fa ca .tuple) (cr_bi (fa := fa) (ca := ca) o.o.cl o.o.cu .tuple) g6 bt (boot_bi .tuple rfl) (pa_cons lc pa_nil rfl) g8 g7 rfl rfl
                have fc := pe_callR (W := W) (p := p6) (pos := p7) (o.o.gm.fn f f2 ps efn) o.o.rm tk g3 g4 (pa_cons tu pa_nil rfl) (.some rfl rfl)
                refine ⟨PSs_weak (pss_cons (ps_set o.o.nd (o.o.slot h5) (o.o.loc h6).1 z1 rfl (o.o.loc h6).2) (pss_cons (ps_set o.o.nd (o.o.slot h7) (o.o.loc h8).1 fc rfl (o.o.loc h8).2) (hu Γ r X W hr o tk).b)) fun D σ H q => w_zst (tgSlots_all h17) D σ H q, fun x e => nomatch e⟩
              · cases hz
            · cases hz
          · cases hz
        · cases hz
      · cases hz
    · cases hz
theorem b_aug (i : Nat) (op : BOp) (se : SE' T lvl cf G fa ca e) : SB' T lvl cf G fa ca (.aug i op e) := by
  intro Γ l X W h o tk
  have h : on1 l (fun z0 => (match dAug z0 with
      | some (x, o, v) => (augB op o && (atB Γ.N i x && locB Γ x)) && mE T e Γ v
      | none => false)) = true := h
  obtain ⟨st, e9, h9⟩ := on1_eq h
  subst e9
  have h := h9
  split at h
  · rename_i x op2 v q
    obtain ⟨w1, h3⟩ := and2 h
    obtain ⟨h1, w2⟩ := and2 w1
    obtain ⟨h2, h4⟩ := and2 w2
    obtain ⟨p1, p2, rfl⟩ := dAug_eq q
    unfold augB at h1
    split at h1
    · rename_i qq eo
      obtain ⟨o2, f⟩ := qq
      have e1 : o2 = op2 := of_decide_eq_true h1
      subst e1
      exact .one (q_aug eo o.o.nd (o.o.slot h2) (o.o.loc h4) (se Γ v X W h3 o.o tk).v)
    · cases h1
  · cases h
theorem b_exp (se : SE' T lvl cf G fa ca e) : SB' T lvl cf G fa ca (.exp e) := by
  intro Γ l X W h o tk
  have h : on1 l (fun z0 => (match dExp z0 with
      | some v => noCompE v && mE T e Γ v
      | none => false)) = true := h
  obtain ⟨st, e9, h9⟩ := on1_eq h
  subst e9
  have h := h9
  split at h
  · rename_i v q
    obtain ⟨h1, h2⟩ := and2 h
    obtain ⟨p, rfl⟩ := dExp_eq q
    exact .one (q_exp (fun l => noComp_sw h1 _ _ _) (se Γ v X W h2 o.o tk).v)
  · cases h
theorem b_ret (se : SE' T lvl cf G fa ca e) : SB' T lvl cf G fa ca (.ret e) := by
  intro Γ l X W h o tk
  have h : on1 l (fun z0 => (match dRet z0 with
      | some v => mE T e Γ v
      | none => false)) = true := h
  obtain ⟨st, e9, h9⟩ := on1_eq h
  subst e9
  have h := h9
  split at h
  · rename_i v q
    obtain ⟨p, rfl⟩ := dRet_eq q
    exact .one (q_ret (se Γ v X W h o.o tk).v)
  · cases h
theorem b_ifs (sc : SE' T lvl cf G fa ca c) (hs : SB' T lvl cf G fa ca s) (hu : SB' T lvl cf G fa ca u) : SB' T lvl cf G fa ca (.ifs c s u) := by
  intro Γ l X W h o tk
  have h : on1 l (fun z0 => (match dIf z0 with
      | some (v, x, y) => (tstE v && mE T c Γ v) && (mB T s Γ x && mB T u Γ y)
      | none => false)) = true := h
  obtain ⟨st, e9, h9⟩ := on1_eq h
  subst e9
  have h := h9
  split at h
  · rename_i v x y q
    obtain ⟨w1, w2⟩ := and2 h
    obtain ⟨h1, h2⟩ := and2 w1
    obtain ⟨h3, h4⟩ := and2 w2
    obtain ⟨p, rfl⟩ := dIf_eq q
    exact .one (q_if ((sc Γ v X W h2 o.o tk).t h1) (hs Γ x X W h3 o tk).b (hu Γ y X W h4 o tk).b)
  · cases h
theorem b_whl (sc : SE' T lvl cf G fa ca c) (hs : SB' T lvl cf G fa ca s) : SB' T lvl cf G fa ca (.whl c s) := by
  intro Γ l X W h o tk
  have h : on1 l (fun z0 => (match dWh z0 with
      | some (v, x) => (tstE v && mE T c Γ v) && mB T s Γ x
      | none => false)) = true := h
  obtain ⟨st, e9, h9⟩ := on1_eq h
  subst e9
  have h := h9
  split at h
  · rename_i v x q
    obtain ⟨w1, h3⟩ := and2 h
    obtain ⟨h1, h2⟩ := and2 w1
    obtain ⟨p, rfl⟩ := dWh_eq q
    exact .one (q_while o.hp ((sc Γ v X W h2 o.o tk).t h1) (hs Γ x X W h3 o tk).b)
  · cases h
theorem b_fr (tg : Tg) (si : SI' T lvl cf G fa ca e) (hs : SB' T lvl cf G fa ca s) : SB' T lvl cf G fa ca (.fr tg e s) := by
  intro Γ l X W h o tk
  have h : on1 l (fun z0 => (match dFor z0 with
      | some (t, v, x) => (plainE v && mTg Γ tg t) && (mI T e Γ t v && mB T s Γ x)
      | none => false)) = true := h
  obtain ⟨st, e9, h9⟩ := on1_eq h
  subst e9
  have h := h9
  split at h
  · rename_i t v x q
    obtain ⟨w1, w2⟩ := and2 h
    obtain ⟨h1, h2⟩ := and2 w1
    obtain ⟨h3, h4⟩ := and2 w2
    obtain ⟨p, rfl⟩ := dFor_eq q
    exact .one (q_for o.hp o.o.cl h1 (si Γ t v X W h3 o.o tk) (snd_tg o.o tg t h2) (hs Γ x X W h4 o tk).b)
  · cases h
theorem b_raise (k : Nat) : SB' T lvl cf G fa ca (.raise k) := by
  intro Γ l X W h o tk
  have h : on1 l (fun z0 => (match dRaise z0 with
      | some x => atB T.exs k x && gName' Γ x
      | none => false)) = true := h
  obtain ⟨st, e9, h9⟩ := on1_eq h
  subst e9
  have h := h9
  split at h
  · rename_i x q
    obtain ⟨h1, h2⟩ := and2 h
    obtain ⟨g1, g2, _⟩ := glo o.o h2
    obtain ⟨p1, p2, p3, rfl⟩ := dRaise_eq q
    obtain ⟨e1, e2, e3, e4, _⟩ := o.ge.cl k x (atB_eq h1)
    exact .one (q_raise o.o.cl tk (pmk_own0 PySem.F.excBase_ValueError e2 e1 e3 e4 g1 g2))
  · cases h
theorem b_brk : SB' T lvl cf G fa ca .brk := by
  intro Γ l X W h o tk
  have h : on1 l isBrk = true := h
  obtain ⟨st, e9, h9⟩ := on1_eq h
  subst e9
  have h := h9
  unfold isBrk at h
  split at h
  · exact .one q_brk
  · cases h
theorem b_ct : SB' T lvl cf G fa ca .ct := by
  intro Γ l X W h o tk
  have h : on1 l isCt = true := h
  obtain ⟨st, e9, h9⟩ := on1_eq h
  subst e9
  have h := h9
  unfold isCt at h
  split at h
  · exact .one q_ct
  · cases h
end
end Mi
namespace Mi
open PySem PySem.Spec PyProof.Rows L2
section
variable {T : PTb} {lvl : Nat} {cf : CF} {G : List MV} {fa : FA} {ca : Nat → Addr} {Γ : SC} {X : Cx} {W : WX} {e : Ex} {s u : St}
theorem plcs_cons {i : Nat} {is : List Nat} {ts : List Expr} {l : List (Str × Pos)} (h : plcs Γ (i :: is) ts = some l) : ∃ x p ts2 l2, ts = .Name x p :: ts2 ∧ l = (x, p) :: l2 ∧ atB Γ.N i x = true ∧ plcB Γ x = true ∧ plcs Γ is ts2 = some l2 := by
  cases ts with
  | nil => cases h
  | cons t ts2 =>
    cases t with
    | Name x p =>
      have h : (match atB Γ.N i x && plcB Γ x with
        | true => (match plcs Γ is ts2 with
          | some l => some ((x, p) :: l)
          | none => none)
        | false => none) = some l := h
      cases q : (atB Γ.N i x && plcB Γ x) with
      | false => rw [q] at h; cases h
      | true =>
        rw [q] at h
        dsimp only at h
        cases q2 : plcs Γ is ts2 with
        | none => rw [q2] at h; cases h
        | some l2 =>
          rw [q2] at h
          cases h
          obtain ⟨h1, h2⟩ := and2 q
          exact ⟨x, p, ts2, l2, rfl, rfl, h1, h2, q2⟩
    | _ => cases h
theorem plcs_nil {ts : List Expr} {l : List (Str × Pos)} (h : plcs Γ [] ts = some l) : ts = [] ∧ l = [] := by
  cases ts with
  | nil => cases h; exact ⟨rfl, rfl⟩
  | cons t ts2 => cases h
theorem b_par (is : List Nat) (se : SL' T lvl cf G fa ca e) : SB' T lvl cf G fa ca (.par is e) := by
  intro Γ l X W h o tk
  have h : on1 l (fun z0 => (match dAsg z0 with
      | some (t, v, _) => parB Γ is t v && mL T e Γ (vsOf v)
      | none => false)) = true := h
  obtain ⟨st, e9, h9⟩ := on1_eq h
  subst e9
  have h := h9
  split at h
  · rename_i t v p q
    obtain ⟨h1, h2⟩ := and2 h
    obtain rfl := dAsg_eq q
    unfold parB at h1
    split at h1
    · rename_i ts vs q1 q2
      obtain ⟨kt, pt, rfl⟩ := dTup_eq q1
      obtain ⟨k2, pt2, rfl⟩ := dTup_eq q2
      obtain ⟨w1, w2⟩ := and2 h1
      obtain ⟨w3, w4⟩ := and2 w2
      obtain ⟨w5, w6⟩ := and2 w4
      obtain ⟨w7, w8⟩ := and2 w6
      obtain ⟨_, v1⟩ := and2 w1
      obtain ⟨v2, v3⟩ := and2 v1
      have v2 : vs.all (foldedForSure 8) = false := by simpa using v2
      have v3 : vs.all (constantsAlone 8) = false := by simpa using v3
      have z := se Γ vs X W h2 o.o tk
      have zp := z.p
      have zv := z.v
      split at w8
      · rename_i lp ql
        obtain ⟨u1, u2⟩ := and2 w8
        have nl := Nat.eq_of_beq_eq_true w5
        rcases Bool.or_eq_true_iff.mp w7 with w7 | w7
        · have n2 := Nat.eq_of_beq_eq_true w7
          match is, n2, ql, w3 with
          | [i, j], _, ql, w3 =>
            obtain ⟨x, px, ts2, l2, rfl, rfl, a1, a2, ql⟩ := plcs_cons ql
            obtain ⟨y, py, ts3, l3, rfl, rfl, b1, b2, ql⟩ := plcs_cons ql
            obtain ⟨rfl, rfl⟩ := plcs_nil ql
            match vs, nl, v2, v3, zp, zv with
            | [a, b], _, v2, v3, zp, zv =>
              have hij : i ≠ j := by
                intro hc
                subst hc
                simp [nodupN] at w3
              have hl : (py.line == px.line) = true := by
                have := (and2 (show ((py.line == px.line) && true) = true from u1)).1
                exact this
              obtain ⟨p1, p2⟩ := and2 zp
              exact .one (q_par2 o.o.cl o.o.nd (o.o.slot a1) (o.o.slot b1) hij (o.o.plc a2) (o.o.plc b2) zv (sw2 o.kd (o.o.plc a2) (o.o.plc b2) u2 hl p1 (and2 p2).1 v2 v3))
        · have n3 := Nat.eq_of_beq_eq_true w7
          match is, n3, ql, w3 with
          | [i, j, k], _, ql, w3 =>
            obtain ⟨x, px, ts2, l2, rfl, rfl, a1, a2, ql⟩ := plcs_cons ql
            obtain ⟨y, py, ts3, l3, rfl, rfl, b1, b2, ql⟩ := plcs_cons ql
            obtain ⟨z', pz, ts4, l4, rfl, rfl, c1, c2, ql⟩ := plcs_cons ql
            obtain ⟨rfl, rfl⟩ := plcs_nil ql
            match vs, nl, v2, v3, zp, zv with
            | [a, b, c], _, v2, v3, zp, zv =>
              have nn : i ≠ j ∧ i ≠ k ∧ j ≠ k := by
                refine ⟨?_, ?_, ?_⟩ <;>
                · intro hc
                  subst hc
                  simp [nodupN] at w3
              have hl := and2 (show ((py.line == px.line) && ((pz.line == px.line) && true)) = true from u1)
              obtain ⟨p1, p2⟩ := and2 zp
              obtain ⟨p2, p3⟩ := and2 p2
              exact .one (q_par3 o.o.cl o.o.nd (o.o.slot a1) (o.o.slot b1) (o.o.slot c1) nn.1 nn.2.1 nn.2.2 (o.o.plc a2) (o.o.plc b2) (o.o.plc c2) zv (sw3 o.kd (o.o.plc a2) (o.o.plc b2) (o.o.plc c2) u2 hl.1 (and2 hl.2).1 p1 p2 (and2 p3).1 v2 v3))
      · cases w8
    · cases h1
  · cases h
theorem GM.tr (g : GM T lvl cf G fa ca X) (pn : List (Addr × Obj)) (xe : Value → Shared → Prop) : GM T lvl cf G fa ca (X.tr pn xe) :=
  ⟨fun k x ps e => ⟨(g.fn k x ps e).ar, (g.fn k x ps e).ex⟩, fun k a e => (g.fv k a e).imp fun x q => q.imp fun ps F => ⟨F.ar, F.ex⟩, g.gl, g.bi, g.ma⟩
theorem SOk.tr (o : SOk T lvl cf G fa ca Γ X) (pn : List (Addr × Obj)) (xe : Value → Shared → Prop) (hp : PassesOwn (model X.prog X.w) X.A X.env xe) : SOk T lvl cf G fa ca Γ (X.tr pn xe) :=
  ⟨⟨o.o.eN, o.o.es, o.o.nd, o.o.cl, o.o.fc, o.o.rm, o.o.gm.tr pn xe⟩, hp, o.stk, o.efr, o.kd, ⟨o.ge.cl, o.ge.em⟩⟩
theorem GM.nox (g : GM T lvl cf G fa ca X) : GM T lvl cf G fa ca X.nox :=
  ⟨fun k x ps e => ⟨(g.fn k x ps e).ar, (g.fn k x ps e).ex⟩, fun k a e => (g.fv k a e).imp fun x q => q.imp fun ps F => ⟨F.ar, F.ex⟩, g.gl, g.bi, g.ma⟩
theorem SOk.nox (o : SOk T lvl cf G fa ca Γ X) : SOk T lvl cf G fa ca Γ X.nox :=
  ⟨⟨o.o.eN, o.o.es, o.o.nd, o.o.cl, o.o.fc, o.o.rm, o.o.gm.nox⟩, PassesOwn.never, o.stk, o.efr, o.kd, ⟨o.ge.cl, o.ge.em⟩⟩
theorem b_thru (hs : SB' T lvl cf G fa ca s) : SB' T lvl cf G fa ca (.thru s) := by
  intro Γ l X W h o tk
  have h : on1 l (fun z0 => (match dTry z0 with
      | some (x, _, _) => mB T s Γ x
      | none => false)) = true := h
  obtain ⟨st, e9, h9⟩ := on1_eq h
  subst e9
  have h := h9
  split at h
  · rename_i x h0 hds q
    obtain ⟨p, rfl⟩ := dTry_eq q
    exact .one (q_thru (hs Γ x X.nox W0 h o.nox takes0).b)
  · cases h
def tCl (T : PTb) (K : PySem.W.Frag) (ca : Nat → Addr) (j i : Nat) (x : Str) : Addr → Value → Option Addr → TS := fun a cls d D σ H => ∃ (kk : Nat) (y : Str), T.exs[kk]? = some y ∧ cls = .ref (ca kk) ∧ d = none ∧
  tAsg (tLst (tCons (tC (.str x)) (tCons (tCB (rIsE K (ca kk) a) (tCons (tVar j) (tCons (tC (.ty "ValueError")) tNil))) tNil))) (gName i) D σ H
def clsOf (T : PTb) (K : PySem.W.Frag) (ca : Nat → Addr) : List (Nat × Nat × Nat × Str) → List Cl
  | [] => []
  | (k, j, i, x) :: r => (.ref (ca k), j, tCl T K ca j i x) :: clsOf T K ca r
theorem cl_ok (o : SOk T lvl cf G fa ca Γ X) : ∀ {hs : List (Nat × Nat × Nat × Str)} {es : List ExceptHandler}, clB T Γ hs es = true → ClOk X es (clsOf T X.K ca hs)
  | [], [], _ => .nil
  | (k, j, i, y) :: r, e :: es, h => by
    have h : ((match dCl e with
      | some (c, n, t, x, f, m, v) => (atB T.exs k c && (glB Γ c && okN c)) && ((atB Γ.N j n && plcB Γ n) && ((atB Γ.N i t && plcB Γ t) && (decide (x = y) && ((decide (f = "isinstance") && gBlt T Γ f) && ((decide (m = n) && okN m) && (decide (v = "ValueError") && gBlt T Γ v))))))
      | none => false) && clB T Γ r es) = true := h
    obtain ⟨h0, hr⟩ := and2 h
    split at h0
    · rename_i c n t x f m v q
      obtain ⟨p1, p2, p3, kk, p4, p5, p6, p7, p8, p9, p10, rfl⟩ := dCl_eq q
      obtain ⟨w1, w2⟩ := and2 h0
      obtain ⟨c1, c2⟩ := and2 w1
      obtain ⟨w3, w4⟩ := and2 w2
      obtain ⟨w5, w6⟩ := and2 w4
      obtain ⟨x1, w7⟩ := and2 w6
      obtain ⟨w8, w9⟩ := and2 w7
      obtain ⟨f1, f2⟩ := and2 w8
      obtain ⟨w10, w11⟩ := and2 w9
      obtain ⟨m1, m2⟩ := and2 w10
      obtain ⟨v1, v2⟩ := and2 w11
      obtain ⟨n1, n2⟩ := and2 w3
      obtain ⟨t1, t2⟩ := and2 w5
      have ex : x = y := of_decide_eq_true x1
      have ef : f = "isinstance" := of_decide_eq_true f1
      have em : m = n := of_decide_eq_true m1
      have ev : v = "ValueError" := of_decide_eq_true v1
      subst ex ef em ev
      obtain ⟨gf1, gf2⟩ := blt o.o f2
      obtain ⟨gv1, gv2⟩ := blt o.o v2
      obtain ⟨e1, _⟩ := o.ge.cl k c (atB_eq c1)
      refine .cons ⟨o.o.glo (and2 c2).1, okN_1 (and2 c2).2, .inl e1⟩ (o.o.slot n1) (o.o.plc n2) (fun a oe cls d pn hz hf => ⟨fun pins s σ H D I ⟨k2, y2, g1, g2, g3, g4⟩ => ?_⟩) (cl_ok o hr)
      subst g2 g3
      obtain ⟨_, _, _, _, xc, _⟩ := o.ge.cl k2 y2 g1
      have sl := o.o.slot t1
      have pc := o.o.plc t2
      have isx : PE (X.suite a ((a, oe) :: pn)) (.Call (.Name "isinstance" p4) [.Name m p5, .Name "ValueError" p6] [] p7) (tCB (rIsE X.K (ca k2) a) (tCons (tVar j) (tCons (tC (.ty "ValueError")) tNil))) :=
        pe_callB (X := X.suite a ((a, oe) :: pn)) (call_isE (X := X) xc hz hf) gf1 gf2 (by decide +kernel) (pa_cons (pe_var (X := X.suite a ((a, oe) :: pn)) (o.o.slot n1) (.inl (o.o.plc n2)) (okN_1 m2) (okN_2 m2)) (pa_cons (pe_bltn (X := X.suite a ((a, oe) :: pn)) gv1 gv2 boot_ValueError rfl) pa_nil rfl) rfl) (by decide) (by decide) rfl rfl
      exact (pss_one (ps_set (X := X.suite a ((a, oe) :: pn)) o.o.nd sl (.inl pc) (pe_lst (pa_cons pe_str (pa_cons isx pa_nil rfl) rfl)) rfl (.inr pc))).run pins s σ H D I g4
    · cases h0
  | [], _ :: _, h => by cases h
  | (_, _, _, _) :: _, [], h => by cases h
variable {K : PySem.W.Frag} {μ : Mu} {H : Hp} {ρ : Rho} {σ : L2.St} {D : Ends} {h : Hm}
theorem SR.any (sr : SR K fa μ H ρ σ) (j : Nat) (o : Option V) : SR K fa μ H (setn ρ j .und) (σ.set j o) := by
  rw [setn_eq]
  refine ⟨by rw [List.length_set, List.length_set, sr.1], fun i y hy => ?_⟩
  by_cases e : j = i
  · subst e
    have hl : j < ρ.length := by
      have := (List.getElem?_eq_some_iff.mp hy).1
      rwa [List.length_set] at this
    rw [List.getElem?_set_self hl] at hy
    cases hy
    exact True.intro
  · rw [List.getElem?_set_ne e] at hy
    rw [List.getElem?_set_ne e]
    exact sr.2 i y hy
theorem cl_run (ge : GE T ca X) {c : Nat} (hc : c < T.exs.length) (hr : HR X.K fa μ h H) (sr : SR X.K fa μ H ρ σ) : ∀ (hs : List (Nat × Nat × Nat × Str)), (∀ q ∈ hs, q.1 < T.exs.length) → PostS X.K fa ca μ H W D (hksRun hs c ρ h) → wCl X.K W D (clsOf T X.K ca hs) (.ref (ca c)) none σ H
  | [], _, p => p μ H σ .refl hr sr
  | (k, j, i, x) :: r, hk, p => by
    refine ⟨Nat.beq k c, ge.em c k hc (hk _ List.mem_cons_self), fun e a na => ?_, fun e => ?_⟩
    · have p : PostS X.K fa ca μ H W D (match Nat.beq k c with
        | true => (match getn ρ j with
          | some _ => .nx (setn (setn (setn ρ j .und) i (.lref h.length)) j .und) (h ++ [.lst [.str x, .bl true]])
          | none => .bad)
        | false => hksRun r c ρ h) := p
      rw [e] at p
      dsimp only at p
      rw [getn_eq] at p
      cases ej : ρ[j]? with
      | none => rw [ej] at p; exact no p
      | some m =>
        rw [ej] at p
        dsimp only at p
        have hj : j < σ.length := by rw [← sr.1]; exact (List.getElem?_eq_some_iff.mp ej).1
        obtain ⟨y, hy⟩ : ∃ y, T.exs[c]? = some y := ⟨_, List.getElem?_eq_getElem hc⟩
        obtain ⟨_, _, _, _, _, kv⟩ := ge.cl c y hy
        refine ⟨c, y, hy, rfl, rfl, .ref a, by rw [List.getElem?_set_self hj], .ty "ValueError", .type "ValueError", true, rfl, fun u r => r, kv, ?_, fun q hq => ?_⟩
        · show 2 ≤ sizeLine
          decide
        · refine p (μ ++ [q]) _ _ (.grow hq) (hr.grow hq ⟨[.str x, .bl true], upd_same, .cons (.str _) (.cons (.bl _) .nil)⟩) ?_
          have s1 := ((sr.any j (some (.ref a))).ext hr.noTup (Ext.grow (o := .lst [.str x, .bl true]) hq)).set (i := i) (x := .lref h.length) (v := .ref q) (.lref (by rw [← hr.len]; simp))
          exact s1.forget j
    · have p : PostS X.K fa ca μ H W D (match Nat.beq k c with
        | true => (match getn ρ j with
          | some _ => .nx (setn (setn (setn ρ j .und) i (.lref h.length)) j .und) (h ++ [.lst [.str x, .bl true]])
          | none => .bad)
        | false => hksRun r c ρ h) := p
      rw [e] at p
      exact cl_run ge hc hr sr r (fun q hq => hk q (List.mem_cons_of_mem _ hq)) p
theorem clB_lt : ∀ {hs : List (Nat × Nat × Nat × Str)} {es : List ExceptHandler}, clB T Γ hs es = true → ∀ q ∈ hs, q.1 < T.exs.length
  | [], _, _, q, hq => absurd hq (by simp)
  | (k, j, i, y) :: r, e :: es, h, q, hq => by
    have h : ((match dCl e with
      | some (c, n, t, x, f, m, v) => (atB T.exs k c && (glB Γ c && okN c)) && ((atB Γ.N j n && plcB Γ n) && ((atB Γ.N i t && plcB Γ t) && (decide (x = y) && ((decide (f = "isinstance") && gBlt T Γ f) && ((decide (m = n) && okN m) && (decide (v = "ValueError") && gBlt T Γ v))))))
      | none => false) && clB T Γ r es) = true := h
    obtain ⟨h0, hr⟩ := and2 h
    rcases List.mem_cons.mp hq with rfl | hq
    · split at h0
      · exact (List.getElem?_eq_some_iff.mp (atB_eq (and2 (and2 h0).1).1)).1
      · cases h0
    · exact clB_lt hr q hq
  | (_, _, _, _) :: _, [], h, q, hq => by cases h
theorem b_trys (n : Nat) (hs : List (Nat × Nat × Nat × Str)) (hb : SB' T lvl cf G fa ca s) : SB' T lvl cf G fa ca (.trys s n hs) := by
  intro Γ l X W h o tk
  have h : on1 l (fun z0 => (match dTry z0 with
      | some (x, h, r) => (Nat.beq n T.exs.length && clB T Γ hs (h :: r)) && mB T s Γ x
      | none => false)) = true := h
  obtain ⟨st, e9, h9⟩ := on1_eq h
  subst e9
  have h := h9
  split at h
  · rename_i x h0 hds q
    obtain ⟨w1, h3⟩ := and2 h
    obtain ⟨h1, h2⟩ := and2 w1
    have en := Nat.eq_of_beq_eq_true h1
    obtain ⟨p, rfl⟩ := dTry_eq q
    refine .one (PS_weak (ps_try_cl (tb := fun W => TSo X.K fa ca W (run cf G s)) o.stk o.efr o.o.nd tk (fun W2 pn xe tk2 hp2 => (hb Γ x (X.tr pn xe) W2 h3 (o.tr pn xe hp2) tk2).b) (cl_ok o h2)) fun D σ H ⟨μ, ρ, hh, hr, sr, pp⟩ => ⟨μ, ρ, hh, hr, sr, ?_⟩)
    have pp : PostS X.K fa ca μ H W D (match run cf G s ρ hh with
      | .exc c ρ1 h1 => (match Nat.blt c n with
        | true => hksRun hs c ρ1 h1
        | false => .bad)
      | r => r) := pp
    cases e2 : run cf G s ρ hh with
    | nx ρ1 h1 => rw [e2] at pp; exact pp
    | ret v h1 => rw [e2] at pp; exact pp
    | brk ρ1 h1 => rw [e2] at pp; exact pp
    | ct ρ1 h1 => rw [e2] at pp; exact pp
    | bad => rw [e2] at pp; exact no pp
    | exc c ρ1 h1 =>
      rw [e2] at pp
      dsimp only at pp
      cases e3 : Nat.blt c n with
      | false => rw [e3] at pp; exact no pp
      | true =>
        rw [e3] at pp
        have hc : c < T.exs.length := by rw [← en]; exact Nat.le_of_ble_eq_true e3
        exact fun μ' H' σ' ex hr' sr' => cl_run o.ge hc hr' sr' hs (clB_lt h2) (PostS.step ex pp)
  · cases h
theorem snd_st : ∀ c : St, SB' T lvl cf G fa ca c := by
  have E := fun c : Ex => snd_all (T := T) (lvl := lvl) (cf := cf) (G := G) (fa := fa) (ca := ca) c
  intro c
  induction c with
  | skip => exact b_skip
  | seq a b ha hb => exact b_seq ha hb
  | asg tg e => exact b_asg tg (E e).1 fun tg2 it cond elt own _ => ⟨(E it).2.2.2.2, (E cond).1, (E elt).1⟩
  | par is es => exact b_par is (E es).2.1
  | put a i e => exact b_put (E a).1 (E i).1 (E e).1
  | swp a i b j es => exact b_swp (E a).1 (E i).1 (E b).1 (E j).1 (s_tup (E es).2.1)
  | zst z es j f tg elt own b hb => exact b_zst z j f tg own (E es).2.1 (E elt).1 hb
  | aug i op e => exact b_aug i op (E e).1
  | exp e => exact b_exp (E e).1
  | ret e => exact b_ret (E e).1
  | ifs c a b ha hb => exact b_ifs (E c).1 ha hb
  | whl c b hb => exact b_whl (E c).1 hb
  | fr tg it b hb => exact b_fr tg (E it).2.2.2.2 hb
  | raise c => exact b_raise c
  | trys b n hs hb => exact b_trys n hs hb
  | thru b hb => exact b_thru hb
  | brk => exact b_brk
  | ct => exact b_ct
end
end Mi
namespace Mi
open PySem PySem.Spec PyProof.Rows L2
theorem lookup_zip : ∀ {ps : List Str} {us : List Value}, us.length = ps.length → ∀ x ∈ ps, ((ps.zip us).lookup x).isSome = true
  | p :: ps, u :: us, hl, x, hx => by
    rw [List.zip_cons_cons, List.lookup_cons]
    cases e : (x == p) with
    | true => rfl
    | false =>
      rcases List.mem_cons.mp hx with rfl | hx
      · simp at e
      · exact lookup_zip (by simpa using hl) x hx
  | [], _, _, x, hx => absurd hx (by simp)
theorem filter_zip : ∀ {ps : List Str} {us : List Value}, ps.Nodup → us.length = ps.length → ps.filterMap (fun n => ((ps.zip us).lookup n).map (n, ·)) = ps.zip us := by
  have key : ∀ (ps qs : List Str) (us ws : List Value), (qs ++ ps).Nodup → us.length = ps.length → ws.length = qs.length → ps.filterMap (fun n => (((qs ++ ps).zip (ws ++ us)).lookup n).map (n, ·)) = ps.zip us := by
    intro ps
    induction ps with
    | nil => intro qs us ws _ _ _; simp
    | cons p ps ih =>
      intro qs us ws nd hl hw
      match us, hl with
      | u :: us, hl =>
        have hz : ((qs ++ p :: ps).zip (ws ++ u :: us)).lookup p = some u := by
          have hnot : ∀ (qs : List Str) (ws : List Value), ws.length = qs.length → p ∉ qs → ((qs ++ p :: ps).zip (ws ++ u :: us)).lookup p = some u := by
            intro qs
            induction qs with
            | nil => intro ws hw _; obtain rfl := List.eq_nil_of_length_eq_zero hw; simp
            | cons q qs ihq =>
              intro ws hw hq
              match ws, hw with
              | w :: ws, hw =>
                have hne : (p == q) = false := by simpa using fun e => hq (by rw [e]; exact List.mem_cons_self)
                simp only [List.cons_append, List.zip_cons_cons, List.lookup_cons, hne]
                exact ihq ws (by simpa using hw) fun z => hq (List.mem_cons_of_mem _ z)
          refine hnot qs ws hw fun z => ?_
          have := List.nodup_append.mp nd
          exact this.2.2 p z p List.mem_cons_self rfl
        rw [List.filterMap_cons, hz]
        simp only [Option.map_some, List.zip_cons_cons]
        congr 1
        have := ih (qs ++ [p]) us (ws ++ [u]) (by simpa using nd) (by simpa using hl) (by simp [hw])
        simpa using this
  intro ps us nd hl
  exact key ps [] us [] nd hl rfl
theorem bind_plain {fd : FuncData} {as : List PySem.Arg} {ps : List Str} (hp : fd.params = ⟨[], as, none, [], [], none, []⟩) (hn : as.map (·.arg) = ps) (hd : fd.defaults = .none) (nd : ps.Nodup) (us : List Value) (hl : us.length = ps.length) : bindArgs fd ⟨us, []⟩ = pure (ps.zip us) := by
  have e1 : ¬ (us.length > ps.length) := by omega
  have e2 : (ps.filter fun n => ((ps.zip us).lookup n).isNone) = [] := by
    refine List.filter_eq_nil_iff.mpr fun x hx => ?_
    have := lookup_zip hl x hx
    cases q : (ps.zip us).lookup x with
    | none => rw [q] at this; cases this
    | some v => simp
  have hs : seqItems? (.none : Value) = pure none := rfl
  unfold bindArgs
  simp only [hp, hn, hd, List.map_nil, List.nil_append, List.append_nil, hs, pure_bind, e1, List.length_nil, List.forIn_nil, Option.getD_none, List.drop_nil, Nat.sub_zero, Nat.zero_sub, List.take_length, e2, List.isEmpty_nil, List.drop_length, List.zip_nil_left, List.zip_nil_right]
  rw [if_neg (by simp), if_neg (by simp), if_neg (by simp), filter_zip nd hl]
mutual
def sameV : MV → MV → Bool
  | .non, y => (match y with
    | .non => true
    | _ => false)
  | .bl a, y => (match y with
    | .bl b => beqB a b
    | _ => false)
  | .int a, y => (match y with
    | .int b => ieq a b
    | _ => false)
  | .str a, y => (match y with
    | .str b => decide (a = b)
    | _ => false)
  | .tup d xs, y => (match y with
    | .tup c ys => (match Nat.beq d c with
      | true => sameL' xs ys
      | false => false)
    | _ => false)
  | _, _ => false
def sameL' : List MV → List MV → Bool
  | [], ys => (match ys with
    | [] => true
    | _ => false)
  | x :: xs, ys => (match ys with
    | y :: ys => (match sameV x y with
      | true => sameL' xs ys
      | false => false)
    | [] => false)
end
mutual
theorem sameV_eq : ∀ {x y : MV}, sameV x y = true → x = y
  | .non, y, h => by cases y <;> first | rfl | cases h
  | .bl a, y, h => by
    cases y <;> first | (cases h; done) | skip
    rename_i b
    have h : beqB a b = true := h
    rw [beqB_eq] at h
    rw [eq_of_beq h]
  | .int a, y, h => by
    cases y <;> first | (cases h; done) | skip
    rename_i b
    have h : ieq a b = true := h
    rw [ieq_eq] at h
    rw [of_decide_eq_true h]
  | .str a, y, h => by
    cases y <;> first | (cases h; done) | skip
    rw [of_decide_eq_true h]
  | .tup d xs, y, h => by
    cases y <;> first | (cases h; done) | skip
    rename_i c ys
    have h : (match Nat.beq d c with
      | true => sameL' xs ys
      | false => false) = true := h
    cases e : Nat.beq d c with
    | false => rw [e] at h; cases h
    | true =>
      rw [e] at h
      rw [Nat.eq_of_beq_eq_true e, sameL_eq h]
  | .und, _, h => by cases h
  | .opq, _, h => by cases h
  | .fn _, _, h => by cases h
  | .lref _, _, h => by cases h
  | .zipv _ _, _, h => by cases h
theorem sameL_eq : ∀ {xs ys : List MV}, sameL' xs ys = true → xs = ys
  | [], ys, h => by cases ys <;> first | rfl | cases h
  | x :: xs, ys, h => by
    cases ys with
    | nil => cases h
    | cons y ys =>
      have h : (match sameV x y with
        | true => sameL' xs ys
        | false => false) = true := h
      cases e : sameV x y with
      | false => rw [e] at h; cases h
      | true =>
        rw [e] at h
        rw [sameV_eq e, sameL_eq h]
end
abbrev Fast := Nat → List MV → Option MV
def callF (tab : List FnD) (G : List MV) (fast : Fast) : Nat → CF
  | 0 => fun _ _ _ => .bad
  | k + 1 => fun f vs h => (match fast f vs with
    | some v => .ok v h
    | none => (match getF tab f with
      | some d => (match Nat.beq vs.length d.np with
        | true => endF (run (callF tab G fast k) G d.body (vs ++ unds (d.ns - d.np)) h)
        | false => .bad)
      | none => .bad))
def Known (T : PTb) (fast : Fast) (c : CF) : Prop := ∀ (f : Nat) (vs : List MV) (v : MV), fast f vs = some v → (∃ h', c f vs [] = .ok v h') ∧ isP v = true ∧ vs.all isP = true ∧ ∀ x ps, T.fns[f]? = some (x, ps) → vs.length = ps.length
def FnT.sc (t : FnT) : SC := ⟨t.N, t.scope, fun _ => true⟩
def scopeB (t : FnT) : Bool := (match t.scope.kind with
    | .function => true
    | _ => false) && ((!t.scope.isCoroutine && !t.scope.isGenerator) && (decide (t.N.Nodup) && (decide (t.N.take t.ps.length = t.ps) && ((t.ps.all fun x => match t.scope.names.lookup x with
      | some .local => true
      | some .cell => true
      | _ => false) && t.scope.names.all fun y => match y.2 with
        | .free => false
        | _ => true))))
theorem scope_ok {t : FnT} (h : scopeB t = true) : FnScope t.N t.ps t.scope := by
  unfold scopeB at h
  obtain ⟨h1, h⟩ := and2 h
  obtain ⟨h2, h⟩ := and2 h
  obtain ⟨h2, h3⟩ := and2 h2
  obtain ⟨h4, h⟩ := and2 h
  obtain ⟨h5, h⟩ := and2 h
  obtain ⟨h6, h7⟩ := and2 h
  refine ⟨?_, by simpa using h2, by simpa using h3, of_decide_eq_true h4, of_decide_eq_true h5, fun x hx => ?_, fun y hy e => ?_⟩
  · split at h1
    · assumption
    · cases h1
  · have q := List.all_eq_true.mp h6 x hx
    split at q
    · exact .inl (by assumption)
    · exact .inr (by assumption)
    · cases q
  · have q := List.all_eq_true.mp h7 y hy
    rw [e] at q
    cases q
def argsB (t : FnT) : Bool := match t.params with
  | ⟨[], as, none, [], [], none, []⟩ => decide (as.map (·.arg) = t.ps)
  | _ => false
theorem args_ok {t : FnT} (h : argsB t = true) : ∃ as, t.params = ⟨[], as, none, [], [], none, []⟩ ∧ as.map (·.arg) = t.ps := by
  unfold argsB at h
  split at h
  · rename_i as e
    exact ⟨as, e, of_decide_eq_true h⟩
  · cases h
def fnB (T : PTb) (k : Nat) (t : FnT) (d : FnD) : Bool := scopeB t && (argsB t && ((Nat.beq d.np t.ps.length && Nat.beq d.ns t.N.length) && mB T d.body t.sc t.body))
section
variable {T : PTb} {tab : List FnD} {G : List MV} {fa : FA} {ca : Nat → Addr} {P : Program} {w : World} {K : PySem.W.Frag} {mg : Str → Option Value} {base : Heap}
structure ModOk (T : PTb) (ts : List FnT) (tab : List FnD) (G : List MV) (fa : FA) (ca : Nat → Addr) (K : PySem.W.Frag) (mg : Str → Option Value) : Prop where
  fns : ∀ (k : Nat) (x : Str) (ps : List Str), T.fns[k]? = some (x, ps) → ∃ t d a fd, ts[k]? = some t ∧ getF tab k = some d ∧ t.x = x ∧ t.ps = ps ∧ fnB T k t d = true ∧ fa k = some a ∧ mg x = some (.ref a) ∧ FunD K x x t.params t.body t.scope [] [] a fd ∧
    ∀ p ∈ T.kp, p.f = k → p.pm.length = ps.length ∧ ∀ (s : Shared) (us ws : List Value), us.length = p.n → ws.length = p.ks.length → BindsTo s fd ⟨us, p.ks.zip ws⟩ (ps.zip (permV (us ++ ws) p.pm))
  fv : ∀ (k : Nat) (a : Addr), fa k = some a → ∃ x ps, T.fns[k]? = some (x, ps)
  gl : ∀ (i : Nat) (x : Str), T.gls[i]? = some x → ∃ m v u, G[i]? = some m ∧ mg x = some u ∧ RelV v u ∧ ∀ μ H, VR K fa μ H m v
  bi : ∀ x : Str, x ∈ T.bis → mg x = none
  ma : ∀ p : Str × String, p ∈ T.mas → mg p.1 = some (.builtin p.2)
  cl : ∀ (k : Nat) (x : Str), T.exs[k]? = some x → mg x = some (.ref (ca k)) ∧ PySem.W.excIn K (ca k) [.type "ValueError", .type "Exception", .type "BaseException", .type "object"] "ValueError.__new__" = true ∧ PySem.W.keepIn K (.ref (ca k)) = true ∧
    (PySem.W.subIn K (.ref (ca k)) (.type "BaseException") = some true ∧ PySem.W.typeIn K (.ref (ca k)) = some (.type "type")) ∧ ExcC K (ca k) ∧ PySem.W.kitOne K (.ref (ca k)) (.type "ValueError") = some true
  em : ∀ (c k : Nat), c < T.exs.length → k < T.exs.length → PySem.W.exmOne K (.ref (ca c)) (.ref (ca k)) = some (Nat.beq k c)
structure AllOk (T : PTb) (P : Program) (w : World) (K : PySem.W.Frag) (mg : Str → Option Value) (base : Heap) (fa : FA) (ca : Nat → Addr) (lvl : Nat) (c : CF) : Prop where
  fn : ∀ (k : Nat) (x : Str) (ps : List Str), T.fns[k]? = some (x, ps) → ∀ (a : Addr) (fd : FuncData), fa k = some a → (∃ oc od osl, K.lookup a = some ⟨oc, od, .func fd, osl⟩) → FnOk P w K mg base (L2.CX P w) lvl a fd ps (spOf K fa ca c ps.length k)
  ar : ∀ (k : Nat) (x : Str) (ps : List Str), T.fns[k]? = some (x, ps) → ∀ (ms : List MV) (h : Hm), ms.length ≠ ps.length → c k ms h = .bad
theorem fun_look {x : Str} {ar : Arguments} {b : List Stmt} {sc : Scope} {a : Addr} {fd : FuncData} (F : FunD K x x ar b sc [] [] a fd) : ∃ oc od osl, K.lookup a = some ⟨oc, od, .func fd, osl⟩ := by
  obtain ⟨oc, od, dV, kV, doc, pm, an, cdv, ct, osl, rfl, lk, _⟩ := F.ex
  exact ⟨oc, od, osl, lk⟩
theorem all_bad : AllOk T P w K mg base fa ca 0 (fun _ _ _ => .bad) :=
  ⟨fun k x ps _ a fd _ _ => ⟨fun vs H Q E ⟨μ, h, ms, hr, vr, hl, p⟩ => by rw [← vr.length, hl], fun A outer s H args us vs Q E _ _ _ _ ⟨μ, h, ms, hr, vr, hl, p⟩ => no p⟩, fun _ _ _ _ _ _ _ => rfl⟩
theorem nodup_ps {t : FnT} (S : FnScope t.N t.ps t.scope) : t.ps.Nodup := by
  have := S.nd.sublist (List.take_sublist t.ps.length t.N)
  rw [S.pre] at this
  exact this
theorem fn_binds {t : FnT} {x : Str} {a : Addr} {fd : FuncData} (hs : scopeB t = true) (ha : argsB t = true) (F : FunD K x x t.params t.body t.scope [] [] a fd) : Binds K fd t.ps [] := by
  obtain ⟨as, e1, e2⟩ := args_ok ha
  exact F.bindsN fun kV doc pm an cdv ct us hl => bind_plain (as := as) e1 e2 rfl (nodup_ps (scope_ok hs)) us hl
theorem unds_len : ∀ n, (unds n).length = n
  | 0 => rfl
  | n + 1 => congrArg (· + 1) (unds_len n)
theorem unds_get : ∀ (n i : Nat) (x : MV), (unds n)[i]? = some x → x = .und
  | 0, i, x, e => by simp [unds] at e
  | n + 1, 0, x, e => by simp [unds] at e; exact e.symm
  | n + 1, i + 1, x, e => unds_get n i x (by simpa [unds] using e)
theorem start_sr {μ : Mu} {H : Hp} {ms : List MV} {vs : List V} {N : List Str} (vr : VRs K fa μ H ms vs) : SR K fa μ H (ms ++ unds (N.length - ms.length)) (L2.start N vs) := by
  refine ⟨?_, fun i x hx => ?_⟩
  · unfold L2.start
    rw [List.length_append, List.length_append, List.length_map, List.length_replicate, unds_len, vr.length]
  · by_cases hi : i < ms.length
    · rw [List.getElem?_append_left hi] at hx
      obtain ⟨v, hv, r⟩ := vr.get hx
      refine SlotR.of r ?_
      unfold L2.start
      rw [List.getElem?_append_left (by rw [List.length_map, ← vr.length]; exact hi), List.getElem?_map, hv]
      rfl
    · rw [List.getElem?_append_right (by omega)] at hx
      rw [unds_get _ _ _ hx]
      exact True.intro
theorem end_post {μ : Mu} {H : Hp} {Q : VK} {E : XK} {r : RS} (p : PostR K fa ca (VR K fa) μ H [] (fun cls d _ H' => E cls d H') Q (endF r)) : PostS K fa ca μ H (fun cls d _ H' => E cls d H') { nx := fun _ H' => Q .non H', rt := Q } r := by
  cases r with
  | nx ρ h => exact fun μ' H' σ' ex hr _ => p μ' H' .non ex hr .non
  | ret v h => exact fun μ' H' x ex hr vr => p μ' H' x ex hr vr
  | exc c ρ h => exact fun μ' H' σ' ex hr _ => p μ' H' ex hr
  | brk ρ h => exact no p
  | ct ρ h => exact no p
  | bad => exact no p
variable {ts : List FnT}
theorem all_up (M : ModOk T ts tab G fa ca K mg) {L : Nat} {c0 : CF} (A0 : AllOk T P w K mg base fa ca L c0) {fast : Fast} (Kn : Known T fast c0) : ∀ n : Nat, AllOk T P w K mg base fa ca (L + n) (callF tab G fast n)
  | 0 => ⟨fun k x ps _ a fd _ _ => ⟨fun vs H Q E ⟨μ, h, ms, hr, vr, hl, p⟩ => by rw [← vr.length, hl], fun A outer s H args us vs Q E _ _ _ _ ⟨μ, h, ms, hr, vr, hl, p⟩ => no p⟩, fun _ _ _ _ _ _ _ => rfl⟩
  | n + 1 => by
    have IH := all_up M A0 Kn n
    have unfold_none : ∀ (k : Nat) (ms : List MV) (h : Hm) (d : FnD), fast k ms = none → getF tab k = some d → callF tab G fast (n + 1) k ms h = (match Nat.beq ms.length d.np with
        | true => endF (run (callF tab G fast n) G d.body (ms ++ unds (d.ns - d.np)) h)
        | false => .bad) := fun k ms h d e1 e2 => by
      show (match fast k ms with
        | some v => R.ok v h
        | none => (match getF tab k with
          | some d => (match Nat.beq ms.length d.np with
            | true => endF (run (callF tab G fast n) G d.body (ms ++ unds (d.ns - d.np)) h)
            | false => .bad)
          | none => .bad)) = _
      rw [e1, e2]
    have unfold_some : ∀ (k : Nat) (ms : List MV) (h : Hm) (v : MV), fast k ms = some v → callF tab G fast (n + 1) k ms h = .ok v h := fun k ms h v e1 => by
      show (match fast k ms with
        | some v => R.ok v h
        | none => (match getF tab k with
          | some d => (match Nat.beq ms.length d.np with
            | true => endF (run (callF tab G fast n) G d.body (ms ++ unds (d.ns - d.np)) h)
            | false => .bad)
          | none => .bad)) = _
      rw [e1]
    refine ⟨fun k x ps hk a fd ha hlk => ?_, fun k x ps hk ms h hne => ?_⟩
    · obtain ⟨t, d, a', fd', ht, hd, hx, hps, hB, ha', hmg, F, hkp⟩ := M.fns k x ps hk
      have ea : a' = a := by rw [ha] at ha'; cases ha'; rfl
      subst ea
      have ef : fd' = fd := by
        obtain ⟨oc, od, osl, e1⟩ := hlk
        obtain ⟨oc2, od2, osl2, e2⟩ := fun_look F
        rw [e1] at e2
        cases e2
        rfl
      subst ef
      subst hps
      obtain ⟨b1, hB⟩ := and2 hB
      obtain ⟨b2, hB⟩ := and2 hB
      obtain ⟨b3, b5⟩ := and2 hB
      obtain ⟨b3, b4⟩ := and2 b3
      have np := Nat.eq_of_beq_eq_true b3
      have ns := Nat.eq_of_beq_eq_true b4
      have S := scope_ok b1
      have F0 := (A0.fn k x t.ps hk a' fd' ha hlk).mono (k := L + (n + 1)) (by omega)
      have F1 : FnOk P w K mg base (L2.CX P w) (L + n + 1) a' fd' t.ps (fun vs H Q E => ∃ (μ : Mu) (h : Hm) (ms : List MV), HR K fa μ h H ∧ VRs K fa μ H ms vs ∧ ms.length = t.ps.length ∧ fast k ms = none ∧ PostR K fa ca (VR K fa) μ H [] (fun cls d _ H' => E cls d H') Q (callF tab G fast (n + 1) k ms h)) := by
        refine F.ok S (fun vs H Q E ⟨μ, h, ms, hr, vr, hl, _⟩ => by rw [← vr.length, hl]) fun cdv A outer s H vs Q E hr ⟨μ, h, ms, hm, vr, hl, hf, p⟩ => ?_
        rw [unfold_none k ms h d hf hd, hl, np] at p
        have p : PostR K fa ca (VR K fa) μ H [] (fun cls d _ H' => E cls d H') Q (endF (run (callF tab G fast n) G d.body (ms ++ unds (d.ns - t.ps.length)) h)) := by
          have e : Nat.beq t.ps.length t.ps.length = true := Nat.beq_refl _
          rw [e] at p
          exact p
        have so : SOk T (L + n) (callF tab G fast n) G fa ca t.sc (cxOf (L2.CX P w) P w K mg base t.N x t.scope a' cdv A outer s H E) := by
          refine ⟨⟨rfl, rfl, S.nd, rfl, fun _ _ => rfl, hr, ⟨fun k2 x2 ps2 e => ⟨IH.ar k2 x2 ps2 e, ?_⟩, fun k2 a2 e => ?_, M.gl, M.bi, M.ma⟩⟩, passes_of rfl, rfl, rfl, S.kind, ⟨fun k2 x2 e => ?_, M.em⟩⟩
          · obtain ⟨t2, d2, a2, fd2, _, _, _, hps2, hB2, ha2, hmg2, F2, hkp2⟩ := M.fns k2 x2 ps2 e
            subst hps2
            obtain ⟨c1, hB2⟩ := and2 hB2
            obtain ⟨c2, hB2⟩ := and2 hB2
            exact ⟨a2, fd2, ha2, hmg2, F2.kp, IH.fn k2 x2 t2.ps e a2 fd2 ha2 (fun_look F2), fn_binds c1 c2 F2, hkp2⟩
          · obtain ⟨x2, ps2, e2⟩ := M.fv k2 a2 e
            refine ⟨x2, ps2, IH.ar k2 x2 ps2 e2, ?_⟩
            obtain ⟨t2, d2, a3, fd2, _, _, _, hps2, hB2, ha2, hmg2, F2, hkp2⟩ := M.fns k2 x2 ps2 e2
            subst hps2
            obtain ⟨c1, hB2⟩ := and2 hB2
            obtain ⟨c2, hB2⟩ := and2 hB2
            exact ⟨a3, fd2, ha2, hmg2, F2.kp, IH.fn k2 x2 t2.ps e2 a3 fd2 ha2 (fun_look F2), fn_binds c1 c2 F2, hkp2⟩
          · obtain ⟨g1, g2, g3, g4, g5, g6⟩ := M.cl k2 x2 e
            exact ⟨g1, g2, g3, raises_own g4.1 g4.2, g5, g6⟩
        refine ⟨_, (snd_st d.body t.sc t.body _ (fun cls d _ H' => E cls d H') b5 so (takes_of rfl rfl rfl rfl)).b, μ, ms ++ unds (d.ns - t.ps.length), h, hm, ?_, end_post p⟩
        rw [ns, ← hl]
        exact start_sr vr
      refine ⟨fun vs H Q E ⟨μ, h, ms, hr, vr, hl, _⟩ => by rw [← vr.length, hl], fun A outer s H args us vs Q E hr he hb hv ⟨μ, h, ms, hm, vr, hl, p⟩ => ?_⟩
      cases hf : fast k ms with
      | none => exact F1.run A outer s H args us vs Q E hr he hb hv ⟨μ, h, ms, hm, vr, hl, hf, p⟩
      | some v =>
        rw [unfold_some k ms h v hf] at p
        obtain ⟨⟨h', q1⟩, q2, q3, _⟩ := Kn k ms v hf
        refine F0.run A outer s H args us vs Q E hr he hb hv ⟨[], [], ms, HR.nil, vr.pure fun x hx => isP_rk (List.all_eq_true.mp q3 x hx), hl, ?_⟩
        rw [q1]
        intro μ' H' y ex hr' yr
        exact p μ H' y ⟨fun _ _ z => z, fun _ z => .inl z, fun a o z _ => ex.keep a o z (by simp)⟩ (hm.beside ex) (yr.pure (isP_rk q2))
    · obtain ⟨t, d, a', fd', ht, hd, hx, hps, hB, ha', hmg, F, hkp⟩ := M.fns k x ps hk
      subst hps
      obtain ⟨b1, hB⟩ := and2 hB
      obtain ⟨b2, hB⟩ := and2 hB
      obtain ⟨b3, b5⟩ := and2 hB
      obtain ⟨b3, b4⟩ := and2 b3
      have np := Nat.eq_of_beq_eq_true b3
      cases hf : fast k ms with
      | none =>
        rw [unfold_none k ms h d hf hd, np]
        cases e : Nat.beq ms.length t.ps.length with
        | true => exact absurd (Nat.eq_of_beq_eq_true e) hne
        | false => rfl
      | some v => exact absurd ((Kn k ms v hf).2.2.2 x t.ps hk) hne
end
end Mi
namespace Mi
open PySem PySem.Spec PyProof.Rows L2
section
variable {K : PySem.W.Frag} {fa : FA}
mutual
theorem relK_ok : ∀ {m : MV} {u : Value}, relK K m u = true → ∃ v, RelV v u ∧ ∀ μ H, VR K fa μ H m v
  | .non, u, h => by
    cases u <;> first | (cases h; done) | exact ⟨.non, rfl, fun _ _ => .non⟩
  | .bl b, u, h => by
    cases u <;> first | (cases h; done) | skip
    rename_i c
    have h : beqB b c = true := h
    rw [beqB_eq] at h
    rw [eq_of_beq h]
    exact ⟨.bl c, rfl, fun _ _ => .bl _⟩
  | .int i, u, h => by
    cases u <;> first | (cases h; done) | skip
    rename_i j t
    have h : ieq i j = true := h
    rw [ieq_eq] at h
    rw [of_decide_eq_true h]
    exact ⟨.int j, ⟨t, rfl⟩, fun _ _ => .int _⟩
  | .str x, u, h => by
    cases u <;> first | (cases h; done) | skip
    rename_i y t
    have h : decide (x = y) = true := h
    rw [of_decide_eq_true h]
    exact ⟨.str y, ⟨t, rfl⟩, fun _ _ => .str _⟩
  | .tup d xs, u, h => by
    cases u <;> first | (cases h; done) | skip
    rename_i a
    have h : (match K.lookup a with
      | some ⟨.type c, _, .seq its _, _⟩ => decide (c = "tuple") && (decide (its.size ≤ sizeLine) && (Nat.beq d (rkL xs) && relKs K xs its.toList))
      | _ => false) = true := h
    split at h
    · rename_i c od its n sl q
      obtain ⟨h1, h⟩ := and2 h
      obtain ⟨h2, h⟩ := and2 h
      obtain ⟨h3, h4⟩ := and2 h
      obtain ⟨vs, r1, r2⟩ := relKs_ok h4
      refine ⟨.ref a, rfl, fun μ H => ?_⟩
      have e : d = rkL xs := Nat.eq_of_beq_eq_true h3
      subst e
      exact .tup (.inr ⟨_, its, n, q, congrArg Value.type (of_decide_eq_true h1), rfl, of_decide_eq_true h2, r1⟩) (r2 μ H) (rkL_ok xs)
    · cases h
  | .und, _, h => by cases h
  | .opq, _, h => by cases h
  | .fn _, _, h => by cases h
  | .lref _, _, h => by cases h
  | .zipv _ _, _, h => by cases h
theorem relKs_ok : ∀ {ms : List MV} {us : List Value}, relKs K ms us = true → ∃ vs, Vals vs us ∧ ∀ μ H, VRs K fa μ H ms vs
  | [], us, h => by
    obtain rfl := isEmpty_nil (show us.isEmpty = true from h)
    exact ⟨[], .nil, fun _ _ => .nil⟩
  | m :: ms, us, h => by
    cases us with
    | nil => cases h
    | cons u us =>
      obtain ⟨h1, h2⟩ := and2 (show (relK K m u && relKs K ms us) = true from h)
      obtain ⟨v, a1, a2⟩ := relK_ok h1
      obtain ⟨vs, b1, b2⟩ := relKs_ok h2
      exact ⟨v :: vs, .cons a1 b1, fun μ H => .cons (a2 μ H) (b2 μ H)⟩
end
end
theorem lEq_eq : ∀ as bs : List Nat, lEq as bs = decide (as = bs)
  | [], [] => rfl
  | [], _ :: _ => rfl
  | _ :: _, [] => rfl
  | a :: as, b :: bs => by
    unfold lEq
    cases q : Nat.beq a b with
    | true =>
      have e : a = b := Nat.eq_of_beq_eq_true q
      subst e
      show lEq as bs = _
      rw [lEq_eq as bs]
      simp
    | false =>
      have e : a ≠ b := fun e => by subst e; rw [Nat.beq_refl] at q; cases q
      show false = _
      simp [e]
theorem sEq_eq (x y : Str) : sEq x y = (x == y) := by
  unfold sEq
  rw [lEq_eq, Bool.eq_iff_iff, decide_eq_true_iff, beq_iff_eq]
  obtain ⟨⟨a⟩⟩ := x
  obtain ⟨⟨b⟩⟩ := y
  simp
theorem kyF_eq (v : Value) (y : Str) : kyF v y = v.isStr y := by
  cases v <;> first | rfl | exact sEq_eq _ _
theorem enF_eq (y : Str) : ∀ l : List DictEntry, enF y l = (l.find? (·.key.isStr y)).map (·.val)
  | [] => rfl
  | e :: r => by
    unfold enF
    rw [List.find?_cons, ← kyF_eq]
    cases kyF e.key y with
    | true => rfl
    | false => exact enF_eq y r
theorem frG_mem {g : Addr → Option Obj} {a : Addr} : ∀ {as : List Addr}, a ∈ as → (He.frG g as).lookup a = g a
  | [], e => by cases e
  | b :: r, e => by
    unfold He.frG
    cases hb : g b with
    | none =>
      rw [List.filterMap_cons, hb]
      show (He.frG g r).lookup a = g a
      rcases List.mem_cons.mp e with rfl | e
      · cases q : (He.frG g r).lookup a with
        | none => exact hb.symm
        | some o =>
          exact (He.frG_at r q).symm
      · exact frG_mem e
    | some ob =>
      rw [List.filterMap_cons, hb]
      show (match a == b with | true => some ob | false => (He.frG g r).lookup a) = g a
      cases q : (a == b) with
      | true => rw [beq_iff_eq.mp q, hb]
      | false =>
        rcases List.mem_cons.mp e with rfl | e
        · simp at q
        · exact frG_mem e
theorem atG_eq {g : Addr → Option Obj} {as : List Addr} {N : Nat} {a : Addr} {o : Obj} (e : atG g N a = some o) : (He.frG g (asN as N)).lookup a = some o := by
  unfold atG at e
  split at e
  · rename_i q
    have m : a ∈ asN as N := List.mem_append_right _ (List.mem_range.mpr (by rw [Nat.blt_eq] at q; exact q))
    exact (frG_mem m).trans e
  · cases e
theorem cdG_ok {g : Addr → Option Obj} {as : List Addr} {N : Nat} {cd : Value} {q : Str} (e : cdG g N cd q = true) : PySem.W.codeIn (He.frG g (asN as N)) cd q = true := by
  unfold cdG at e
  split at e
  · rename_i c
    split at e
    · rename_i h1
      have h2 := atG_eq (as := as) h1
      simp only [PySem.W.codeIn, h2]
      exact e
    · cases e
  · cases e
theorem enF_ns {g : Addr → Option Obj} {as : List Addr} {N : Nat} {x : Str} {u : Value} (e : enF x (glF g N) = some u) : PySem.W.nsIn (He.frG g (asN as N)) mainGlobals x = some (some u) := by
  unfold glF at e
  cases q : atG g N mainGlobals with
  | none => rw [q] at e; cases e
  | some o =>
    obtain ⟨c0, d0, dt, s0⟩ := o
    rw [q] at e
    have h2 := atG_eq (as := as) q
    cases dt with
    | dict es n =>
      have e : enF x es.toList = some u := e
      rw [enF_eq] at e
      obtain ⟨en, f1, f2⟩ := Option.map_eq_some_iff.mp e
      simp only [PySem.W.nsIn, h2, f1, f2]
    | _ => cases e
theorem fnG_ok {g : Addr → Option Obj} {as : List Addr} {N : Nat} {t : FnT} (e : (fnG g N t.x).1 = true) : (He.Fa.glo t.x).ok (He.frG g (asN as N)) = true ∧ ((ddM t).ok (He.frG g (asN as N)) = true ∧ He.fnW (He.frG g (asN as N)) (ddM t).at_ = (fnG g N t.x).2) := by
  have hn := @enF_ns g as N t.x
  generalize hK : He.frG g (asN as N) = K at hn ⊢
  have key : ∀ a fd c0 d0 s0, PySem.W.nsIn K mainGlobals t.x = some (some (.ref a)) → atG g N a = some ⟨c0, d0, .func fd, s0⟩ → cdG g N fd.code t.x = true → nnV fd.defaults = true → (He.Fa.glo t.x).ok K = true ∧ ((ddM t).ok K = true ∧ He.fnW K (ddM t).at_ = some (fd.name, fd.qualname, fd.params, fd.body, fd.scope, fd.globals, fd.closure, fd.builtins)) := by
    intro a fd c0 d0 s0 ha hl e1 e2
    have el := atG_eq (as := as) hl
    have e3 := cdG_ok (as := as) e1
    rw [hK] at el e3
    have eg : He.ga K t.x = a := by simp only [He.ga, ha]
    have ea : He.fAd K (ddM t).at_ = a := eg
    have e4 : He.dflB K fd.defaults [] = true := by
      unfold He.dflB
      cases q : fd.defaults <;> rw [q] at e2 <;> first | rfl | cases e2
    refine ⟨?_, ?_, ?_⟩
    · show He.eqO (PySem.W.nsIn K mainGlobals t.x) (some (some (.ref (He.ga K t.x)))) = true
      rw [eg, ha]
      simp [He.eqO]
    · have e5 : PySem.W.keepIn K (.ref a) = true := by simp only [PySem.W.keepIn, el]
      have e6 : (PySem.W.codeIn K fd.code t.x && (He.dflB K fd.defaults [] && true)) = true := by rw [e3, e4]; rfl
      simp only [He.DefD.ok, ea, el, e5, Bool.true_and]
      exact e6
    · simp only [He.fnW, ea, el]
  cases q1 : enF t.x (glF g N) with
  | none => simp [fnG, q1] at e
  | some v =>
    cases v with
    | ref a =>
      cases q2 : atG g N a with
      | none => simp [fnG, q1, q2] at e
      | some o =>
        obtain ⟨c0, d0, dt, s0⟩ := o
        cases dt with
        | func fd =>
          simp only [fnG, q1, q2] at e ⊢
          obtain ⟨e1, e2⟩ := and2 e
          exact key a fd c0 d0 s0 (hn q1) q2 e1 e2
        | _ => simp [fnG, q1, q2] at e
    | _ => simp [fnG, q1] at e
theorem frB_ok {T : PTb} {g : Addr → Option Obj} {as : List Addr} {N : Nat} (e : frB T g N = true) {x : Str} (m : x ∈ T.bis) : (He.Fa.free x).ok (He.frG g (asN as N)) = true := by
  obtain ⟨e1, e2⟩ := and2 e
  obtain ⟨e3, e4⟩ := and2 e2
  have e5 : (enF x (glF g N)).isNone = true := List.all_eq_true.mp e4 x m
  cases q : atG g N mainGlobals with
  | none => rw [q] at e1; cases e1
  | some o =>
    obtain ⟨c0, d0, dt, s0⟩ := o
    have h2 := atG_eq (as := as) q
    cases dt with
    | dict es n =>
      have eg : glF g N = es.toList := by simp only [glF, q]
      rw [eg] at e3 e5
      rw [enF_eq, Option.isNone_map, Option.isNone_iff_eq_none] at e5
      have e6 : es.toList.any (·.refKey) = false := by
        rw [List.any_eq_false]
        intro d md
        simpa using List.all_eq_true.mp e3 d md
      show He.eqO (PySem.W.nsIn _ mainGlobals x) (some none) = true
      have e7 : PySem.W.nsIn (He.frG g (asN as N)) mainGlobals x = some none := by
        simp only [PySem.W.nsIn, h2, e5, e6]
        rfl
      rw [e7]
      simp [He.eqO]
    | _ => rw [q] at e1; cases e1
theorem obsF_ok {T : PTb} {G : List MV} {ts : List FnT} {g : Addr → Option Obj} {as : List Addr} {N : Nat} (hn : T.fns.map (·.1) = ts.map (·.x)) (e : obsF T G ts (He.frG g (asN as N)) g N = He.valD (fnM ts)) : obsM T G ts (He.frG g (asN as N)) = He.valD (fnM ts) := by
  obtain ⟨e1, e2⟩ := Prod.mk.inj e
  obtain ⟨f1, f2⟩ := and2 e1
  obtain ⟨f0, f2⟩ := and2 f2
  obtain ⟨f3, f4⟩ := and2 f2
  have h : ∀ t ∈ ts, _ := fun t m => fnG_ok (as := as) (t := t) (List.all_eq_true.mp f4 t m)
  have f5 := List.all_eq_true.mp f1
  refine Prod.ext (Bool.and_eq_true_iff.mpr ⟨List.all_eq_true.mpr fun f m => ?_, Bool.and_eq_true_iff.mpr ⟨f3, List.all_eq_true.mpr fun d m => ?_⟩⟩) ?_
  · rcases List.mem_append.mp m with m | m
    · obtain ⟨p, mp, rfl⟩ := List.mem_map.mp m
      have m2 : p.1 ∈ T.fns.map (·.1) := List.mem_map.mpr ⟨p, mp, rfl⟩
      rw [hn] at m2
      obtain ⟨t, mt, et⟩ := List.mem_map.mp m2
      rw [← et]
      exact (h t mt).1
    · rcases List.mem_append.mp m with m | m
      · exact f5 f (List.mem_append_left _ m)
      · rcases List.mem_append.mp m with m | m
        · exact f5 f (List.mem_append_right _ (List.mem_append_left _ m))
        · rcases List.mem_append.mp m with m | m
          · exact f5 f (List.mem_append_right _ (List.mem_append_right _ m))
          · obtain ⟨x, mx, rfl⟩ := List.mem_map.mp m
            exact frB_ok f0 mx
  · obtain ⟨t, mt, rfl⟩ := List.mem_map.mp m
    exact (h t mt).2.1
  · show (ts.map ddM).map (fun d => He.fnW _ d.at_) = _
    rw [List.map_map]
    refine Eq.trans (List.map_congr_left fun t m => ?_) e2
    exact (h t m).2.2
def hookM (as : List Addr) (N : Nat) (T : PTb) (G : List MV) (ts : List FnT) (hn : T.fns.map (·.1) = ts.map (·.x)) : PySem.W.Hook where
  α := He.AlD
  obs := fun s => obsF T G ts (He.frG s.heap.get? (asN as N)) s.heap.get? N
  val := fun _ => He.valD (fnM ts)
  says := fun _ h => ∃ K : PySem.W.Frag, K.In h ∧ obsM T G ts K = He.valD (fnM ts)
  of := fun _ _ e => ⟨_, He.frG_in, obsF_ok hn e⟩
  keeps := fun _ _ _ ⟨K, hK, c⟩ k => ⟨K, PySem.W.Frag.In.keeps hK k, c⟩
theorem obM_eq {as : List Addr} {N : Nat} {T : PTb} {G : List MV} {ts : List FnT} {hn : T.fns.map (·.1) = ts.map (·.x)} (s : PySem.W.SharedT) : obM as N T G ts (HandSHeadRun.getT s) = (hookM as N T G ts hn).obs s.abs := by
  have e : HandSHeadRun.getT s = s.abs.heap.get? := funext (HandSHeadRun.getT_eq s)
  rw [e] <;> rfl
def allB (T : PTb) : Nat → List (Str × List Str) → List FnT → List FnD → Bool
  | _, [], ts, ds => ts.isEmpty && ds.isEmpty
  | k, p :: r, ts, ds => (match ts, ds with
    | t :: ts, d :: ds => (decide (t.x = p.1) && decide (t.ps = p.2)) && (fnB T k t d && allB T (k + 1) r ts ds)
    | _, _ => false)
theorem allB_ok {T : PTb} : ∀ {r : List (Str × List Str)} {ts : List FnT} {ds : List FnD} {j : Nat}, allB T j r ts ds = true → ∀ {k : Nat} {x : Str} {ps : List Str}, r[k]? = some (x, ps) → ∃ t d, ts[k]? = some t ∧ getF ds k = some d ∧ t.x = x ∧ t.ps = ps ∧ fnB T (j + k) t d = true
  | [], _, _, _, _, k, x, ps, e => by simp at e
  | p :: r, ts, ds, j, h, k, x, ps, e => by
    cases ts with
    | nil => cases h
    | cons t ts =>
      cases ds with
      | nil => cases h
      | cons d ds =>
        have h : ((decide (t.x = p.1) && decide (t.ps = p.2)) && (fnB T j t d && allB T (j + 1) r ts ds)) = true := h
        obtain ⟨h1, h2⟩ := and2 h
        obtain ⟨h3, h4⟩ := and2 h2
        cases k with
        | zero =>
          have e : p = (x, ps) := by simpa using e
          subst e
          exact ⟨t, d, rfl, rfl, of_decide_eq_true (and2 h1).1, of_decide_eq_true (and2 h1).2, h3⟩
        | succ k =>
          obtain ⟨t2, d2, a1, a2, a3, a4, a5⟩ := allB_ok h4 (k := k) (by simpa using e)
          exact ⟨t2, d2, by simpa using a1, a2, a3, a4, by rw [show j + (k + 1) = j + 1 + k by omega]; exact a5⟩
def KwOk (t : FnT) (p : KPat) : Prop := p.pm.length = t.ps.length ∧ ∀ (kV doc pm : Value) (an : Option Addr) (cdv ct : Value) (us ws : List Value), us.length = p.n → ws.length = p.ks.length → bindArgs (PySem.W.fnOf t.x t.x t.params t.body t.scope .none kV doc pm an cdv ct) ⟨us, p.ks.zip ws⟩ = pure (t.ps.zip (permV (us ++ ws) p.pm))
def faOf (T : PTb) (K : PySem.W.Frag) : FA := fun k => (T.fns[k]?).map fun p => He.ga K p.1
def caOf (T : PTb) (K : PySem.W.Frag) : Nat → Addr := fun k => match T.exs[k]? with
  | some x => He.ga K x
  | none => 0
section
variable {T : PTb} {ts : List FnT} {tab : List FnD} {G : List MV} {K : PySem.W.Frag} {mg : Str → Option Value} {h : Heap}
theorem glsB_ok (Xn : K.In h) (Gn : h.Ns mainGlobals mg) {fa : FA} : ∀ {xs : List Str} {ms : List MV}, glsB K xs ms = true → ∀ {i : Nat} {x : Str}, xs[i]? = some x → ∃ m v u, ms[i]? = some m ∧ mg x = some u ∧ RelV v u ∧ ∀ μ H, VR K fa μ H m v
  | [], _, _, i, x, e => by simp at e
  | y :: xs, ms, hb, i, x, e => by
    cases ms with
    | nil => cases hb
    | cons m ms =>
      have hb : ((match PySem.W.nsIn K mainGlobals y with
        | some (some u) => relK K m u
        | _ => false) && glsB K xs ms) = true := hb
      obtain ⟨h1, h2⟩ := and2 hb
      cases i with
      | zero =>
        have e : y = x := by simpa using e
        subst e
        split at h1
        · rename_i u q
          obtain ⟨v, r1, r2⟩ := relK_ok (fa := fa) h1
          exact ⟨m, v, u, rfl, PySem.W.mg_of Xn Gn q, r1, r2⟩
        · cases h1
      | succ i =>
        obtain ⟨m2, v, u, a1, a2⟩ := glsB_ok Xn Gn (fa := fa) h2 (i := i) (by simpa using e)
        exact ⟨m2, v, u, by simpa using a1, a2⟩
theorem modOk (nd : (T.fns.map (·.1)).Nodup) (ex : T.exs.Nodup) (hB : allB T 0 T.fns ts tab = true) (kp : ∀ p ∈ T.kp, ∃ t, ts[p.f]? = some t ∧ KwOk t p) (Xn : K.In h) (Gn : h.Ns mainGlobals mg) (c : obsM T G ts K = He.valD (fnM ts)) : ModOk T ts tab G (faOf T K) (caOf T K) K mg := by
  have c0 := congrArg (fun z : He.AlD => z.1) c
  have c0 : (((faM T).all fun f => f.ok K) && (ckM T G K && (fnM ts).all fun d => d.ok K)) = true := c0
  obtain ⟨c1, c2⟩ := and2 c0
  obtain ⟨c2, c3⟩ := and2 c2
  obtain ⟨k1, k2⟩ := and2 c2
  obtain ⟨k2, k3⟩ := and2 k2
  have fact : ∀ f ∈ faM T, f.ok K = true := fun f hf => List.all_eq_true.mp c1 f hf
  have gloF : ∀ k x ps, T.fns[k]? = some (x, ps) → mg x = some (.ref (He.ga K x)) := fun k x ps e => He.glo_ok Xn Gn (fact (.glo x) (List.mem_append_left _ (List.mem_map.mpr ⟨(x, ps), List.mem_of_getElem? e, rfl⟩)))
  have inE : ∀ {f : He.Fa}, f ∈ T.exs.map (fun x => He.Fa.glo x) ++ (T.exs.map (fun x => .exc x) ++ (pairs T.exs ++ T.bis.map fun x => .free x)) → f.ok K = true := fun hf => fact _ (List.mem_append_right _ hf)
  have caE : ∀ k x, T.exs[k]? = some x → caOf T K k = He.ga K x := fun k x e => by unfold caOf; rw [e]
  refine ⟨fun k x ps hk => ?_, fun k a e => ?_, fun i x e => glsB_ok Xn Gn k1 e, fun x hx => ?_, fun p hp => ?_, fun k x e => ?_, fun c k hc hk => ?_⟩
  · obtain ⟨t, d, a1, a2, a3, a4, a5⟩ := allB_ok hB hk
    rw [Nat.zero_add] at a5
    have e2 : (fnM ts)[k]? = some (ddM t) := by unfold fnM; rw [List.getElem?_map, a1]; rfl
    have e1 : (fnM ts).map (fun d => He.fnW K d.at_) = (fnM ts).map He.DefD.val := congrArg (fun z : He.AlD => z.2) c
    have e3 : ((fnM ts).map fun d => He.fnW K d.at_)[k]? = ((fnM ts).map He.DefD.val)[k]? := by rw [e1]
    rw [List.getElem?_map, List.getElem?_map, e2] at e3
    obtain ⟨fd, F⟩ := He.DefD.funD (Option.some.inj e3) (List.all_eq_true.mp c3 _ (List.mem_of_getElem? e2))
    have F : FunD K t.x t.x t.params t.body t.scope [] [] (He.ga K t.x) fd := F
    subst a3
    refine ⟨t, d, He.ga K t.x, fd, a1, a2, rfl, a4, a5, by unfold faOf; rw [hk]; rfl, gloF k t.x ps hk, F, fun p hp pf => ?_⟩
    obtain ⟨t2, b1, b2, b3⟩ := kp p hp
    rw [pf, a1] at b1
    cases b1
    subst a4
    refine ⟨b2, fun s us ws l1 l2 => ?_⟩
    obtain ⟨oc, od, dV, kV, doc, pm, an, cdv, ct, osl, rfl, lk, hcd, hD, hK⟩ := F.ex
    rcases hD with ⟨_, rfl⟩ | ⟨z, _⟩
    · exact .of_eq (b3 kV doc pm an cdv ct us ws l1 l2)
    · exact absurd rfl z
  · unfold faOf at e
    cases q : T.fns[k]? with
    | none => rw [q] at e; cases e
    | some p => exact ⟨p.1, p.2, rfl⟩
  · exact He.free_ok Xn Gn (inE (List.mem_append_right _ (List.mem_append_right _ (List.mem_append_right _ (List.mem_map.mpr ⟨x, hx, rfl⟩)))))
  · exact PySem.W.mg_of Xn Gn (of_decide_eq_true (List.all_eq_true.mp k2 p hp))
  · rw [caE k x e]
    have hx := List.mem_of_getElem? e
    have g1 := He.glo_ok Xn Gn (inE (f := .glo x) (List.mem_append_left _ (List.mem_map.mpr ⟨x, hx, rfl⟩)))
    obtain ⟨q1, q2, q3, q4⟩ := He.exc_ok (inE (f := .exc x) (List.mem_append_right _ (List.mem_append_left _ (List.mem_map.mpr ⟨x, hx, rfl⟩))))
    have xb := List.all_eq_true.mp k3 x hx
    unfold exB at xb
    obtain ⟨x1, xb⟩ := and2 xb
    obtain ⟨x2, xb⟩ := and2 xb
    obtain ⟨x3, xb⟩ := and2 xb
    obtain ⟨x4, xb⟩ := and2 xb
    obtain ⟨x5, xb⟩ := and2 xb
    obtain ⟨x6, xb⟩ := and2 xb
    obtain ⟨x7, x8⟩ := and2 xb
    exact ⟨g1, q1, q2, ⟨q3, q4⟩, ⟨of_decide_eq_true x1, of_decide_eq_true x2, q3, x3, of_decide_eq_true x4, of_decide_eq_true x5, of_decide_eq_true x6, of_decide_eq_true x7⟩, of_decide_eq_true x8⟩
  · obtain ⟨x, hx⟩ : ∃ x, T.exs[c]? = some x := ⟨_, List.getElem?_eq_getElem hc⟩
    obtain ⟨y, hy⟩ : ∃ y, T.exs[k]? = some y := ⟨_, List.getElem?_eq_getElem hk⟩
    rw [caE c x hx, caE k y hy]
    have q := He.exm_ok (inE (f := .exm x y (decide (x = y))) (List.mem_append_right _ (List.mem_append_right _ (List.mem_append_left _ (List.mem_flatMap.mpr ⟨x, List.mem_of_getElem? hx, List.mem_map.mpr ⟨y, List.mem_of_getElem? hy, rfl⟩⟩)))))
    rw [q]
    congr 1
    by_cases e : x = y
    · subst e
      have e2 : c = k := nodup_ix ex hx hy
      subst e2
      rw [decide_eq_true rfl, Nat.beq_refl]
    · have e2 : c ≠ k := fun z => e (by subst z; rw [hx] at hy; exact Option.some.inj hy)
      rw [decide_eq_false e]
      cases q2 : Nat.beq k c with
      | false => rfl
      | true => exact absurd (Nat.eq_of_beq_eq_true q2).symm e2
end
end Mi
namespace Mi
open PySem PySem.Spec PyProof.Rows L2
mutual
def hv : MV → Nat → Nat
  | .int (.ofNat n), a => (a * 31 + n) % 1000000007
  | .int (.negSucc n), a => (a * 37 + n + 11) % 1000000007
  | .tup _ xs, a => hvL xs ((a * 7 + 3) % 1000000007)
  | .bl true, a => (a * 31 + 5) % 1000000007
  | _, a => (a * 31 + 1) % 1000000007
def hvL : List MV → Nat → Nat
  | [], a => a
  | x :: xs, a => hvL xs (hv x a)
end
inductive Tr where
  | lf
  | nd (l : Tr) (k : Nat) (vs : List MV) (v : MV) (r : Tr)
def Tr.find : Tr → Nat → List MV → Option MV
  | .lf, _, _ => none
  | .nd l k vs v r, key, ws => (match Nat.blt key k with
    | true => l.find key ws
    | false => (match Nat.beq key k with
      | true => (match sameL' vs ws with
        | true => some v
        | false => r.find key ws)
      | false => r.find key ws))
def okE (c : CF) (f n : Nat) (vs : List MV) (v : MV) : Bool := (match c f vs [] with
  | .ok w _ => sameV w v
  | _ => false) && (isP v && (vs.all isP && Nat.beq vs.length n))
def chkT (c : CF) (f n : Nat) : Tr → Bool
  | .lf => true
  | .nd l _ vs v r => chkT c f n l && (okE c f n vs v && chkT c f n r)
theorem chk_nd {c : CF} {f n : Nat} {l r : Tr} {k : Nat} {vs : List MV} {v : MV} (h1 : chkT c f n l = true) (h2 : okE c f n vs v = true) (h3 : chkT c f n r = true) : chkT c f n (.nd l k vs v r) = true := by
  show (chkT c f n l && (okE c f n vs v && chkT c f n r)) = true
  rw [h1, h2, h3]; rfl
theorem find_ok {c : CF} {f n : Nat} : ∀ {t : Tr} {key : Nat} {ws : List MV} {v : MV}, chkT c f n t = true → t.find key ws = some v → okE c f n ws v = true
  | .lf, _, _, _, _, h => by cases h
  | .nd l k vs u r, key, ws, v, hc, h => by
    obtain ⟨h1, h2⟩ := and2 (show (chkT c f n l && (okE c f n vs u && chkT c f n r)) = true from hc)
    obtain ⟨h2, h3⟩ := and2 h2
    have h : (match Nat.blt key k with
      | true => l.find key ws
      | false => (match Nat.beq key k with
        | true => (match sameL' vs ws with
          | true => some u
          | false => r.find key ws)
        | false => r.find key ws)) = some v := h
    cases e1 : Nat.blt key k with
    | true => rw [e1] at h; exact find_ok h1 h
    | false =>
      rw [e1] at h
      dsimp only at h
      cases e2 : Nat.beq key k with
      | false => rw [e2] at h; exact find_ok h3 h
      | true =>
        rw [e2] at h
        dsimp only at h
        cases e3 : sameL' vs ws with
        | false => rw [e3] at h; exact find_ok h3 h
        | true =>
          rw [e3] at h
          cases h
          rw [← sameL_eq e3]
          exact h2
def getT : List Tr → Nat → Option Tr
  | [], _ => none
  | t :: _, 0 => some t
  | _ :: r, n + 1 => getT r n
theorem getT_eq : ∀ (l : List Tr) (n : Nat), getT l n = l[n]?
  | [], n => by simp [getT]
  | t :: r, 0 => by simp [getT]
  | t :: r, n + 1 => by simp [getT, getT_eq r n]
def tfast (lo hi : Nat) (ms : List Tr) : Fast := fun f vs => match Nat.ble lo f && Nat.blt f hi with
  | true => (match getT ms (f - lo) with
    | some t => t.find (hvL vs 7) vs
    | none => none)
  | false => none
theorem tfast_some {lo hi : Nat} {ms : List Tr} {f : Nat} {vs : List MV} {v : MV} (h : tfast lo hi ms f vs = some v) : lo ≤ f ∧ f < hi ∧ ∃ t, ms[f - lo]? = some t ∧ t.find (hvL vs 7) vs = some v := by
  unfold tfast at h
  cases q : (Nat.ble lo f && Nat.blt f hi) with
  | false => rw [q] at h; cases h
  | true =>
    rw [q] at h
    obtain ⟨q1, q2⟩ := and2 q
    dsimp only at h
    rw [getT_eq] at h
    cases e : ms[f - lo]? with
    | none => rw [e] at h; cases h
    | some t => rw [e] at h; exact ⟨Nat.le_of_ble_eq_true q1, Nat.le_of_ble_eq_true q2, t, rfl, h⟩
theorem tfast_of {lo hi : Nat} {ms : List Tr} {f : Nat} {vs : List MV} {v : MV} {t : Tr} (h1 : lo ≤ f) (h2 : f < hi) (h3 : ms[f - lo]? = some t) (h4 : t.find (hvL vs 7) vs = some v) : tfast lo hi ms f vs = some v := by
  unfold tfast
  rw [ble_true h1, show Nat.blt f hi = true from Nat.ble_eq_true_of_le h2]
  show (match getT ms (f - lo) with
    | some t => t.find (hvL vs 7) vs
    | none => none) = some v
  rw [getT_eq, h3]
  exact h4
theorem known_nil {T : PTb} {c : CF} {lo hi : Nat} : Known T (tfast lo hi []) c := fun f vs v h => by
  obtain ⟨_, _, t, e, _⟩ := tfast_some h
  simp at e
theorem okE_ok {c : CF} {f n : Nat} {vs : List MV} {v : MV} (h : okE c f n vs v = true) : (∃ h', c f vs [] = .ok v h') ∧ isP v = true ∧ vs.all isP = true ∧ vs.length = n := by
  unfold okE at h
  obtain ⟨h1, h⟩ := and2 h
  obtain ⟨h2, h⟩ := and2 h
  obtain ⟨h3, h4⟩ := and2 h
  refine ⟨?_, h2, h3, Nat.eq_of_beq_eq_true h4⟩
  split at h1
  · rename_i w h' e
    exact ⟨h', by rw [e, sameV_eq h1]⟩
  · cases h1
theorem known_step {T : PTb} {tab : List FnD} {G : List MV} {ms : List Tr} {c : CF} {lo hi hi' : Nat} (K0 : Known T (tfast lo hi ms) c) {t : Tr} {n k np : Nat} (hk : ms.length + lo = k) (h1 : k ≤ hi) {x : Str} {ps : List Str} (hf : T.fns[k]? = some (x, ps)) (hp : ps.length = np) (hc : chkT (callF tab G (tfast lo hi ms) (n + 1)) k np t = true) :
    Known T (tfast lo hi' (ms ++ [t])) (callF tab G (tfast lo hi ms) (n + 1)) := by
  intro f vs v h
  obtain ⟨g1, g2, t2, g3, g4⟩ := tfast_some h
  by_cases e : f - lo < ms.length
  · rw [List.getElem?_append_left e] at g3
    have h2 := tfast_of (hi := hi) g1 (by omega) g3 g4
    obtain ⟨_, q2, q3, q4⟩ := K0 f vs v h2
    refine ⟨⟨[], ?_⟩, q2, q3, q4⟩
    show (match tfast lo hi ms f vs with
      | some v => R.ok v []
      | none => _) = R.ok v []
    rw [h2]
  · by_cases e2 : f = k
    · subst e2
      rw [List.getElem?_append_right (by omega), show f - lo - ms.length = 0 by omega] at g3
      cases g3
      obtain ⟨q1, q2, q3, q4⟩ := okE_ok (find_ok hc g4)
      refine ⟨q1, q2, q3, fun x2 ps2 e3 => ?_⟩
      rw [hf] at e3
      cases e3
      rw [q4, hp]
    · rw [List.getElem?_eq_none (by simp; omega)] at g3
      cases g3
def isT (r : RE) : Bool := match r with
  | .ok (.bl true) _ => true
  | _ => false
theorem isT_ok {r : RE} (h : isT r = true) : ∃ h', r = .ok (.bl true) h' := by
  unfold isT at h
  split at h
  · exact ⟨_, rfl⟩
  · cases h
section
variable {T : PTb} {ts : List FnT} {tab : List FnD} {G : List MV} {fa : FA} {ca : Nat → Addr} {P : Program} {w : World} {K : PySem.W.Frag} {mg : Str → Option Value} {base : Heap}
theorem FnOk.quiet {k : Nat} {a : Addr} {fd : FuncData} {ps : List Str} {sp : Sp} (F : FnOk P w K mg base (L2.CX P w) k a fd ps sp) : FnOk P w K mg base CX0 k a fd ps (fun vs H Q _ => sp vs H Q fun _ _ _ => False) :=
  ⟨fun vs H Q E h => F.len vs H Q _ h, fun A outer s H args us vs Q E hr he hb hv hs => codeAny_mono (F.run A outer s H args us vs Q (fun _ _ _ => False) hr he hb hv hs) fun r s' q => by
    cases r with
    | ok f => cases f <;> exact q
    | error e =>
      obtain ⟨_, _, _, _, _, _, _, _, _, _, _, _, z⟩ := q
      exact z.elim⟩
theorem law_end (M : ModOk T ts tab G fa ca K mg) {lvl : Nat} {c : CF} (A : AllOk T P w K mg base fa ca lvl c) {k : Nat} {x : Str} (hk : T.fns[k]? = some (x, (["script"] : List Str))) {a : Addr} {fd : FuncData} (ha : fa k = some a) (hl : ∃ oc od osl, K.lookup a = some ⟨oc, od, .func fd, osl⟩) :
    FnOk P w K mg base CX0 lvl a fd ["script"] (fun vs H Q _ => spOf K fa ca c 1 k vs H Q fun _ _ _ => False) := FnOk.quiet (A.fn k x _ hk a fd ha hl)
theorem law_true {c : CF} {k : Nat} (e : isT (c k [.opq] []) = true) {H : Hp} {v : V} {E : XK} : spOf K fa ca c 1 k [v] H (fun u _ => u = .bl true) E := by
  obtain ⟨h', e⟩ := isT_ok e
  refine ⟨[], [], [.opq], HR.nil, .cons (.opq v) .nil, rfl, ?_⟩
  rw [e]
  intro μ' H' y ex hr vr
  cases vr
  rfl
end
end Mi
namespace Mi
open PySem PySem.Spec PyProof.Rows L2
section
variable {T : PTb} {ts : List FnT} {tab : List FnD} {G : List MV} {fa : FA} {ca : Nat → Addr} {P : Program} {w : World} {K : PySem.W.Frag} {mg : Str → Option Value}
theorem law_facts (M : ModOk T ts tab G fa ca K mg) {lvl : Nat} {c : CF} (A : ∀ base, AllOk T P w K mg base fa ca lvl c) {k : Nat} (hk : T.fns[k]? = some (("law" : Str), [("script" : Str)])) (e : isT (c k [.opq] []) = true) {f : Addr} (hf : mg ("law" : Str) = some (.ref f)) :
    ∃ (fd : FuncData) (sp : Sp), (∀ (s : Shared) (u : Value), BindsTo s fd ⟨[u], []⟩ [(("script" : Str), u)]) ∧ (∀ (H : Hp) (a : Addr), sp [.ref a] H (fun v _ => v = .bl true) fun _ _ _ => False) ∧ ∀ base, FnOk P w K mg base CX0 lvl f fd [("script" : Str)] sp := by
  obtain ⟨t, d, a, fd, ht, hd, hx, hps, hB, ha, hm, F, _⟩ := M.fns k _ _ hk
  rw [hf] at hm
  cases hm
  obtain ⟨b1, hB⟩ := and2 hB
  obtain ⟨b2, _⟩ := and2 hB
  obtain ⟨as, e1, e2⟩ := args_ok b2
  refine ⟨fd, fun vs H Q _ => spOf K fa ca c 1 k vs H Q fun _ _ _ => False, fun s u => ?_, fun H a => law_true (K := K) (fa := fa) (ca := ca) e, fun base => law_end M (A base) hk ha (fun_look F)⟩
  have z := FunD.bindsA (ps := t.ps) F (fun kV doc pm an cdv ct us hl => bind_plain (as := as) e1 e2 rfl (nodup_ps (scope_ok b1)) us hl) s [u] (by rw [hps]; rfl)
  rw [hps] at z
  exact z
end
end Mi
namespace L_k66
open PySem PySem.Spec PyProof.Rows L2 Mi
def b_fraction_of : Mi.St := (.seq (.asg (.nm 2) (.ite (.cmp .gt (.var 1) (.cst (.int (.ofNat 0)))) (.bi .gcd (.cons (.var 0) (.cons (.var 1) .nil))) (.neg (.bi .gcd (.cons (.var 0) (.cons (.var 1) .nil)))))) (.ret (.tup (.cons (.bin .fdiv (.var 0) (.var 2)) (.cons (.bin .fdiv (.var 1) (.var 2)) .nil)))))
def b_product : Mi.St := (.ret (.call 0 (.cons (.bin .mul (.idx (.var 0) (.cst (.int (.ofNat 0)))) (.idx (.var 1) (.cst (.int (.ofNat 0))))) (.cons (.bin .mul (.idx (.var 0) (.cst (.int (.ofNat 1)))) (.idx (.var 1) (.cst (.int (.ofNat 1))))) .nil))))
def b_plus : Mi.St := (.ret (.call 0 (.cons (.bin .add (.bin .mul (.idx (.var 0) (.cst (.int (.ofNat 0)))) (.idx (.var 1) (.cst (.int (.ofNat 1))))) (.bin .mul (.idx (.var 1) (.cst (.int (.ofNat 0)))) (.idx (.var 0) (.cst (.int (.ofNat 1)))))) (.cons (.bin .mul (.idx (.var 0) (.cst (.int (.ofNat 1)))) (.idx (.var 1) (.cst (.int (.ofNat 1))))) .nil))))
def b_minus : Mi.St := (.ret (.call 0 (.cons (.bin .sub (.bin .mul (.idx (.var 0) (.cst (.int (.ofNat 0)))) (.idx (.var 1) (.cst (.int (.ofNat 1))))) (.bin .mul (.idx (.var 1) (.cst (.int (.ofNat 0)))) (.idx (.var 0) (.cst (.int (.ofNat 1)))))) (.cons (.bin .mul (.idx (.var 0) (.cst (.int (.ofNat 1)))) (.idx (.var 1) (.cst (.int (.ofNat 1))))) .nil))))
def b_tupled : Mi.St := (.ret (.ite (.isin (.var 0) [.list, .tuple]) (.bi .tuple (.cons (.lc (.nm 1) (.itv (.var 0)) (.cst (.bl true)) (.call 4 (.cons (.var 1) .nil)) [1]) .nil)) (.var 0)))
def b_ratio : Mi.St := (.ret (.call 0 (.cons (.bin .mul (.idx (.var 0) (.cst (.int (.ofNat 0)))) (.idx (.var 1) (.cst (.int (.ofNat 1))))) (.cons (.bin .mul (.idx (.var 0) (.cst (.int (.ofNat 1)))) (.idx (.var 1) (.cst (.int (.ofNat 0))))) .nil))))
def b_is_number : Mi.St := (.ret (.and (.isin (.var 0) [.int]) (.one (.nt (.isin (.var 0) [.bool])))))
def b_is_long : Mi.St := (.ret (.and (.isin (.var 0) [.tuple]) (.one (.cmp .eq (.bi .len (.cons (.var 0) .nil)) (.var 1)))))
def b_negative : Mi.St := (.ret (.tup (.cons (.neg (.idx (.var 0) (.cst (.int (.ofNat 0))))) (.cons (.idx (.var 0) (.cst (.int (.ofNat 1)))) .nil))))
def b_is_from : Mi.St := (.ret (.and (.call 6 (.cons (.var 0) .nil)) (.one (.cmp .ge (.var 0) (.var 1)))))
def b_times_i : Mi.St := (.seq (.asg (.nm 2) (.call 3 (.cons (.call 1 (.cons (.idx (.var 0) (.cst (.int (.ofNat 0)))) (.cons (.idx (.var 1) (.cst (.int (.ofNat 0)))) .nil))) (.cons (.call 1 (.cons (.idx (.var 0) (.cst (.int (.ofNat 1)))) (.cons (.idx (.var 1) (.cst (.int (.ofNat 1)))) .nil))) .nil)))) (.ret (.tup (.cons (.var 2) (.cons (.call 2 (.cons (.call 1 (.cons (.idx (.var 0) (.cst (.int (.ofNat 0)))) (.cons (.idx (.var 1) (.cst (.int (.ofNat 1)))) .nil))) (.cons (.call 1 (.cons (.idx (.var 0) (.cst (.int (.ofNat 1)))) (.cons (.idx (.var 1) (.cst (.int (.ofNat 0)))) .nil))) .nil))) .nil)))))
def b_over_i : Mi.St := (.seq (.asg (.nm 2) (.call 2 (.cons (.call 1 (.cons (.idx (.var 1) (.cst (.int (.ofNat 0)))) (.cons (.idx (.var 1) (.cst (.int (.ofNat 0)))) .nil))) (.cons (.call 1 (.cons (.idx (.var 1) (.cst (.int (.ofNat 1)))) (.cons (.idx (.var 1) (.cst (.int (.ofNat 1)))) .nil))) .nil)))) (.seq (.asg (.tp (.cons (.nm 3) (.cons (.nm 4) .nil))) (.call 10 (.cons (.var 0) (.cons (.tup (.cons (.idx (.var 1) (.cst (.int (.ofNat 0)))) (.cons (.call 8 (.cons (.idx (.var 1) (.cst (.int (.ofNat 1)))) .nil)) .nil))) .nil)))) (.ret (.tup (.cons (.call 5 (.cons (.var 3) (.cons (.var 2) .nil))) (.cons (.call 5 (.cons (.var 4) (.cons (.var 2) .nil))) .nil))))))
def b_at_both : Mi.St := (.seq (.asg (.tp (.cons (.nm 2) (.cons (.nm 3) (.cons (.nm 4) .nil)))) (.var 0)) (.seq (.asg (.tp (.cons (.nm 5) (.cons (.nm 6) (.cons (.nm 7) .nil)))) (.var 1)) (.seq (.asg (.nm 8) (.call 10 (.cons (.var 2) (.cons (.var 5) .nil)))) (.seq (.asg (.nm 9) (.call 11 (.cons (.var 8) (.cons (.tup (.cons (.call 3 (.cons (.idx (.var 8) (.cst (.int (.ofNat 0)))) (.cons (.glb 1) .nil))) (.cons (.idx (.var 8) (.cst (.int (.ofNat 1)))) .nil))) .nil)))) (.ret (.idx (.call 10 (.cons (.call 10 (.cons (.call 10 (.cons (.var 3) (.cons (.var 6) .nil))) (.cons (.call 37 (.cons (.var 4) (.cons (.var 7) .nil))) .nil))) (.cons (.var 9) .nil))) (.cst (.int (.ofNat 0)))))))))
def b_at_echo : Mi.St := (.seq (.asg (.tp (.cons (.nm 3) (.cons (.nm 4) (.cons (.nm 5) .nil)))) (.var 2)) (.seq (.asg (.nm 6) (.call 37 (.cons (.tup (.cons (.idx (.var 0) (.cst (.int (.ofNat 0)))) (.cons (.glb 0) .nil))) (.cons (.var 5) .nil)))) (.seq (.fr (.nm 7) (.itv (.slc (.var 0) (.bnd (.cst (.int (.ofNat 1)))) (.bnd (.bin .add (.var 1) (.cst (.int (.ofNat 1))))))) (.asg (.nm 6) (.call 37 (.cons (.call 11 (.cons (.var 6) (.cons (.var 3) .nil))) (.cons (.tup (.cons (.var 7) (.cons (.glb 0) .nil))) .nil))))) (.ret (.idx (.call 10 (.cons (.var 4) (.cons (.var 6) .nil))) (.cst (.int (.ofNat 0))))))))
def b_poly_by : Mi.St := (.seq (.ifs (.or (.cmp .eq (.var 0) (.tup .nil)) (.one (.cmp .eq (.var 1) (.tup .nil)))) (.ret (.tup .nil)) .skip) (.seq (.asg (.nm 2) (.back (.var 1) .noe .noe)) (.seq (.asg (.nm 3) (.lst .nil)) (.seq (.fr (.nm 4) (.itr1 (.bin .sub (.bin .add (.bi .len (.cons (.var 0) .nil)) (.bi .len (.cons (.var 1) .nil))) (.cst (.int (.ofNat 1))))) (.seq (.asg (.nm 5) (.bi .max (.cons (.cst (.int (.ofNat 0))) (.cons (.bin .add (.bin .sub (.var 4) (.bi .len (.cons (.var 1) .nil))) (.cst (.int (.ofNat 1)))) .nil)))) (.exp (.mth .append (.var 3) (.cons (.call 44 (.cons (.slc (.var 0) (.bnd (.var 5)) (.bnd (.bin .add (.var 4) (.cst (.int (.ofNat 1)))))) (.cons (.slc (.var 2) (.bnd (.bin .add (.bin .sub (.bin .sub (.bi .len (.cons (.var 1) .nil)) (.cst (.int (.ofNat 1)))) (.var 4)) (.var 5))) .noe) .nil))) .nil))))) (.ret (.bi .tuple (.cons (.var 3) .nil)))))))
def b_poly_over : Mi.St := (.seq (.par [2, 3] (.cons (.bi .list (.cons (.var 0) .nil)) (.cons (.lst .nil) .nil))) (.seq (.fr (.nm 4) (.itr3 (.bin .sub (.bi .len (.cons (.var 0) .nil)) (.bi .len (.cons (.var 1) .nil))) (.neg (.cst (.int (.ofNat 1))))) (.seq (.asg (.nm 5) (.call 5 (.cons (.idx (.var 2) (.bin .sub (.bin .add (.var 4) (.bi .len (.cons (.var 1) .nil))) (.cst (.int (.ofNat 1))))) (.cons (.idx (.var 1) (.neg (.cst (.int (.ofNat 1))))) .nil)))) (.seq (.exp (.mth .append (.var 3) (.cons (.var 5) .nil))) (.fr (.tp (.cons (.nm 6) (.cons (.nm 7) .nil))) (.itn (.var 1)) (.put (.var 2) (.bin .add (.var 4) (.var 6)) (.call 3 (.cons (.idx (.var 2) (.bin .add (.var 4) (.var 6))) (.cons (.call 1 (.cons (.var 5) (.cons (.var 7) .nil))) .nil)))))))) (.ret (.tup (.cons (.bi .tuple (.cons (.back (.var 3) .noe .noe) .nil)) (.cons (.call 43 (.cons (.var 2) .nil)) .nil))))))
def b_poly_divisor : Mi.St := (.seq (.whl (.cmp .ne (.var 1) (.tup .nil)) (.par [0, 1] (.cons (.var 1) (.cons (.call 53 (.cons (.idx (.call 15 (.cons (.var 0) (.cons (.var 1) .nil))) (.cst (.int (.ofNat 1)))) .nil)) .nil)))) (.ret (.call 53 (.cons (.var 0) .nil))))
def b_table_of : Mi.St := (.seq (.asg (.nm 2) (.call 50 (.cons (.var 0) (.cons (.var 1) .nil)))) (.ret (.bi .tuple (.cons (.lc (.nm 3) (.itv (.var 2)) (.cst (.bl true)) (.bi .tuple (.cons (.lc (.nm 4) (.itv (.var 2)) (.cst (.bl true)) (.call 39 (.cons (.var 0) (.cons (.var 3) (.cons (.var 4) .nil)))) [4]) .nil)) [3]) .nil))))
def b_nought_row : Mi.St := (.seq (.asg (.tp (.cons (.nm 1) (.cons (.nm 2) .nil))) (.tup (.cons (.lst .nil) (.cons (.lst .nil) .nil)))) (.seq (.fr (.nm 3) (.itv (.var 0)) (.seq (.asg (.nm 4) (.call 62 (.cons (.var 3) (.cons (.var 1) (.cons (.var 2) .nil))))) (.seq (.asg (.nm 5) (.lc (.tp (.cons (.nm 10) (.cons (.nm 11) .nil))) (.itn (.var 4)) (.cmp .ne (.var 11) (.glb 0)) (.var 10) [10, 11])) (.ifs (.cmp .ne (.var 5) (.lst .nil)) (.seq (.asg (.nm 4) (.call 42 (.cons (.var 4) (.cons (.call 5 (.cons (.glb 1) (.cons (.idx (.var 4) (.idx (.var 5) (.cst (.int (.ofNat 0))))) .nil))) .nil)))) (.seq (.asg (.nm 1) (.bin .add (.lc (.nm 8) (.itv (.var 1)) (.cst (.bl true)) (.call 62 (.cons (.var 8) (.cons (.lst (.cons (.var 4) .nil)) (.cons (.slc (.var 5) .noe (.bnd (.cst (.int (.ofNat 1))))) .nil)))) [8]) (.lst (.cons (.var 4) .nil)))) (.exp (.mth .append (.var 2) (.cons (.idx (.var 5) (.cst (.int (.ofNat 0)))) .nil))))) .skip)))) (.seq (.asg (.nm 6) (.lc (.nm 10) (.itr1 (.bi .len (.cons (.var 0) .nil))) (.cmp .notin (.var 10) (.var 2)) (.var 10) [10])) (.seq (.ifs (.cmp .eq (.var 6) (.lst .nil)) (.ret (.cst .non)) .skip) (.seq (.asg (.nm 7) (.bi .list (.cons (.call 46 (.cons (.bi .len (.cons (.var 0) .nil)) .nil)) .nil))) (.seq (.put (.var 7) (.idx (.var 6) (.cst (.int (.ofNat 0)))) (.glb 1)) (.seq (.fr (.tp (.cons (.nm 8) (.cons (.nm 9) .nil))) (.itz (.var 1) (.var 2)) (.put (.var 7) (.var 9) (.call 8 (.cons (.idx (.var 8) (.idx (.var 6) (.cst (.int (.ofNat 0))))) .nil)))) (.ret (.bi .tuple (.cons (.var 7) .nil))))))))))
def b_below_row : Mi.St := (.seq (.ifs (.cmp .eq (.var 0) (.tup .nil)) (.ret (.cst .non)) .skip) (.seq (.asg (.tp (.cons (.nm 1) (.cons (.nm 2) .nil))) (.tup (.cons (.bi .len (.cons (.var 0) .nil)) (.cons (.idx (.idx (.var 0) (.cst (.int (.ofNat 0)))) (.cst (.int (.ofNat 0)))) .nil)))) (.seq (.ifs (.cmp .lt (.idx (.var 2) (.cst (.int (.ofNat 0)))) (.cst (.int (.ofNat 0)))) (.ret (.bin .add (.tup (.cons (.glb 1) .nil)) (.call 46 (.cons (.bin .sub (.var 1) (.cst (.int (.ofNat 1)))) .nil)))) .skip) (.seq (.asg (.nm 3) (.lc (.tp (.cons (.nm 9) (.cons (.nm 4) .nil))) (.itn (.idx (.var 0) (.cst (.int (.ofNat 0))))) (.cmp .ne (.var 4) (.glb 0)) (.var 9) [9, 4])) (.seq (.ifs (.and (.cmp .eq (.var 2) (.glb 0)) (.one (.cmp .ne (.var 3) (.lst .nil)))) (.seq (.asg (.nm 4) (.idx (.idx (.var 0) (.cst (.int (.ofNat 0)))) (.idx (.var 3) (.cst (.int (.ofNat 0)))))) (.seq (.asg (.nm 5) (.call 5 (.cons (.call 8 (.cons (.call 2 (.cons (.idx (.idx (.var 0) (.idx (.var 3) (.cst (.int (.ofNat 0))))) (.idx (.var 3) (.cst (.int (.ofNat 0))))) (.cons (.glb 1) .nil))) .nil)) (.cons (.call 1 (.cons (.glb 2) (.cons (.var 4) .nil))) .nil)))) (.ret (.bin .add (.bin .add (.bin .add (.tup (.cons (.var 5) .nil)) (.call 46 (.cons (.bin .sub (.idx (.var 3) (.cst (.int (.ofNat 0)))) (.cst (.int (.ofNat 1)))) .nil))) (.tup (.cons (.glb 1) .nil))) (.call 46 (.cons (.bin .sub (.bin .sub (.var 1) (.idx (.var 3) (.cst (.int (.ofNat 0))))) (.cst (.int (.ofNat 1)))) .nil)))))) .skip) (.seq (.asg (.nm 6) (.lc (.nm 4) (.itv (.slc (.idx (.var 0) (.cst (.int (.ofNat 0)))) (.bnd (.cst (.int (.ofNat 1)))) .noe)) (.cst (.bl true)) (.ite (.cmp .ne (.var 2) (.glb 0)) (.call 5 (.cons (.var 4) (.cons (.var 2) .nil))) (.glb 0)) [4])) (.zst 7 (.cons (.slc (.var 0) (.bnd (.cst (.int (.ofNat 1)))) .noe) (.cons (.var 6) .nil)) 8 19 (.tp (.cons (.nm 10) (.cons (.nm 11) .nil))) (.call 51 (.cons (.slc (.var 10) (.bnd (.cst (.int (.ofNat 1)))) .noe) (.cons (.call 42 (.cons (.slc (.idx (.var 0) (.cst (.int (.ofNat 0)))) (.bnd (.cst (.int (.ofNat 1)))) .noe) (.cons (.var 11) .nil))) .nil))) [10, 11] (.ret (.ite (.cmp .isN (.var 8) (.cst .non)) (.cst .non) (.bin .add (.tup (.cons (.call 8 (.cons (.call 44 (.cons (.var 6) (.cons (.var 8) .nil))) .nil)) .nil)) (.var 8)))))))))))
def b_is_spot_so : Mi.St := (.seq (.ifs (.or (.nt (.call 45 (.cons (.var 0) (.cons (.cst (.int (.ofNat 2))) .nil)))) (.one (.cmp .lt (.idx (.idx (.var 0) (.cst (.int (.ofNat 1)))) (.cst (.int (.ofNat 0)))) (.cst (.int (.ofNat 0)))))) (.ret (.cst (.bl false))) .skip) (.ret (.call 49 (.cons (.glb 1) (.cons (.call 2 (.cons (.call 1 (.cons (.idx (.var 0) (.cst (.int (.ofNat 0)))) (.cons (.idx (.var 0) (.cst (.int (.ofNat 0)))) .nil))) (.cons (.call 1 (.cons (.idx (.var 0) (.cst (.int (.ofNat 1)))) (.cons (.idx (.var 0) (.cst (.int (.ofNat 1)))) .nil))) .nil))) .nil)))))
def b_sure_seen : Mi.St := (.seq (.par [3, 4] (.cons (.call 54 (.cons (.var 0) .nil)) (.cons (.call 4 (.cons (.var 1) .nil)) .nil))) (.seq (.exp (.call 41 (.cons (.and (.cmp .le (.bi .len (.cons (.var 3) .nil)) (.glb 6)) (.one (.call 55 (.cons (.var 4) .nil)))) .nil))) (.seq (.exp (.call 41 (.cons (.chain .le .le (.cst (.int (.ofNat 1))) (.bin .add (.bi .len (.cons (.var 3) .nil)) (.call 57 (.cons (.lc (.nm 5) (.itv (.var 4)) (.cst (.bl true)) (.idx (.var 5) (.cst (.int (.ofNat 0)))) [5]) .nil))) (.var 2)) .nil))) (.ret (.tup (.cons (.var 3) (.cons (.var 4) .nil)))))))
def b_is_keeper_in : Mi.St := (.ret (.and (.call 112 (.cons (.var 0) .nil)) (.one (.cmp .isN (.call 118 (.cons (.call 117 (.cons (.var 0) .nil)) .nil)) (.cst .non)))))
def b_keeper_by : Mi.St := (.seq (.par [3, 4, 5] (.cons (.tup .nil) (.cons (.tup .nil) (.cons (.call 68 (.cons (.lc (.tp (.cons (.nm 9) (.cons (.nm 10) .nil))) (.itv (.var 1)) (.cst (.bl true)) (.call 67 (.cons (.var 9) .nil)) [9, 10]) .nil)) .nil)))) (.seq (.fr (.nm 6) (.itr1 (.bi .len (.cons (.var 0) .nil))) (.seq (.asg (.nm 7) (.call 42 (.cons (.var 5) (.cons (.idx (.var 2) (.var 6)) .nil)))) (.seq (.asg (.nm 3) (.call 59 (.cons (.var 3) (.cons (.call 43 (.cons (.call 14 (.cons (.call 43 (.cons (.back (.var 0) (.bnd (.var 6)) .noe) .nil)) (.cons (.call 43 (.cons (.var 7) .nil)) .nil))) .nil)) .nil)))) (.asg (.nm 4) (.call 59 (.cons (.var 4) (.cons (.call 43 (.cons (.bin .add (.call 46 (.cons (.var 6) .nil)) (.var 7)) .nil)) .nil))))))) (.seq (.asg (.nm 8) (.bi .len (.cons (.var 0) .nil))) (.seq (.fr (.tp (.cons (.nm 9) (.cons (.nm 10) .nil))) (.itv (.var 1)) (.seq (.asg (.nm 11) (.call 68 (.cons (.lc (.tp (.cons (.nm 14) (.cons (.nm 15) .nil))) (.itv (.var 1)) (.cmp .ne (.var 14) (.var 9)) (.call 67 (.cons (.var 14) .nil)) [14, 15]) .nil))) (.fr (.nm 12) (.itv (.call 48 (.cons (.var 9) (.cons (.var 10) .nil)))) (.seq (.par [13, 7] (.cons (.idx (.idx (.var 12) (.cst (.int (.ofNat 0)))) (.cst (.int (.ofNat 1)))) (.cons (.call 43 (.cons (.call 42 (.cons (.var 11) (.cons (.idx (.var 2) (.var 8)) .nil))) .nil)) .nil))) (.seq (.asg (.nm 3) (.call 59 (.cons (.var 3) (.cons (.call 14 (.cons (.call 64 (.cons (.var 9) (.cons (.call 10 (.cons (.var 13) (.cons (.var 10) .nil))) .nil))) (.cons (.var 7) .nil))) .nil)))) (.seq (.asg (.nm 4) (.call 59 (.cons (.var 4) (.cons (.call 14 (.cons (.call 64 (.cons (.var 9) (.cons (.var 13) .nil))) (.cons (.var 7) .nil))) .nil)))) (.aug 8 .add (.cst (.int (.ofNat 1)))))))))) (.ret (.call 89 (.cons (.call 42 (.cons (.var 3) (.cons (.call 8 (.cons (.glb 1) .nil)) .nil))) (.cons (.var 4) .nil))))))))
def b_more_column : Mi.St := (.seq (.asg (.nm 4) (.ite (.cmp .isN (.var 2) (.cst .non)) (.bin .add (.var 0) (.tup (.cons (.var 3) .nil))) (.var 0))) (.seq (.asg (.nm 5) (.ite (.cmp .isN (.var 2) (.cst .non)) (.tup (.cons (.bi .len (.cons (.var 0) .nil)) (.cons (.tup .nil) .nil))) (.tup (.cons (.glb 10) (.cons (.tup (.cons (.tup (.cons (.tup (.cons (.var 2) (.cons (.glb 0) .nil))) (.cons (.glb 12) (.cons (.tup (.cons (.var 3) (.cons (.glb 0) .nil))) .nil)))) .nil)) .nil))))) (.ret (.bi .tuple (.cons (.lc (.nm 6) (.itv (.bin .add (.call 50 (.cons (.var 0) (.cons (.var 1) .nil))) (.lst (.cons (.var 5) .nil)))) (.cst (.bl true)) (.call 39 (.cons (.var 4) (.cons (.var 6) (.cons (.var 5) .nil)))) [6]) .nil)))))
def b_ends_by : Mi.St := (.seq (.asg (.nm 3) (.call 51 (.cons (.var 2) (.cons (.var 1) .nil)))) (.seq (.asg (.nm 4) (.call 76 (.cons (.var 0) (.cons (.slc (.var 3) .noe (.bnd (.neg (.cst (.int (.ofNat 1)))))) .nil)))) (.seq (.asg (.nm 5) (.call 44 (.cons (.slc (.var 3) .noe (.bnd (.neg (.cst (.int (.ofNat 1)))))) (.cons (.var 4) .nil)))) (.seq (.asg (.nm 6) (.call 3 (.cons (.call 1 (.cons (.idx (.var 3) (.neg (.cst (.int (.ofNat 1))))) (.cons (.tup (.cons (.cst (.int (.ofNat 1))) (.cons (.cst (.int (.ofNat 2))) .nil))) .nil))) (.cons (.call 44 (.cons (.slc (.var 1) .noe (.bnd (.neg (.cst (.int (.ofNat 1)))))) (.cons (.var 4) .nil))) .nil)))) (.seq (.asg (.nm 7) (.call 3 (.cons (.call 44 (.cons (.slc (.var 1) .noe (.bnd (.neg (.cst (.int (.ofNat 1)))))) (.cons (.call 76 (.cons (.var 0) (.cons (.slc (.var 1) .noe (.bnd (.neg (.cst (.int (.ofNat 1)))))) .nil))) .nil))) (.cons (.idx (.var 1) (.neg (.cst (.int (.ofNat 1))))) .nil)))) (.seq (.asg (.nm 8) (.call 98 (.cons (.call 3 (.cons (.call 1 (.cons (.var 6) (.cons (.var 6) .nil))) (.cons (.call 1 (.cons (.var 5) (.cons (.var 7) .nil))) .nil))) .nil))) (.ret (.tup (.cons (.call 5 (.cons (.call 3 (.cons (.var 6) (.cons (.var 8) .nil))) (.cons (.var 5) .nil))) (.cons (.call 5 (.cons (.call 2 (.cons (.var 6) (.cons (.var 8) .nil))) (.cons (.var 5) .nil))) .nil))))))))))
def b_can_moved : Mi.St := (.seq (.asg (.tp (.cons (.nm 3) (.cons (.nm 4) .nil))) (.call 71 (.cons (.var 0) (.cons (.var 1) (.cons (.var 2) .nil))))) (.ret (.call 60 (.cons (.var 3) (.cons (.var 4) .nil)))))
def b_ends_in : Mi.St := (.seq (.asg (.nm 3) (.call 17 (.cons (.var 0) (.cons (.var 1) .nil)))) (.seq (.asg (.nm 4) (.call 18 (.cons (.var 3) .nil))) (.seq (.ifs (.cmp .isN (.var 4) (.cst .non)) (.ret (.call 25 (.cons (.var 3) (.cons (.call 24 (.cons (.var 0) (.cons (.var 1) (.cons (.var 2) (.cons (.glb 0) .nil))))) (.cons (.call 24 (.cons (.var 0) (.cons (.var 1) (.cons (.var 2) (.cons (.glb 1) .nil))))) .nil))))) .skip) (.seq (.asg (.nm 5) (.call 133 (.cons (.call 94 (.cons (.var 0) (.cons (.var 1) (.cons (.var 4) .nil)))) (.cons (.var 0) (.cons (.var 2) .nil))))) (.ret (.tup (.cons (.var 5) (.cons (.var 5) .nil))))))))
def b_end_in : Mi.St := (.seq (.asg (.nm 4) (.call 18 (.cons (.call 17 (.cons (.var 0) (.cons (.var 1) .nil))) .nil))) (.seq (.ifs (.cmp .isN (.var 4) (.cst .non)) (.seq (.asg (.tp (.cons (.nm 5) (.cons (.nm 6) .nil))) (.call 121 (.cons (.var 0) (.cons (.var 1) (.cons (.var 2) (.cons (.idx (.call 27 (.cons (.var 0) (.cons (.var 1) (.cons (.var 2) .nil)))) (.var 3)) .nil)))))) (.ret (.call 23 (.cons (.var 5) (.cons (.var 6) (.cons (.call 18 (.cons (.call 17 (.cons (.var 5) (.cons (.var 6) .nil))) .nil)) .nil)))))) .skip) (.ret (.call 94 (.cons (.var 0) (.cons (.var 1) (.cons (.var 4) .nil)))))))
def b_damper_more : Mi.St := (.seq (.asg (.tp (.cons (.nm 3) (.cons (.nm 4) .nil))) (.call 21 (.cons (.var 0) (.cons (.var 1) (.cons (.glb 9) .nil))))) (.seq (.asg (.nm 5) (.call 97 (.cons (.var 2) .nil))) (.seq (.ifs (.call 60 (.cons (.var 3) (.cons (.var 4) .nil))) (.ret (.glb 11)) .skip) (.seq (.par [6, 7] (.cons (.glb 0) (.cons (.glb 1) .nil))) (.seq (.whl (.nt (.call 26 (.cons (.var 3) (.cons (.var 4) (.cons (.var 7) .nil))))) (.par [6, 7] (.cons (.var 7) (.cons (.call 1 (.cons (.glb 2) (.cons (.var 7) .nil))) .nil)))) (.seq (.whl (.call 49 (.cons (.var 5) (.cons (.call 3 (.cons (.var 7) (.cons (.var 6) .nil))) .nil))) (.seq (.asg (.nm 8) (.call 79 (.cons (.var 6) (.cons (.var 7) .nil)))) (.ifs (.call 26 (.cons (.var 3) (.cons (.var 4) (.cons (.var 8) .nil)))) (.asg (.nm 7) (.var 8)) (.asg (.nm 6) (.var 8))))) (.ret (.tup (.cons (.var 6) (.cons (.var 7) .nil))))))))))
def b_share_left : Mi.St := (.seq (.asg (.tp (.cons (.nm 3) (.cons (.nm 4) .nil))) (.call 21 (.cons (.var 0) (.cons (.var 1) (.cons (.glb 9) .nil))))) (.seq (.asg (.nm 5) (.call 97 (.cons (.var 2) .nil))) (.seq (.exp (.call 78 (.cons (.var 3) (.cons (.var 4) .nil)))) (.ret (.call 139 (.cons (.var 3) (.cons (.var 4) (.cons (.var 5) .nil))))))))
def b__law_tables_right : Mi.St := (.seq (.asg (.tp (.cons (.nm 0) (.cons (.nm 1) (.cons (.nm 2) (.cons (.nm 3) (.cons (.nm 4) (.cons (.nm 5) (.cons (.nm 6) (.cons (.nm 7) (.cons (.nm 8) .nil)))))))))) (.call 138 .nil)) (.seq (.par [9, 10, 11] (.cons (.tup (.cons (.cst (.int (.ofNat 1))) (.cons (.cst (.int (.ofNat 2))) .nil))) (.cons (.tup (.cons (.var 0) (.cons (.var 2) .nil))) (.cons (.tup (.cons (.var 4) (.cons (.var 1) .nil))) .nil)))) (.seq (.asg (.nm 12) (.lst (.cons (.call 104 (.cons (.var 5) (.cons (.tup (.cons (.tup (.cons (.var 2) (.cons (.var 0) .nil))) (.cons (.tup (.cons (.var 3) (.cons (.var 0) .nil))) .nil))) .nil))) (.cons (.call 104 (.cons (.var 5) (.cons (.tup (.cons (.var 10) .nil)) .nil))) (.cons (.call 104 (.cons (.var 6) (.cons (.tup (.cons (.var 10) (.cons (.tup (.cons (.var 2) (.cons (.var 0) .nil))) .nil))) .nil))) (.cons (.call 104 (.cons (.var 7) (.cons (.tup (.cons (.var 11) .nil)) .nil))) (.cons (.call 104 (.cons (.var 5) (.cons (.tup .nil) .nil))) .nil))))))) (.seq (.asg (.nm 13) (.lst (.cons (.var 8) (.cons (.tup (.cons (.tup (.cons (.var 10) (.cons (.tup (.cons (.tup (.cons (.cst (.int (.ofNat 3))) (.cons (.cst (.int (.ofNat 5))) .nil))) (.cons (.tup (.cons (.neg (.cst (.int (.ofNat 4)))) (.cons (.cst (.int (.ofNat 5))) .nil))) .nil))) .nil))) .nil)) (.cons (.tup (.cons (.tup (.cons (.var 10) (.cons (.tup (.cons (.tup (.cons (.cst (.int (.ofNat 3))) (.cons (.cst (.int (.ofNat 5))) .nil))) (.cons (.tup (.cons (.cst (.int (.ofNat 4))) (.cons (.cst (.int (.ofNat 5))) .nil))) .nil))) .nil))) (.cons (.tup (.cons (.tup (.cons (.var 2) (.cons (.var 0) .nil))) (.cons (.tup (.cons (.tup (.cons (.cst (.int (.ofNat 1))) (.cons (.cst (.int (.ofNat 3))) .nil))) (.cons (.var 0) .nil))) .nil))) .nil))) (.cons (.tup (.cons (.tup (.cons (.var 11) (.cons (.tup (.cons (.var 1) (.cons (.var 0) .nil))) .nil))) .nil)) (.cons (.tup .nil) .nil))))))) (.seq (.asg (.nm 12) (.bin .add (.var 12) (.lst (.cons (.callk 104 .nil (.cons (.lst (.cons (.bi .list (.cons (.var 10) .nil)) .nil)) (.cons (.call 63 (.cons (.var 6) .nil)) .nil)) [1, 0]) (.cons (.call 127 (.cons (.tup .nil) (.cons (.var 8) .nil))) (.cons (.call 127 (.cons (.tup (.cons (.var 1) .nil)) (.cons (.slc (.var 8) .noe (.bnd (.cst (.int (.ofNat 1))))) .nil))) (.cons (.call 127 (.cons (.tup (.cons (.var 1) (.cons (.var 2) (.cons (.var 2) .nil)))) (.cons (.tup .nil) .nil))) .nil))))))) (.seq (.asg (.nm 13) (.bin .add (.var 13) (.lst (.cons (.tup (.cons (.tup (.cons (.var 10) (.cons (.tup (.cons (.tup (.cons (.cst (.int (.ofNat 3))) (.cons (.cst (.int (.ofNat 5))) .nil))) (.cons (.tup (.cons (.cst (.int (.ofNat 4))) (.cons (.cst (.int (.ofNat 5))) .nil))) .nil))) .nil))) .nil)) (.cons (.tup (.cons (.tup (.cons (.tup (.cons (.cst (.int (.ofNat 8))) (.cons (.cst (.int (.ofNat 1))) .nil))) (.cons (.tup (.cons (.cst (.int (.ofNat 6))) (.cons (.cst (.int (.ofNat 1))) .nil))) .nil))) (.cons (.tup (.cons (.tup (.cons (.cst (.int (.ofNat 6))) (.cons (.cst (.int (.ofNat 1))) .nil))) (.cons (.tup (.cons (.cst (.int (.ofNat 9))) (.cons (.cst (.int (.ofNat 2))) .nil))) .nil))) .nil))) (.cons (.tup (.cons (.tup (.cons (.var 2) (.cons (.tup (.cons (.cst (.int (.ofNat 4))) (.cons (.cst (.int (.ofNat 1))) .nil))) .nil))) (.cons (.tup (.cons (.tup (.cons (.cst (.int (.ofNat 4))) (.cons (.cst (.int (.ofNat 1))) .nil))) (.cons (.tup (.cons (.cst (.int (.ofNat 8))) (.cons (.cst (.int (.ofNat 1))) .nil))) .nil))) .nil))) (.cons (.bin .mul (.tup (.cons (.tup (.cons (.var 2) (.cons (.var 2) (.cons (.var 2) .nil)))) .nil)) (.cst (.int (.ofNat 3)))) .nil))))))) (.seq (.asg (.nm 12) (.bin .add (.var 12) (.lst (.cons (.call 127 (.cons (.tup .nil) (.cons (.tup (.cons (.tup (.cons (.var 10) (.cons (.tup (.cons (.tup (.cons (.cst (.int (.ofNat 3))) (.cons (.cst (.int (.ofNat 5))) .nil))) (.cons (.tup (.cons (.neg (.cst (.int (.ofNat 4)))) (.cons (.cst (.int (.ofNat 5))) .nil))) .nil))) .nil))) .nil)) .nil))) (.cons (.call 127 (.cons (.tup .nil) (.cons (.tup (.cons (.tup (.cons (.var 10) (.cons (.tup (.cons (.var 1) (.cons (.var 0) .nil))) .nil))) .nil)) .nil))) .nil))))) (.seq (.asg (.nm 13) (.bin .add (.var 13) (.lst (.cons (.tup (.cons (.tup (.cons (.tup (.cons (.cst (.int (.ofNat 128))) (.cons (.cst (.int (.ofNat 25))) .nil))) (.cons (.tup (.cons (.cst (.int (.ofNat 64))) (.cons (.cst (.int (.ofNat 25))) .nil))) .nil))) (.cons (.tup (.cons (.tup (.cons (.cst (.int (.ofNat 64))) (.cons (.cst (.int (.ofNat 25))) .nil))) (.cons (.tup (.cons (.cst (.int (.ofNat 32))) (.cons (.cst (.int (.ofNat 25))) .nil))) .nil))) .nil))) (.cons (.tup (.cons (.tup (.cons (.tup (.cons (.cst (.int (.ofNat 128))) (.cons (.cst (.int (.ofNat 15))) .nil))) (.cons (.var 0) .nil))) (.cons (.tup (.cons (.var 0) (.cons (.tup (.cons (.cst (.int (.ofNat 32))) (.cons (.cst (.int (.ofNat 15))) .nil))) .nil))) .nil))) .nil))))) (.seq (.exp (.mth .append (.var 12) (.cons (.call 127 (.cons (.tup (.cons (.var 1) (.cons (.var 1) .nil))) (.cons (.tup (.cons (.tup (.cons (.var 11) (.cons (.tup (.cons (.var 1) (.cons (.var 9) .nil))) .nil))) .nil)) .nil))) .nil))) (.seq (.exp (.mth .append (.var 13) (.cons (.tup (.cons (.tup (.cons (.var 2) (.cons (.var 1) (.cons (.tup (.cons (.cst (.int (.ofNat 4))) (.cons (.cst (.int (.ofNat 1))) .nil))) (.cons (.var 4) .nil))))) (.cons (.tup (.cons (.var 1) (.cons (.var 2) (.cons (.var 9) (.cons (.tup (.cons (.cst (.int (.ofNat 5))) (.cons (.cst (.int (.ofNat 2))) .nil))) .nil))))) (.cons (.tup (.cons (.tup (.cons (.cst (.int (.ofNat 4))) (.cons (.cst (.int (.ofNat 1))) .nil))) (.cons (.var 9) (.cons (.tup (.cons (.cst (.int (.ofNat 52))) (.cons (.cst (.int (.ofNat 5))) .nil))) (.cons (.tup (.cons (.neg (.cst (.int (.ofNat 16)))) (.cons (.cst (.int (.ofNat 5))) .nil))) .nil))))) (.cons (.tup (.cons (.var 4) (.cons (.tup (.cons (.cst (.int (.ofNat 5))) (.cons (.cst (.int (.ofNat 2))) .nil))) (.cons (.tup (.cons (.neg (.cst (.int (.ofNat 16)))) (.cons (.cst (.int (.ofNat 5))) .nil))) (.cons (.tup (.cons (.cst (.int (.ofNat 28))) (.cons (.cst (.int (.ofNat 5))) .nil))) .nil))))) .nil))))) .nil))) (.seq (.exp (.mth .append (.var 12) (.cons (.callk 127 .nil (.cons (.lst (.cons (.lst (.cons (.lst (.cons (.lst (.cons (.neg (.cst (.int (.ofNat 3)))) (.cons (.cst (.int (.ofNat 1))) .nil))) (.cons (.lst (.cons (.cst (.int (.ofNat 0))) (.cons (.cst (.int (.ofNat 1))) .nil))) .nil))) (.cons (.lst (.cons (.lst (.cons (.cst (.int (.ofNat 3))) (.cons (.cst (.int (.ofNat 1))) .nil))) (.cons (.lst (.cons (.cst (.int (.ofNat 0))) (.cons (.cst (.int (.ofNat 1))) .nil))) .nil))) .nil))) (.cons (.lst (.cons (.lst (.cons (.lst (.cons (.neg (.cst (.int (.ofNat 2)))) (.cons (.cst (.int (.ofNat 1))) .nil))) (.cons (.lst (.cons (.cst (.int (.ofNat 0))) (.cons (.cst (.int (.ofNat 1))) .nil))) .nil))) (.cons (.lst (.cons (.lst (.cons (.cst (.int (.ofNat 2))) (.cons (.cst (.int (.ofNat 1))) .nil))) (.cons (.lst (.cons (.cst (.int (.ofNat 0))) (.cons (.cst (.int (.ofNat 1))) .nil))) .nil))) .nil))) .nil))) (.cons (.lst .nil) .nil)) [1, 0]) .nil))) (.seq (.exp (.mth .append (.var 13) (.cons (.tup (.cons (.tup (.cons (.tup (.cons (.cst (.int (.ofNat 27))) (.cons (.cst (.int (.ofNat 4))) .nil))) (.cons (.tup (.cons (.cst (.int (.ofNat 6))) (.cons (.cst (.int (.ofNat 1))) .nil))) .nil))) (.cons (.tup (.cons (.tup (.cons (.cst (.int (.ofNat 6))) (.cons (.cst (.int (.ofNat 1))) .nil))) (.cons (.tup (.cons (.cst (.int (.ofNat 16))) (.cons (.cst (.int (.ofNat 3))) .nil))) .nil))) .nil))) .nil))) (.seq (.exp (.mth .append (.var 12) (.cons (.lc (.nm 15) (.itv (.tup (.cons (.tup (.cons (.var 2) (.cons (.var 0) .nil))) (.cons (.tup (.cons (.var 0) (.cons (.var 2) .nil))) (.cons (.tup (.cons (.var 4) (.cons (.tup (.cons (.cst (.int (.ofNat 1))) (.cons (.cst (.int (.ofNat 10))) .nil))) .nil))) (.cons (.tup (.cons (.tup (.cons (.cst (.int (.ofNat 101))) (.cons (.cst (.int (.ofNat 100))) .nil))) (.cons (.var 0) .nil))) (.cons (.tup (.cons (.tup (.cons (.neg (.cst (.int (.ofNat 3)))) (.cons (.cst (.int (.ofNat 2))) .nil))) (.cons (.var 0) .nil))) (.cons (.tup (.cons (.tup (.cons (.cst (.int (.ofNat 3))) (.cons (.cst (.int (.ofNat 5))) .nil))) (.cons (.tup (.cons (.cst (.int (.ofNat 81))) (.cons (.cst (.int (.ofNat 100))) .nil))) .nil))) .nil)))))))) (.cst (.bl true)) (.call 90 (.cons (.var 15) .nil)) [15]) .nil))) (.seq (.exp (.mth .append (.var 13) (.cons (.bin .mul (.lst (.cons (.cst (.bl true)) .nil)) (.cst (.int (.ofNat 6)))) .nil))) (.seq (.asg (.nm 14) (.lst (.cons (.tup (.cons (.var 1) (.cons (.var 0) .nil))) (.cons (.tup (.cons (.var 0) (.cons (.var 1) .nil))) (.cons (.tup (.cons (.tup (.cons (.cst (.int (.ofNat 3))) (.cons (.cst (.int (.ofNat 5))) .nil))) (.cons (.tup (.cons (.cst (.int (.ofNat 4))) (.cons (.cst (.int (.ofNat 5))) .nil))) .nil))) (.cons (.tup (.cons (.var 2) (.cons (.var 4) .nil))) (.cons (.tup (.cons (.var 2) .nil)) (.cons (.tup (.cons (.var 2) (.cons (.var 0) (.cons (.var 0) .nil)))) (.cons (.lst (.cons (.var 2) (.cons (.var 0) .nil))) (.cons (.tup (.cons (.var 2) (.cons (.cst (.int (.ofNat 0))) .nil))) (.cons (.tup (.cons (.var 2) (.cons (.tup (.cons (.cst (.bl true)) (.cons (.cst (.int (.ofNat 1))) .nil))) .nil))) (.cons (.tup (.cons (.tup (.cons (.cst (.int (.ofNat 2))) (.cons (.cst (.int (.ofNat 2))) .nil))) (.cons (.var 0) .nil))) (.cons (.cst .non) (.cons (.cst (.int (.ofNat 2))) (.cons (.cst (.str "20")) (.cons (.tup .nil) .nil)))))))))))))))) (.seq (.asg (.nm 12) (.bin .add (.var 12) (.lst (.cons (.lc (.nm 15) (.itv (.var 14)) (.cst (.bl true)) (.call 90 (.cons (.var 15) .nil)) [15]) (.cons (.callk 90 .nil (.cons (.tup (.cons (.var 2) (.cons (.var 0) .nil))) .nil) [0]) .nil))))) (.ret (.call 38 (.cons (.var 12) (.cons (.bin .add (.var 13) (.lst (.cons (.bin .mul (.lst (.cons (.cst (.bl false)) .nil)) (.cst (.int (.ofNat 14)))) (.cons (.cst (.bl true)) .nil)))) .nil))))))))))))))))))))
def b__law_keepers_right : Mi.St := (.seq (.asg (.tp (.cons (.nm 0) (.cons (.nm 1) (.cons (.nm 2) (.cons (.nm 3) (.cons (.nm 4) (.cons (.nm 5) (.cons (.nm 6) (.cons (.nm 7) (.cons (.nm 8) .nil)))))))))) (.call 138 .nil)) (.seq (.asg (.tp (.cons (.nm 9) (.cons (.nm 10) .nil))) (.tup (.cons (.tup (.cons (.idx (.var 8) (.cst (.int (.ofNat 0)))) (.cons (.tup (.cons (.tup (.cons (.var 3) (.cons (.var 0) .nil))) (.cons (.tup (.cons (.var 1) (.cons (.var 0) .nil))) .nil))) .nil))) (.cons (.tup (.cons (.var 0) (.cons (.var 2) .nil))) .nil)))) (.seq (.asg (.nm 11) (.lst (.cons (.call 73 (.cons (.tup .nil) (.cons (.var 8) .nil))) (.cons (.call 125 (.cons (.tup .nil) (.cons (.var 8) .nil))) (.cons (.call 105 (.cons (.tup .nil) (.cons (.var 8) .nil))) (.cons (.call 73 (.cons (.tup .nil) (.cons (.slc (.var 8) .noe (.bnd (.cst (.int (.ofNat 1))))) .nil))) (.cons (.call 125 (.cons (.tup .nil) (.cons (.slc (.var 8) .noe (.bnd (.cst (.int (.ofNat 1))))) .nil))) .nil))))))) (.seq (.asg (.nm 12) (.lst (.cons (.cst (.bl true)) (.cons (.cst (.bl true)) (.cons (.var 5) (.cons (.cst (.bl true)) (.cons (.cst (.bl false)) .nil))))))) (.seq (.asg (.nm 11) (.bin .add (.var 11) (.lst (.cons (.call 73 (.cons (.tup .nil) (.cons (.var 9) .nil))) (.cons (.call 125 (.cons (.tup .nil) (.cons (.var 9) .nil))) (.cons (.call 105 (.cons (.tup (.cons (.var 1) .nil)) (.cons (.slc (.var 8) .noe (.bnd (.cst (.int (.ofNat 1))))) .nil))) (.cons (.call 105 (.cons (.tup (.cons (.var 1) (.cons (.var 2) (.cons (.var 2) .nil)))) (.cons (.tup .nil) .nil))) .nil))))))) (.seq (.asg (.nm 12) (.bin .add (.var 12) (.lst (.cons (.cst (.bl false)) (.cons (.cst (.bl false)) (.cons (.var 5) (.cons (.var 5) .nil))))))) (.seq (.fr (.tp (.cons (.nm 13) (.cons (.nm 14) .nil))) (.itv (.tup (.cons (.tup (.cons (.tup (.cons (.tup (.cons (.cst (.int (.ofNat 3))) (.cons (.cst (.int (.ofNat 5))) .nil))) (.cons (.tup (.cons (.neg (.cst (.int (.ofNat 4)))) (.cons (.cst (.int (.ofNat 5))) .nil))) .nil))) (.cons (.var 5) .nil))) (.cons (.tup (.cons (.tup (.cons (.tup (.cons (.cst (.int (.ofNat 3))) (.cons (.cst (.int (.ofNat 5))) .nil))) (.cons (.tup (.cons (.cst (.int (.ofNat 4))) (.cons (.cst (.int (.ofNat 5))) .nil))) .nil))) (.cons (.var 6) .nil))) (.cons (.tup (.cons (.tup (.cons (.tup (.cons (.cst (.int (.ofNat 6))) (.cons (.cst (.int (.ofNat 5))) .nil))) (.cons (.tup (.cons (.neg (.cst (.int (.ofNat 8)))) (.cons (.cst (.int (.ofNat 5))) .nil))) .nil))) (.cons (.tup (.cons (.tup (.cons (.var 2) (.cons (.var 2) .nil))) (.cons (.tup (.cons (.var 1) (.cons (.var 4) .nil))) .nil))) .nil))) .nil))))) (.seq (.asg (.nm 11) (.bin .add (.var 11) (.lst (.cons (.call 105 (.cons (.tup .nil) (.cons (.tup (.cons (.tup (.cons (.var 10) (.cons (.var 13) .nil))) .nil)) .nil))) (.cons (.call 125 (.cons (.tup .nil) (.cons (.tup (.cons (.tup (.cons (.var 10) (.cons (.var 13) .nil))) .nil)) .nil))) (.cons (.call 73 (.cons (.tup .nil) (.cons (.tup (.cons (.tup (.cons (.var 10) (.cons (.tup (.cons (.idx (.var 13) (.cst (.int (.ofNat 0)))) (.cons (.tup (.cons (.bin .mul (.idx (.idx (.var 13) (.cst (.int (.ofNat 1)))) (.cst (.int (.ofNat 0)))) (.cst (.int (.ofNat 2)))) (.cons (.idx (.idx (.var 13) (.cst (.int (.ofNat 1)))) (.cst (.int (.ofNat 1)))) .nil))) .nil))) .nil))) .nil)) .nil))) .nil)))))) (.asg (.nm 12) (.bin .add (.var 12) (.lst (.cons (.var 14) (.cons (.cst (.bl true)) (.cons (.cst (.bl false)) .nil)))))))) (.seq (.asg (.nm 11) (.bin .add (.var 11) (.lst (.cons (.call 125 (.cons (.tup .nil) (.cons (.tup (.cons (.tup (.cons (.var 10) (.cons (.tup (.cons (.var 1) (.cons (.var 0) .nil))) .nil))) .nil)) .nil))) (.cons (.call 92 (.cons (.tup .nil) (.cons (.tup (.cons (.tup (.cons (.var 10) (.cons (.tup (.cons (.var 1) (.cons (.var 0) .nil))) .nil))) .nil)) (.cons (.var 7) .nil)))) (.cons (.call 73 (.cons (.tup .nil) (.cons (.tup (.cons (.tup (.cons (.var 10) (.cons (.tup (.cons (.var 4) (.cons (.var 0) .nil))) .nil))) .nil)) .nil))) .nil)))))) (.seq (.asg (.nm 12) (.bin .add (.var 12) (.lst (.cons (.cst (.bl false)) (.cons (.cst (.bl true)) (.cons (.cst (.bl false)) .nil)))))) (.seq (.asg (.nm 15) (.lst (.cons (.var 5) (.cons (.tup (.cons (.tup (.cons (.var 2) (.cons (.var 2) .nil))) (.cons (.tup (.cons (.var 1) (.cons (.var 4) .nil))) .nil))) (.cons (.var 6) (.cons (.var 7) (.cons (.bi .list (.cons (.var 5) .nil)) (.cons (.tup (.cons (.idx (.var 5) (.cst (.int (.ofNat 0)))) .nil)) (.cons (.cst .non) (.cons (.cst (.int (.ofNat 0))) (.cons (.tup (.cons (.tup (.cons (.var 1) (.cons (.var 1) (.cons (.var 0) .nil)))) (.cons (.tup (.cons (.var 1) (.cons (.var 4) (.cons (.var 0) .nil)))) .nil))) .nil))))))))))) (.seq (.asg (.nm 15) (.bin .add (.var 15) (.lst (.cons (.tup (.cons (.tup (.cons (.var 1) (.cons (.tup (.cons (.cst (.int (.ofNat 3))) (.cons (.cst (.int (.ofNat 2))) .nil))) (.cons (.tup (.cons (.cst (.int (.ofNat 1))) (.cons (.cst (.int (.ofNat 2))) .nil))) .nil)))) (.cons (.tup (.cons (.var 1) (.cons (.tup (.cons (.neg (.cst (.int (.ofNat 1)))) (.cons (.cst (.int (.ofNat 2))) .nil))) (.cons (.tup (.cons (.neg (.cst (.int (.ofNat 1)))) (.cons (.cst (.int (.ofNat 2))) .nil))) .nil)))) .nil))) (.cons (.tup (.cons (.tup (.cons (.var 0) (.cons (.tup (.cons (.cst (.int (.ofNat 6))) (.cons (.cst (.int (.ofNat 1))) .nil))) .nil))) (.cons (.tup (.cons (.var 1) (.cons (.var 0) .nil))) .nil))) .nil))))) (.seq (.exp (.mth .append (.var 11) (.cons (.lc (.nm 18) (.itv (.var 15)) (.cst (.bl true)) (.call 92 (.cons (.tup .nil) (.cons (.var 8) (.cons (.var 18) .nil)))) [18]) .nil))) (.seq (.exp (.mth .append (.var 12) (.cons (.bin .add (.lst (.cons (.cst (.bl true)) .nil)) (.bin .mul (.lst (.cons (.cst (.bl false)) .nil)) (.cst (.int (.ofNat 10))))) .nil))) (.seq (.asg (.nm 11) (.bin .add (.var 11) (.lst (.cons (.call 92 (.cons (.tup (.cons (.var 1) .nil)) (.cons (.slc (.var 8) .noe (.bnd (.cst (.int (.ofNat 1))))) (.cons (.var 5) .nil)))) (.cons (.call 92 (.cons (.tup (.cons (.var 2) .nil)) (.cons (.slc (.var 8) .noe (.bnd (.cst (.int (.ofNat 1))))) (.cons (.var 5) .nil)))) (.cons (.call 92 (.cons (.tup (.cons (.var 1) (.cons (.var 2) (.cons (.var 3) .nil)))) (.cons (.tup .nil) (.cons (.var 5) .nil)))) .nil)))))) (.seq (.asg (.nm 12) (.bin .add (.var 12) (.lst (.cons (.cst (.bl true)) (.cons (.cst (.bl false)) (.cons (.cst (.bl false)) .nil)))))) (.seq (.asg (.nm 16) (.lst (.cons (.tup (.cons (.var 3) (.cons (.tup (.cons (.neg (.cst (.int (.ofNat 5)))) (.cons (.cst (.int (.ofNat 1))) .nil))) .nil))) (.cons (.tup (.cons (.var 1) (.cons (.tup (.cons (.neg (.cst (.int (.ofNat 8)))) (.cons (.cst (.int (.ofNat 5))) .nil))) .nil))) (.cons (.tup (.cons (.var 3) (.cons (.tup (.cons (.cst (.int (.ofNat 5))) (.cons (.cst (.int (.ofNat 1))) .nil))) .nil))) (.cons (.tup (.cons (.var 3) (.cons (.tup (.cons (.neg (.cst (.int (.ofNat 10)))) (.cons (.cst (.int (.ofNat 1))) .nil))) .nil))) (.cons (.tup (.cons (.var 3) .nil)) (.cons (.tup (.cons (.var 3) (.cons (.tup (.cons (.neg (.cst (.int (.ofNat 5)))) (.cons (.cst (.int (.ofNat 1))) .nil))) (.cons (.var 0) .nil)))) (.cons (.lst (.cons (.var 3) (.cons (.tup (.cons (.neg (.cst (.int (.ofNat 5)))) (.cons (.cst (.int (.ofNat 1))) .nil))) .nil))) (.cons (.cst .non) (.cons (.tup (.cons (.cst (.int (.ofNat 3))) (.cons (.neg (.cst (.int (.ofNat 5)))) .nil))) (.cons (.tup (.cons (.var 0) (.cons (.var 0) .nil))) .nil)))))))))))) (.seq (.asg (.nm 11) (.bin .add (.var 11) (.lst (.cons (.lc (.nm 18) (.itv (.var 16)) (.cst (.bl true)) (.call 101 (.cons (.tup .nil) (.cons (.var 9) (.cons (.var 18) .nil)))) [18]) (.cons (.call 101 (.cons (.tup .nil) (.cons (.var 8) (.cons (.tup (.cons (.var 3) (.cons (.tup (.cons (.neg (.cst (.int (.ofNat 4)))) (.cons (.cst (.int (.ofNat 1))) .nil))) .nil))) .nil)))) (.cons (.call 101 (.cons (.tup .nil) (.cons (.var 9) (.cons (.call 137 (.cons (.tup .nil) (.cons (.var 9) .nil))) .nil)))) .nil)))))) (.seq (.asg (.nm 12) (.bin .add (.var 12) (.lst (.cons (.bin .add (.lst (.cons (.cst (.bl true)) (.cons (.cst (.bl true)) .nil))) (.bin .mul (.lst (.cons (.cst (.bl false)) .nil)) (.cst (.int (.ofNat 8))))) (.cons (.cst (.bl false)) (.cons (.cst (.bl true)) .nil)))))) (.seq (.asg (.nm 11) (.bin .add (.var 11) (.lst (.cons (.callk 101 .nil (.cons (.tup (.cons (.var 1) .nil)) (.cons (.tup (.cons (.tup (.cons (.tup (.cons (.var 2) (.cons (.var 0) .nil))) (.cons (.tup (.cons (.var 4) (.cons (.var 0) .nil))) .nil))) .nil)) (.cons (.tup .nil) .nil))) [2, 1, 0]) (.cons (.call 101 (.cons (.tup (.cons (.var 4) .nil)) (.cons (.tup .nil) (.cons (.tup (.cons (.var 1) .nil)) .nil)))) (.cons (.call 101 (.cons (.tup (.cons (.var 1) .nil)) (.cons (.tup .nil) (.cons (.tup (.cons (.var 1) .nil)) .nil)))) .nil)))))) (.seq (.asg (.nm 12) (.bin .add (.var 12) (.lst (.cons (.cst (.bl true)) (.cons (.cst (.bl true)) (.cons (.cst (.bl false)) .nil)))))) (.seq (.asg (.nm 17) (.tup (.cons (.tup (.cons (.var 10) (.cons (.tup (.cons (.var 0) (.cons (.var 0) .nil))) .nil))) (.cons (.tup (.cons (.tup (.cons (.var 2) (.cons (.var 0) .nil))) (.cons (.tup (.cons (.var 0) (.cons (.var 0) .nil))) .nil))) .nil)))) (.seq (.asg (.nm 11) (.bin .add (.var 11) (.lst (.cons (.call 73 (.cons (.tup .nil) (.cons (.var 17) .nil))) (.cons (.call 125 (.cons (.tup .nil) (.cons (.var 17) .nil))) (.cons (.call 105 (.cons (.tup .nil) (.cons (.var 17) .nil))) (.cons (.call 92 (.cons (.tup .nil) (.cons (.var 17) (.cons (.cst .non) .nil)))) (.cons (.call 92 (.cons (.tup .nil) (.cons (.var 17) (.cons (.var 7) .nil)))) .nil)))))))) (.seq (.asg (.nm 12) (.bin .add (.var 12) (.lst (.cons (.cst (.bl true)) (.cons (.cst (.bl true)) (.cons (.cst .non) (.cons (.cst (.bl true)) (.cons (.cst (.bl false)) .nil)))))))) (.seq (.asg (.nm 11) (.bin .add (.var 11) (.lst (.cons (.call 105 (.cons (.tup (.cons (.var 0) (.cons (.var 0) .nil))) (.cons (.tup .nil) .nil))) (.cons (.call 73 (.cons (.tup (.cons (.var 0) .nil)) (.cons (.var 17) .nil))) (.cons (.call 73 (.cons (.tup (.cons (.var 0) (.cons (.var 1) .nil))) (.cons (.tup .nil) .nil))) (.cons (.call 73 (.cons (.tup .nil) (.cons (.tup (.cons (.idx (.var 17) (.cst (.int (.ofNat 0)))) (.cons (.tup (.cons (.tup (.cons (.var 3) (.cons (.var 0) .nil))) (.cons (.tup (.cons (.var 1) (.cons (.var 0) .nil))) .nil))) .nil))) .nil))) .nil))))))) (.seq (.asg (.nm 12) (.bin .add (.var 12) (.lst (.cons (.cst .non) (.cons (.cst (.bl true)) (.cons (.cst (.bl false)) (.cons (.cst (.bl false)) .nil))))))) (.seq (.asg (.nm 11) (.bin .add (.var 11) (.lst (.cons (.call 92 (.cons (.tup .nil) (.cons (.var 8) (.cons (.cst .non) .nil)))) (.cons (.callk 105 .nil (.cons (.call 63 (.cons (.var 8) .nil)) (.cons (.lst .nil) .nil)) [1, 0]) (.cons (.callk 73 .nil (.cons (.call 63 (.cons (.var 9) .nil)) (.cons (.lst .nil) .nil)) [1, 0]) .nil)))))) (.seq (.asg (.nm 11) (.bin .add (.var 11) (.lst (.cons (.call 73 (.cons (.tup (.cons (.var 1) (.cons (.var 0) .nil))) (.cons (.tup (.cons (.tup (.cons (.tup (.cons (.var 1) (.cons (.var 1) .nil))) (.cons (.tup (.cons (.var 1) (.cons (.var 0) .nil))) .nil))) (.cons (.tup (.cons (.tup (.cons (.var 2) (.cons (.var 1) .nil))) (.cons (.tup (.cons (.var 1) (.cons (.var 0) .nil))) .nil))) .nil))) .nil))) (.cons (.call 92 (.cons (.tup (.cons (.var 1) (.cons (.var 0) .nil))) (.cons (.tup (.cons (.tup (.cons (.tup (.cons (.var 1) (.cons (.var 1) .nil))) (.cons (.tup (.cons (.var 1) (.cons (.var 0) .nil))) .nil))) (.cons (.tup (.cons (.tup (.cons (.var 2) (.cons (.var 1) .nil))) (.cons (.tup (.cons (.var 1) (.cons (.var 0) .nil))) .nil))) .nil))) (.cons (.var 7) .nil)))) .nil))))) (.ret (.call 38 (.cons (.var 11) (.cons (.bin .add (.var 12) (.lst (.cons (.cst (.bl false)) (.cons (.var 5) (.cons (.cst (.bl false)) (.cons (.cst (.bl true)) (.cons (.cst (.bl true)) .nil))))))) .nil)))))))))))))))))))))))))))))))
def b__law_ends_right : Mi.St := (.seq (.asg (.tp (.cons (.nm 0) (.cons (.nm 1) (.cons (.nm 2) (.cons (.nm 3) (.cons (.nm 4) (.cons (.nm 5) (.cons (.nm 6) (.cons (.nm 7) (.cons (.nm 8) .nil)))))))))) (.call 138 .nil)) (.seq (.asg (.nm 9) (.tup (.cons (.tup (.cons (.tup (.cons (.cst (.int (.ofNat 9))) (.cons (.cst (.int (.ofNat 1))) .nil))) (.cons (.tup (.cons (.neg (.cst (.int (.ofNat 9)))) (.cons (.cst (.int (.ofNat 1))) .nil))) .nil))) (.cons (.tup (.cons (.var 1) (.cons (.var 1) .nil))) .nil)))) (.seq (.asg (.nm 10) (.lst (.cons (.call 96 (.cons (.tup .nil) (.cons (.slc (.var 8) .noe (.bnd (.cst (.int (.ofNat 1))))) (.cons (.var 3) .nil)))) (.cons (.call 93 (.cons (.tup .nil) (.cons (.slc (.var 8) .noe (.bnd (.cst (.int (.ofNat 1))))) (.cons (.var 3) (.cons (.cst (.int (.ofNat 0))) .nil))))) (.cons (.call 93 (.cons (.tup .nil) (.cons (.slc (.var 8) .noe (.bnd (.cst (.int (.ofNat 1))))) (.cons (.var 3) (.cons (.cst (.int (.ofNat 1))) .nil))))) (.cons (.call 126 (.cons (.tup .nil) (.cons (.slc (.var 8) .noe (.bnd (.cst (.int (.ofNat 1))))) .nil))) .nil)))))) (.seq (.asg (.nm 11) (.lst (.cons (.tup (.cons (.var 2) (.cons (.tup (.cons (.cst (.int (.ofNat 9))) (.cons (.cst (.int (.ofNat 2))) .nil))) .nil))) (.cons (.var 5) (.cons (.var 9) (.cons (.tup (.cons (.var 1) (.cons (.tup (.cons (.cst (.int (.ofNat 9))) (.cons (.cst (.int (.ofNat 1))) .nil))) .nil))) .nil)))))) (.seq (.asg (.nm 10) (.bin .add (.var 10) (.lst (.cons (.call 96 (.cons (.tup .nil) (.cons (.slc (.var 8) .noe (.bnd (.cst (.int (.ofNat 1))))) (.cons (.tup (.cons (.neg (.cst (.int (.ofNat 3)))) (.cons (.cst (.int (.ofNat 1))) .nil))) .nil)))) (.cons (.call 93 (.cons (.tup .nil) (.cons (.slc (.var 8) .noe (.bnd (.cst (.int (.ofNat 1))))) (.cons (.tup (.cons (.neg (.cst (.int (.ofNat 3)))) (.cons (.cst (.int (.ofNat 1))) .nil))) (.cons (.cst (.int (.ofNat 1))) .nil))))) (.cons (.call 96 (.cons (.tup .nil) (.cons (.slc (.var 8) .noe (.bnd (.cst (.int (.ofNat 1))))) (.cons (.tup (.cons (.cst (.int (.ofNat 3))) (.cons (.cst (.int (.ofNat 2))) .nil))) .nil)))) (.cons (.call 93 (.cons (.tup .nil) (.cons (.slc (.var 8) .noe (.bnd (.cst (.int (.ofNat 1))))) (.cons (.tup (.cons (.cst (.int (.ofNat 3))) (.cons (.cst (.int (.ofNat 2))) .nil))) (.cons (.cst (.int (.ofNat 0))) .nil))))) .nil))))))) (.seq (.asg (.nm 11) (.bin .add (.var 11) (.lst (.cons (.tup (.cons (.tup (.cons (.cst (.int (.ofNat 1))) (.cons (.cst (.int (.ofNat 2))) .nil))) (.cons (.tup (.cons (.cst (.int (.ofNat 18))) (.cons (.cst (.int (.ofNat 1))) .nil))) .nil))) (.cons (.var 9) (.cons (.tup (.cons (.tup (.cons (.cst (.int (.ofNat 9))) (.cons (.cst (.int (.ofNat 5))) .nil))) (.cons (.tup (.cons (.cst (.int (.ofNat 5))) (.cons (.cst (.int (.ofNat 1))) .nil))) .nil))) (.cons (.var 9) .nil))))))) (.seq (.asg (.nm 10) (.bin .add (.var 10) (.lst (.cons (.call 93 (.cons (.tup .nil) (.cons (.slc (.var 8) .noe (.bnd (.cst (.int (.ofNat 1))))) (.cons (.tup (.cons (.neg (.cst (.int (.ofNat 3)))) (.cons (.cst (.int (.ofNat 1))) .nil))) (.cons (.cst (.int (.ofNat 0))) .nil))))) (.cons (.call 93 (.cons (.tup .nil) (.cons (.slc (.var 8) .noe (.bnd (.cst (.int (.ofNat 1))))) (.cons (.tup (.cons (.cst (.int (.ofNat 3))) (.cons (.cst (.int (.ofNat 2))) .nil))) (.cons (.cst (.int (.ofNat 1))) .nil))))) .nil))))) (.seq (.asg (.nm 11) (.bin .add (.var 11) (.lst (.cons (.var 5) (.cons (.var 5) .nil))))) (.seq (.asg (.nm 10) (.bin .add (.var 10) (.lst (.cons (.call 126 (.cons (.tup (.cons (.var 1) .nil)) (.cons (.slc (.var 8) .noe (.bnd (.cst (.int (.ofNat 1))))) .nil))) (.cons (.call 96 (.cons (.tup .nil) (.cons (.var 8) (.cons (.tup (.cons (.cst (.int (.ofNat 4))) (.cons (.cst (.int (.ofNat 1))) .nil))) .nil)))) (.cons (.call 93 (.cons (.tup .nil) (.cons (.var 8) (.cons (.tup (.cons (.cst (.int (.ofNat 4))) (.cons (.cst (.int (.ofNat 1))) .nil))) (.cons (.cst (.int (.ofNat 0))) .nil))))) (.cons (.call 93 (.cons (.tup .nil) (.cons (.var 8) (.cons (.tup (.cons (.cst (.int (.ofNat 4))) (.cons (.cst (.int (.ofNat 1))) .nil))) (.cons (.cst (.int (.ofNat 1))) .nil))))) (.cons (.call 126 (.cons (.tup .nil) (.cons (.var 8) .nil))) .nil)))))))) (.seq (.asg (.nm 11) (.bin .add (.var 11) (.lst (.cons (.tup (.cons (.var 2) (.cons (.var 2) .nil))) (.cons (.tup (.cons (.tup (.cons (.cst (.int (.ofNat 5))) (.cons (.cst (.int (.ofNat 3))) .nil))) (.cons (.tup (.cons (.cst (.int (.ofNat 5))) (.cons (.cst (.int (.ofNat 3))) .nil))) .nil))) (.cons (.var 5) (.cons (.var 5) (.cons (.tup (.cons (.var 1) (.cons (.var 1) .nil))) .nil)))))))) (.seq (.asg (.nm 10) (.bin .add (.var 10) (.lst (.cons (.call 96 (.cons (.tup (.cons (.var 1) .nil)) (.cons (.tup .nil) (.cons (.var 2) .nil)))) (.cons (.call 126 (.cons (.tup (.cons (.var 1) .nil)) (.cons (.tup .nil) .nil))) (.cons (.call 93 (.cons (.tup (.cons (.var 1) .nil)) (.cons (.tup .nil) (.cons (.var 2) (.cons (.cst (.int (.ofNat 0))) .nil))))) (.cons (.call 93 (.cons (.tup (.cons (.var 1) .nil)) (.cons (.tup .nil) (.cons (.var 2) (.cons (.cst (.int (.ofNat 1))) .nil))))) .nil))))))) (.seq (.asg (.nm 11) (.bin .add (.var 11) (.lst (.cons (.tup (.cons (.tup (.cons (.cst (.int (.ofNat 1))) (.cons (.cst (.int (.ofNat 3))) .nil))) (.cons (.var 3) .nil))) (.cons (.tup (.cons (.tup (.cons (.neg (.cst (.int (.ofNat 2)))) (.cons (.cst (.int (.ofNat 1))) .nil))) (.cons (.var 2) .nil))) (.cons (.var 6) (.cons (.var 5) .nil))))))) (.seq (.asg (.nm 10) (.bin .add (.var 10) (.lst (.cons (.callk 96 .nil (.cons (.lst (.cons (.cst (.int (.ofNat 2))) (.cons (.cst (.int (.ofNat 1))) .nil))) (.cons (.lst .nil) (.cons (.lst (.cons (.lst (.cons (.cst (.int (.ofNat 1))) (.cons (.cst (.int (.ofNat 1))) .nil))) .nil)) .nil))) [2, 1, 0]) (.cons (.callk 93 .nil (.cons (.cst (.int (.ofNat 1))) (.cons (.lst (.cons (.cst (.int (.ofNat 2))) (.cons (.cst (.int (.ofNat 1))) .nil))) (.cons (.lst .nil) (.cons (.lst (.cons (.lst (.cons (.cst (.int (.ofNat 1))) (.cons (.cst (.int (.ofNat 1))) .nil))) .nil)) .nil)))) [3, 2, 1, 0]) .nil))))) (.seq (.asg (.nm 11) (.bin .add (.var 11) (.lst (.cons (.tup (.cons (.tup (.cons (.cst (.int (.ofNat 1))) (.cons (.cst (.int (.ofNat 3))) .nil))) (.cons (.var 3) .nil))) (.cons (.var 5) .nil))))) (.seq (.asg (.nm 12) (.tup (.cons (.tup (.cons (.tup (.cons (.var 2) (.cons (.var 0) .nil))) (.cons (.tup (.cons (.var 0) (.cons (.var 0) .nil))) .nil))) .nil))) (.seq (.asg (.nm 10) (.bin .add (.var 10) (.lst (.cons (.call 96 (.cons (.tup .nil) (.cons (.var 12) (.cons (.var 3) .nil)))) (.cons (.call 126 (.cons (.tup .nil) (.cons (.var 12) .nil))) (.cons (.call 93 (.cons (.tup .nil) (.cons (.var 12) (.cons (.var 3) (.cons (.cst (.int (.ofNat 1))) .nil))))) (.cons (.call 126 (.cons (.tup (.cons (.var 0) .nil)) (.cons (.tup .nil) .nil))) .nil))))))) (.seq (.asg (.nm 11) (.bin .add (.var 11) (.lst (.cons (.tup (.cons (.var 0) (.cons (.var 0) .nil))) (.cons (.tup (.cons (.var 0) (.cons (.var 0) .nil))) (.cons (.cst .non) (.cons (.tup (.cons (.var 0) (.cons (.var 0) .nil))) .nil))))))) (.seq (.asg (.nm 13) (.tup (.cons (.idx (.var 8) (.cst (.int (.ofNat 0)))) (.cons (.tup (.cons (.tup (.cons (.var 3) (.cons (.var 0) .nil))) (.cons (.tup (.cons (.var 1) (.cons (.var 0) .nil))) .nil))) .nil)))) (.seq (.asg (.nm 10) (.bin .add (.var 10) (.lst (.cons (.call 29 (.cons (.tup .nil) (.cons (.var 8) (.cons (.var 1) .nil)))) (.cons (.call 29 (.cons (.tup (.cons (.var 1) (.cons (.var 2) .nil))) (.cons (.tup .nil) (.cons (.tup (.cons (.cst (.int (.ofNat 1))) (.cons (.bin .pow (.cst (.int (.ofNat 10))) (.cst (.int (.ofNat 6)))) .nil))) .nil)))) (.cons (.callk 29 .nil (.cons (.var 1) (.cons (.lst .nil) (.cons (.lst (.cons (.lst (.cons (.cst (.int (.ofNat 0))) (.cons (.cst (.int (.ofNat 1))) .nil))) (.cons (.lst (.cons (.cst (.int (.ofNat 0))) (.cons (.cst (.int (.ofNat 1))) .nil))) .nil))) .nil))) [2, 1, 0]) .nil)))))) (.seq (.asg (.nm 11) (.bin .add (.var 11) (.lst (.cons (.tup (.cons (.var 0) (.cons (.var 0) .nil))) (.cons (.tup (.cons (.var 0) (.cons (.var 0) .nil))) (.cons (.tup (.cons (.var 0) (.cons (.var 0) .nil))) .nil)))))) (.seq (.ifs (.nt (.call 38 (.cons (.var 10) (.cons (.var 11) .nil)))) (.ret (.cst (.bl false))) .skip) (.seq (.asg (.nm 14) (.lst (.cons (.tup (.cons (.call 29 (.cons (.tup .nil) (.cons (.var 13) (.cons (.var 1) .nil)))) (.cons (.var 3) (.cons (.cst (.bl true)) .nil)))) (.cons (.tup (.cons (.call 29 (.cons (.tup .nil) (.cons (.var 13) (.cons (.tup (.cons (.cst (.int (.ofNat 1))) (.cons (.cst (.int (.ofNat 1000))) .nil))) .nil)))) (.cons (.var 3) (.cons (.cst (.bl true)) .nil)))) (.cons (.tup (.cons (.call 29 (.cons (.tup (.cons (.var 1) (.cons (.var 3) .nil))) (.cons (.tup .nil) (.cons (.tup (.cons (.cst (.int (.ofNat 1))) (.cons (.cst (.int (.ofNat 8))) .nil))) .nil)))) (.cons (.tup (.cons (.cst (.int (.ofNat 1))) (.cons (.cst (.int (.ofNat 2))) .nil))) (.cons (.cst (.bl true)) .nil)))) .nil))))) (.seq (.asg (.nm 14) (.bin .add (.var 14) (.lst (.cons (.tup (.cons (.call 30 (.cons (.tup .nil) (.cons (.slc (.var 8) .noe (.bnd (.cst (.int (.ofNat 1))))) (.cons (.var 1) .nil)))) (.cons (.var 3) (.cons (.cst (.bl false)) .nil)))) (.cons (.tup (.cons (.call 30 (.cons (.tup .nil) (.cons (.var 8) (.cons (.tup (.cons (.cst (.int (.ofNat 1))) (.cons (.cst (.int (.ofNat 100))) .nil))) .nil)))) (.cons (.var 0) (.cons (.cst (.bl false)) .nil)))) (.cons (.tup (.cons (.call 30 (.cons (.tup (.cons (.var 2) (.cons (.var 1) .nil))) (.cons (.tup .nil) (.cons (.tup (.cons (.cst (.int (.ofNat 1))) (.cons (.cst (.int (.ofNat 9))) .nil))) .nil)))) (.cons (.tup (.cons (.cst (.int (.ofNat 3))) (.cons (.cst (.int (.ofNat 2))) .nil))) (.cons (.cst (.bl false)) .nil)))) .nil)))))) (.seq (.asg (.nm 15) (.lst (.cons (.var 1) (.cons (.tup (.cons (.cst (.int (.ofNat 1))) (.cons (.cst (.int (.ofNat 1000))) .nil))) (.cons (.tup (.cons (.cst (.int (.ofNat 1))) (.cons (.cst (.int (.ofNat 8))) .nil))) (.cons (.var 1) (.cons (.tup (.cons (.cst (.int (.ofNat 1))) (.cons (.cst (.int (.ofNat 100))) .nil))) (.cons (.tup (.cons (.cst (.int (.ofNat 1))) (.cons (.cst (.int (.ofNat 9))) .nil))) .nil)))))))) (.seq (.fr (.tp (.cons (.tp (.cons (.nm 16) (.cons (.nm 17) (.cons (.nm 18) .nil)))) (.cons (.nm 19) .nil))) (.itz (.var 14) (.var 15)) (.seq (.ifs (.or (.nt (.isin (.var 16) [.tuple])) (.one (.cmp .ne (.bi .len (.cons (.var 16) .nil)) (.cst (.int (.ofNat 2)))))) (.ret (.cst (.bl false))) .skip) (.seq (.asg (.tp (.cons (.nm 20) (.cons (.nm 21) (.cons (.nm 22) (.cons (.nm 23) .nil))))) (.bin .add (.idx (.var 16) (.cst (.int (.ofNat 0)))) (.idx (.var 16) (.cst (.int (.ofNat 1)))))) (.seq (.ifs (.or (.cmp .lt (.bi .min (.cons (.var 21) (.cons (.var 23) .nil))) (.cst (.int (.ofNat 1)))) (.or (.cmp .lt (.var 20) (.cst (.int (.ofNat 0)))) (.or (.cmp .ge (.bin .mul (.var 20) (.var 23)) (.bin .mul (.var 22) (.var 21))) (.one (.cmp .gt (.bin .mul (.bin .sub (.bin .mul (.var 22) (.var 21)) (.bin .mul (.var 20) (.var 23))) (.idx (.var 19) (.cst (.int (.ofNat 1))))) (.bin .mul (.bin .mul (.idx (.var 19) (.cst (.int (.ofNat 0)))) (.var 21)) (.var 23))))))) (.ret (.cst (.bl false))) .skip) (.seq (.ifs (.and (.var 18) (.one (.or (.cmp .ge (.bin .mul (.var 20) (.idx (.var 17) (.cst (.int (.ofNat 1))))) (.bin .mul (.idx (.var 17) (.cst (.int (.ofNat 0)))) (.var 21))) (.one (.cmp .gt (.bin .mul (.idx (.var 17) (.cst (.int (.ofNat 0)))) (.var 23)) (.bin .mul (.var 22) (.idx (.var 17) (.cst (.int (.ofNat 1)))))))))) (.ret (.cst (.bl false))) .skip) (.ifs (.and (.nt (.var 18)) (.one (.or (.cmp .gt (.bin .mul (.var 20) (.idx (.var 17) (.cst (.int (.ofNat 1))))) (.bin .mul (.idx (.var 17) (.cst (.int (.ofNat 0)))) (.var 21))) (.one (.cmp .ge (.bin .mul (.idx (.var 17) (.cst (.int (.ofNat 0)))) (.var 23)) (.bin .mul (.var 22) (.idx (.var 17) (.cst (.int (.ofNat 1)))))))))) (.ret (.cst (.bl false))) .skip)))))) (.ret (.cst (.bl true))))))))))))))))))))))))))))
def b__law_refused_right : Mi.St := (.seq (.asg (.tp (.cons (.nm 0) (.cons (.nm 1) (.cons (.nm 2) (.cons (.nm 3) (.cons (.nm 4) (.cons (.nm 5) (.cons (.nm 6) (.cons (.nm 7) (.cons (.nm 8) .nil)))))))))) (.call 138 .nil)) (.seq (.par [9, 10] (.cons (.tup (.cons (.idx (.var 8) (.cst (.int (.ofNat 0)))) (.cons (.tup (.cons (.tup (.cons (.var 3) (.cons (.var 0) .nil))) (.cons (.tup (.cons (.var 1) (.cons (.var 0) .nil))) .nil))) .nil))) (.cons (.tup (.cons (.tup (.cons (.tup (.cons (.var 1) (.cons (.var 1) .nil))) (.cons (.tup (.cons (.var 1) (.cons (.var 0) .nil))) .nil))) (.cons (.tup (.cons (.tup (.cons (.var 2) (.cons (.var 1) .nil))) (.cons (.tup (.cons (.var 1) (.cons (.var 0) .nil))) .nil))) .nil))) .nil))) (.seq (.asg (.nm 11) (.bin .add (.var 8) (.tup (.cons (.tup (.cons (.tup (.cons (.cst (.int (.ofNat 4))) (.cons (.cst (.int (.ofNat 1))) .nil))) (.cons (.var 0) .nil))) (.cons (.tup (.cons (.tup (.cons (.cst (.int (.ofNat 5))) (.cons (.cst (.int (.ofNat 1))) .nil))) (.cons (.var 0) .nil))) .nil))))) (.seq (.asg (.nm 12) (.lc (.nm 15) (.itv (.tup (.cons (.bin .mul (.tup (.cons (.var 1) .nil)) (.cst (.int (.ofNat 5)))) (.cons (.tup (.cons (.var 1) (.cons (.cst (.int (.ofNat 2))) .nil))) (.cons (.cst .non) (.cons (.tup (.cons (.tup (.cons (.cst (.int (.ofNat 2))) (.cons (.cst (.int (.ofNat 2))) .nil))) .nil)) (.cons (.tup .nil) (.cons (.tup (.cons (.var 1) (.cons (.cst (.bl true)) .nil))) (.cons (.cst (.int (.ofNat 7))) .nil))))))))) (.cst (.bl true)) (.tup (.cons (.cst (.int (.ofNat 0))) (.cons (.var 15) (.cons (.tup .nil) (.cons (.cst (.int (.ofNat 0))) (.cons (.cst (.int (.ofNat 0))) .nil)))))) [15])) (.seq (.asg (.nm 13) (.lst (.cons (.tup (.cons (.tup (.cons (.tup (.cons (.tup (.cons (.cst (.int (.ofNat 1))) (.cons (.cst (.int (.ofNat 2))) .nil))) (.cons (.var 0) .nil))) (.cons (.tup (.cons (.var 1) (.cons (.var 0) .nil))) .nil))) .nil)) (.cons (.tup (.cons (.tup (.cons (.tup (.cons (.var 2) (.cons (.var 4) .nil))) (.cons (.tup (.cons (.var 1) (.cons (.var 0) .nil))) .nil))) .nil)) (.cons (.tup (.cons (.tup (.cons (.tup (.cons (.var 1) (.cons (.var 0) .nil))) (.cons (.tup (.cons (.var 1) (.cons (.var 0) .nil))) .nil))) .nil)) (.cons (.tup (.cons (.tup (.cons (.tup (.cons (.var 2) (.cons (.var 0) .nil))) (.cons (.tup (.cons (.var 1) (.cons (.var 1) .nil))) .nil))) .nil)) (.cons (.back (.var 8) .noe .noe) (.cons (.tup (.cons (.idx (.var 8) (.cst (.int (.ofNat 0)))) (.cons (.idx (.var 8) (.cst (.int (.ofNat 0)))) .nil))) .nil)))))))) (.seq (.asg (.nm 13) (.bin .add (.var 13) (.lst (.cons (.var 11) (.cons (.tup (.cons (.tup (.cons (.tup (.cons (.var 2) (.cons (.var 0) .nil))) .nil)) .nil)) (.cons (.cst .non) (.cons (.tup (.cons (.idx (.var 8) (.cst (.int (.ofNat 0)))) (.cons (.cst .non) .nil))) (.cons (.tup (.cons (.tup (.cons (.idx (.idx (.var 8) (.cst (.int (.ofNat 0)))) (.cst (.int (.ofNat 0)))) (.cons (.var 1) .nil))) .nil)) (.cons (.tup (.cons (.tup (.cons (.idx (.idx (.var 8) (.cst (.int (.ofNat 0)))) (.cst (.int (.ofNat 0)))) (.cons (.tup (.cons (.var 1) (.cons (.var 0) (.cons (.var 0) .nil)))) .nil))) .nil)) (.cons (.cst (.str "told")) (.cons (.tup (.cons (.tup (.cons (.var 1) (.cons (.tup (.cons (.var 1) (.cons (.var 0) .nil))) .nil))) .nil)) .nil))))))))))) (.seq (.asg (.nm 12) (.bin .add (.bin .add (.var 12) (.lc (.nm 15) (.itv (.var 13)) (.cst (.bl true)) (.tup (.cons (.cst (.int (.ofNat 0))) (.cons (.tup .nil) (.cons (.var 15) (.cons (.cst (.int (.ofNat 0))) (.cons (.cst (.int (.ofNat 0))) .nil)))))) [15])) (.lst (.cons (.tup (.cons (.cst (.int (.ofNat 0))) (.cons (.bin .mul (.tup (.cons (.var 1) .nil)) (.cst (.int (.ofNat 3)))) (.cons (.var 10) (.cons (.cst (.int (.ofNat 0))) (.cons (.cst (.int (.ofNat 0))) .nil)))))) (.cons (.tup (.cons (.cst (.int (.ofNat 1))) (.cons (.tup .nil) (.cons (.tup .nil) (.cons (.cst (.int (.ofNat 0))) (.cons (.cst (.int (.ofNat 0))) .nil)))))) (.cons (.tup (.cons (.cst (.int (.ofNat 2))) (.cons (.tup .nil) (.cons (.back (.var 8) .noe .noe) (.cons (.cst (.int (.ofNat 0))) (.cons (.cst (.int (.ofNat 0))) .nil)))))) .nil)))))) (.seq (.asg (.nm 12) (.bin .add (.var 12) (.lst (.cons (.tup (.cons (.cst (.int (.ofNat 6))) (.cons (.tup (.cons (.var 1) (.cons (.var 0) .nil))) (.cons (.var 10) (.cons (.var 1) (.cons (.cst (.int (.ofNat 0))) .nil)))))) (.cons (.tup (.cons (.cst (.int (.ofNat 7))) (.cons (.tup (.cons (.var 1) (.cons (.var 0) .nil))) (.cons (.var 10) (.cons (.var 1) (.cons (.cst (.int (.ofNat 0))) .nil)))))) (.cons (.tup (.cons (.cst (.int (.ofNat 4))) (.cons (.tup (.cons (.var 1) (.cons (.var 0) .nil))) (.cons (.var 10) (.cons (.var 3) (.cons (.cst (.int (.ofNat 0))) .nil)))))) (.cons (.tup (.cons (.cst (.int (.ofNat 3))) (.cons (.tup (.cons (.var 1) (.cons (.var 0) .nil))) (.cons (.var 10) (.cons (.cst (.int (.ofNat 0))) (.cons (.cst (.int (.ofNat 0))) .nil)))))) (.cons (.tup (.cons (.cst (.int (.ofNat 5))) (.cons (.tup (.cons (.var 1) (.cons (.var 0) .nil))) (.cons (.var 10) (.cons (.var 3) (.cons (.cst (.int (.ofNat 0))) .nil)))))) .nil)))))))) (.seq (.asg (.nm 12) (.bin .add (.var 12) (.lc (.tp (.cons (.nm 16) (.cons (.nm 15) .nil))) (.itv (.tup (.cons (.tup (.cons (.cst (.int (.ofNat 6))) (.cons (.var 0) .nil))) (.cons (.tup (.cons (.cst (.int (.ofNat 7))) (.cons (.var 0) .nil))) (.cons (.tup (.cons (.cst (.int (.ofNat 6))) (.cons (.tup (.cons (.cst (.int (.ofNat 3))) (.cons (.cst (.int (.ofNat 2))) .nil))) .nil))) (.cons (.tup (.cons (.cst (.int (.ofNat 7))) (.cons (.tup (.cons (.cst (.int (.ofNat 3))) (.cons (.cst (.int (.ofNat 2))) .nil))) .nil))) (.cons (.tup (.cons (.cst (.int (.ofNat 6))) (.cons (.tup (.cons (.cst (.int (.ofNat 1))) (.cons (.bin .mul (.cst (.int (.ofNat 2))) (.bin .pow (.cst (.int (.ofNat 10))) (.cst (.int (.ofNat 6))))) .nil))) .nil))) (.cons (.tup (.cons (.cst (.int (.ofNat 7))) (.cons (.cst .non) .nil))) .nil)))))))) (.cst (.bl true)) (.tup (.cons (.var 16) (.cons (.tup (.cons (.var 1) .nil)) (.cons (.tup .nil) (.cons (.var 15) (.cons (.cst (.int (.ofNat 0))) .nil)))))) [16, 15]))) (.seq (.asg (.nm 12) (.bin .add (.bin .add (.var 12) (.lc (.nm 15) (.itv (.tup (.cons (.var 1) (.cons (.var 0) (.cons (.var 4) (.cons (.tup (.cons (.cst (.int (.ofNat 1))) (.cons (.cst (.int (.ofNat 2))) .nil))) (.cons (.var 2) (.cons (.cst .non) (.cons (.tup (.cons (.cst (.int (.ofNat 4))) (.cons (.cst (.int (.ofNat 2))) .nil))) (.cons (.cst (.int (.ofNat 3))) .nil)))))))))) (.cst (.bl true)) (.tup (.cons (.cst (.int (.ofNat 4))) (.cons (.tup .nil) (.cons (.slc (.var 8) .noe (.bnd (.cst (.int (.ofNat 1))))) (.cons (.var 15) (.cons (.cst (.int (.ofNat 0))) .nil)))))) [15])) (.lc (.nm 15) (.itv (.tup (.cons (.cst (.int (.ofNat 2))) (.cons (.neg (.cst (.int (.ofNat 1)))) (.cons (.cst (.bl true)) (.cons (.cst .non) .nil)))))) (.cst (.bl true)) (.tup (.cons (.cst (.int (.ofNat 5))) (.cons (.tup .nil) (.cons (.slc (.var 8) .noe (.bnd (.cst (.int (.ofNat 1))))) (.cons (.var 3) (.cons (.var 15) .nil)))))) [15]))) (.seq (.asg (.nm 12) (.bin .add (.var 12) (.lst (.cons (.tup (.cons (.cst (.int (.ofNat 4))) (.cons (.tup .nil) (.cons (.var 9) (.cons (.var 1) (.cons (.cst (.int (.ofNat 0))) .nil)))))) (.cons (.tup (.cons (.cst (.int (.ofNat 5))) (.cons (.tup .nil) (.cons (.var 9) (.cons (.tup (.cons (.cst (.int (.ofNat 4))) (.cons (.cst (.int (.ofNat 1))) .nil))) (.cons (.cst (.int (.ofNat 2))) .nil)))))) (.cons (.tup (.cons (.cst (.int (.ofNat 7))) (.cons (.tup .nil) (.cons (.var 9) (.cons (.var 0) (.cons (.cst (.int (.ofNat 0))) .nil)))))) (.cons (.tup (.cons (.cst (.int (.ofNat 8))) (.cons (.tup (.cons (.tup (.cons (.var 1) (.cons (.var 0) .nil))) (.cons (.tup (.cons (.var 1) (.cons (.var 2) (.cons (.var 0) .nil)))) .nil))) (.cons (.tup (.cons (.tup (.cons (.var 2) (.cons (.var 0) .nil))) .nil)) (.cons (.cst (.int (.ofNat 0))) (.cons (.cst (.int (.ofNat 0))) .nil)))))) .nil))))))) (.seq (.asg (.nm 12) (.bin .add (.var 12) (.lst (.cons (.tup (.cons (.cst (.int (.ofNat 8))) (.cons (.tup (.cons (.tup (.cons (.var 1) (.cons (.var 0) .nil))) (.cons (.tup (.cons (.var 1) (.cons (.var 0) .nil))) .nil))) (.cons (.tup (.cons (.tup (.cons (.var 2) (.cons (.var 0) .nil))) .nil)) (.cons (.cst (.int (.ofNat 0))) (.cons (.cst (.int (.ofNat 0))) .nil)))))) (.cons (.tup (.cons (.cst (.int (.ofNat 8))) (.cons (.var 5) (.cons (.tup (.cons (.tup (.cons (.var 3) (.cons (.var 0) .nil))) (.cons (.tup (.cons (.var 2) (.cons (.var 0) .nil))) .nil))) (.cons (.cst (.int (.ofNat 0))) (.cons (.cst (.int (.ofNat 0))) .nil)))))) (.cons (.tup (.cons (.cst (.int (.ofNat 8))) (.cons (.var 5) (.cons (.tup (.cons (.tup (.cons (.var 1) (.cons (.var 0) .nil))) .nil)) (.cons (.cst (.int (.ofNat 0))) (.cons (.cst (.int (.ofNat 0))) .nil)))))) (.cons (.tup (.cons (.cst (.int (.ofNat 8))) (.cons (.var 5) (.cons (.cst .non) (.cons (.cst (.int (.ofNat 0))) (.cons (.cst (.int (.ofNat 0))) .nil)))))) .nil))))))) (.seq (.asg (.nm 14) (.bin .mul (.lst (.cons (.lst (.cons (.cst (.str "unfit")) (.cons (.cst (.bl true)) .nil))) .nil)) (.bi .len (.cons (.var 12) .nil)))) (.seq (.asg (.nm 12) (.bin .add (.var 12) (.lst (.cons (.tup (.cons (.cst (.int (.ofNat 4))) (.cons (.tup .nil) (.cons (.var 9) (.cons (.tup (.cons (.cst (.int (.ofNat 4))) (.cons (.cst (.int (.ofNat 1))) .nil))) (.cons (.cst (.int (.ofNat 0))) .nil)))))) (.cons (.tup (.cons (.cst (.int (.ofNat 3))) (.cons (.tup (.cons (.var 4) .nil)) (.cons (.tup .nil) (.cons (.cst (.int (.ofNat 0))) (.cons (.cst (.int (.ofNat 0))) .nil)))))) (.cons (.tup (.cons (.cst (.int (.ofNat 5))) (.cons (.tup .nil) (.cons (.var 9) (.cons (.tup (.cons (.cst (.int (.ofNat 4))) (.cons (.cst (.int (.ofNat 1))) .nil))) (.cons (.cst (.int (.ofNat 1))) .nil)))))) (.cons (.tup (.cons (.cst (.int (.ofNat 7))) (.cons (.tup .nil) (.cons (.var 9) (.cons (.var 1) (.cons (.cst (.int (.ofNat 0))) .nil)))))) (.cons (.tup (.cons (.cst (.int (.ofNat 8))) (.cons (.tup (.cons (.tup (.cons (.var 1) (.cons (.var 0) .nil))) (.cons (.tup (.cons (.var 1) (.cons (.var 2) .nil))) .nil))) (.cons (.tup (.cons (.tup (.cons (.tup (.cons (.neg (.cst (.int (.ofNat 2)))) (.cons (.cst (.int (.ofNat 1))) .nil))) (.cons (.var 0) .nil))) .nil)) (.cons (.cst (.int (.ofNat 0))) (.cons (.cst (.int (.ofNat 0))) .nil)))))) .nil)))))))) (.seq (.asg (.nm 14) (.bin .add (.var 14) (.bin .mul (.lst (.cons (.lst (.cons (.cst (.str "can not")) (.cons (.cst (.bl true)) .nil))) .nil)) (.cst (.int (.ofNat 5)))))) (.seq (.asg (.nm 12) (.bin .add (.var 12) (.lst (.cons (.tup (.cons (.cst (.int (.ofNat 1))) (.cons (.tup .nil) (.cons (.var 9) (.cons (.cst (.int (.ofNat 0))) (.cons (.cst (.int (.ofNat 0))) .nil)))))) (.cons (.tup (.cons (.cst (.int (.ofNat 2))) (.cons (.tup .nil) (.cons (.var 8) (.cons (.cst (.int (.ofNat 0))) (.cons (.cst (.int (.ofNat 0))) .nil)))))) (.cons (.tup (.cons (.cst (.int (.ofNat 1))) (.cons (.tup (.cons (.var 4) .nil)) (.cons (.tup .nil) (.cons (.cst (.int (.ofNat 0))) (.cons (.cst (.int (.ofNat 0))) .nil)))))) (.cons (.tup (.cons (.cst (.int (.ofNat 2))) (.cons (.tup (.cons (.var 1) .nil)) (.cons (.tup .nil) (.cons (.cst (.int (.ofNat 0))) (.cons (.cst (.int (.ofNat 0))) .nil)))))) .nil))))))) (.ret (.call 38 (.cons (.lc (.nm 15) (.itv (.var 12)) (.cst (.bl true)) (.call 66 (.cons (.var 15) .nil)) [15]) (.cons (.bin .add (.var 14) (.bin .mul (.lst (.cons (.lst (.cons (.cst (.str "no paper")) (.cons (.cst (.bl true)) .nil))) .nil)) (.cst (.int (.ofNat 4))))) .nil))))))))))))))))))))
def b_is_fraction : Mi.St := (.ret (.and (.call 7 (.cons (.var 0) (.cons (.cst (.int (.ofNat 2))) .nil))) (.and (.call 6 (.cons (.idx (.var 0) (.cst (.int (.ofNat 0)))) .nil)) (.and (.call 9 (.cons (.idx (.var 0) (.cst (.int (.ofNat 1)))) (.cons (.cst (.int (.ofNat 1))) .nil))) (.one (.cmp .eq (.bi .gcd (.cons (.idx (.var 0) (.cst (.int (.ofNat 0)))) (.cons (.idx (.var 0) (.cst (.int (.ofNat 1)))) .nil))) (.cst (.int (.ofNat 1)))))))))
def b_total : Mi.St := (.seq (.asg (.nm 1) (.glb 0)) (.seq (.fr (.nm 2) (.itv (.var 0)) (.asg (.nm 1) (.call 2 (.cons (.var 1) (.cons (.var 2) .nil))))) (.ret (.var 1))))
def b_pair_plus : Mi.St := (.ret (.tup (.cons (.call 2 (.cons (.idx (.var 0) (.cst (.int (.ofNat 0)))) (.cons (.idx (.var 1) (.cst (.int (.ofNat 0)))) .nil))) (.cons (.call 2 (.cons (.idx (.var 0) (.cst (.int (.ofNat 1)))) (.cons (.idx (.var 1) (.cst (.int (.ofNat 1)))) .nil))) .nil))))
def b__law_same : Mi.St := (.seq (.ifs (.isin (.var 1) [.list, .tuple]) (.seq (.ifs (.or (.cmp .ne (.isin (.var 0) [.list]) (.isin (.var 1) [.list])) (.one (.cmp .ne (.isin (.var 0) [.tuple]) (.isin (.var 1) [.tuple])))) (.ret (.cst (.bl false))) .skip) (.ret (.and (.cmp .eq (.bi .len (.cons (.var 0) .nil)) (.bi .len (.cons (.var 1) .nil))) (.one (.bi .all (.cons (.lc (.tp (.cons (.nm 2) (.cons (.nm 3) .nil))) (.itz (.var 0) (.var 1)) (.cst (.bl true)) (.call 38 (.cons (.var 2) (.cons (.var 3) .nil))) [2, 3]) .nil)))))) .skip) (.seq (.ifs (.or (.cmp .isN (.var 1) (.cst .non)) (.one (.isin (.var 1) [.bool, .str]))) (.seq (.ifs (.cmp .ne (.isin (.var 0) [.str]) (.isin (.var 1) [.str])) (.ret (.cst (.bl false))) .skip) (.ret (.and (.cmp .eq (.var 0) (.var 1)) (.and (.cmp .eq (.isin (.var 0) [.bool]) (.isin (.var 1) [.bool])) (.one (.cmp .eq (.cmp .isN (.var 0) (.cst .non)) (.cmp .isN (.var 1) (.cst .non)))))))) .skip) (.ret (.and (.isin (.var 0) [.int]) (.and (.nt (.isin (.var 0) [.bool])) (.one (.cmp .eq (.var 0) (.var 1))))))))
def b_number_at : Mi.St := (.seq (.ifs (.cmp .lt (.idx (.var 1) (.cst (.int (.ofNat 0)))) (.idx (.var 2) (.cst (.int (.ofNat 0))))) (.asg (.tp (.cons (.nm 1) (.cons (.nm 2) .nil))) (.tup (.cons (.var 2) (.cons (.var 1) .nil)))) .skip) (.seq (.ifs (.cmp .gt (.idx (.var 2) (.cst (.int (.ofNat 0)))) (.glb 10)) (.ret (.ite (.cmp .eq (.idx (.var 1) (.cst (.int (.ofNat 0)))) (.idx (.var 2) (.cst (.int (.ofNat 0))))) (.call 2 (.cons (.idx (.var 0) (.cst (.int (.ofNat 0)))) (.cons (.idx (.var 0) (.cst (.int (.ofNat 0)))) .nil))) (.idx (.var 0) (.bin .sub (.idx (.var 1) (.cst (.int (.ofNat 0)))) (.idx (.var 2) (.cst (.int (.ofNat 0)))))))) .skip) (.seq (.ifs (.cmp .gt (.idx (.var 1) (.cst (.int (.ofNat 0)))) (.glb 10)) (.ret (.call 36 (.cons (.lc (.nm 3) (.itv (.idx (.var 2) (.cst (.int (.ofNat 1))))) (.cst (.bl true)) (.call 13 (.cons (.var 0) (.cons (.idx (.var 1) (.cst (.int (.ofNat 0)))) (.cons (.var 3) .nil)))) [3]) .nil))) .skip) (.ret (.call 36 (.cons (.lc2 (.nm 3) (.itv (.idx (.var 1) (.cst (.int (.ofNat 1))))) (.nm 4) (.itv (.idx (.var 2) (.cst (.int (.ofNat 1))))) (.call 12 (.cons (.var 3) (.cons (.var 4) .nil))) [3, 4] [4]) .nil))))))
def b_is_row : Mi.St := (.ret (.and (.isin (.var 0) [.tuple]) (.one (.bi .all (.cons (.lc (.nm 1) (.itv (.var 0)) (.cst (.bl true)) (.call 35 (.cons (.var 1) .nil)) [1]) .nil)))))
def b_sure : Mi.St := (.ifs (.nt (.var 0)) (.raise 0) .skip)
def b_scaled : Mi.St := (.ret (.bi .tuple (.cons (.lc (.nm 2) (.itv (.var 0)) (.cst (.bl true)) (.call 1 (.cons (.var 2) (.cons (.var 1) .nil))) [2]) .nil)))
def b_trimmed : Mi.St := (.seq (.asg (.nm 1) (.bi .len (.cons (.var 0) .nil))) (.seq (.whl (.and (.cmp .gt (.var 1) (.cst (.int (.ofNat 0)))) (.one (.cmp .eq (.idx (.var 0) (.bin .sub (.var 1) (.cst (.int (.ofNat 1))))) (.glb 0)))) (.aug 1 .sub (.cst (.int (.ofNat 1))))) (.ret (.bi .tuple (.cons (.slc (.var 0) .noe (.bnd (.var 1))) .nil)))))
def b_met : Mi.St := (.ret (.call 36 (.cons (.lc (.tp (.cons (.nm 2) (.cons (.nm 3) .nil))) (.itz (.var 0) (.var 1)) (.cst (.bl true)) (.call 1 (.cons (.var 2) (.cons (.var 3) .nil))) [2, 3]) .nil)))
def b_is_row_of : Mi.St := (.ret (.and (.call 40 (.cons (.var 0) .nil)) (.one (.cmp .eq (.bi .len (.cons (.var 0) .nil)) (.var 1)))))
def b_noughts : Mi.St := (.ret (.bin .mul (.tup (.cons (.glb 0) .nil)) (.var 0)))
def b_longer : Mi.St := (.ret (.bin .add (.var 0) (.call 46 (.cons (.bin .sub (.var 1) (.bi .len (.cons (.var 0) .nil))) .nil))))
def b_lines_of : Mi.St := (.seq (.ifs (.cmp .eq (.idx (.var 0) (.cst (.int (.ofNat 1)))) (.glb 0)) (.ret (.lst (.cons (.tup (.cons (.tup (.cons (.var 0) (.cons (.glb 12) (.cons (.var 1) .nil)))) .nil)) .nil))) .skip) (.seq (.par [2, 3] (.cons (.call 61 (.cons (.var 0) .nil)) (.cons (.call 61 (.cons (.var 1) .nil)) .nil))) (.ret (.lst (.cons (.tup (.cons (.tup (.cons (.var 0) (.cons (.glb 12) (.cons (.var 1) .nil)))) (.cons (.tup (.cons (.var 2) (.cons (.glb 12) (.cons (.var 3) .nil)))) .nil))) (.cons (.tup (.cons (.tup (.cons (.var 0) (.cons (.glb 13) (.cons (.var 1) .nil)))) (.cons (.tup (.cons (.var 2) (.cons (.call 61 (.cons (.glb 13) .nil)) (.cons (.var 3) .nil)))) .nil))) .nil))))))
def b_is_lower : Mi.St := (.ret (.cmp .lt (.bin .mul (.idx (.var 0) (.cst (.int (.ofNat 0)))) (.idx (.var 1) (.cst (.int (.ofNat 1))))) (.bin .mul (.idx (.var 1) (.cst (.int (.ofNat 0)))) (.idx (.var 0) (.cst (.int (.ofNat 1)))))))
def b_all_lines : Mi.St := (.seq (.asg (.nm 2) (.lc (.nm 5) (.itr1 (.bi .len (.cons (.var 0) .nil))) (.cst (.bl true)) (.tup (.cons (.var 5) (.cons (.tup .nil) .nil))) [5])) (.seq (.fr (.tp (.cons (.nm 3) (.cons (.nm 4) .nil))) (.itv (.var 1)) (.asg (.nm 2) (.bin .add (.var 2) (.lc (.nm 6) (.itv (.call 48 (.cons (.var 3) (.cons (.var 4) .nil)))) (.cst (.bl true)) (.tup (.cons (.glb 10) (.cons (.var 6) .nil))) [6])))) (.ret (.var 2))))
def b_row_minus : Mi.St := (.ret (.bi .tuple (.cons (.lc (.tp (.cons (.nm 2) (.cons (.nm 3) .nil))) (.itz (.var 0) (.var 1)) (.cst (.bl true)) (.call 3 (.cons (.var 2) (.cons (.var 3) .nil))) [2, 3]) .nil)))
def b_is_value_at : Mi.St := (.ret (.and (.call 45 (.cons (.var 1) (.cons (.cst (.int (.ofNat 2))) .nil))) (.one (.or (.cmp .ne (.idx (.var 0) (.cst (.int (.ofNat 1)))) (.glb 0)) (.one (.cmp .eq (.idx (.var 1) (.cst (.int (.ofNat 1)))) (.glb 0)))))))
def b_with_last_one : Mi.St := (.ret (.ite (.cmp .ne (.var 0) (.tup .nil)) (.call 42 (.cons (.var 0) (.cons (.call 5 (.cons (.glb 1) (.cons (.idx (.var 0) (.neg (.cst (.int (.ofNat 1))))) .nil))) .nil))) (.tup .nil)))
def b_sure_row : Mi.St := (.seq (.asg (.nm 1) (.call 4 (.cons (.var 0) .nil))) (.seq (.exp (.call 41 (.cons (.call 40 (.cons (.var 1) .nil)) .nil))) (.ret (.var 1))))
def b_is_told : Mi.St := (.seq (.ifs (.or (.nt (.isin (.var 0) [.tuple])) (.or (.cmp .gt (.bi .len (.cons (.var 0) .nil)) (.glb 7)) (.one (.nt (.bi .all (.cons (.lc (.nm 3) (.itv (.var 0)) (.cst (.bl true)) (.call 7 (.cons (.var 3) (.cons (.cst (.int (.ofNat 2))) .nil))) [3]) .nil)))))) (.ret (.cst (.bl false))) .skip) (.seq (.ifs (.nt (.bi .all (.cons (.lc (.tp (.cons (.nm 1) (.cons (.nm 2) .nil))) (.itv (.var 0)) (.cst (.bl true)) (.and (.call 20 (.cons (.var 1) .nil)) (.one (.call 52 (.cons (.var 1) (.cons (.var 2) .nil))))) [1, 2]) .nil))) (.ret (.cst (.bl false))) .skip) (.ret (.call 56 (.cons (.lc (.tp (.cons (.nm 1) (.cons (.nm 2) .nil))) (.itv (.var 0)) (.cst (.bl true)) (.var 1) [1, 2]) .nil)))))
def b_rises : Mi.St := (.ret (.bi .all (.cons (.lc (.tp (.cons (.nm 1) (.cons (.nm 2) .nil))) (.itz (.var 0) (.slc (.var 0) (.bnd (.cst (.int (.ofNat 1)))) .noe)) (.cst (.bl true)) (.cmp .lt (.var 1) (.var 2)) [1, 2]) .nil)))
def b_many_lines : Mi.St := (.ret (.bi .sum (.cons (.lc (.nm 1) (.itv (.var 0)) (.cst (.bl true)) (.ite (.cmp .eq (.idx (.var 1) (.cst (.int (.ofNat 1)))) (.glb 0)) (.cst (.int (.ofNat 1))) (.cst (.int (.ofNat 2)))) [1]) .nil)))
def b_row_plus : Mi.St := (.ret (.bi .tuple (.cons (.lc (.tp (.cons (.nm 2) (.cons (.nm 3) .nil))) (.itz (.var 0) (.var 1)) (.cst (.bl true)) (.call 2 (.cons (.var 2) (.cons (.var 3) .nil))) [2, 3]) .nil)))
def b_poly_plus : Mi.St := (.ret (.call 43 (.cons (.call 58 (.cons (.call 47 (.cons (.var 0) (.cons (.bi .len (.cons (.var 1) .nil)) .nil))) (.cons (.call 47 (.cons (.var 1) (.cons (.bi .len (.cons (.var 0) .nil)) .nil))) .nil))) .nil)))
def b_can_in : Mi.St := (.ret (.cmp .isN (.call 19 (.cons (.call 17 (.cons (.var 0) (.cons (.var 1) .nil))) .nil)) (.cst .non)))
def b_turned_about : Mi.St := (.ret (.tup (.cons (.idx (.var 0) (.cst (.int (.ofNat 0)))) (.cons (.call 8 (.cons (.idx (.var 0) (.cst (.int (.ofNat 1)))) .nil)) .nil))))
def b_swept : Mi.St := (.seq (.fr (.tp (.cons (.nm 3) (.cons (.nm 4) .nil))) (.itz (.var 1) (.var 2)) (.asg (.nm 0) (.call 51 (.cons (.var 0) (.cons (.call 42 (.cons (.var 3) (.cons (.idx (.var 0) (.var 4)) .nil))) .nil))))) (.ret (.var 0)))
def b__law_lists : Mi.St := (.ret (.ite (.isin (.var 0) [.list, .tuple]) (.lc (.nm 1) (.itv (.var 0)) (.cst (.bl true)) (.call 63 (.cons (.var 1) .nil)) [1]) (.var 0)))
def b_spread : Mi.St := (.seq (.ifs (.cmp .eq (.idx (.var 0) (.cst (.int (.ofNat 1)))) (.glb 0)) (.ret (.call 43 (.cons (.tup (.cons (.idx (.var 1) (.cst (.int (.ofNat 0)))) .nil)) .nil))) .skip) (.seq (.asg (.nm 2) (.idx (.call 10 (.cons (.var 1) (.cons (.call 61 (.cons (.call 11 (.cons (.glb 12) (.cons (.var 0) .nil))) .nil)) .nil))) (.cst (.int (.ofNat 0))))) (.ret (.call 43 (.cons (.tup (.cons (.call 2 (.cons (.idx (.var 1) (.cst (.int (.ofNat 0)))) (.cons (.idx (.var 1) (.cst (.int (.ofNat 0)))) .nil))) (.cons (.call 8 (.cons (.call 2 (.cons (.var 2) (.cons (.var 2) .nil))) .nil)) .nil))) .nil)))))
def b__law_tried : Mi.St := (.seq (.asg (.tp (.cons (.nm 1) (.cons (.nm 2) (.cons (.nm 3) (.cons (.nm 4) (.cons (.nm 5) .nil)))))) (.var 0)) (.seq (.ifs (.cmp .lt (.var 1) (.cst (.int (.ofNat 2)))) (.ret (.ite (.cmp .eq (.var 1) (.cst (.int (.ofNat 0)))) (.call 73 (.cons (.var 2) (.cons (.var 3) .nil))) (.call 105 (.cons (.var 2) (.cons (.var 3) .nil))))) .skip) (.seq (.ifs (.cmp .lt (.var 1) (.cst (.int (.ofNat 4)))) (.ret (.ite (.cmp .eq (.var 1) (.cst (.int (.ofNat 2)))) (.call 137 (.cons (.var 2) (.cons (.var 3) .nil))) (.call 126 (.cons (.var 2) (.cons (.var 3) .nil))))) .skip) (.seq (.ifs (.cmp .lt (.var 1) (.cst (.int (.ofNat 6)))) (.ret (.ite (.cmp .eq (.var 1) (.cst (.int (.ofNat 4)))) (.call 96 (.cons (.var 2) (.cons (.var 3) (.cons (.var 4) .nil)))) (.call 93 (.cons (.var 2) (.cons (.var 3) (.cons (.var 4) (.cons (.var 5) .nil))))))) .skip) (.seq (.ifs (.cmp .lt (.var 1) (.cst (.int (.ofNat 8)))) (.ret (.ite (.cmp .eq (.var 1) (.cst (.int (.ofNat 6)))) (.call 29 (.cons (.var 2) (.cons (.var 3) (.cons (.var 4) .nil)))) (.callk 30 .nil (.cons (.var 4) (.cons (.var 3) (.cons (.var 2) .nil))) [2, 1, 0]))) .skip) (.ret (.call 104 (.cons (.var 2) (.cons (.var 3) .nil)))))))))
def b__law_heard : Mi.St := (.seq (.asg (.tp (.cons (.nm 1) (.cons (.nm 2) .nil))) (.tup (.cons (.cst .non) (.cons (.cst .non) .nil)))) (.seq (.trys (.asg (.nm 1) (.call 145 (.cons (.call 65 (.cons (.var 0) .nil)) .nil))) 3 [(1, 3, 2, "can not"), (2, 3, 2, "no paper"), (0, 3, 2, "unfit")]) (.ret (.ite (.cmp .isN (.var 2) (.cst .non)) (.var 1) (.var 2)))))
def b_factor_of : Mi.St := (.seq (.ifs (.cmp .eq (.idx (.var 0) (.cst (.int (.ofNat 1)))) (.glb 0)) (.ret (.tup (.cons (.glb 1) (.cons (.call 8 (.cons (.call 5 (.cons (.glb 1) (.cons (.idx (.var 0) (.cst (.int (.ofNat 0)))) .nil))) .nil)) .nil)))) .skip) (.seq (.asg (.tp (.cons (.nm 1) (.cons (.nm 2) .nil))) (.call 11 (.cons (.glb 12) (.cons (.var 0) .nil)))) (.ret (.tup (.cons (.glb 1) (.cons (.call 8 (.cons (.call 2 (.cons (.var 1) (.cons (.var 1) .nil))) .nil)) (.cons (.call 2 (.cons (.call 1 (.cons (.var 1) (.cons (.var 1) .nil))) (.cons (.call 1 (.cons (.var 2) (.cons (.var 2) .nil))) .nil))) .nil)))))))
def b_times_all : Mi.St := (.seq (.asg (.nm 1) (.tup (.cons (.glb 1) .nil))) (.seq (.fr (.nm 2) (.itv (.var 0)) (.asg (.nm 1) (.call 14 (.cons (.var 1) (.cons (.var 2) .nil))))) (.ret (.var 1))))
def b_sure_fraction : Mi.St := (.seq (.asg (.nm 1) (.call 4 (.cons (.var 0) .nil))) (.seq (.exp (.call 41 (.cons (.call 35 (.cons (.var 1) .nil)) .nil))) (.ret (.var 1))))
def b_row_at_i : Mi.St := (.seq (.asg (.nm 2) (.tup (.cons (.glb 0) (.cons (.glb 0) .nil)))) (.seq (.fr (.nm 3) (.itv (.var 0)) (.seq (.asg (.tp (.cons (.nm 4) (.cons (.nm 5) .nil))) (.call 10 (.cons (.var 2) (.cons (.var 1) .nil)))) (.asg (.nm 2) (.tup (.cons (.call 2 (.cons (.var 4) (.cons (.var 3) .nil))) (.cons (.var 5) .nil)))))) (.ret (.var 2))))
def b_moved : Mi.St := (.seq (.asg (.nm 3) (.ite (.cmp .ne (.var 0) (.tup .nil)) (.bin .add (.tup (.cons (.call 2 (.cons (.idx (.var 0) (.cst (.int (.ofNat 0)))) (.cons (.var 2) .nil))) .nil)) (.slc (.var 0) (.bnd (.cst (.int (.ofNat 1)))) .noe)) (.var 0))) (.ret (.tup (.cons (.var 3) (.cons (.bi .tuple (.cons (.lc (.tp (.cons (.nm 4) (.cons (.nm 5) .nil))) (.itv (.var 1)) (.cst (.bl true)) (.tup (.cons (.var 4) (.cons (.tup (.cons (.call 2 (.cons (.idx (.var 5) (.cst (.int (.ofNat 0)))) (.cons (.var 2) .nil))) (.cons (.idx (.var 5) (.cst (.int (.ofNat 1)))) .nil))) .nil))) [4, 5]) .nil)) .nil)))))
def b_polys_of : Mi.St := (.ret (.tup (.cons (.call 43 (.cons (.back (.idx (.var 0) (.cst (.int (.ofNat 0)))) .noe .noe) .nil)) (.cons (.back (.idx (.var 0) (.cst (.int (.ofNat 1)))) .noe .noe) .nil))))
def b_can_have : Mi.St := (.seq (.asg (.tp (.cons (.nm 2) (.cons (.nm 3) .nil))) (.call 21 (.cons (.var 0) (.cons (.var 1) (.cons (.glb 8) .nil))))) (.ret (.call 60 (.cons (.var 2) (.cons (.var 3) .nil)))))
def b_sure_beyond : Mi.St := (.seq (.asg (.nm 2) (.call 69 (.cons (.var 1) .nil))) (.seq (.exp (.call 41 (.cons (.and (.call 20 (.cons (.tup (.cons (.var 2) (.cons (.glb 0) .nil))) .nil)) (.one (.cmp .notin (.tup (.cons (.var 2) (.cons (.glb 0) .nil))) (.lc (.tp (.cons (.nm 3) (.cons (.nm 4) .nil))) (.itv (.var 0)) (.cst (.bl true)) (.var 3) [3, 4])))) .nil))) (.ret (.var 2))))
def b_cleared : Mi.St := (.seq (.asg (.nm 3) (.call 42 (.cons (.idx (.var 0) (.var 1)) (.cons (.call 5 (.cons (.glb 1) (.cons (.idx (.idx (.var 0) (.var 1)) (.var 2)) .nil))) .nil)))) (.seq (.asg (.nm 4) (.lc (.nm 5) (.itv (.var 0)) (.cst (.bl true)) (.ite (.cmp .ne (.idx (.var 5) (.var 2)) (.glb 0)) (.call 51 (.cons (.var 5) (.cons (.call 42 (.cons (.var 3) (.cons (.idx (.var 5) (.var 2)) .nil))) .nil))) (.var 5)) [5])) (.ret (.bin .add (.bin .add (.slc (.var 4) .noe (.bnd (.var 1))) (.lst (.cons (.var 3) .nil))) (.slc (.var 4) (.bnd (.bin .add (.var 1) (.cst (.int (.ofNat 1))))) .noe)))))
def b_solved_in : Mi.St := (.seq (.asg (.tp (.cons (.nm 2) (.cons (.nm 3) .nil))) (.tup (.cons (.lc (.tp (.cons (.nm 8) (.cons (.nm 9) .nil))) (.itz (.var 0) (.var 1)) (.cst (.bl true)) (.bin .add (.bi .tuple (.cons (.var 8) .nil)) (.tup (.cons (.var 9) .nil))) [8, 9]) (.cons (.lst .nil) .nil)))) (.seq (.fr (.nm 4) (.itr1 (.ite (.cmp .gt (.bi .len (.cons (.var 0) .nil)) (.cst (.int (.ofNat 0)))) (.bi .len (.cons (.idx (.var 0) (.cst (.int (.ofNat 0)))) .nil)) (.cst (.int (.ofNat 0))))) (.seq (.asg (.nm 5) (.bi .len (.cons (.var 3) .nil))) (.seq (.asg (.nm 6) (.lc (.nm 10) (.itr2 (.var 5) (.bi .len (.cons (.var 2) .nil))) (.cmp .ne (.idx (.idx (.var 2) (.var 10)) (.var 4)) (.glb 0)) (.var 10) [10])) (.ifs (.cmp .ne (.var 6) (.lst .nil)) (.seq (.swp (.var 2) (.var 5) (.var 2) (.idx (.var 6) (.cst (.int (.ofNat 0)))) (.cons (.idx (.var 2) (.idx (.var 6) (.cst (.int (.ofNat 0))))) (.cons (.idx (.var 2) (.var 5)) .nil))) (.seq (.asg (.nm 2) (.call 75 (.cons (.var 2) (.cons (.var 5) (.cons (.var 4) .nil))))) (.exp (.mth .append (.var 3) (.cons (.var 4) .nil))))) .skip)))) (.seq (.ifs (.bi .any (.cons (.lc (.nm 8) (.itv (.slc (.var 2) (.bnd (.bi .len (.cons (.var 3) .nil))) .noe)) (.cst (.bl true)) (.cmp .ne (.idx (.var 8) (.neg (.cst (.int (.ofNat 1))))) (.glb 0)) [8]) .nil)) (.ret (.cst .non)) .skip) (.seq (.asg (.nm 7) (.bi .dict (.cons (.lc (.tp (.cons (.nm 5) (.cons (.nm 4) .nil))) (.itn (.var 3)) (.cst (.bl true)) (.tup (.cons (.var 4) (.cons (.idx (.idx (.var 2) (.var 5)) (.neg (.cst (.int (.ofNat 1))))) .nil))) [5, 4]) .nil))) (.ret (.bi .tuple (.cons (.lc (.nm 4) (.itr1 (.ite (.cmp .gt (.bi .len (.cons (.var 0) .nil)) (.cst (.int (.ofNat 0)))) (.bi .len (.cons (.idx (.var 0) (.cst (.int (.ofNat 0)))) .nil)) (.cst (.int (.ofNat 0))))) (.cst (.bl true)) (.get (.var 7) (.var 4) (.glb 0)) [4]) .nil)))))))
def b_root_of : Mi.St := (.seq (.asg (.nm 1) (.var 0)) (.seq (.whl (.cmp .gt (.bin .mul (.var 1) (.var 1)) (.var 0)) (.asg (.nm 1) (.bin .fdiv (.bin .add (.var 1) (.bin .fdiv (.var 0) (.var 1))) (.cst (.int (.ofNat 2)))))) (.ret (.var 1))))
def b_sure_can : Mi.St := (.ifs (.nt (.call 60 (.cons (.var 0) (.cons (.var 1) .nil)))) (.raise 1) .skip)
def b_halfway : Mi.St := (.ret (.call 1 (.cons (.call 2 (.cons (.var 0) (.cons (.var 1) .nil))) (.cons (.tup (.cons (.cst (.int (.ofNat 1))) (.cons (.cst (.int (.ofNat 2))) .nil))) .nil))))
def b_changes_of : Mi.St := (.seq (.asg (.nm 1) (.lc (.nm 2) (.itv (.var 0)) (.cmp .ne (.var 2) (.glb 0)) (.cmp .gt (.idx (.var 2) (.cst (.int (.ofNat 0)))) (.cst (.int (.ofNat 0)))) [2])) (.ret (.bi .sum (.cons (.lc (.tp (.cons (.nm 3) (.cons (.nm 4) .nil))) (.itz (.var 1) (.slc (.var 1) (.bnd (.cst (.int (.ofNat 1)))) .noe)) (.cst (.bl true)) (.cmp .ne (.var 3) (.var 4)) [3, 4]) .nil))))
def b_is_at_most : Mi.St := (.ret (.cmp .le (.bin .mul (.idx (.var 0) (.cst (.int (.ofNat 0)))) (.idx (.var 1) (.cst (.int (.ofNat 1))))) (.bin .mul (.idx (.var 1) (.cst (.int (.ofNat 0)))) (.idx (.var 0) (.cst (.int (.ofNat 1)))))))
def b_is_box : Mi.St := (.seq (.ifs (.or (.nt (.call 7 (.cons (.var 0) (.cons (.cst (.int (.ofNat 2))) .nil)))) (.or (.nt (.call 40 (.cons (.idx (.var 0) (.cst (.int (.ofNat 0)))) .nil))) (.one (.nt (.call 40 (.cons (.idx (.var 0) (.cst (.int (.ofNat 1)))) .nil)))))) (.ret (.cst (.bl false))) .skip) (.seq (.asg (.tp (.cons (.nm 1) (.cons (.nm 2) .nil))) (.var 0)) (.seq (.ifs (.or (.cmp .ne (.bi .len (.cons (.var 1) .nil)) (.bi .len (.cons (.var 2) .nil))) (.one (.cmp .eq (.bi .len (.cons (.var 1) .nil)) (.cst (.int (.ofNat 0)))))) (.ret (.cst (.bl false))) .skip) (.ret (.and (.cmp .eq (.idx (.var 2) (.cst (.int (.ofNat 0)))) (.glb 1)) (.one (.bi .any (.cons (.lc (.nm 3) (.itv (.var 1)) (.cst (.bl true)) (.cmp .ne (.var 3) (.glb 0)) [3]) .nil))))))))
def b_power_in : Mi.St := (.seq (.asg (.nm 2) (.tup (.cons (.glb 1) .nil))) (.seq (.fr (.nm 3) (.itr1 (.var 1)) (.asg (.nm 2) (.call 14 (.cons (.var 2) (.cons (.var 0) .nil))))) (.ret (.var 2))))
def b_poly_at : Mi.St := (.seq (.asg (.nm 2) (.glb 0)) (.seq (.fr (.nm 3) (.itv (.back (.var 0) .noe .noe)) (.asg (.nm 2) (.call 2 (.cons (.call 1 (.cons (.var 2) (.cons (.var 1) .nil))) (.cons (.var 3) .nil))))) (.ret (.var 2))))
def b_is_small_in : Mi.St := (.seq (.asg (.tp (.cons (.nm 1) (.cons (.nm 2) .nil))) (.call 72 (.cons (.var 0) .nil))) (.ret (.cmp .eq (.bi .len (.cons (.call 16 (.cons (.var 1) (.cons (.var 2) .nil))) .nil)) (.cst (.int (.ofNat 1))))))
def b_tone_of : Mi.St := (.seq (.asg (.nm 2) (.call 70 (.cons (.idx (.var 0) (.cst (.int (.ofNat 1)))) (.cons (.var 1) .nil)))) (.ret (.ite (.cmp .ne (.var 2) (.tup (.cons (.glb 0) (.cons (.glb 0) .nil)))) (.call 11 (.cons (.call 70 (.cons (.idx (.var 0) (.cst (.int (.ofNat 0)))) (.cons (.var 1) .nil))) (.cons (.var 2) .nil))) (.cst .non))))
def b_far_signs : Mi.St := (.ret (.lc (.nm 2) (.itv (.var 0)) (.cst (.bl true)) (.ite (.and (.cmp .lt (.var 1) (.cst (.int (.ofNat 0)))) (.one (.cmp .eq (.bin .mod (.bi .len (.cons (.var 2) .nil)) (.cst (.int (.ofNat 2)))) (.cst (.int (.ofNat 0)))))) (.call 8 (.cons (.idx (.var 2) (.neg (.cst (.int (.ofNat 1))))) .nil)) (.idx (.var 2) (.neg (.cst (.int (.ofNat 1)))))) [2]))
def b_all_nought : Mi.St := (.ret (.and (.bi .all (.cons (.lc (.nm 2) (.itv (.var 0)) (.cst (.bl true)) (.cmp .eq (.var 2) (.glb 0)) [2]) .nil)) (.one (.bi .all (.cons (.lc (.tp (.cons (.nm 3) (.cons (.nm 4) .nil))) (.itv (.var 1)) (.cst (.bl true)) (.cmp .eq (.var 4) (.glb 11)) [3, 4]) .nil)))))
def b_box_by : Mi.St := (.seq (.asg (.nm 2) (.call 16 (.cons (.var 0) (.cons (.var 1) .nil)))) (.seq (.par [3, 4] (.cons (.idx (.call 15 (.cons (.var 0) (.cons (.var 2) .nil))) (.cst (.int (.ofNat 0)))) (.cons (.idx (.call 15 (.cons (.var 1) (.cons (.var 2) .nil))) (.cst (.int (.ofNat 0)))) .nil))) (.seq (.par [5, 6] (.cons (.bi .max (.cons (.bi .len (.cons (.var 3) .nil)) (.cons (.bi .len (.cons (.var 4) .nil)) .nil))) (.cons (.call 5 (.cons (.glb 1) (.cons (.idx (.var 4) (.cst (.int (.ofNat 0)))) .nil))) .nil))) (.ret (.tup (.cons (.call 42 (.cons (.call 47 (.cons (.var 3) (.cons (.var 5) .nil))) (.cons (.var 6) .nil))) (.cons (.call 42 (.cons (.call 47 (.cons (.var 4) (.cons (.var 5) .nil))) (.cons (.var 6) .nil))) .nil)))))))
def b_is_spot : Mi.St := (.ret (.call 20 (.cons (.var 0) .nil)))
def b_slope_of : Mi.St := (.ret (.slc (.bi .tuple (.cons (.lc (.tp (.cons (.nm 1) (.cons (.nm 2) .nil))) (.itn (.var 0)) (.cst (.bl true)) (.call 1 (.cons (.tup (.cons (.var 1) (.cons (.cst (.int (.ofNat 1))) .nil))) (.cons (.var 2) .nil))) [1, 2]) .nil)) (.bnd (.cst (.int (.ofNat 1)))) .noe))
def b_is_keeper_with : Mi.St := (.seq (.asg (.tp (.cons (.nm 3) (.cons (.nm 4) .nil))) (.call 21 (.cons (.var 0) (.cons (.var 1) (.cons (.glb 8) .nil))))) (.seq (.ifs (.cmp .isN (.var 2) (.cst .non)) (.ret (.call 88 (.cons (.var 3) (.cons (.var 4) .nil)))) .skip) (.ret (.and (.call 82 (.cons (.var 2) .nil)) (.and (.call 85 (.cons (.var 2) .nil)) (.and (.call 22 (.cons (.var 2) .nil)) (.one (.call 120 (.cons (.var 2) (.cons (.var 3) (.cons (.var 4) .nil)))))))))))
def b_end_with : Mi.St := (.seq (.asg (.tp (.cons (.nm 4) (.cons (.nm 5) .nil))) (.call 21 (.cons (.var 0) (.cons (.var 1) (.cons (.glb 9) .nil))))) (.seq (.par [6, 7] (.cons (.call 74 (.cons (.var 5) (.cons (.var 2) .nil))) (.cons (.call 95 (.cons (.var 3) .nil)) .nil))) (.seq (.exp (.call 78 (.cons (.var 4) (.cons (.var 5) .nil)))) (.ret (.call 28 (.cons (.var 4) (.cons (.var 5) (.cons (.var 6) (.cons (.var 7) .nil)))))))))
def b_forced_by : Mi.St := (.ret (.ite (.call 88 (.cons (.var 0) (.cons (.var 1) .nil))) (.cst .non) (.call 23 (.cons (.var 0) (.cons (.var 1) (.cons (.var 2) .nil))))))
def b_sure_which : Mi.St := (.seq (.exp (.call 41 (.cons (.and (.call 9 (.cons (.var 0) (.cons (.cst (.int (.ofNat 0))) .nil))) (.one (.cmp .le (.var 0) (.cst (.int (.ofNat 1)))))) .nil))) (.ret (.var 0)))
def b_next_value : Mi.St := (.seq (.asg (.tp (.cons (.nm 3) (.cons (.nm 4) .nil))) (.call 21 (.cons (.var 0) (.cons (.var 1) (.cons (.glb 9) .nil))))) (.seq (.asg (.nm 5) (.call 74 (.cons (.var 4) (.cons (.var 2) .nil)))) (.seq (.exp (.call 78 (.cons (.var 3) (.cons (.var 4) .nil)))) (.ret (.call 27 (.cons (.var 3) (.cons (.var 4) (.cons (.var 5) .nil))))))))
def b_sure_width : Mi.St := (.seq (.asg (.nm 1) (.call 69 (.cons (.var 0) .nil))) (.seq (.exp (.call 41 (.cons (.and (.call 81 (.cons (.glb 5) (.cons (.var 1) .nil))) (.one (.call 81 (.cons (.var 1) (.cons (.glb 1) .nil))))) .nil))) (.ret (.var 1))))
def b_rooted : Mi.St := (.ret (.ite (.cmp .gt (.idx (.var 0) (.cst (.int (.ofNat 0)))) (.cst (.int (.ofNat 0)))) (.tup (.cons (.call 77 (.cons (.idx (.var 0) (.cst (.int (.ofNat 0)))) .nil)) (.cons (.call 77 (.cons (.idx (.var 0) (.cst (.int (.ofNat 1)))) .nil)) .nil))) (.glb 0)))
def b_poly_once : Mi.St := (.ret (.ite (.cmp .ne (.var 0) (.tup .nil)) (.call 53 (.cons (.idx (.call 15 (.cons (.var 0) (.cons (.call 16 (.cons (.var 0) (.cons (.call 91 (.cons (.var 0) .nil)) .nil))) .nil))) (.cst (.int (.ofNat 0)))) .nil)) (.tup .nil)))
def b_rests_of : Mi.St := (.seq (.asg (.nm 2) (.lst (.cons (.var 0) (.cons (.var 1) .nil)))) (.seq (.whl (.cmp .ne (.idx (.var 2) (.neg (.cst (.int (.ofNat 1))))) (.tup .nil)) (.seq (.asg (.nm 3) (.idx (.call 15 (.cons (.idx (.var 2) (.neg (.cst (.int (.ofNat 2))))) (.cons (.idx (.var 2) (.neg (.cst (.int (.ofNat 1))))) .nil))) (.cst (.int (.ofNat 1))))) (.exp (.mth .append (.var 2) (.cons (.ite (.cmp .ne (.var 3) (.tup .nil)) (.call 42 (.cons (.var 3) (.cons (.call 5 (.cons (.tup (.cons (.neg (.cst (.int (.ofNat 1)))) (.cons (.cst (.int (.ofNat 1))) .nil))) (.cons (.call 141 (.cons (.idx (.var 3) (.neg (.cst (.int (.ofNat 1))))) .nil)) .nil))) .nil))) (.tup .nil)) .nil))))) (.ret (.slc (.var 2) .noe (.bnd (.neg (.cst (.int (.ofNat 1)))))))))
def b_is_against : Mi.St := (.seq (.asg (.tp (.cons (.nm 3) (.cons (.nm 4) .nil))) (.call 21 (.cons (.var 0) (.cons (.var 1) (.cons (.glb 8) .nil))))) (.seq (.asg (.nm 5) (.call 17 (.cons (.var 3) (.cons (.var 4) .nil)))) (.ret (.and (.call 45 (.cons (.var 2) (.cons (.bi .len (.cons (.var 5) .nil)) .nil))) (.one (.cmp .lt (.idx (.call 113 (.cons (.var 5) (.cons (.var 2) .nil))) (.cst (.int (.ofNat 0)))) (.cst (.int (.ofNat 0)))))))))
def b_sure_box : Mi.St := (.seq (.asg (.nm 1) (.call 4 (.cons (.var 0) .nil))) (.seq (.exp (.call 41 (.cons (.call 82 (.cons (.var 1) .nil)) .nil))) (.ret (.var 1))))
def b_sure_small : Mi.St := (.seq (.asg (.nm 1) (.call 102 (.cons (.var 0) .nil))) (.seq (.exp (.call 41 (.cons (.call 85 (.cons (.var 1) .nil)) .nil))) (.ret (.var 1))))
def b_told_of : Mi.St := (.seq (.asg (.tp (.cons (.nm 2) (.cons (.nm 3) .nil))) (.tup (.cons (.call 103 (.cons (.var 0) .nil)) (.cons (.call 119 (.cons (.var 1) .nil)) .nil)))) (.seq (.asg (.nm 4) (.lc (.nm 5) (.itv (.var 3)) (.cst (.bl true)) (.tup (.cons (.var 5) (.cons (.call 86 (.cons (.var 2) (.cons (.var 5) .nil))) .nil))) [5])) (.seq (.ifs (.bi .any (.cons (.lc (.tp (.cons (.nm 5) (.cons (.nm 6) .nil))) (.itv (.var 4)) (.cst (.bl true)) (.cmp .isN (.var 6) (.cst .non)) [5, 6]) .nil)) (.raise 1) .skip) (.ret (.bi .tuple (.cons (.var 4) .nil))))))
def b_keeper_with : Mi.St := (.seq (.asg (.tp (.cons (.nm 2) (.cons (.nm 3) .nil))) (.call 21 (.cons (.var 0) (.cons (.var 1) (.cons (.glb 8) .nil))))) (.seq (.ifs (.nt (.call 60 (.cons (.var 2) (.cons (.var 3) .nil)))) (.raise 2) .skip) (.ret (.call 122 (.cons (.var 2) (.cons (.var 3) .nil))))))
def b_poly_lots : Mi.St := (.seq (.par [1, 2, 3] (.cons (.lst .nil) (.cons (.var 0) (.cons (.cst (.int (.ofNat 1))) .nil)))) (.seq (.asg (.nm 4) (.call 99 (.cons (.var 0) .nil))) (.seq (.whl (.cmp .gt (.bi .len (.cons (.var 4) .nil)) (.cst (.int (.ofNat 1)))) (.seq (.asg (.nm 2) (.idx (.call 15 (.cons (.var 2) (.cons (.var 4) .nil))) (.cst (.int (.ofNat 0))))) (.seq (.asg (.nm 5) (.call 16 (.cons (.var 4) (.cons (.var 2) .nil)))) (.seq (.asg (.nm 6) (.idx (.call 15 (.cons (.var 4) (.cons (.var 5) .nil))) (.cst (.int (.ofNat 0))))) (.seq (.ifs (.cmp .gt (.bi .len (.cons (.var 6) .nil)) (.cst (.int (.ofNat 1)))) (.exp (.mth .append (.var 1) (.cons (.tup (.cons (.var 6) (.cons (.var 3) .nil))) .nil))) .skip) (.par [4, 3] (.cons (.var 5) (.cons (.bin .add (.var 3) (.cst (.int (.ofNat 1)))) .nil)))))))) (.ret (.bi .tuple (.cons (.var 1) .nil))))))
def b_half_plane : Mi.St := (.seq (.asg (.nm 1) (.tup .nil)) (.seq (.fr (.tp (.cons (.nm 2) (.cons (.nm 3) .nil))) (.itn (.var 0)) (.seq (.asg (.nm 4) (.call 14 (.cons (.call 83 (.cons (.tup (.cons (.glb 1) (.cons (.glb 1) .nil))) (.cons (.var 2) .nil))) (.cons (.call 83 (.cons (.tup (.cons (.glb 1) (.cons (.tup (.cons (.neg (.cst (.int (.ofNat 1)))) (.cons (.cst (.int (.ofNat 1))) .nil))) .nil))) (.cons (.bin .sub (.bin .sub (.bi .len (.cons (.var 0) .nil)) (.cst (.int (.ofNat 1)))) (.var 2)) .nil))) .nil)))) (.asg (.nm 1) (.call 59 (.cons (.var 1) (.cons (.ite (.cmp .ne (.var 3) (.glb 0)) (.call 42 (.cons (.var 4) (.cons (.var 3) .nil))) (.tup .nil)) .nil)))))) (.ret (.var 1))))
def b_outside_off_rim : Mi.St := (.seq (.asg (.nm 1) (.bin .sub (.bi .len (.cons (.var 0) .nil)) (.cst (.int (.ofNat 1))))) (.seq (.asg (.nm 2) (.lst (.cons (.lst .nil) (.cons (.lst .nil) .nil)))) (.seq (.fr (.tp (.cons (.nm 3) (.cons (.nm 4) .nil))) (.itn (.call 107 (.cons (.var 0) .nil))) (.seq (.exp (.mth .append (.idx (.var 2) (.bin .mod (.var 3) (.cst (.int (.ofNat 2))))) (.cons (.ite (.cmp .ge (.bin .mod (.var 3) (.cst (.int (.ofNat 4)))) (.cst (.int (.ofNat 2)))) (.call 8 (.cons (.var 4) .nil)) (.var 4)) .nil))) (.exp (.mth .append (.idx (.var 2) (.bin .sub (.cst (.int (.ofNat 1))) (.bin .mod (.var 3) (.cst (.int (.ofNat 2)))))) (.cons (.glb 0) .nil))))) (.seq (.par [5, 6] (.cons (.call 43 (.cons (.idx (.var 2) (.cst (.int (.ofNat 0)))) .nil)) (.cons (.call 43 (.cons (.idx (.var 2) (.cst (.int (.ofNat 1)))) .nil)) .nil))) (.seq (.asg (.nm 7) (.ite (.cmp .eq (.bin .mod (.var 1) (.cst (.int (.ofNat 2)))) (.cst (.int (.ofNat 0)))) (.call 100 (.cons (.var 5) (.cons (.var 6) .nil))) (.call 100 (.cons (.var 6) (.cons (.var 5) .nil))))) (.seq (.asg (.nm 8) (.bin .sub (.call 80 (.cons (.call 87 (.cons (.var 7) (.cons (.neg (.cst (.int (.ofNat 1)))) .nil))) .nil)) (.call 80 (.cons (.call 87 (.cons (.var 7) (.cons (.cst (.int (.ofNat 1))) .nil))) .nil)))) (.seq (.asg (.nm 9) (.ite (.cmp .eq (.bin .mod (.var 1) (.cst (.int (.ofNat 2)))) (.cst (.int (.ofNat 0)))) (.neg (.var 8)) (.var 8))) (.ret (.bin .fdiv (.bin .sub (.var 1) (.var 9)) (.cst (.int (.ofNat 2))))))))))))
def b_in_cosine : Mi.St := (.seq (.asg (.nm 1) (.bin .fdiv (.bi .len (.cons (.var 0) .nil)) (.cst (.int (.ofNat 2))))) (.seq (.par [2, 3, 4] (.cons (.tup (.cons (.glb 2) .nil)) (.cons (.tup (.cons (.glb 0) (.cons (.glb 1) .nil))) (.cons (.tup (.cons (.idx (.var 0) (.var 1)) .nil)) .nil)))) (.seq (.fr (.nm 5) (.itr2 (.bin .add (.var 1) (.cst (.int (.ofNat 1)))) (.bi .len (.cons (.var 0) .nil))) (.seq (.asg (.nm 4) (.call 59 (.cons (.var 4) (.cons (.ite (.cmp .ne (.idx (.var 0) (.var 5)) (.glb 0)) (.call 42 (.cons (.var 3) (.cons (.idx (.var 0) (.var 5)) .nil))) (.tup .nil)) .nil)))) (.par [2, 3] (.cons (.var 3) (.cons (.call 128 (.cons (.call 14 (.cons (.tup (.cons (.glb 0) (.cons (.glb 1) .nil))) (.cons (.var 3) .nil))) (.cons (.var 2) .nil))) .nil))))) (.ret (.var 4)))))
def b_on_rim : Mi.St := (.seq (.par [1, 2] (.cons (.cst (.int (.ofNat 0))) (.cons (.var 0) .nil))) (.seq (.fr (.nm 3) (.itv (.tup (.cons (.glb 1) (.cons (.tup (.cons (.neg (.cst (.int (.ofNat 1)))) (.cons (.cst (.int (.ofNat 1))) .nil))) .nil)))) (.whl (.and (.cmp .gt (.bi .len (.cons (.var 2) .nil)) (.cst (.int (.ofNat 1)))) (.one (.cmp .eq (.call 84 (.cons (.var 2) (.cons (.var 3) .nil))) (.glb 0)))) (.seq (.asg (.nm 2) (.idx (.call 15 (.cons (.var 2) (.cons (.tup (.cons (.call 8 (.cons (.var 3) .nil)) (.cons (.glb 1) .nil))) .nil))) (.cst (.int (.ofNat 0))))) (.aug 1 .add (.cst (.int (.ofNat 1))))))) (.ret (.bin .add (.var 1) (.bi .sum (.cons (.lc (.tp (.cons (.nm 4) (.cons (.nm 5) .nil))) (.itv (.call 106 (.cons (.call 109 (.cons (.var 2) .nil)) .nil))) (.cst (.bl true)) (.bin .mul (.bin .mul (.cst (.int (.ofNat 2))) (.var 5)) (.call 142 (.cons (.var 4) (.cons (.tup (.cons (.neg (.cst (.int (.ofNat 2)))) (.cons (.cst (.int (.ofNat 1))) .nil))) (.cons (.glb 2) .nil))))) [4, 5]) .nil))))))
def b_outside_in : Mi.St := (.seq (.asg (.nm 1) (.var 0)) (.seq (.whl (.cmp .eq (.idx (.var 1) (.cst (.int (.ofNat 0)))) (.glb 0)) (.asg (.nm 1) (.slc (.var 1) (.bnd (.cst (.int (.ofNat 1)))) .noe))) (.seq (.asg (.nm 2) (.call 16 (.cons (.var 1) (.cons (.back (.var 1) .noe .noe) .nil)))) (.ret (.bin .add (.call 108 (.cons (.idx (.call 15 (.cons (.var 1) (.cons (.var 2) .nil))) (.cst (.int (.ofNat 0)))) .nil)) (.bin .fdiv (.bin .sub (.bin .sub (.bi .len (.cons (.var 2) .nil)) (.cst (.int (.ofNat 1)))) (.call 110 (.cons (.var 2) .nil))) (.cst (.int (.ofNat 2)))))))))
def b_stands_damped : Mi.St := (.seq (.asg (.tp (.cons (.nm 1) (.cons (.nm 2) .nil))) (.call 72 (.cons (.var 0) .nil))) (.seq (.asg (.nm 3) (.call 59 (.cons (.var 1) (.cons (.var 2) .nil)))) (.ret (.and (.cmp .eq (.bi .len (.cons (.var 3) .nil)) (.bi .len (.cons (.var 2) .nil))) (.one (.cmp .eq (.call 111 (.cons (.var 3) .nil)) (.cst (.int (.ofNat 0)))))))))
def b_sum_over : Mi.St := (.ret (.call 44 (.cons (.var 1) (.cons (.lc (.nm 2) (.itv (.var 0)) (.cst (.bl true)) (.call 44 (.cons (.var 2) (.cons (.var 1) .nil))) [2]) .nil))))
def b_beat_in : Mi.St := (.seq (.asg (.tp (.cons (.nm 3) (.cons (.nm 4) .nil))) (.var 0)) (.seq (.asg (.nm 5) (.call 3 (.cons (.var 2) (.cons (.call 44 (.cons (.slc (.var 4) (.bnd (.cst (.int (.ofNat 1)))) .noe) (.cons (.var 1) .nil))) .nil)))) (.ret (.tup (.cons (.call 2 (.cons (.call 1 (.cons (.idx (.var 3) (.cst (.int (.ofNat 0)))) (.cons (.var 5) .nil))) (.cons (.call 44 (.cons (.slc (.var 3) (.bnd (.cst (.int (.ofNat 1)))) .noe) (.cons (.var 1) .nil))) .nil))) (.cons (.slc (.bin .add (.tup (.cons (.var 5) .nil)) (.var 1)) .noe (.bnd (.bi .len (.cons (.var 1) .nil)))) .nil))))))
def b_slants_in : Mi.St := (.seq (.asg (.tp (.cons (.nm 1) (.cons (.nm 2) .nil))) (.var 0)) (.ret (.bi .tuple (.cons (.lc (.nm 3) (.itr1 (.bi .len (.cons (.var 2) .nil))) (.cst (.bl true)) (.call 2 (.cons (.call 44 (.cons (.slc (.var 2) (.bnd (.var 3)) .noe) (.cons (.var 1) .nil))) (.cons (.call 44 (.cons (.slc (.var 1) (.bnd (.var 3)) .noe) (.cons (.var 2) .nil))) .nil))) [3]) .nil))))
def b_curve_by : Mi.St := (.seq (.par [1, 2, 3] (.cons (.tup (.cons (.glb 1) .nil)) (.cons (.tup (.cons (.glb 0) (.cons (.glb 1) .nil))) (.cons (.call 43 (.cons (.slc (.var 0) .noe (.bnd (.cst (.int (.ofNat 1))))) .nil)) .nil)))) (.seq (.fr (.nm 4) (.itv (.slc (.var 0) (.bnd (.cst (.int (.ofNat 1)))) .noe)) (.seq (.asg (.nm 3) (.call 59 (.cons (.var 3) (.cons (.call 42 (.cons (.var 2) (.cons (.call 1 (.cons (.glb 3) (.cons (.var 4) .nil))) .nil))) .nil)))) (.par [1, 2] (.cons (.var 2) (.cons (.call 128 (.cons (.call 14 (.cons (.tup (.cons (.glb 0) (.cons (.glb 3) .nil))) (.cons (.var 2) .nil))) (.cons (.var 1) .nil))) .nil))))) (.ret (.var 3))))
def b_curve_in : Mi.St := (.ret (.call 116 (.cons (.call 115 (.cons (.var 0) .nil)) .nil)))
def b_dip_in : Mi.St := (.seq (.ifs (.cmp .eq (.var 0) (.tup .nil)) (.ret (.cst .non)) .skip) (.seq (.fr (.nm 1) (.itv (.tup (.cons (.glb 4) (.cons (.glb 1) .nil)))) (.ifs (.cmp .lt (.idx (.call 84 (.cons (.var 0) (.cons (.var 1) .nil))) (.cst (.int (.ofNat 0)))) (.cst (.int (.ofNat 0)))) (.ret (.var 1)) .skip)) (.seq (.asg (.nm 2) (.glb 4)) (.seq (.fr (.tp (.cons (.nm 3) (.cons (.nm 4) .nil))) (.itv (.bin .add (.call 136 (.cons (.var 0) (.cons (.glb 4) (.cons (.glb 1) (.cons (.glb 1) .nil))))) (.tup (.cons (.tup (.cons (.glb 1) (.cons (.glb 1) .nil))) .nil)))) (.seq (.asg (.nm 5) (.call 79 (.cons (.var 2) (.cons (.var 3) .nil)))) (.seq (.ifs (.cmp .lt (.idx (.call 84 (.cons (.var 0) (.cons (.var 5) .nil))) (.cst (.int (.ofNat 0)))) (.cst (.int (.ofNat 0)))) (.ret (.var 5)) .skip) (.asg (.nm 2) (.var 4))))) (.ret (.cst .non))))))
def b_sure_spots : Mi.St := (.seq (.asg (.nm 1) (.call 4 (.cons (.var 0) .nil))) (.seq (.exp (.call 41 (.cons (.and (.isin (.var 1) [.tuple]) (.and (.cmp .le (.bi .len (.cons (.var 1) .nil)) (.glb 7)) (.one (.bi .all (.cons (.lc (.nm 2) (.itv (.var 1)) (.cst (.bl true)) (.call 20 (.cons (.var 2) .nil)) [2]) .nil))))) .nil))) (.seq (.exp (.call 41 (.cons (.call 56 (.cons (.var 1) .nil)) .nil))) (.ret (.var 1)))))
def b_has_all : Mi.St := (.seq (.ifs (.and (.cmp .ne (.var 1) (.tup .nil)) (.one (.cmp .ne (.call 132 (.cons (.var 0) (.cons (.bi .len (.cons (.var 1) .nil)) .nil))) (.var 1)))) (.ret (.cst (.bl false))) .skip) (.ret (.bi .all (.cons (.lc (.tp (.cons (.nm 3) (.cons (.nm 4) .nil))) (.itv (.var 2)) (.cst (.bl true)) (.cmp .eq (.call 86 (.cons (.var 0) (.cons (.var 3) .nil))) (.var 4)) [3, 4]) .nil))))
def b_with_more : Mi.St := (.seq (.ifs (.cmp .isN (.var 2) (.cst .non)) (.ret (.tup (.cons (.bin .add (.var 0) (.tup (.cons (.var 3) .nil))) (.cons (.var 1) .nil)))) .skip) (.ret (.tup (.cons (.var 0) (.cons (.bi .tuple (.cons (.bi .sorted (.cons (.bin .add (.var 1) (.tup (.cons (.tup (.cons (.tup (.cons (.var 2) (.cons (.glb 0) .nil))) (.cons (.tup (.cons (.var 3) (.cons (.glb 0) .nil))) .nil))) .nil))) .nil)) .nil)) .nil)))))
def b_keeper_in : Mi.St := (.seq (.par [2, 3] (.cons (.lc (.tp (.cons (.nm 4) (.cons (.nm 5) .nil))) (.itv (.var 1)) (.cst (.bl true)) (.var 4) [4, 5]) (.cons (.cst (.int (.ofNat 2))) .nil))) (.seq (.whl (.cmp .inn (.tup (.cons (.tup (.cons (.var 3) (.cons (.cst (.int (.ofNat 1))) .nil))) (.cons (.glb 0) .nil))) (.var 2)) (.aug 3 .add (.cst (.int (.ofNat 1))))) (.ret (.call 28 (.cons (.var 0) (.cons (.var 1) (.cons (.tup (.cons (.var 3) (.cons (.cst (.int (.ofNat 1))) .nil))) (.cons (.cst (.int (.ofNat 0))) .nil))))))))
def b_changes_at : Mi.St := (.ret (.call 80 (.cons (.lc (.nm 2) (.itv (.var 0)) (.cst (.bl true)) (.call 84 (.cons (.var 2) (.cons (.var 1) .nil))) [2]) .nil)))
def b_is_forced_in : Mi.St := (.seq (.asg (.nm 2) (.call 17 (.cons (.var 0) (.cons (.var 1) .nil)))) (.ret (.and (.cmp .isN (.call 19 (.cons (.var 2) .nil)) (.cst .non)) (.one (.cmp .notN (.call 18 (.cons (.var 2) .nil)) (.cst .non))))))
def b_is_forced : Mi.St := (.seq (.asg (.tp (.cons (.nm 2) (.cons (.nm 3) .nil))) (.call 21 (.cons (.var 0) (.cons (.var 1) (.cons (.glb 8) .nil))))) (.ret (.call 124 (.cons (.var 2) (.cons (.var 3) .nil)))))
def b_next_echo : Mi.St := (.seq (.asg (.tp (.cons (.nm 2) (.cons (.nm 3) .nil))) (.call 21 (.cons (.var 0) (.cons (.var 1) (.cons (.glb 9) .nil))))) (.seq (.exp (.call 78 (.cons (.var 2) (.cons (.var 3) .nil)))) (.ret (.call 27 (.cons (.var 2) (.cons (.var 3) (.cons (.cst .non) .nil)))))))
def b_told_table : Mi.St := (.seq (.asg (.tp (.cons (.nm 2) (.cons (.nm 3) .nil))) (.call 21 (.cons (.var 0) (.cons (.var 1) (.cons (.glb 8) .nil))))) (.ret (.call 17 (.cons (.var 2) (.cons (.var 3) .nil)))))
def b_poly_less : Mi.St := (.ret (.call 43 (.cons (.call 51 (.cons (.call 47 (.cons (.var 0) (.cons (.bi .len (.cons (.var 1) .nil)) .nil))) (.cons (.call 47 (.cons (.var 1) (.cons (.bi .len (.cons (.var 0) .nil)) .nil))) .nil))) .nil)))
def b_many_cells : Mi.St := (.ret (.bin .sub (.bi .len (.cons (.idx (.var 0) (.cst (.int (.ofNat 0)))) .nil)) (.cst (.int (.ofNat 1)))))
def b_run_in : Mi.St := (.seq (.par [3, 4] (.cons (.lst .nil) (.cons (.var 1) .nil))) (.seq (.fr (.nm 5) (.itv (.var 2)) (.seq (.asg (.tp (.cons (.nm 6) (.cons (.nm 4) .nil))) (.call 114 (.cons (.var 0) (.cons (.var 4) (.cons (.var 5) .nil))))) (.exp (.mth .append (.var 3) (.cons (.var 6) .nil))))) (.ret (.tup (.cons (.bi .tuple (.cons (.var 3) .nil)) (.cons (.var 4) .nil))))))
def b_rest_of : Mi.St := (.ret (.call 46 (.cons (.call 129 (.cons (.var 0) .nil)) .nil)))
def b_echoes_in : Mi.St := (.ret (.idx (.call 130 (.cons (.var 0) (.cons (.call 131 (.cons (.var 0) .nil)) (.cons (.bin .add (.tup (.cons (.glb 1) .nil)) (.call 46 (.cons (.bin .sub (.var 1) (.cst (.int (.ofNat 1)))) .nil))) .nil)))) (.cst (.int (.ofNat 0)))))
def b_next_of : Mi.St := (.seq (.ifs (.cmp .isN (.var 0) (.cst .non)) (.ret (.glb 0)) .skip) (.ret (.ite (.cmp .isN (.var 2) (.cst .non)) (.idx (.call 132 (.cons (.var 0) (.cons (.bin .add (.bi .len (.cons (.var 1) .nil)) (.cst (.int (.ofNat 1)))) .nil))) (.neg (.cst (.int (.ofNat 1))))) (.idx (.call 86 (.cons (.var 0) (.cons (.tup (.cons (.var 2) (.cons (.glb 0) .nil))) .nil))) (.cst (.int (.ofNat 0)))))))
def b_between_in : Mi.St := (.ret (.bin .sub (.bin .sub (.call 123 (.cons (.var 0) (.cons (.var 1) .nil))) (.call 123 (.cons (.var 0) (.cons (.var 2) .nil)))) (.bi .int (.cons (.cmp .eq (.call 84 (.cons (.idx (.var 0) (.cst (.int (.ofNat 0)))) (.cons (.var 2) .nil))) (.glb 0)) .nil))))
def b_parted_spans : Mi.St := (.seq (.par [3, 4, 5] (.cons (.lst .nil) (.cons (.lst (.cons (.tup (.cons (.var 1) (.cons (.var 2) .nil))) .nil)) (.cons (.idx (.var 0) (.cst (.int (.ofNat 0)))) .nil)))) (.seq (.whl (.cmp .ne (.var 4) (.lst .nil)) (.seq (.asg (.tp (.cons (.nm 6) (.cons (.nm 7) .nil))) (.mth .pop (.var 4) .nil)) (.seq (.asg (.nm 8) (.ite (.cmp .ne (.var 6) (.var 7)) (.call 134 (.cons (.var 0) (.cons (.var 6) (.cons (.var 7) .nil)))) (.cst (.int (.ofNat 1))))) (.ifs (.or (.cmp .eq (.var 6) (.var 7)) (.one (.and (.cmp .eq (.var 8) (.cst (.int (.ofNat 1)))) (.and (.cmp .ne (.call 84 (.cons (.var 5) (.cons (.var 6) .nil))) (.glb 0)) (.one (.cmp .ne (.call 84 (.cons (.var 5) (.cons (.var 7) .nil))) (.glb 0))))))) (.exp (.mth .append (.var 3) (.cons (.tup (.cons (.var 6) (.cons (.var 7) .nil))) .nil))) (.ifs (.cmp .gt (.var 8) (.cst (.int (.ofNat 0)))) (.seq (.asg (.nm 9) (.call 79 (.cons (.var 6) (.cons (.var 7) .nil)))) (.seq (.exp (.mth .append (.var 4) (.cons (.tup (.cons (.var 9) (.cons (.var 7) .nil))) .nil))) (.seq (.exp (.mth .extend (.var 4) (.cons (.ite (.cmp .eq (.call 84 (.cons (.var 5) (.cons (.var 9) .nil))) (.glb 0)) (.lst (.cons (.tup (.cons (.var 9) (.cons (.var 9) .nil))) .nil)) (.lst .nil)) .nil))) (.exp (.mth .append (.var 4) (.cons (.tup (.cons (.var 6) (.cons (.var 9) .nil))) .nil)))))) .skip))))) (.ret (.var 3))))
def b_spans_in : Mi.St := (.seq (.asg (.nm 4) (.call 99 (.cons (.var 0) .nil))) (.seq (.par [5, 6] (.cons (.lst .nil) (.cons (.var 1) .nil))) (.seq (.fr (.nm 7) (.itv (.call 135 (.cons (.call 100 (.cons (.var 4) (.cons (.call 91 (.cons (.var 4) .nil)) .nil))) (.cons (.var 1) (.cons (.var 2) .nil))))) (.seq (.asg (.nm 8) (.var 7)) (.seq (.whl (.and (.cmp .ne (.idx (.var 8) (.cst (.int (.ofNat 0)))) (.idx (.var 8) (.cst (.int (.ofNat 1))))) (.one (.nt (.call 144 (.cons (.var 8) (.cons (.var 6) (.cons (.var 2) (.cons (.var 3) .nil)))))))) (.asg (.nm 8) (.call 143 (.cons (.var 4) (.cons (.var 8) .nil))))) (.seq (.exp (.mth .append (.var 5) (.cons (.var 8) .nil))) (.asg (.nm 6) (.idx (.var 8) (.cst (.int (.ofNat 1))))))))) (.ret (.bi .tuple (.cons (.var 5) .nil))))))
def b_against : Mi.St := (.seq (.asg (.tp (.cons (.nm 2) (.cons (.nm 3) .nil))) (.call 21 (.cons (.var 0) (.cons (.var 1) (.cons (.glb 8) .nil))))) (.seq (.asg (.nm 4) (.call 19 (.cons (.call 17 (.cons (.var 2) (.cons (.var 3) .nil))) .nil))) (.seq (.ifs (.cmp .isN (.var 4) (.cst .non)) (.raise 2) .skip) (.ret (.var 4)))))
def b__law_names : Mi.St := (.seq (.asg (.tp (.cons (.nm 0) (.cons (.nm 1) (.cons (.nm 2) (.cons (.nm 3) (.cons (.nm 4) .nil)))))) (.tup (.cons (.tup (.cons (.cst (.int (.ofNat 0))) (.cons (.cst (.int (.ofNat 1))) .nil))) (.cons (.tup (.cons (.cst (.int (.ofNat 1))) (.cons (.cst (.int (.ofNat 1))) .nil))) (.cons (.tup (.cons (.cst (.int (.ofNat 2))) (.cons (.cst (.int (.ofNat 1))) .nil))) (.cons (.tup (.cons (.cst (.int (.ofNat 3))) (.cons (.cst (.int (.ofNat 1))) .nil))) (.cons (.tup (.cons (.neg (.cst (.int (.ofNat 1)))) (.cons (.cst (.int (.ofNat 1))) .nil))) .nil))))))) (.seq (.par [5, 6, 7] (.cons (.tup (.cons (.tup (.cons (.var 1) (.cons (.var 1) .nil))) (.cons (.tup (.cons (.var 1) (.cons (.var 4) .nil))) .nil))) (.cons (.tup (.cons (.tup (.cons (.var 1) (.cons (.var 4) .nil))) (.cons (.tup (.cons (.var 1) (.cons (.var 1) .nil))) .nil))) (.cons (.tup (.cons (.tup (.cons (.var 1) .nil)) (.cons (.tup (.cons (.var 1) .nil)) .nil))) .nil)))) (.seq (.asg (.nm 8) (.tup (.cons (.tup (.cons (.tup (.cons (.var 2) (.cons (.var 0) .nil))) (.cons (.tup (.cons (.var 3) (.cons (.var 0) .nil))) .nil))) (.cons (.tup (.cons (.tup (.cons (.var 3) (.cons (.var 0) .nil))) (.cons (.tup (.cons (.var 2) (.cons (.var 0) .nil))) .nil))) .nil)))) (.ret (.tup (.cons (.var 0) (.cons (.var 1) (.cons (.var 2) (.cons (.var 3) (.cons (.var 4) (.cons (.var 5) (.cons (.var 6) (.cons (.var 7) (.cons (.var 8) .nil))))))))))))))
def b_share_bracket_in : Mi.St := (.seq (.par [3, 4] (.cons (.glb 0) (.cons (.glb 1) .nil))) (.seq (.whl (.call 26 (.cons (.var 0) (.cons (.var 1) (.cons (.call 8 (.cons (.var 4) .nil)) .nil)))) (.par [3, 4] (.cons (.var 4) (.cons (.call 1 (.cons (.glb 2) (.cons (.var 4) .nil))) .nil)))) (.seq (.whl (.call 49 (.cons (.var 2) (.cons (.call 3 (.cons (.var 4) (.cons (.var 3) .nil))) .nil))) (.seq (.asg (.nm 5) (.call 79 (.cons (.var 3) (.cons (.var 4) .nil)))) (.ifs (.call 26 (.cons (.var 0) (.cons (.var 1) (.cons (.call 8 (.cons (.var 5) .nil)) .nil)))) (.asg (.nm 3) (.var 5)) (.asg (.nm 4) (.var 5))))) (.ret (.tup (.cons (.var 3) (.cons (.var 4) .nil)))))))
def b_law : Mi.St := (.seq (.par [1, 2] (.cons (.cst (.bl false)) (.cons (.lst (.cons (.fref 31) (.cons (.fref 32) (.cons (.fref 33) (.cons (.fref 34) .nil))))) .nil))) (.seq (.thru (.asg (.nm 1) (.bi .all (.cons (.lc (.nm 3) (.itv (.var 2)) (.cst (.bl true)) (.callv 3) [3]) .nil)))) (.ret (.var 1))))
def b_size_of : Mi.St := (.ret (.tup (.cons (.bi .abs (.cons (.idx (.var 0) (.cst (.int (.ofNat 0)))) .nil)) (.cons (.idx (.var 0) (.cst (.int (.ofNat 1)))) .nil))))
def b_roots_in : Mi.St := (.seq (.asg (.nm 3) (.call 99 (.cons (.var 0) .nil))) (.ret (.call 134 (.cons (.call 100 (.cons (.var 3) (.cons (.call 91 (.cons (.var 3) .nil)) .nil))) (.cons (.var 1) (.cons (.var 2) .nil))))))
def b_halved_span : Mi.St := (.seq (.asg (.tp (.cons (.nm 2) (.cons (.nm 3) .nil))) (.var 1)) (.seq (.asg (.nm 4) (.call 79 (.cons (.var 2) (.cons (.var 3) .nil)))) (.seq (.asg (.nm 5) (.call 84 (.cons (.var 0) (.cons (.var 4) .nil)))) (.seq (.ifs (.cmp .eq (.var 5) (.glb 0)) (.ret (.tup (.cons (.var 4) (.cons (.var 4) .nil)))) .skip) (.ret (.ite (.cmp .ne (.cmp .gt (.idx (.call 84 (.cons (.var 0) (.cons (.var 2) .nil))) (.cst (.int (.ofNat 0)))) (.cst (.int (.ofNat 0)))) (.cmp .gt (.idx (.var 5) (.cst (.int (.ofNat 0)))) (.cst (.int (.ofNat 0))))) (.tup (.cons (.var 2) (.cons (.var 4) .nil))) (.tup (.cons (.var 4) (.cons (.var 3) .nil)))))))))
def b_is_apart : Mi.St := (.seq (.ifs (.call 49 (.cons (.var 3) (.cons (.call 3 (.cons (.idx (.var 0) (.cst (.int (.ofNat 1)))) (.cons (.idx (.var 0) (.cst (.int (.ofNat 0)))) .nil))) .nil))) (.ret (.cst (.bl false))) .skip) (.ret (.and (.call 49 (.cons (.var 1) (.cons (.idx (.var 0) (.cst (.int (.ofNat 0)))) .nil))) (.one (.call 49 (.cons (.idx (.var 0) (.cst (.int (.ofNat 1)))) (.cons (.var 2) .nil)))))))
def b__law_no_word : Mi.St := (.ret (.ite (.isin (.var 0) [.list]) (.lst (.cons (.cst (.str "told")) (.cons (.var 0) .nil))) (.var 0)))
def tab0 : List Mi.FnD := [⟨2, 3, b_fraction_of⟩, ⟨2, 2, b_product⟩, ⟨2, 2, b_plus⟩, ⟨2, 2, b_minus⟩, ⟨1, 2, b_tupled⟩, ⟨2, 2, b_ratio⟩, ⟨1, 1, b_is_number⟩, ⟨2, 2, b_is_long⟩, ⟨1, 1, b_negative⟩, ⟨2, 2, b_is_from⟩, ⟨2, 3, b_times_i⟩, ⟨2, 5, b_over_i⟩, ⟨2, 10, b_at_both⟩, ⟨3, 8, b_at_echo⟩, ⟨2, 6, b_poly_by⟩, ⟨2, 8, b_poly_over⟩, ⟨2, 2, b_poly_divisor⟩, ⟨2, 5, b_table_of⟩, ⟨1, 12, b_nought_row⟩, ⟨1, 12, b_below_row⟩, ⟨1, 1, b_is_spot_so⟩, ⟨3, 6, b_sure_seen⟩, ⟨1, 1, b_is_keeper_in⟩, ⟨3, 16, b_keeper_by⟩, ⟨4, 7, b_more_column⟩, ⟨3, 9, b_ends_by⟩, ⟨3, 5, b_can_moved⟩, ⟨3, 6, b_ends_in⟩, ⟨4, 7, b_end_in⟩, ⟨3, 9, b_damper_more⟩]
def tab1 : List Mi.FnD := [⟨3, 6, b_share_left⟩, ⟨0, 16, b__law_tables_right⟩, ⟨0, 19, b__law_keepers_right⟩, ⟨0, 24, b__law_ends_right⟩, ⟨0, 17, b__law_refused_right⟩, ⟨1, 1, b_is_fraction⟩, ⟨1, 3, b_total⟩, ⟨2, 2, b_pair_plus⟩, ⟨2, 4, b__law_same⟩, ⟨3, 5, b_number_at⟩, ⟨1, 2, b_is_row⟩, ⟨1, 1, b_sure⟩, ⟨2, 3, b_scaled⟩, ⟨1, 2, b_trimmed⟩, ⟨2, 4, b_met⟩, ⟨2, 2, b_is_row_of⟩, ⟨1, 1, b_noughts⟩, ⟨2, 2, b_longer⟩, ⟨2, 4, b_lines_of⟩, ⟨2, 2, b_is_lower⟩, ⟨2, 7, b_all_lines⟩, ⟨2, 4, b_row_minus⟩, ⟨2, 2, b_is_value_at⟩, ⟨1, 1, b_with_last_one⟩, ⟨1, 2, b_sure_row⟩, ⟨1, 4, b_is_told⟩, ⟨1, 3, b_rises⟩, ⟨1, 2, b_many_lines⟩, ⟨2, 4, b_row_plus⟩, ⟨2, 2, b_poly_plus⟩]
def tab2 : List Mi.FnD := [⟨2, 2, b_can_in⟩, ⟨1, 1, b_turned_about⟩, ⟨3, 5, b_swept⟩, ⟨1, 2, b__law_lists⟩, ⟨2, 3, b_spread⟩, ⟨1, 6, b__law_tried⟩, ⟨1, 4, b__law_heard⟩, ⟨1, 3, b_factor_of⟩, ⟨1, 3, b_times_all⟩, ⟨1, 2, b_sure_fraction⟩, ⟨2, 6, b_row_at_i⟩, ⟨3, 6, b_moved⟩, ⟨1, 1, b_polys_of⟩, ⟨2, 4, b_can_have⟩, ⟨2, 5, b_sure_beyond⟩, ⟨3, 6, b_cleared⟩, ⟨2, 11, b_solved_in⟩, ⟨1, 2, b_root_of⟩, ⟨2, 2, b_sure_can⟩, ⟨2, 2, b_halfway⟩, ⟨1, 5, b_changes_of⟩, ⟨2, 2, b_is_at_most⟩, ⟨1, 4, b_is_box⟩, ⟨2, 4, b_power_in⟩, ⟨2, 4, b_poly_at⟩, ⟨1, 3, b_is_small_in⟩, ⟨2, 3, b_tone_of⟩, ⟨2, 3, b_far_signs⟩, ⟨2, 5, b_all_nought⟩, ⟨2, 7, b_box_by⟩]
def tab3 : List Mi.FnD := [⟨1, 1, b_is_spot⟩, ⟨1, 3, b_slope_of⟩, ⟨3, 5, b_is_keeper_with⟩, ⟨4, 8, b_end_with⟩, ⟨3, 3, b_forced_by⟩, ⟨1, 1, b_sure_which⟩, ⟨3, 6, b_next_value⟩, ⟨1, 2, b_sure_width⟩, ⟨1, 1, b_rooted⟩, ⟨1, 1, b_poly_once⟩, ⟨2, 4, b_rests_of⟩, ⟨3, 6, b_is_against⟩, ⟨1, 2, b_sure_box⟩, ⟨1, 2, b_sure_small⟩, ⟨2, 7, b_told_of⟩, ⟨2, 4, b_keeper_with⟩, ⟨1, 7, b_poly_lots⟩, ⟨1, 5, b_half_plane⟩, ⟨1, 10, b_outside_off_rim⟩, ⟨1, 6, b_in_cosine⟩, ⟨1, 6, b_on_rim⟩, ⟨1, 3, b_outside_in⟩, ⟨1, 4, b_stands_damped⟩, ⟨2, 3, b_sum_over⟩, ⟨3, 6, b_beat_in⟩, ⟨1, 4, b_slants_in⟩, ⟨1, 5, b_curve_by⟩, ⟨1, 1, b_curve_in⟩, ⟨1, 6, b_dip_in⟩, ⟨1, 3, b_sure_spots⟩]
def tab4 : List Mi.FnD := [⟨3, 5, b_has_all⟩, ⟨4, 4, b_with_more⟩, ⟨2, 6, b_keeper_in⟩, ⟨2, 3, b_changes_at⟩, ⟨2, 3, b_is_forced_in⟩, ⟨2, 4, b_is_forced⟩, ⟨2, 4, b_next_echo⟩, ⟨2, 4, b_told_table⟩, ⟨2, 2, b_poly_less⟩, ⟨1, 1, b_many_cells⟩, ⟨3, 7, b_run_in⟩, ⟨1, 1, b_rest_of⟩, ⟨2, 2, b_echoes_in⟩, ⟨3, 3, b_next_of⟩, ⟨3, 3, b_between_in⟩, ⟨3, 10, b_parted_spans⟩, ⟨4, 9, b_spans_in⟩, ⟨2, 5, b_against⟩, ⟨0, 9, b__law_names⟩, ⟨3, 6, b_share_bracket_in⟩, ⟨1, 4, b_law⟩, ⟨1, 1, b_size_of⟩, ⟨3, 4, b_roots_in⟩, ⟨2, 6, b_halved_span⟩, ⟨4, 4, b_is_apart⟩, ⟨1, 1, b__law_no_word⟩]
def tab : List Mi.FnD := tab0 ++ (tab1 ++ (tab2 ++ (tab3 ++ (tab4))))
end L_k66
namespace L_k66
open PySem PySem.Spec PyProof.Rows L2 Mi
theorem nd : (TT.fns.map (·.1)).Nodup := by decide +kernel
theorem exnd : TT.exs.Nodup := by decide +kernel
theorem hB : allB TT 0 TT.fns ts tab = true := by decide +kernel
theorem kw0 : KwOk (tt ("told_table" : PySem.Str) [("heard" : PySem.Str), ("told" : PySem.Str)] [("heard" : PySem.Str), ("told" : PySem.Str), ("row" : PySem.Str), ("pairs" : PySem.Str)] 150) ⟨127, 0, [("told" : PySem.Str), ("heard" : PySem.Str)], [1, 0]⟩ := ⟨rfl, fun kV doc pm an cdv ct us ws l1 l2 => match us, ws, l1, l2 with
  | [], [w0, w1], _, _ => rfl⟩
theorem kw1 : KwOk (tt ("told_of" : PySem.Str) [("box" : PySem.Str), ("spots" : PySem.Str)] [("box" : PySem.Str), ("spots" : PySem.Str), ("own" : PySem.Str), ("places" : PySem.Str), ("found" : PySem.Str), ("spot" : PySem.Str), ("value" : PySem.Str)] 149) ⟨104, 0, [("spots" : PySem.Str), ("box" : PySem.Str)], [1, 0]⟩ := ⟨rfl, fun kV doc pm an cdv ct us ws l1 l2 => match us, ws, l1, l2 with
  | [], [w0, w1], _, _ => rfl⟩
theorem kw2 : KwOk (tt ("is_spot" : PySem.Str) [("thing" : PySem.Str)] [("thing" : PySem.Str)] 148) ⟨90, 0, [("thing" : PySem.Str)], [0]⟩ := ⟨rfl, fun kV doc pm an cdv ct us ws l1 l2 => match us, ws, l1, l2 with
  | [], [w0], _, _ => rfl⟩
theorem kw3 : KwOk (tt ("is_against" : PySem.Str) [("heard" : PySem.Str), ("told" : PySem.Str), ("thing" : PySem.Str)] [("heard" : PySem.Str), ("told" : PySem.Str), ("thing" : PySem.Str), ("row" : PySem.Str), ("pairs" : PySem.Str), ("table" : PySem.Str)] 157) ⟨101, 0, [("thing" : PySem.Str), ("told" : PySem.Str), ("heard" : PySem.Str)], [2, 1, 0]⟩ := ⟨rfl, fun kV doc pm an cdv ct us ws l1 l2 => match us, ws, l1, l2 with
  | [], [w0, w1, w2], _, _ => rfl⟩
theorem kw4 : KwOk (tt ("keeper_with" : PySem.Str) [("heard" : PySem.Str), ("told" : PySem.Str)] [("heard" : PySem.Str), ("told" : PySem.Str), ("row" : PySem.Str), ("pairs" : PySem.Str)] 153) ⟨105, 0, [("told" : PySem.Str), ("heard" : PySem.Str)], [1, 0]⟩ := ⟨rfl, fun kV doc pm an cdv ct us ws l1 l2 => match us, ws, l1, l2 with
  | [], [w0, w1], _, _ => rfl⟩
theorem kw5 : KwOk (tt ("can_have" : PySem.Str) [("heard" : PySem.Str), ("told" : PySem.Str)] [("heard" : PySem.Str), ("told" : PySem.Str), ("row" : PySem.Str), ("pairs" : PySem.Str)] 151) ⟨73, 0, [("told" : PySem.Str), ("heard" : PySem.Str)], [1, 0]⟩ := ⟨rfl, fun kV doc pm an cdv ct us ws l1 l2 => match us, ws, l1, l2 with
  | [], [w0, w1], _, _ => rfl⟩
theorem kw6 : KwOk (tt ("next_value" : PySem.Str) [("heard" : PySem.Str), ("told" : PySem.Str), ("a" : PySem.Str)] [("heard" : PySem.Str), ("told" : PySem.Str), ("a" : PySem.Str), ("row" : PySem.Str), ("pairs" : PySem.Str), ("place" : PySem.Str)] 159) ⟨96, 0, [("a" : PySem.Str), ("told" : PySem.Str), ("heard" : PySem.Str)], [2, 1, 0]⟩ := ⟨rfl, fun kV doc pm an cdv ct us ws l1 l2 => match us, ws, l1, l2 with
  | [], [w0, w1, w2], _, _ => rfl⟩
theorem kw7 : KwOk (tt ("end_with" : PySem.Str) [("heard" : PySem.Str), ("told" : PySem.Str), ("a" : PySem.Str), ("which" : PySem.Str)] [("heard" : PySem.Str), ("told" : PySem.Str), ("a" : PySem.Str), ("which" : PySem.Str), ("row" : PySem.Str), ("pairs" : PySem.Str), ("place" : PySem.Str), ("side" : PySem.Str)] 161) ⟨93, 0, [("which" : PySem.Str), ("a" : PySem.Str), ("told" : PySem.Str), ("heard" : PySem.Str)], [3, 2, 1, 0]⟩ := ⟨rfl, fun kV doc pm an cdv ct us ws l1 l2 => match us, ws, l1, l2 with
  | [], [w0, w1, w2, w3], _, _ => rfl⟩
theorem kw8 : KwOk (tt ("damper_more" : PySem.Str) [("heard" : PySem.Str), ("told" : PySem.Str), ("width" : PySem.Str)] [("heard" : PySem.Str), ("told" : PySem.Str), ("width" : PySem.Str), ("row" : PySem.Str), ("pairs" : PySem.Str), ("most" : PySem.Str), ("low" : PySem.Str), ("high" : PySem.Str), ("mid" : PySem.Str)] 162) ⟨29, 0, [("width" : PySem.Str), ("told" : PySem.Str), ("heard" : PySem.Str)], [2, 1, 0]⟩ := ⟨rfl, fun kV doc pm an cdv ct us ws l1 l2 => match us, ws, l1, l2 with
  | [], [w0, w1, w2], _, _ => rfl⟩
theorem kw9 : KwOk (tt ("share_left" : PySem.Str) [("heard" : PySem.Str), ("told" : PySem.Str), ("width" : PySem.Str)] [("heard" : PySem.Str), ("told" : PySem.Str), ("width" : PySem.Str), ("row" : PySem.Str), ("pairs" : PySem.Str), ("most" : PySem.Str)] 163) ⟨30, 0, [("width" : PySem.Str), ("told" : PySem.Str), ("heard" : PySem.Str)], [2, 1, 0]⟩ := ⟨rfl, fun kV doc pm an cdv ct us ws l1 l2 => match us, ws, l1, l2 with
  | [], [w0, w1, w2], _, _ => rfl⟩
theorem kpOk : ∀ p ∈ TT.kp, ∃ t, ts[p.f]? = some t ∧ KwOk t p := by
  intro p hp
  have hp : p ∈ kps := hp
  unfold kps at hp
  simp only [List.mem_cons, List.not_mem_nil, or_false] at hp
  rcases hp with rfl | rfl | rfl | rfl | rfl | rfl | rfl | rfl | rfl | rfl
  · exact ⟨_, rfl, kw0⟩
  · exact ⟨_, rfl, kw1⟩
  · exact ⟨_, rfl, kw2⟩
  · exact ⟨_, rfl, kw3⟩
  · exact ⟨_, rfl, kw4⟩
  · exact ⟨_, rfl, kw5⟩
  · exact ⟨_, rfl, kw6⟩
  · exact ⟨_, rfl, kw7⟩
  · exact ⟨_, rfl, kw8⟩
  · exact ⟨_, rfl, kw9⟩
theorem hn : TT.fns.map (·.1) = ts.map (·.x) := by decide +kernel
theorem runH (w : World) : HandSHeadRun.RunEqI Rw qv (hookM as asT TT glbs ts hn) (fun s => obM as asT TT glbs ts (HandSHeadRun.getT s)) 40000 nm w := by
  unfold HandSHeadRun.RunEqI
  have a2 := runA2 w
  have hb := runB w
  have ac := runAC w
  have c4 := runC w
  revert a2 hb ac c4
  generalize HandSHeadRun.wholeF (fun p => HandSHeadRun.stepQ (HandSHeadRun.denQ HandSHeadRun.tabQ) p w) HandSHeadRun.fenceQ 40000 Rw.prog = o
  intro a2 hb ac c4
  cases o with
  | none => cases hb
  | some x =>
    have a2 : PySem.W.namesBound Rw.prog x.2.abs.heap = true := Option.some.inj a2
    have hb := Option.some.inj hb
    have ac := Option.some.inj ac
    have c4 := Option.some.inj c4
    obtain ⟨a, c1⟩ := Bool.and_eq_true_iff.mp ac
    obtain ⟨a1, a3⟩ := Bool.and_eq_true_iff.mp a
    obtain ⟨a4, a5⟩ := Bool.and_eq_true_iff.mp a3
    obtain ⟨o1, c2⟩ := Bool.and_eq_true_iff.mp c1
    obtain ⟨o2, o3⟩ := Bool.and_eq_true_iff.mp c2
    have ob := ob_join o1 o2 o3 c4
    have la : HandSHeadRun.looksF Rw.prog x.1.heap x.2.abs = true := by
      unfold HandSHeadRun.looksF
      rw [a1, a2, a4, a5]
      rfl
    exact congrArg some (Prod.ext la (Prod.ext hb ob))
end L_k66
namespace L_k66
open PySem Mi
def fq (a b : Nat) : MV := .tup 2 [.int (.ofNat a), .int (.ofNat b)]
def gq (a b : Nat) : MV := .tup 2 [.int (.negSucc a), .int (.ofNat b)]
end L_k66
namespace L_k66
open PySem Mi
def t0_2 : Tr := (.nd (.nd (.nd (.nd (.nd (.nd (.nd .lf 3627300 [(.tup 3 [(fq 1 1), (fq 0 1)]), (.tup 3 [(fq 383 32), (fq 0 1)])] (.tup 3 [(fq 383 32), (fq 0 1)]) .lf) 3842564 [(.tup 3 [(fq 1 1), (fq 0 1)]), (.tup 3 [(fq 383 64), (fq 0 1)])] (.tup 3 [(fq 383 64), (fq 0 1)]) (.nd .lf 15244544 [(.tup 3 [(fq 6 5), (gq 15 5)]), (.tup 3 [(fq 4 5), (fq 0 1)])] (.tup 3 [(fq 24 25), (gq 63 25)]) .lf)) 15255714 [(.tup 3 [(fq 0 1), (gq 5 1)]), (.tup 3 [(gq 0 1), (fq 6 1)])] (.tup 3 [(fq 36 1), (fq 6 1)]) (.nd (.nd .lf 30535300 [(.tup 3 [(fq 1 1), (fq 0 1)]), (.tup 3 [(fq 511 64), (fq 0 1)])] (.tup 3 [(fq 511 64), (fq 0 1)]) .lf) 42431443 [(.tup 3 [(fq 255 64), (fq 0 1)]), (.tup 3 [(fq 9 8), (fq 0 1)])] (.tup 3 [(fq 2295 512), (fq 0 1)]) .lf)) 53657687 [(.tup 3 [(fq 2 1), (gq 0 2)]), (.tup 3 [(gq 0 1), (fq 1 1)])] (.tup 3 [(gq 2 2), (fq 5 2)]) (.nd (.nd (.nd .lf 53855036 [(.tup 3 [(fq 191 32), (fq 0 1)]), (.tup 3 [(fq 4 3), (fq 0 1)])] (.tup 3 [(fq 191 24), (fq 0 1)]) .lf) 57228036 [(.tup 3 [(fq 1 1), (fq 0 1)]), (.tup 3 [(fq 639 64), (fq 0 1)])] (.tup 3 [(fq 639 64), (fq 0 1)]) .lf) 66215063 [(.tup 3 [(gq 0 1), (fq 0 1)]), (.tup 3 [(fq 2 1), (gq 0 1)])] (.tup 3 [(gq 1 1), (fq 1 1)]) (.nd (.nd .lf 67242996 [(.tup 3 [(gq 0 1), (fq 0 1)]), (.tup 3 [(fq 6 5), (gq 7 5)])] (.tup 3 [(gq 5 5), (fq 8 5)]) .lf) 67243244 [(.tup 3 [(gq 0 1), (fq 0 1)]), (.tup 3 [(fq 6 5), (gq 15 5)])] (.tup 3 [(gq 5 5), (fq 16 5)]) .lf))) 67777423 [(.tup 3 [(fq 39 8), (fq 0 1)]), (.tup 3 [(fq 6 5), (fq 0 1)])] (.tup 3 [(fq 117 20), (fq 0 1)]) (.nd (.nd (.nd (.nd .lf 68217508 [(.tup 3 [(gq 0 1), (fq 0 1)]), (.tup 3 [(gq 1 1), (fq 0 1)])] (.tup 3 [(fq 2 1), (fq 0 1)]) .lf) 68247130 [(.tup 3 [(fq 5 1), (fq 0 1)]), (.tup 3 [(fq 3 1), (fq 0 1)])] (.tup 3 [(fq 15 1), (fq 0 1)]) (.nd .lf 68455667 [(.tup 3 [(fq 5 1), (fq 0 1)]), (.tup 3 [(fq 4 1), (fq 0 1)])] (.tup 3 [(fq 20 1), (fq 0 1)]) .lf)) 68469121 [(.tup 3 [(fq 5 1), (fq 0 1)]), (.tup 3 [(fq 4 3), (fq 0 1)])] (.tup 3 [(fq 20 3), (fq 0 1)]) (.nd (.nd .lf 68736638 [(.tup 3 [(gq 0 1), (fq 0 1)]), (.tup 3 [(fq 12 5), (gq 15 5)])] (.tup 3 [(gq 11 5), (fq 16 5)]) .lf) 68737134 [(.tup 3 [(gq 0 1), (fq 0 1)]), (.tup 3 [(fq 12 5), (gq 31 5)])] (.tup 3 [(gq 11 5), (fq 32 5)]) .lf)) 68899649 [(.tup 3 [(fq 5 1), (fq 0 1)]), (.tup 3 [(fq 6 5), (fq 0 1)])] (.tup 3 [(fq 6 1), (fq 0 1)]) (.nd (.nd (.nd .lf 69019776 [(.tup 3 [(fq 1023 128), (fq 0 1)]), (.tup 3 [(fq 9 8), (fq 0 1)])] (.tup 3 [(fq 9207 1024), (fq 0 1)]) .lf) 83920772 [(.tup 3 [(fq 1 1), (fq 0 1)]), (.tup 3 [(fq 767 64), (fq 0 1)])] (.tup 3 [(fq 767 64), (fq 0 1)]) .lf) 84360859 [(.tup 3 [(fq 95 8), (fq 0 1)]), (.tup 3 [(fq 4 3), (fq 0 1)])] (.tup 3 [(fq 95 6), (fq 0 1)]) (.nd (.nd .lf 103443089 [(.tup 3 [(fq 63 16), (fq 0 1)]), (.tup 3 [(fq 9 8), (fq 0 1)])] (.tup 3 [(fq 567 128), (fq 0 1)]) .lf) 106795573 [(.tup 3 [(fq 3 1), (gq 3 1)]), (.tup 3 [(fq 2 1), (fq 4 1)])] (.tup 3 [(fq 22 1), (fq 4 1)]) .lf)))) 109295240 [(.tup 3 [(fq 9 2), (fq 0 1)]), (.tup 3 [(fq 6 5), (fq 0 1)])] (.tup 3 [(fq 27 5), (fq 0 1)]) (.nd (.nd (.nd (.nd (.nd .lf 113118203 [(.tup 3 [(fq 23 2), (fq 0 1)]), (.tup 3 [(fq 4 3), (fq 0 1)])] (.tup 3 [(fq 46 3), (fq 0 1)]) .lf) 113277280 [(.tup 3 [(fq 1 1), (fq 1 1)]), (.tup 3 [(fq 1 1), (gq 0 1)])] (.tup 3 [(fq 2 1), (fq 0 1)]) (.nd .lf 113526179 [(.tup 3 [(fq 1 1), (fq 1 1)]), (.tup 3 [(fq 2 1), (gq 0 1)])] (.tup 3 [(fq 3 1), (fq 1 1)]) .lf)) 115766702 [(.tup 3 [(fq 12 5), (gq 31 5)]), (.tup 3 [(fq 4 5), (fq 0 1)])] (.tup 3 [(fq 48 25), (gq 127 25)]) (.nd (.nd .lf 121550650 [(.tup 3 [(fq 2559 256), (fq 0 1)]), (.tup 3 [(fq 6 5), (fq 0 1)])] (.tup 3 [(fq 7677 640), (fq 0 1)]) .lf) 129922064 [(.tup 3 [(gq 15 5), (gq 5 5)]), (.tup 3 [(fq 4 5), (fq 0 1)])] (.tup 3 [(gq 63 25), (gq 23 25)]) .lf)) 129948564 [(.tup 3 [(gq 5 5), (gq 7 5)]), (.tup 3 [(fq 4 5), (fq 0 1)])] (.tup 3 [(gq 23 25), (gq 31 25)]) (.nd (.nd (.nd .lf 131344138 [(.tup 3 [(fq 0 1), (gq 1 1)]), (.tup 3 [(fq 0 1), (gq 1 1)])] (.tup 3 [(gq 3 1), (fq 0 1)]) .lf) 133118520 [(.tup 3 [(fq 0 1), (gq 1 1)]), (.tup 3 [(fq 7 5), (gq 0 5)])] (.tup 3 [(gq 1 5), (gq 13 5)]) .lf) 133635875 [(.tup 3 [(fq 0 1), (gq 1 1)]), (.tup 3 [(gq 0 1), (fq 2 1)])] (.tup 3 [(fq 4 1), (fq 2 1)]) (.nd (.nd .lf 137531049 [(.tup 3 [(fq 0 1), (fq 0 1)]), (.tup 3 [(fq 0 1), (fq 2 1)])] (.tup 3 [(fq 0 1), (fq 0 1)]) .lf) 137736772 [(.tup 3 [(fq 1 1), (fq 0 1)]), (.tup 3 [(fq 1023 128), (fq 0 1)])] (.tup 3 [(fq 1023 128), (fq 0 1)]) .lf))) 137739555 [(.tup 3 [(fq 0 1), (fq 0 1)]), (.tup 3 [(fq 1 1), (fq 1 1)])] (.tup 3 [(fq 0 1), (fq 0 1)]) (.nd (.nd (.nd (.nd .lf 137948061 [(.tup 3 [(fq 0 1), (fq 0 1)]), (.tup 3 [(fq 2 1), (fq 0 1)])] (.tup 3 [(fq 0 1), (fq 0 1)]) .lf) 137948092 [(.tup 3 [(fq 0 1), (fq 0 1)]), (.tup 3 [(fq 2 1), (fq 1 1)])] (.tup 3 [(fq 0 1), (fq 0 1)]) (.nd .lf 138156598 [(.tup 3 [(fq 0 1), (fq 0 1)]), (.tup 3 [(fq 3 1), (fq 0 1)])] (.tup 3 [(fq 0 1), (fq 0 1)]) .lf)) 138365135 [(.tup 3 [(fq 0 1), (fq 0 1)]), (.tup 3 [(fq 4 1), (fq 0 1)])] (.tup 3 [(fq 0 1), (fq 0 1)]) (.nd (.nd .lf 138378589 [(.tup 3 [(fq 0 1), (fq 0 1)]), (.tup 3 [(fq 4 3), (fq 0 1)])] (.tup 3 [(fq 0 1), (fq 0 1)]) .lf) 138392043 [(.tup 3 [(fq 0 1), (fq 0 1)]), (.tup 3 [(fq 4 5), (fq 0 1)])] (.tup 3 [(fq 0 1), (fq 0 1)]) .lf)) 139434728 [(.tup 3 [(fq 0 1), (fq 0 1)]), (.tup 3 [(fq 9 5), (fq 0 1)])] (.tup 3 [(fq 0 1), (fq 0 1)]) (.nd (.nd (.nd .lf 139454909 [(.tup 3 [(fq 0 1), (fq 0 1)]), (.tup 3 [(fq 9 8), (fq 0 1)])] (.tup 3 [(fq 0 1), (fq 0 1)]) .lf) 140975351 [(.tup 3 [(fq 0 1), (fq 0 1)]), (.tup 3 [(fq 16 17), (fq 4 17)])] (.tup 3 [(fq 0 1), (fq 0 1)]) .lf) 142632080 [(.tup 3 [(fq 14 1), (fq 0 1)]), (.tup 3 [(fq 4 3), (fq 0 1)])] (.tup 3 [(fq 56 3), (fq 0 1)]) (.nd (.nd .lf 145171492 [(.tup 3 [(fq 8 5), (gq 5 5)]), (.tup 3 [(fq 4 5), (fq 0 1)])] (.tup 3 [(fq 32 25), (gq 23 25)]) .lf) 155110918 [(.tup 3 [(fq 0 1), (gq 0 1)]), (.tup 3 [(fq 0 1), (fq 0 1)])] (.tup 3 [(fq 0 1), (fq 0 1)]) .lf))))) 155110949 [(.tup 3 [(fq 0 1), (gq 0 1)]), (.tup 3 [(fq 0 1), (fq 1 1)])] (.tup 3 [(fq 1 1), (fq 0 1)]) (.nd (.nd (.nd (.nd (.nd (.nd .lf 155319455 [(.tup 3 [(fq 0 1), (gq 0 1)]), (.tup 3 [(fq 1 1), (fq 0 1)])] (.tup 3 [(fq 0 1), (gq 0 1)]) .lf) 155319486 [(.tup 3 [(fq 0 1), (gq 0 1)]), (.tup 3 [(fq 1 1), (fq 1 1)])] (.tup 3 [(fq 1 1), (gq 0 1)]) (.nd .lf 155339794 [(.tup 3 [(fq 0 1), (gq 0 1)]), (.tup 3 [(fq 1 4), (fq 5 4)])] (.tup 3 [(fq 5 4), (gq 0 4)]) .lf)) 155527992 [(.tup 3 [(fq 0 1), (gq 0 1)]), (.tup 3 [(fq 2 1), (fq 0 1)])] (.tup 3 [(fq 0 1), (gq 1 1)]) (.nd (.nd .lf 155888526 [(.tup 3 [(fq 12 5), (fq 0 1)]), (.tup 3 [(fq 4 3), (fq 0 1)])] (.tup 3 [(fq 16 5), (fq 0 1)]) .lf) 155972040 [(.tup 3 [(fq 0 1), (gq 0 1)]), (.tup 3 [(fq 4 5), (fq 2 5)])] (.tup 3 [(fq 2 5), (gq 3 5)]) .lf)) 156389048 [(.tup 3 [(fq 0 1), (gq 0 1)]), (.tup 3 [(fq 6 5), (fq 0 1)])] (.tup 3 [(fq 0 1), (gq 5 5)]) (.nd (.nd (.nd .lf 156389300 [(.tup 3 [(fq 0 1), (gq 0 1)]), (.tup 3 [(fq 6 5), (fq 8 5)])] (.tup 3 [(fq 8 5), (gq 5 5)]) .lf) 156389548 [(.tup 3 [(fq 0 1), (gq 0 1)]), (.tup 3 [(fq 6 5), (fq 16 5)])] (.tup 3 [(fq 16 5), (gq 5 5)]) .lf) 156980043 [(.tup 3 [(gq 1 1), (gq 0 1)]), (.tup 3 [(fq 4 5), (fq 2 5)])] (.tup 3 [(gq 5 5), (gq 7 5)]) (.nd (.nd .lf 157640270 [(.tup 3 [(fq 0 1), (gq 0 1)]), (.tup 3 [(fq 12 5), (fq 0 1)])] (.tup 3 [(fq 0 1), (gq 11 5)]) .lf) 157640770 [(.tup 3 [(fq 0 1), (gq 0 1)]), (.tup 3 [(fq 12 5), (fq 16 5)])] (.tup 3 [(fq 16 5), (gq 11 5)]) .lf))) 157641266 [(.tup 3 [(fq 0 1), (gq 0 1)]), (.tup 3 [(fq 12 5), (fq 32 5)])] (.tup 3 [(fq 32 5), (gq 11 5)]) (.nd (.nd (.nd (.nd .lf 157889128 [(.tup 3 [(gq 15 5), (fq 6 5)]), (.tup 3 [(fq 4 5), (fq 0 1)])] (.tup 3 [(gq 63 25), (fq 24 25)]) .lf) 162860644 [(.tup 3 [(fq 0 1), (gq 0 1)]), (.tup 3 [(fq 36 37), (fq 6 37)])] (.tup 3 [(fq 6 37), (gq 35 37)]) (.nd .lf 168053954 [(.tup 3 [(gq 2 1), (fq 0 1)]), (.tup 3 [(fq 2 1), (fq 0 1)])] (.tup 3 [(gq 5 1), (fq 0 1)]) .lf)) 191122244 [(.tup 3 [(fq 1 1), (fq 0 1)]), (.tup 3 [(fq 1279 128), (fq 0 1)])] (.tup 3 [(fq 1279 128), (fq 0 1)]) (.nd (.nd .lf 194985705 [(.tup 3 [(fq 31 4), (fq 0 1)]), (.tup 3 [(fq 9 8), (fq 0 1)])] (.tup 3 [(fq 279 32), (fq 0 1)]) .lf) 196831679 [(.tup 3 [(fq 8 5), (fq 6 5)]), (.tup 3 [(fq 0 1), (fq 1 2)])] (.tup 3 [(gq 2 5), (fq 4 5)]) .lf)) 197692703 [(.tup 3 [(fq 8 5), (fq 6 5)]), (.tup 3 [(fq 4 5), (fq 0 1)])] (.tup 3 [(fq 32 25), (fq 24 25)]) (.nd (.nd (.nd .lf 208029373 [(.tup 3 [(fq 1 1), (fq 0 1)]), (.tup 3 [(fq 6143 512), (fq 0 1)])] (.tup 3 [(fq 6143 512), (fq 0 1)]) .lf) 211803945 [(.tup 3 [(gq 11 5), (fq 16 5)]), (.tup 3 [(fq 4 5), (fq 0 1)])] (.tup 3 [(gq 47 25), (fq 64 25)]) .lf) 212972076 [(.tup 3 [(fq 9 1), (fq 0 1)]), (.tup 3 [(fq 6 5), (fq 0 1)])] (.tup 3 [(fq 54 5), (fq 0 1)]) (.nd (.nd .lf 213362242 [(.tup 3 [(fq 9 1), (fq 0 1)]), (.tup 3 [(fq 8 1), (fq 0 1)])] (.tup 3 [(fq 72 1), (fq 0 1)]) .lf) 213617868 [(.tup 3 [(fq 9 1), (fq 0 1)]), (.tup 3 [(fq 9 8), (fq 0 1)])] (.tup 3 [(fq 81 8), (fq 0 1)]) .lf)))) 229923262 [(.tup 3 [(gq 1 1), (fq 0 1)]), (.tup 3 [(fq 1 1), (gq 0 3)])] (.tup 3 [(gq 1 1), (fq 2 3)]) (.nd (.nd (.nd (.nd (.nd .lf 230702108 [(.tup 3 [(gq 1 1), (fq 0 1)]), (.tup 3 [(fq 4 5), (gq 1 5)])] (.tup 3 [(gq 7 5), (fq 4 5)]) .lf) 230958095 [(.tup 3 [(fq 0 1), (fq 0 1)]), (.tup 3 [(gq 0 1), (fq 1 1)])] (.tup 3 [(fq 0 1), (fq 0 1)]) (.nd .lf 231166601 [(.tup 3 [(fq 0 1), (fq 0 1)]), (.tup 3 [(gq 1 1), (fq 0 1)])] (.tup 3 [(fq 0 1), (fq 0 1)]) .lf)) 232174604 [(.tup 3 [(gq 1 1), (fq 0 1)]), (.tup 3 [(gq 1 1), (fq 0 1)])] (.tup 3 [(fq 4 1), (fq 0 1)]) (.nd (.nd .lf 232383141 [(.tup 3 [(gq 1 1), (fq 0 1)]), (.tup 3 [(gq 2 1), (fq 0 1)])] (.tup 3 [(fq 6 1), (fq 0 1)]) .lf) 232484515 [(.tup 3 [(gq 1 1), (fq 0 1)]), (.tup 3 [(fq 11 10), (gq 0 5)])] (.tup 3 [(gq 10 5), (fq 2 5)]) .lf)) 232777315 [(.tup 3 [(fq 0 1), (fq 0 1)]), (.tup 3 [(fq 16 17), (gq 3 17)])] (.tup 3 [(fq 0 1), (fq 0 1)]) (.nd (.nd (.nd .lf 236059238 [(.tup 3 [(gq 0 1), (fq 2 1)]), (.tup 3 [(fq 4 5), (fq 2 5)])] (.tup 3 [(gq 7 5), (fq 6 5)]) .lf) 243034084 [(.tup 3 [(fq 0 1), (fq 12 5)]), (.tup 3 [(fq 4 3), (fq 0 1)])] (.tup 3 [(fq 0 1), (fq 16 5)]) .lf) 244507716 [(.tup 3 [(fq 1 1), (fq 0 1)]), (.tup 3 [(fq 1535 128), (fq 0 1)])] (.tup 3 [(fq 1535 128), (fq 0 1)]) (.nd (.nd .lf 254946178 [(.tup 3 [(fq 95 16), (fq 0 1)]), (.tup 3 [(fq 4 3), (fq 0 1)])] (.tup 3 [(fq 95 12), (fq 0 1)]) .lf) 263066708 [(.tup 3 [(fq 511 64), (fq 0 1)]), (.tup 3 [(fq 9 8), (fq 0 1)])] (.tup 3 [(fq 4599 512), (fq 0 1)]) .lf))) 265253939 [(.tup 3 [(fq 6 5), (fq 8 5)]), (.tup 3 [(fq 4 5), (fq 0 1)])] (.tup 3 [(fq 24 25), (fq 32 25)]) (.nd (.nd (.nd (.nd .lf 265414654 [(.tup 3 [(gq 3 5), (fq 3 5)]), (.tup 3 [(fq 0 1), (fq 1 2)])] (.tup 3 [(gq 2 10), (gq 1 5)]) .lf) 277234376 [(.tup 3 [(fq 2 1), (fq 1 1)]), (.tup 3 [(fq 1 1), (gq 0 1)])] (.tup 3 [(fq 3 1), (gq 0 1)]) (.nd .lf 277483275 [(.tup 3 [(fq 2 1), (fq 1 1)]), (.tup 3 [(fq 2 1), (gq 0 1)])] (.tup 3 [(fq 5 1), (fq 0 1)]) .lf)) 282020488 [(.tup 3 [(fq 4 1), (fq 0 1)]), (.tup 3 [(fq 2 1), (fq 0 1)])] (.tup 3 [(fq 8 1), (fq 0 1)]) (.nd (.nd .lf 282229025 [(.tup 3 [(fq 4 1), (fq 0 1)]), (.tup 3 [(fq 3 1), (fq 0 1)])] (.tup 3 [(fq 12 1), (fq 0 1)]) .lf) 282235752 [(.tup 3 [(fq 4 1), (fq 0 1)]), (.tup 3 [(fq 3 2), (fq 0 1)])] (.tup 3 [(fq 6 1), (fq 0 1)]) .lf)) 282451016 [(.tup 3 [(fq 4 1), (fq 0 1)]), (.tup 3 [(fq 4 3), (fq 0 1)])] (.tup 3 [(fq 16 3), (fq 0 1)]) (.nd (.nd (.nd .lf 282881544 [(.tup 3 [(fq 4 1), (fq 0 1)]), (.tup 3 [(fq 6 5), (fq 0 1)])] (.tup 3 [(fq 24 5), (fq 0 1)]) .lf) 282894998 [(.tup 3 [(fq 4 1), (fq 0 1)]), (.tup 3 [(fq 6 7), (fq 0 1)])] (.tup 3 [(fq 24 7), (fq 0 1)]) .lf) 283527336 [(.tup 3 [(fq 4 1), (fq 0 1)]), (.tup 3 [(fq 9 8), (fq 0 1)])] (.tup 3 [(fq 9 2), (fq 0 1)]) (.nd (.nd .lf 289009249 [(.tup 3 [(fq 1279 128), (fq 0 1)]), (.tup 3 [(fq 6 5), (fq 0 1)])] (.tup 3 [(fq 3837 320), (fq 0 1)]) .lf) 300714088 [(.tup 3 [(fq 2 1), (fq 1 2)]), (.tup 3 [(gq 0 1), (gq 0 1)])] (.tup 3 [(gq 2 2), (gq 4 2)]) .lf))))))
def t0_3 : Tr := (.nd (.nd (.nd (.nd (.nd (.nd (.nd .lf 319485119 [(.tup 3 [(fq 1 1), (gq 0 1)]), (.tup 3 [(fq 2 1), (fq 1 1)])] (.tup 3 [(fq 3 1), (gq 0 1)]) .lf) 324241739 [(.tup 3 [(fq 0 1), (fq 6 5)]), (.tup 3 [(fq 4 3), (fq 0 1)])] (.tup 3 [(fq 0 1), (fq 8 5)]) (.nd .lf 328583534 [(.tup 3 [(gq 11 5), (fq 32 5)]), (.tup 3 [(fq 4 5), (fq 0 1)])] (.tup 3 [(gq 47 25), (fq 128 25)]) .lf)) 346944469 [(.tup 3 [(fq 319 64), (fq 0 1)]), (.tup 3 [(fq 6 5), (fq 0 1)])] (.tup 3 [(fq 957 160), (fq 0 1)]) (.nd (.nd .lf 352139716 [(.tup 3 [(fq 1 1), (fq 0 1)]), (.tup 3 [(fq 2047 256), (fq 0 1)])] (.tup 3 [(fq 2047 256), (fq 0 1)]) .lf) 355491749 [(.tup 3 [(fq 47 8), (fq 0 1)]), (.tup 3 [(fq 4 3), (fq 0 1)])] (.tup 3 [(fq 47 6), (fq 0 1)]) .lf)) 360090174 [(.tup 3 [(fq 255 32), (fq 0 1)]), (.tup 3 [(fq 9 8), (fq 0 1)])] (.tup 3 [(fq 2295 256), (fq 0 1)]) (.nd (.nd (.nd .lf 375620598 [(.tup 3 [(fq 16 5), (gq 11 5)]), (.tup 3 [(fq 4 5), (fq 0 1)])] (.tup 3 [(fq 64 25), (gq 47 25)]) .lf) 381827345 [(.tup 3 [(gq 1 1), (fq 0 1)]), (.tup 3 [(fq 1 1), (fq 1 3)])] (.tup 3 [(gq 1 1), (gq 1 3)]) .lf) 382466377 [(.tup 3 [(gq 1 1), (fq 0 1)]), (.tup 3 [(fq 4 3), (fq 0 1)])] (.tup 3 [(gq 7 3), (fq 0 1)]) (.nd (.nd .lf 382479831 [(.tup 3 [(gq 1 1), (fq 0 1)]), (.tup 3 [(fq 4 5), (fq 0 1)])] (.tup 3 [(gq 7 5), (fq 0 1)]) .lf) 382479897 [(.tup 3 [(gq 1 1), (fq 0 1)]), (.tup 3 [(fq 4 5), (fq 2 5)])] (.tup 3 [(gq 7 5), (gq 3 5)]) .lf))) 383973260 [(.tup 3 [(gq 1 1), (fq 0 1)]), (.tup 3 [(fq 11 10), (fq 1 5)])] (.tup 3 [(gq 10 5), (gq 1 5)]) (.nd (.nd (.nd (.nd .lf 392325547 [(.tup 3 [(fq 3 2), (fq 0 1)]), (.tup 3 [(fq 2 1), (fq 0 1)])] (.tup 3 [(fq 3 1), (fq 0 1)]) .lf) 392540811 [(.tup 3 [(fq 3 2), (fq 0 1)]), (.tup 3 [(fq 3 2), (fq 0 1)])] (.tup 3 [(fq 9 4), (fq 0 1)]) (.nd .lf 392623454 [(.tup 3 [(fq 1 1), (fq 0 1)]), (.tup 3 [(fq 0 1), (gq 0 1)])] (.tup 3 [(fq 0 1), (gq 0 1)]) .lf)) 392623485 [(.tup 3 [(fq 1 1), (fq 0 1)]), (.tup 3 [(fq 0 1), (gq 1 1)])] (.tup 3 [(fq 0 1), (gq 1 1)]) (.nd (.nd .lf 392872353 [(.tup 3 [(fq 1 1), (fq 0 1)]), (.tup 3 [(fq 1 1), (gq 0 1)])] (.tup 3 [(fq 1 1), (gq 0 1)]) .lf) 392896567 [(.tup 3 [(fq 1 1), (fq 0 1)]), (.tup 3 [(fq 1 4), (gq 4 4)])] (.tup 3 [(fq 1 4), (gq 4 4)]) .lf)) 393121252 [(.tup 3 [(fq 1 1), (fq 0 1)]), (.tup 3 [(fq 2 1), (gq 0 1)])] (.tup 3 [(fq 2 1), (gq 0 1)]) (.nd (.nd (.nd .lf 393121253 [(.tup 3 [(fq 1 1), (fq 0 1)]), (.tup 3 [(fq 2 1), (gq 0 2)])] (.tup 3 [(fq 2 1), (gq 0 2)]) .lf) 393402364 [(.tup 3 [(fq 1 1), (fq 0 1)]), (.tup 3 [(fq 3 5), (gq 3 5)])] (.tup 3 [(fq 3 5), (gq 3 5)]) .lf) 393651201 [(.tup 3 [(fq 1 1), (fq 0 1)]), (.tup 3 [(fq 4 5), (gq 1 5)])] (.tup 3 [(fq 4 5), (gq 1 5)]) (.nd (.nd .lf 394149185 [(.tup 3 [(fq 1 1), (fq 0 1)]), (.tup 3 [(fq 6 5), (gq 7 5)])] (.tup 3 [(fq 6 5), (gq 7 5)]) .lf) 394149433 [(.tup 3 [(fq 1 1), (fq 0 1)]), (.tup 3 [(fq 6 5), (gq 15 5)])] (.tup 3 [(fq 6 5), (gq 15 5)]) .lf)))) 395123697 [(.tup 3 [(fq 1 1), (fq 0 1)]), (.tup 3 [(gq 1 1), (fq 0 1)])] (.tup 3 [(gq 1 1), (fq 0 1)]) (.nd (.nd (.nd (.nd (.nd .lf 395642827 [(.tup 3 [(fq 1 1), (fq 0 1)]), (.tup 3 [(fq 12 5), (gq 15 5)])] (.tup 3 [(fq 12 5), (gq 15 5)]) .lf) 395643323 [(.tup 3 [(fq 1 1), (fq 0 1)]), (.tup 3 [(fq 12 5), (gq 31 5)])] (.tup 3 [(fq 12 5), (gq 31 5)]) (.nd .lf 396131700 [(.tup 3 [(gq 2 1), (fq 0 1)]), (.tup 3 [(gq 1 1), (fq 0 1)])] (.tup 3 [(fq 6 1), (fq 0 1)]) .lf)) 396340237 [(.tup 3 [(gq 2 1), (fq 0 1)]), (.tup 3 [(gq 2 1), (fq 0 1)])] (.tup 3 [(fq 9 1), (fq 0 1)]) (.nd (.nd .lf 401873053 [(.tup 3 [(fq 1 1), (fq 0 1)]), (.tup 3 [(fq 36 37), (gq 5 37)])] (.tup 3 [(fq 36 37), (gq 5 37)]) .lf) 404629902 [(.tup 3 [(fq 16 5), (fq 12 5)]), (.tup 3 [(fq 4 5), (fq 0 1)])] (.tup 3 [(fq 64 25), (fq 48 25)]) .lf)) 408601907 [(.tup 3 [(fq 127 16), (fq 0 1)]), (.tup 3 [(fq 9 8), (fq 0 1)])] (.tup 3 [(fq 1143 128), (fq 0 1)]) (.nd (.nd (.nd .lf 410939180 [(.tup 3 [(fq 0 1), (gq 0 1)]), (.tup 3 [(fq 0 1), (gq 0 1)])] (.tup 3 [(gq 0 1), (fq 0 1)]) .lf) 411436978 [(.tup 3 [(fq 0 1), (gq 0 1)]), (.tup 3 [(fq 2 1), (gq 0 1)])] (.tup 3 [(gq 0 1), (gq 1 1)]) .lf) 411436979 [(.tup 3 [(fq 0 1), (gq 0 1)]), (.tup 3 [(fq 2 1), (gq 0 2)])] (.tup 3 [(gq 0 2), (gq 1 1)]) (.nd (.nd .lf 412464911 [(.tup 3 [(fq 0 1), (gq 0 1)]), (.tup 3 [(fq 6 5), (gq 7 5)])] (.tup 3 [(gq 7 5), (gq 5 5)]) .lf) 412465159 [(.tup 3 [(fq 0 1), (gq 0 1)]), (.tup 3 [(fq 6 5), (gq 15 5)])] (.tup 3 [(gq 15 5), (gq 5 5)]) .lf))) 413439423 [(.tup 3 [(fq 0 1), (gq 0 1)]), (.tup 3 [(gq 1 1), (fq 0 1)])] (.tup 3 [(fq 0 1), (fq 2 1)]) (.nd (.nd (.nd (.nd .lf 421755198 [(.tup 3 [(gq 0 1), (gq 1 1)]), (.tup 3 [(fq 4 5), (gq 1 5)])] (.tup 3 [(gq 7 5), (gq 5 5)]) .lf) 426092915 [(.tup 3 [(fq 8 1), (fq 0 1)]), (.tup 3 [(fq 2 1), (fq 0 1)])] (.tup 3 [(fq 16 1), (fq 0 1)]) (.nd .lf 426308179 [(.tup 3 [(fq 8 1), (fq 0 1)]), (.tup 3 [(fq 3 2), (fq 0 1)])] (.tup 3 [(fq 12 1), (fq 0 1)]) .lf)) 426523443 [(.tup 3 [(fq 8 1), (fq 0 1)]), (.tup 3 [(fq 4 3), (fq 0 1)])] (.tup 3 [(fq 32 3), (fq 0 1)]) (.nd (.nd .lf 426953971 [(.tup 3 [(fq 8 1), (fq 0 1)]), (.tup 3 [(fq 6 5), (fq 0 1)])] (.tup 3 [(fq 48 5), (fq 0 1)]) .lf) 427599763 [(.tup 3 [(fq 8 1), (fq 0 1)]), (.tup 3 [(fq 9 8), (fq 0 1)])] (.tup 3 [(fq 9 1), (fq 0 1)]) .lf)) 436106745 [(.tup 3 [(fq 36 1), (fq 0 1)]), (.tup 3 [(fq 9 8), (fq 0 1)])] (.tup 3 [(fq 81 2), (fq 0 1)]) (.nd (.nd (.nd .lf 439779889 [(.tup 3 [(fq 6 5), (fq 0 1)]), (.tup 3 [(fq 4 3), (fq 0 1)])] (.tup 3 [(fq 8 5), (fq 0 1)]) .lf) 440815292 [(.tup 3 [(fq 0 1), (gq 11 5)]), (.tup 3 [(fq 4 3), (fq 0 1)])] (.tup 3 [(fq 0 1), (gq 15 5)]) .lf) 441440371 [(.tup 3 [(fq 3 1), (fq 1 1)]), (.tup 3 [(fq 2 1), (gq 0 1)])] (.tup 3 [(fq 7 1), (gq 0 1)]) (.nd (.nd .lf 455993729 [(.tup 3 [(fq 6 5), (gq 7 5)]), (.tup 3 [(fq 0 1), (fq 1 2)])] (.tup 3 [(fq 4 5), (fq 3 5)]) .lf) 456828253 [(.tup 3 [(fq 16 5), (gq 5 5)]), (.tup 3 [(fq 4 5), (fq 0 1)])] (.tup 3 [(fq 64 25), (gq 23 25)]) .lf))))) 456854753 [(.tup 3 [(fq 6 5), (gq 7 5)]), (.tup 3 [(fq 4 5), (fq 0 1)])] (.tup 3 [(fq 24 25), (gq 31 25)]) (.nd (.nd (.nd (.nd (.nd (.nd .lf 458910660 [(.tup 3 [(fq 1 1), (fq 0 1)]), (.tup 3 [(fq 2559 256), (fq 0 1)])] (.tup 3 [(fq 2559 256), (fq 0 1)]) .lf) 482484767 [(.tup 3 [(fq 39 4), (fq 0 1)]), (.tup 3 [(fq 6 5), (fq 0 1)])] (.tup 3 [(fq 117 10), (fq 0 1)]) (.nd .lf 482625653 [(.tup 3 [(fq 767 64), (fq 0 1)]), (.tup 3 [(fq 4 3), (fq 0 1)])] (.tup 3 [(fq 767 48), (fq 0 1)]) .lf)) 483233678 [(.tup 3 [(fq 2 1), (gq 0 1)]), (.tup 3 [(fq 1 1), (fq 1 1)])] (.tup 3 [(fq 3 1), (fq 1 1)]) (.nd (.nd .lf 483442215 [(.tup 3 [(fq 2 1), (gq 0 1)]), (.tup 3 [(fq 2 1), (fq 1 1)])] (.tup 3 [(fq 5 1), (fq 0 1)]) .lf) 485837557 [(.tup 3 [(fq 16 5), (fq 6 5)]), (.tup 3 [(fq 4 5), (fq 0 1)])] (.tup 3 [(fq 64 25), (fq 24 25)]) .lf)) 495585371 [(.tup 3 [(fq 3 1), (fq 0 1)]), (.tup 3 [(fq 0 1), (fq 2 1)])] (.tup 3 [(fq 0 1), (fq 6 1)]) (.nd (.nd (.nd .lf 495695308 [(.tup 3 [(gq 5 5), (fq 16 5)]), (.tup 3 [(fq 4 5), (fq 0 1)])] (.tup 3 [(gq 23 25), (fq 64 25)]) .lf) 495793846 [(.tup 3 [(fq 3 1), (fq 0 1)]), (.tup 3 [(fq 1 1), (fq 0 1)])] (.tup 3 [(fq 3 1), (fq 0 1)]) .lf) 496002383 [(.tup 3 [(fq 3 1), (fq 0 1)]), (.tup 3 [(fq 2 1), (fq 0 1)])] (.tup 3 [(fq 6 1), (fq 0 1)]) (.nd (.nd .lf 496210920 [(.tup 3 [(fq 3 1), (fq 0 1)]), (.tup 3 [(fq 3 1), (fq 0 1)])] (.tup 3 [(fq 9 1), (fq 0 1)]) .lf) 496217647 [(.tup 3 [(fq 3 1), (fq 0 1)]), (.tup 3 [(fq 3 2), (fq 0 1)])] (.tup 3 [(fq 9 2), (fq 0 1)]) .lf))) 496863439 [(.tup 3 [(fq 3 1), (fq 0 1)]), (.tup 3 [(fq 6 5), (fq 0 1)])] (.tup 3 [(fq 18 5), (fq 0 1)]) (.nd (.nd (.nd (.nd .lf 496876893 [(.tup 3 [(fq 3 1), (fq 0 1)]), (.tup 3 [(fq 6 7), (fq 0 1)])] (.tup 3 [(fq 18 7), (fq 0 1)]) .lf) 497509231 [(.tup 3 [(fq 3 1), (fq 0 1)]), (.tup 3 [(fq 9 8), (fq 0 1)])] (.tup 3 [(fq 27 8), (fq 0 1)]) (.nd .lf 503061134 [(.tup 3 [(fq 2 3), (fq 0 1)]), (.tup 3 [(fq 4 3), (fq 0 1)])] (.tup 3 [(fq 8 9), (fq 0 1)]) .lf)) 506776056 [(.tup 3 [(gq 0 1), (fq 2 1)]), (.tup 3 [(fq 1 1), (gq 1 1)])] (.tup 3 [(fq 3 1), (fq 4 1)]) (.nd (.nd .lf 508501686 [(.tup 3 [(fq 79 8), (fq 0 1)]), (.tup 3 [(fq 6 5), (fq 0 1)])] (.tup 3 [(fq 237 20), (fq 0 1)]) .lf) 509213986 [(.tup 3 [(fq 1535 128), (fq 0 1)]), (.tup 3 [(fq 4 3), (fq 0 1)])] (.tup 3 [(fq 1535 96), (fq 0 1)]) .lf)) 522022947 [(.tup 3 [(fq 0 1), (gq 5 5)]), (.tup 3 [(fq 4 3), (fq 0 1)])] (.tup 3 [(fq 0 1), (gq 7 5)]) (.nd (.nd (.nd .lf 529574495 [(.tup 3 [(fq 2 1), (fq 1 1)]), (.tup 3 [(fq 1 1), (fq 1 1)])] (.tup 3 [(fq 1 1), (fq 3 1)]) .lf) 529783032 [(.tup 3 [(fq 2 1), (fq 1 1)]), (.tup 3 [(fq 2 1), (fq 1 1)])] (.tup 3 [(fq 3 1), (fq 4 1)]) .lf) 530227049 [(.tup 3 [(fq 2 1), (fq 1 1)]), (.tup 3 [(fq 4 5), (fq 2 5)])] (.tup 3 [(fq 6 5), (fq 8 5)]) (.nd (.nd .lf 531463162 [(.tup 3 [(fq 0 1), (fq 6 1)]), (.tup 3 [(gq 0 1), (gq 5 1)])] (.tup 3 [(fq 36 1), (gq 5 1)]) .lf) 537272484 [(.tup 3 [(fq 7 2), (fq 0 1)]), (.tup 3 [(fq 6 7), (fq 0 1)])] (.tup 3 [(fq 3 1), (fq 0 1)]) .lf)))) 537904822 [(.tup 3 [(fq 7 2), (fq 0 1)]), (.tup 3 [(fq 9 8), (fq 0 1)])] (.tup 3 [(fq 63 16), (fq 0 1)]) (.nd (.nd (.nd (.nd (.nd .lf 539752374 [(.tup 3 [(fq 12 5), (fq 16 5)]), (.tup 3 [(fq 4 5), (fq 0 1)])] (.tup 3 [(fq 48 25), (fq 64 25)]) .lf) 542362677 [(.tup 3 [(fq 1 1), (gq 0 1)]), (.tup 3 [(fq 1 1), (gq 0 1)])] (.tup 3 [(fq 0 1), (gq 1 1)]) (.nd .lf 542611576 [(.tup 3 [(fq 1 1), (gq 0 1)]), (.tup 3 [(fq 2 1), (gq 0 1)])] (.tup 3 [(fq 1 1), (gq 2 1)]) .lf)) 553722302 [(.tup 3 [(fq 0 1), (fq 4 1)]), (.tup 3 [(gq 0 1), (gq 3 1)])] (.tup 3 [(fq 16 1), (gq 3 1)]) (.nd (.nd .lf 553838304 [(.tup 3 [(fq 1 1), (fq 3 1)]), (.tup 3 [(fq 0 1), (gq 2 1)])] (.tup 3 [(fq 9 1), (gq 2 1)]) .lf) 556580581 [(.tup 3 [(fq 2 1), (fq 0 1)]), (.tup 3 [(fq 0 1), (gq 1 1)])] (.tup 3 [(fq 0 1), (gq 3 1)]) .lf)) 556829449 [(.tup 3 [(fq 2 1), (fq 0 1)]), (.tup 3 [(fq 1 1), (gq 0 1)])] (.tup 3 [(fq 2 1), (gq 1 1)]) (.nd (.nd (.nd .lf 556829451 [(.tup 3 [(fq 2 1), (fq 0 1)]), (.tup 3 [(fq 1 1), (gq 0 3)])] (.tup 3 [(fq 2 1), (gq 1 3)]) .lf) 557078348 [(.tup 3 [(fq 2 1), (fq 0 1)]), (.tup 3 [(fq 2 1), (gq 0 1)])] (.tup 3 [(fq 4 1), (gq 1 1)]) .lf) 557608297 [(.tup 3 [(fq 2 1), (fq 0 1)]), (.tup 3 [(fq 4 5), (gq 1 5)])] (.tup 3 [(fq 8 5), (gq 3 5)]) (.nd (.nd .lf 558354963 [(.tup 3 [(fq 2 1), (fq 0 1)]), (.tup 3 [(fq 7 5), (gq 0 5)])] (.tup 3 [(fq 14 5), (gq 1 5)]) .lf) 559289330 [(.tup 3 [(fq 2 1), (fq 0 1)]), (.tup 3 [(gq 2 1), (fq 0 1)])] (.tup 3 [(gq 5 1), (fq 0 1)]) .lf))) 559390704 [(.tup 3 [(fq 2 1), (fq 0 1)]), (.tup 3 [(fq 11 10), (gq 0 5)])] (.tup 3 [(fq 11 5), (gq 1 5)]) (.nd (.nd (.nd (.nd .lf 560535524 [(.tup 3 [(fq 159 16), (fq 0 1)]), (.tup 3 [(fq 6 5), (fq 0 1)])] (.tup 3 [(fq 477 40), (fq 0 1)]) .lf) 560714407 [(.tup 3 [(gq 3 1), (fq 0 1)]), (.tup 3 [(gq 4 1), (fq 0 1)])] (.tup 3 [(fq 20 1), (fq 0 1)]) .lf) 562390652 [(.tup 3 [(fq 3071 256), (fq 0 1)]), (.tup 3 [(fq 4 3), (fq 0 1)])] (.tup 3 [(fq 3071 192), (fq 0 1)]) (.nd (.nd .lf 565681604 [(.tup 3 [(fq 1 1), (fq 0 1)]), (.tup 3 [(fq 3071 256), (fq 0 1)])] (.tup 3 [(fq 3071 256), (fq 0 1)]) .lf) 570595870 [(.tup 3 [(fq 12 1), (fq 0 1)]), (.tup 3 [(fq 4 3), (fq 0 1)])] (.tup 3 [(fq 16 1), (fq 0 1)]) .lf)) 571026398 [(.tup 3 [(fq 12 1), (fq 0 1)]), (.tup 3 [(fq 6 5), (fq 0 1)])] (.tup 3 [(fq 72 5), (fq 0 1)]) (.nd (.nd (.nd .lf 574445798 [(.tup 3 [(fq 0 1), (gq 3 1)]), (.tup 3 [(gq 0 1), (fq 4 1)])] (.tup 3 [(fq 16 1), (fq 4 1)]) .lf) 575981442 [(.tup 3 [(fq 0 1), (fq 2 1)]), (.tup 3 [(gq 0 1), (gq 1 1)])] (.tup 3 [(fq 4 1), (gq 1 1)]) .lf) 587890543 [(.tup 3 [(fq 24 5), (fq 0 1)]), (.tup 3 [(fq 3 2), (fq 0 1)])] (.tup 3 [(fq 36 5), (fq 0 1)]) (.nd (.nd .lf 593363083 [(.tup 3 [(fq 4 5), (fq 3 5)]), (.tup 3 [(fq 0 1), (fq 1 2)])] (.tup 3 [(gq 2 10), (fq 2 5)]) .lf) 595600670 [(.tup 3 [(gq 0 1), (fq 0 1)]), (.tup 3 [(fq 0 1), (fq 0 1)])] (.tup 3 [(fq 0 1), (fq 0 1)]) .lf))))))
def t0_1 : Tr := (.nd t0_2 319276582 [(.tup 3 [(fq 1 1), (gq 0 1)]), (.tup 3 [(fq 1 1), (fq 1 1)])] (.tup 3 [(fq 2 1), (fq 0 1)]) t0_3)
def t0_5 : Tr := (.nd (.nd (.nd (.nd (.nd (.nd (.nd .lf 596017775 [(.tup 3 [(gq 0 1), (fq 0 1)]), (.tup 3 [(fq 2 1), (fq 1 1)])] (.tup 3 [(gq 1 1), (gq 0 1)]) .lf) 596879052 [(.tup 3 [(gq 0 1), (fq 0 1)]), (.tup 3 [(fq 6 5), (fq 8 5)])] (.tup 3 [(gq 5 5), (gq 7 5)]) (.nd .lf 596879300 [(.tup 3 [(gq 0 1), (fq 0 1)]), (.tup 3 [(fq 6 5), (fq 16 5)])] (.tup 3 [(gq 5 5), (gq 15 5)]) .lf)) 598130522 [(.tup 3 [(gq 0 1), (fq 0 1)]), (.tup 3 [(fq 12 5), (fq 16 5)])] (.tup 3 [(gq 11 5), (gq 15 5)]) (.nd (.nd .lf 598131018 [(.tup 3 [(gq 0 1), (fq 0 1)]), (.tup 3 [(fq 12 5), (fq 32 5)])] (.tup 3 [(gq 11 5), (gq 31 5)]) .lf) 602655252 [(.tup 3 [(fq 3 1), (fq 4 1)]), (.tup 3 [(fq 2 1), (gq 3 1)])] (.tup 3 [(fq 22 1), (gq 3 1)]) .lf)) 618696004 [(.tup 3 [(fq 15 4), (fq 0 1)]), (.tup 3 [(fq 9 8), (fq 0 1)])] (.tup 3 [(fq 135 32), (fq 0 1)]) (.nd (.nd (.nd .lf 627143701 [(.tup 3 [(fq 3 5), (fq 4 5)]), (.tup 3 [(fq 0 1), (fq 1 2)])] (.tup 3 [(gq 1 5), (fq 3 10)]) .lf) 641581658 [(.tup 3 [(fq 7 1), (fq 0 1)]), (.tup 3 [(fq 9 8), (fq 0 1)])] (.tup 3 [(fq 63 8), (fq 0 1)]) .lf) 645202811 [(.tup 3 [(fq 21 1), (fq 0 1)]), (.tup 3 [(fq 6 7), (fq 0 1)])] (.tup 3 [(fq 18 1), (fq 0 1)]) (.nd (.nd .lf 647399311 [(.tup 3 [(fq 3 1), (gq 0 1)]), (.tup 3 [(fq 2 1), (fq 1 1)])] (.tup 3 [(fq 7 1), (fq 1 1)]) .lf) 651672759 [(.tup 3 [(fq 383 64), (fq 0 1)]), (.tup 3 [(fq 4 3), (fq 0 1)])] (.tup 3 [(fq 383 48), (fq 0 1)]) .lf))) 656531963 [(.tup 3 [(fq 12 5), (fq 32 5)]), (.tup 3 [(fq 4 5), (fq 0 1)])] (.tup 3 [(fq 48 25), (fq 128 25)]) (.nd (.nd (.nd (.nd .lf 664603200 [(.tup 3 [(fq 319 32), (fq 0 1)]), (.tup 3 [(fq 6 5), (fq 0 1)])] (.tup 3 [(fq 957 80), (fq 0 1)]) .lf) 668743984 [(.tup 3 [(fq 6143 512), (fq 0 1)]), (.tup 3 [(fq 4 3), (fq 0 1)])] (.tup 3 [(fq 6143 384), (fq 0 1)]) (.nd .lf 669476250 [(.tup 3 [(fq 0 1), (fq 2 1)]), (.tup 3 [(fq 0 1), (gq 1 1)])] (.tup 3 [(fq 4 1), (fq 0 1)]) .lf)) 669725120 [(.tup 3 [(fq 0 1), (fq 2 1)]), (.tup 3 [(fq 1 1), (gq 0 3)])] (.tup 3 [(fq 2 3), (fq 2 1)]) (.nd (.nd .lf 670503966 [(.tup 3 [(fq 0 1), (fq 2 1)]), (.tup 3 [(fq 4 5), (gq 1 5)])] (.tup 3 [(fq 4 5), (fq 8 5)]) .lf) 671250632 [(.tup 3 [(fq 0 1), (fq 2 1)]), (.tup 3 [(fq 7 5), (gq 0 5)])] (.tup 3 [(fq 2 5), (fq 14 5)]) .lf)) 672080931 [(.tup 3 [(gq 11 5), (gq 15 5)]), (.tup 3 [(fq 4 5), (fq 0 1)])] (.tup 3 [(gq 47 25), (gq 63 25)]) (.nd (.nd (.nd .lf 672286373 [(.tup 3 [(fq 0 1), (fq 2 1)]), (.tup 3 [(fq 11 10), (gq 0 5)])] (.tup 3 [(fq 2 5), (fq 11 5)]) .lf) 673537275 [(.tup 3 [(fq 2 1), (gq 0 1)]), (.tup 3 [(fq 1 1), (gq 0 1)])] (.tup 3 [(fq 1 1), (gq 2 1)]) .lf) 673786174 [(.tup 3 [(fq 2 1), (gq 0 1)]), (.tup 3 [(fq 2 1), (gq 0 1)])] (.tup 3 [(fq 3 1), (gq 3 1)]) (.nd (.nd .lf 674316123 [(.tup 3 [(fq 2 1), (gq 0 1)]), (.tup 3 [(fq 4 5), (gq 1 5)])] (.tup 3 [(fq 6 5), (gq 7 5)]) .lf) 679087005 [(.tup 3 [(fq 79 16), (fq 0 1)]), (.tup 3 [(fq 6 5), (fq 0 1)])] (.tup 3 [(fq 237 40), (fq 0 1)]) .lf)))) 680900929 [(.tup 3 [(fq 11 2), (fq 0 1)]), (.tup 3 [(fq 4 3), (fq 0 1)])] (.tup 3 [(fq 22 3), (fq 0 1)]) (.nd (.nd (.nd (.nd (.nd .lf 680925919 [(.tup 3 [(fq 2047 256), (fq 0 1)]), (.tup 3 [(fq 9 8), (fq 0 1)])] (.tup 3 [(fq 18423 2048), (fq 0 1)]) .lf) 684927549 [(.tup 3 [(fq 3 5), (gq 3 5)]), (.tup 3 [(fq 0 1), (fq 1 2)])] (.tup 3 [(fq 2 5), (fq 3 10)]) (.nd .lf 688338362 [(.tup 3 [(gq 5 5), (gq 15 5)]), (.tup 3 [(fq 4 5), (fq 0 1)])] (.tup 3 [(gq 23 25), (gq 63 25)]) .lf)) 702614261 [(.tup 3 [(gq 0 1), (gq 0 1)]), (.tup 3 [(gq 0 1), (fq 1 1)])] (.tup 3 [(fq 2 1), (fq 0 1)]) (.nd (.nd .lf 707156040 [(.tup 3 [(fq 1 1), (fq 2 1)]), (.tup 3 [(gq 0 1), (gq 1 1)])] (.tup 3 [(fq 3 1), (gq 3 1)]) .lf) 709567266 [(.tup 3 [(fq 2 1), (fq 0 1)]), (.tup 3 [(fq 0 1), (fq 2 1)])] (.tup 3 [(fq 0 1), (fq 4 1)]) .lf)) 709775741 [(.tup 3 [(fq 2 1), (fq 0 1)]), (.tup 3 [(fq 1 1), (fq 0 1)])] (.tup 3 [(fq 2 1), (fq 0 1)]) (.nd (.nd (.nd .lf 709775772 [(.tup 3 [(fq 2 1), (fq 0 1)]), (.tup 3 [(fq 1 1), (fq 1 1)])] (.tup 3 [(fq 2 1), (fq 2 1)]) .lf) 709775774 [(.tup 3 [(fq 2 1), (fq 0 1)]), (.tup 3 [(fq 1 1), (fq 1 3)])] (.tup 3 [(fq 2 1), (fq 2 3)]) .lf) 709984278 [(.tup 3 [(fq 2 1), (fq 0 1)]), (.tup 3 [(fq 2 1), (fq 0 1)])] (.tup 3 [(fq 4 1), (fq 0 1)]) (.nd (.nd .lf 709984309 [(.tup 3 [(fq 2 1), (fq 0 1)]), (.tup 3 [(fq 2 1), (fq 1 1)])] (.tup 3 [(fq 4 1), (fq 2 1)]) .lf) 710192815 [(.tup 3 [(fq 2 1), (fq 0 1)]), (.tup 3 [(fq 3 1), (fq 0 1)])] (.tup 3 [(fq 6 1), (fq 0 1)]) .lf))) 710199542 [(.tup 3 [(fq 2 1), (fq 0 1)]), (.tup 3 [(fq 3 2), (fq 0 1)])] (.tup 3 [(fq 3 1), (fq 0 1)]) (.nd (.nd (.nd (.nd .lf 710401352 [(.tup 3 [(fq 2 1), (fq 0 1)]), (.tup 3 [(fq 4 1), (fq 0 1)])] (.tup 3 [(fq 8 1), (fq 0 1)]) .lf) 710414806 [(.tup 3 [(fq 2 1), (fq 0 1)]), (.tup 3 [(fq 4 3), (fq 0 1)])] (.tup 3 [(fq 8 3), (fq 0 1)]) (.nd .lf 710428260 [(.tup 3 [(fq 2 1), (fq 0 1)]), (.tup 3 [(fq 4 5), (fq 0 1)])] (.tup 3 [(fq 8 5), (fq 0 1)]) .lf)) 710428326 [(.tup 3 [(fq 2 1), (fq 0 1)]), (.tup 3 [(fq 4 5), (fq 2 5)])] (.tup 3 [(fq 8 5), (fq 4 5)]) (.nd (.nd .lf 710630070 [(.tup 3 [(fq 2 1), (fq 0 1)]), (.tup 3 [(fq 5 4), (fq 0 1)])] (.tup 3 [(fq 5 2), (fq 0 1)]) .lf) 711053906 [(.tup 3 [(fq 2 1), (fq 0 1)]), (.tup 3 [(fq 7 5), (fq 1 5)])] (.tup 3 [(fq 14 5), (fq 2 5)]) .lf)) 711470945 [(.tup 3 [(fq 2 1), (fq 0 1)]), (.tup 3 [(fq 9 5), (fq 0 1)])] (.tup 3 [(fq 18 5), (fq 0 1)]) (.nd (.nd (.nd .lf 711491126 [(.tup 3 [(fq 2 1), (fq 0 1)]), (.tup 3 [(fq 9 8), (fq 0 1)])] (.tup 3 [(fq 9 4), (fq 0 1)]) .lf) 711921689 [(.tup 3 [(fq 2 1), (fq 0 1)]), (.tup 3 [(fq 11 10), (fq 1 5)])] (.tup 3 [(fq 11 5), (fq 2 5)]) .lf) 712684405 [(.tup 3 [(fq 191 16), (fq 0 1)]), (.tup 3 [(fq 4 3), (fq 0 1)])] (.tup 3 [(fq 191 12), (fq 0 1)]) (.nd (.nd .lf 720537677 [(.tup 3 [(fq 3 1), (fq 0 1)]), (.tup 3 [(fq 0 1), (gq 1 1)])] (.tup 3 [(fq 0 1), (gq 5 1)]) .lf) 743556390 [(.tup 3 [(fq 1 1), (fq 1 1)]), (.tup 3 [(fq 1 1), (fq 1 1)])] (.tup 3 [(fq 0 1), (fq 2 1)]) .lf))))) 743764927 [(.tup 3 [(fq 1 1), (fq 1 1)]), (.tup 3 [(fq 2 1), (fq 1 1)])] (.tup 3 [(fq 1 1), (fq 3 1)]) (.nd (.nd (.nd (.nd (.nd (.nd .lf 749772545 [(.tup 3 [(fq 127 32), (fq 0 1)]), (.tup 3 [(fq 9 8), (fq 0 1)])] (.tup 3 [(fq 1143 256), (fq 0 1)]) .lf) 762122639 [(.tup 3 [(fq 19 4), (fq 0 1)]), (.tup 3 [(fq 6 5), (fq 0 1)])] (.tup 3 [(fq 57 10), (fq 0 1)]) (.nd .lf 770199093 [(.tup 3 [(fq 47 4), (fq 0 1)]), (.tup 3 [(fq 4 3), (fq 0 1)])] (.tup 3 [(fq 47 3), (fq 0 1)]) .lf)) 777128502 [(.tup 3 [(fq 0 1), (fq 2 1)]), (.tup 3 [(fq 0 1), (fq 2 1)])] (.tup 3 [(gq 3 1), (fq 0 1)]) (.nd (.nd .lf 777545514 [(.tup 3 [(fq 0 1), (fq 2 1)]), (.tup 3 [(fq 2 1), (fq 0 1)])] (.tup 3 [(fq 0 1), (fq 4 1)]) .lf) 777754051 [(.tup 3 [(fq 0 1), (fq 2 1)]), (.tup 3 [(fq 3 1), (fq 0 1)])] (.tup 3 [(fq 0 1), (fq 6 1)]) .lf)) 777976042 [(.tup 3 [(fq 0 1), (fq 2 1)]), (.tup 3 [(fq 4 3), (fq 0 1)])] (.tup 3 [(fq 0 1), (fq 8 3)]) (.nd (.nd (.nd .lf 777989496 [(.tup 3 [(fq 0 1), (fq 2 1)]), (.tup 3 [(fq 4 5), (fq 0 1)])] (.tup 3 [(fq 0 1), (fq 8 5)]) .lf) 778191306 [(.tup 3 [(fq 0 1), (fq 2 1)]), (.tup 3 [(fq 5 4), (fq 0 1)])] (.tup 3 [(fq 0 1), (fq 5 2)]) .lf) 778615142 [(.tup 3 [(fq 0 1), (fq 2 1)]), (.tup 3 [(fq 7 5), (fq 1 5)])] (.tup 3 [(gq 1 5), (fq 14 5)]) (.nd (.nd .lf 780278368 [(.tup 3 [(fq 31 8), (fq 0 1)]), (.tup 3 [(fq 9 8), (fq 0 1)])] (.tup 3 [(fq 279 64), (fq 0 1)]) .lf) 780945604 [(.tup 3 [(fq 1 1), (fq 0 1)]), (.tup 3 [(fq 4095 512), (fq 0 1)])] (.tup 3 [(fq 4095 512), (fq 0 1)]) .lf))) 784577765 [(.tup 3 [(fq 11 1), (fq 0 1)]), (.tup 3 [(fq 4 3), (fq 0 1)])] (.tup 3 [(fq 44 3), (fq 0 1)]) (.nd (.nd (.nd (.nd .lf 786633459 [(.tup 3 [(fq 5119 512), (fq 0 1)]), (.tup 3 [(fq 6 5), (fq 0 1)])] (.tup 3 [(fq 15357 1280), (fq 0 1)]) .lf) 788413936 [(.tup 3 [(gq 0 1), (fq 1 1)]), (.tup 3 [(gq 0 1), (fq 1 1)])] (.tup 3 [(fq 0 1), (gq 1 1)]) (.nd .lf 788860520 [(.tup 3 [(gq 11 5), (gq 31 5)]), (.tup 3 [(fq 4 5), (fq 0 1)])] (.tup 3 [(gq 47 25), (gq 127 25)]) .lf)) 818265310 [(.tup 3 [(gq 7 5), (gq 5 5)]), (.tup 3 [(fq 4 5), (fq 0 1)])] (.tup 3 [(gq 31 25), (gq 23 25)]) (.nd (.nd .lf 823643737 [(.tup 3 [(fq 6 5), (fq 16 5)]), (.tup 3 [(fq 4 5), (fq 0 1)])] (.tup 3 [(fq 24 25), (fq 64 25)]) .lf) 825403884 [(.tup 3 [(fq 15 2), (fq 0 1)]), (.tup 3 [(fq 6 5), (fq 0 1)])] (.tup 3 [(fq 9 1), (fq 0 1)]) .lf)) 826049676 [(.tup 3 [(fq 15 2), (fq 0 1)]), (.tup 3 [(fq 9 8), (fq 0 1)])] (.tup 3 [(fq 135 16), (fq 0 1)]) (.nd (.nd (.nd .lf 853848168 [(.tup 3 [(fq 6 1), (fq 0 1)]), (.tup 3 [(fq 1 1), (fq 0 1)])] (.tup 3 [(fq 6 1), (fq 0 1)]) .lf) 854487233 [(.tup 3 [(fq 6 1), (fq 0 1)]), (.tup 3 [(fq 4 3), (fq 0 1)])] (.tup 3 [(fq 8 1), (fq 0 1)]) .lf) 854682316 [(.tup 3 [(fq 6 1), (fq 0 1)]), (.tup 3 [(fq 5 1), (fq 0 1)])] (.tup 3 [(fq 30 1), (fq 0 1)]) (.nd (.nd .lf 854917761 [(.tup 3 [(fq 6 1), (fq 0 1)]), (.tup 3 [(fq 6 5), (fq 0 1)])] (.tup 3 [(fq 36 5), (fq 0 1)]) .lf) 855563553 [(.tup 3 [(fq 6 1), (fq 0 1)]), (.tup 3 [(fq 9 8), (fq 0 1)])] (.tup 3 [(fq 27 4), (fq 0 1)]) .lf)))) 869744281 [(.tup 3 [(gq 7 5), (fq 6 5)]), (.tup 3 [(fq 4 5), (fq 0 1)])] (.tup 3 [(gq 31 25), (fq 24 25)]) (.nd (.nd (.nd (.nd (.nd .lf 872738552 [(.tup 3 [(fq 639 64), (fq 0 1)]), (.tup 3 [(fq 6 5), (fq 0 1)])] (.tup 3 [(fq 1917 160), (fq 0 1)]) .lf) 873053309 [(.tup 3 [(fq 18 5), (fq 0 1)]), (.tup 3 [(fq 9 5), (fq 0 1)])] (.tup 3 [(fq 162 25), (fq 0 1)]) (.nd .lf 876494356 [(.tup 3 [(gq 0 1), (fq 1 1)]), (.tup 3 [(gq 0 1), (gq 0 1)])] (.tup 3 [(fq 2 1), (fq 0 1)]) .lf)) 889045673 [(.tup 3 [(gq 5 1), (fq 0 1)]), (.tup 3 [(gq 6 1), (fq 0 1)])] (.tup 3 [(fq 42 1), (fq 0 1)]) (.nd (.nd .lf 901706162 [(.tup 3 [(fq 159 32), (fq 0 1)]), (.tup 3 [(fq 6 5), (fq 0 1)])] (.tup 3 [(fq 477 80), (fq 0 1)]) .lf) 901726311 [(.tup 3 [(fq 9 4), (fq 0 1)]), (.tup 3 [(fq 5 4), (fq 0 1)])] (.tup 3 [(fq 45 16), (fq 0 1)]) .lf)) 904738198 [(.tup 3 [(fq 4095 512), (fq 0 1)]), (.tup 3 [(fq 9 8), (fq 0 1)])] (.tup 3 [(fq 36855 4096), (fq 0 1)]) (.nd (.nd (.nd .lf 905764538 [(.tup 3 [(fq 23 4), (fq 0 1)]), (.tup 3 [(fq 4 3), (fq 0 1)])] (.tup 3 [(fq 23 3), (fq 0 1)]) .lf) 923549099 [(.tup 3 [(fq 1 1), (fq 0 1)]), (.tup 3 [(fq 0 1), (fq 0 1)])] (.tup 3 [(fq 0 1), (fq 0 1)]) .lf) 923549130 [(.tup 3 [(fq 1 1), (fq 0 1)]), (.tup 3 [(fq 0 1), (fq 1 1)])] (.tup 3 [(fq 0 1), (fq 1 1)]) (.nd (.nd .lf 923549131 [(.tup 3 [(fq 1 1), (fq 0 1)]), (.tup 3 [(fq 0 1), (fq 1 2)])] (.tup 3 [(fq 0 1), (fq 1 2)]) .lf) 923549161 [(.tup 3 [(fq 1 1), (fq 0 1)]), (.tup 3 [(fq 0 1), (fq 2 1)])] (.tup 3 [(fq 0 1), (fq 2 1)]) .lf))) 923757636 [(.tup 3 [(fq 1 1), (fq 0 1)]), (.tup 3 [(fq 1 1), (fq 0 1)])] (.tup 3 [(fq 1 1), (fq 0 1)]) (.nd (.nd (.nd (.nd .lf 923757667 [(.tup 3 [(fq 1 1), (fq 0 1)]), (.tup 3 [(fq 1 1), (fq 1 1)])] (.tup 3 [(fq 1 1), (fq 1 1)]) .lf) 923764363 [(.tup 3 [(fq 1 1), (fq 0 1)]), (.tup 3 [(fq 1 2), (fq 0 1)])] (.tup 3 [(fq 1 2), (fq 0 1)]) (.nd .lf 923771090 [(.tup 3 [(fq 1 1), (fq 0 1)]), (.tup 3 [(fq 1 3), (fq 0 1)])] (.tup 3 [(fq 1 3), (fq 0 1)]) .lf)) 923777975 [(.tup 3 [(fq 1 1), (fq 0 1)]), (.tup 3 [(fq 1 4), (fq 5 4)])] (.tup 3 [(fq 1 4), (fq 5 4)]) (.nd (.nd .lf 923966173 [(.tup 3 [(fq 1 1), (fq 0 1)]), (.tup 3 [(fq 2 1), (fq 0 1)])] (.tup 3 [(fq 2 1), (fq 0 1)]) .lf) 923966204 [(.tup 3 [(fq 1 1), (fq 0 1)]), (.tup 3 [(fq 2 1), (fq 1 1)])] (.tup 3 [(fq 2 1), (fq 1 1)]) .lf)) 923966205 [(.tup 3 [(fq 1 1), (fq 0 1)]), (.tup 3 [(fq 2 1), (fq 1 2)])] (.tup 3 [(fq 2 1), (fq 1 2)]) (.nd (.nd (.nd .lf 923979627 [(.tup 3 [(fq 1 1), (fq 0 1)]), (.tup 3 [(fq 2 3), (fq 0 1)])] (.tup 3 [(fq 2 3), (fq 0 1)]) .lf) 924174710 [(.tup 3 [(fq 1 1), (fq 0 1)]), (.tup 3 [(fq 3 1), (fq 0 1)])] (.tup 3 [(fq 3 1), (fq 0 1)]) .lf) 924201746 [(.tup 3 [(fq 1 1), (fq 0 1)]), (.tup 3 [(fq 3 5), (fq 4 5)])] (.tup 3 [(fq 3 5), (fq 4 5)]) (.nd (.nd .lf 924383247 [(.tup 3 [(fq 1 1), (fq 0 1)]), (.tup 3 [(fq 4 1), (fq 0 1)])] (.tup 3 [(fq 4 1), (fq 0 1)]) .lf) 924396701 [(.tup 3 [(fq 1 1), (fq 0 1)]), (.tup 3 [(fq 4 3), (fq 0 1)])] (.tup 3 [(fq 4 3), (fq 0 1)]) .lf))))))
def t0_6 : Tr := (.nd (.nd (.nd (.nd (.nd (.nd (.nd .lf 924591784 [(.tup 3 [(fq 1 1), (fq 0 1)]), (.tup 3 [(fq 5 1), (fq 0 1)])] (.tup 3 [(fq 5 1), (fq 0 1)]) .lf) 924800321 [(.tup 3 [(fq 1 1), (fq 0 1)]), (.tup 3 [(fq 6 1), (fq 0 1)])] (.tup 3 [(fq 6 1), (fq 0 1)]) (.nd .lf 924827229 [(.tup 3 [(fq 1 1), (fq 0 1)]), (.tup 3 [(fq 6 5), (fq 0 1)])] (.tup 3 [(fq 6 5), (fq 0 1)]) .lf)) 924827481 [(.tup 3 [(fq 1 1), (fq 0 1)]), (.tup 3 [(fq 6 5), (fq 8 5)])] (.tup 3 [(fq 6 5), (fq 8 5)]) (.nd (.nd .lf 924827729 [(.tup 3 [(fq 1 1), (fq 0 1)]), (.tup 3 [(fq 6 5), (fq 16 5)])] (.tup 3 [(fq 6 5), (fq 16 5)]) .lf) 925008858 [(.tup 3 [(fq 1 1), (fq 0 1)]), (.tup 3 [(fq 7 1), (fq 0 1)])] (.tup 3 [(fq 7 1), (fq 0 1)]) .lf)) 925015585 [(.tup 3 [(fq 1 1), (fq 0 1)]), (.tup 3 [(fq 7 2), (fq 0 1)])] (.tup 3 [(fq 7 2), (fq 0 1)]) (.nd (.nd (.nd .lf 925217395 [(.tup 3 [(fq 1 1), (fq 0 1)]), (.tup 3 [(fq 8 1), (fq 0 1)])] (.tup 3 [(fq 8 1), (fq 0 1)]) .lf) 925425932 [(.tup 3 [(fq 1 1), (fq 0 1)]), (.tup 3 [(fq 9 1), (fq 0 1)])] (.tup 3 [(fq 9 1), (fq 0 1)]) .lf) 925432659 [(.tup 3 [(fq 1 1), (fq 0 1)]), (.tup 3 [(fq 9 2), (fq 0 1)])] (.tup 3 [(fq 9 2), (fq 0 1)]) (.nd (.nd .lf 925452840 [(.tup 3 [(fq 1 1), (fq 0 1)]), (.tup 3 [(fq 9 5), (fq 0 1)])] (.tup 3 [(fq 9 5), (fq 0 1)]) .lf) 925473021 [(.tup 3 [(fq 1 1), (fq 0 1)]), (.tup 3 [(fq 9 8), (fq 0 1)])] (.tup 3 [(fq 9 8), (fq 0 1)]) .lf))) 925634469 [(.tup 3 [(fq 1 1), (fq 0 1)]), (.tup 3 [(fq 10 1), (fq 0 1)])] (.tup 3 [(fq 10 1), (fq 0 1)]) (.nd (.nd (.nd (.nd .lf 925843006 [(.tup 3 [(fq 1 1), (fq 0 1)]), (.tup 3 [(fq 11 1), (fq 0 1)])] (.tup 3 [(fq 11 1), (fq 0 1)]) .lf) 925849733 [(.tup 3 [(fq 1 1), (fq 0 1)]), (.tup 3 [(fq 11 2), (fq 0 1)])] (.tup 3 [(fq 11 2), (fq 0 1)]) (.nd .lf 926051543 [(.tup 3 [(fq 1 1), (fq 0 1)]), (.tup 3 [(fq 12 1), (fq 0 1)])] (.tup 3 [(fq 12 1), (fq 0 1)]) .lf)) 926078451 [(.tup 3 [(fq 1 1), (fq 0 1)]), (.tup 3 [(fq 12 5), (fq 0 1)])] (.tup 3 [(fq 12 5), (fq 0 1)]) (.nd (.nd .lf 926078951 [(.tup 3 [(fq 1 1), (fq 0 1)]), (.tup 3 [(fq 12 5), (fq 16 5)])] (.tup 3 [(fq 12 5), (fq 16 5)]) .lf) 926079447 [(.tup 3 [(fq 1 1), (fq 0 1)]), (.tup 3 [(fq 12 5), (fq 32 5)])] (.tup 3 [(fq 12 5), (fq 32 5)]) .lf)) 926468617 [(.tup 3 [(fq 1 1), (fq 0 1)]), (.tup 3 [(fq 14 1), (fq 0 1)])] (.tup 3 [(fq 14 1), (fq 0 1)]) (.nd (.nd (.nd .lf 926683881 [(.tup 3 [(fq 1 1), (fq 0 1)]), (.tup 3 [(fq 15 2), (fq 0 1)])] (.tup 3 [(fq 15 2), (fq 0 1)]) .lf) 926697335 [(.tup 3 [(fq 1 1), (fq 0 1)]), (.tup 3 [(fq 15 4), (fq 0 1)])] (.tup 3 [(fq 15 4), (fq 0 1)]) .lf) 927302765 [(.tup 3 [(fq 1 1), (fq 0 1)]), (.tup 3 [(fq 18 1), (fq 0 1)])] (.tup 3 [(fq 18 1), (fq 0 1)]) (.nd (.nd .lf 927329673 [(.tup 3 [(fq 1 1), (fq 0 1)]), (.tup 3 [(fq 18 5), (fq 0 1)])] (.tup 3 [(fq 18 5), (fq 0 1)]) .lf) 927518029 [(.tup 3 [(fq 1 1), (fq 0 1)]), (.tup 3 [(fq 19 2), (fq 0 1)])] (.tup 3 [(fq 19 2), (fq 0 1)]) .lf)))) 927531483 [(.tup 3 [(fq 1 1), (fq 0 1)]), (.tup 3 [(fq 19 4), (fq 0 1)])] (.tup 3 [(fq 19 4), (fq 0 1)]) (.nd (.nd (.nd (.nd (.nd .lf 927928376 [(.tup 3 [(fq 1 1), (fq 0 1)]), (.tup 3 [(fq 21 1), (fq 0 1)])] (.tup 3 [(fq 21 1), (fq 0 1)]) .lf) 928352177 [(.tup 3 [(fq 1 1), (fq 0 1)]), (.tup 3 [(fq 23 2), (fq 0 1)])] (.tup 3 [(fq 23 2), (fq 0 1)]) (.nd .lf 928365631 [(.tup 3 [(fq 1 1), (fq 0 1)]), (.tup 3 [(fq 23 4), (fq 0 1)])] (.tup 3 [(fq 23 4), (fq 0 1)]) .lf)) 928580895 [(.tup 3 [(fq 1 1), (fq 0 1)]), (.tup 3 [(fq 24 5), (fq 0 1)])] (.tup 3 [(fq 24 5), (fq 0 1)]) (.nd (.nd .lf 930033927 [(.tup 3 [(fq 1 1), (fq 0 1)]), (.tup 3 [(fq 31 4), (fq 0 1)])] (.tup 3 [(fq 31 4), (fq 0 1)]) .lf) 930060835 [(.tup 3 [(fq 1 1), (fq 0 1)]), (.tup 3 [(fq 31 8), (fq 0 1)])] (.tup 3 [(fq 31 8), (fq 0 1)]) .lf)) 931056431 [(.tup 3 [(fq 1 1), (fq 0 1)]), (.tup 3 [(fq 36 1), (fq 0 1)])] (.tup 3 [(fq 36 1), (fq 0 1)]) (.nd (.nd (.nd .lf 931298825 [(.tup 3 [(fq 1 1), (fq 0 1)]), (.tup 3 [(fq 36 37), (fq 6 37)])] (.tup 3 [(fq 36 37), (fq 6 37)]) .lf) 931702223 [(.tup 3 [(fq 1 1), (fq 0 1)]), (.tup 3 [(fq 39 4), (fq 0 1)])] (.tup 3 [(fq 39 4), (fq 0 1)]) .lf) 931729131 [(.tup 3 [(fq 1 1), (fq 0 1)]), (.tup 3 [(fq 39 8), (fq 0 1)])] (.tup 3 [(fq 39 8), (fq 0 1)]) (.nd (.nd .lf 932857777 [(.tup 3 [(fq 63 8), (fq 0 1)]), (.tup 3 [(fq 9 8), (fq 0 1)])] (.tup 3 [(fq 567 64), (fq 0 1)]) .lf) 933370519 [(.tup 3 [(fq 1 1), (fq 0 1)]), (.tup 3 [(fq 47 4), (fq 0 1)])] (.tup 3 [(fq 47 4), (fq 0 1)]) .lf))) 933397427 [(.tup 3 [(fq 1 1), (fq 0 1)]), (.tup 3 [(fq 47 8), (fq 0 1)])] (.tup 3 [(fq 47 8), (fq 0 1)]) (.nd (.nd (.nd (.nd .lf 935378616 [(.tup 3 [(gq 0 1), (gq 0 1)]), (.tup 3 [(gq 0 1), (gq 0 1)])] (.tup 3 [(fq 0 1), (fq 2 1)]) .lf) 936734019 [(.tup 3 [(fq 1 1), (fq 0 1)]), (.tup 3 [(fq 63 8), (fq 0 1)])] (.tup 3 [(fq 63 8), (fq 0 1)]) (.nd .lf 936787835 [(.tup 3 [(fq 1 1), (fq 0 1)]), (.tup 3 [(fq 63 16), (fq 0 1)])] (.tup 3 [(fq 63 16), (fq 0 1)]) .lf)) 937305517 [(.tup 3 [(gq 5 5), (fq 8 5)]), (.tup 3 [(fq 4 5), (fq 0 1)])] (.tup 3 [(gq 23 25), (fq 32 25)]) (.nd (.nd .lf 940070611 [(.tup 3 [(fq 1 1), (fq 0 1)]), (.tup 3 [(fq 79 8), (fq 0 1)])] (.tup 3 [(fq 79 8), (fq 0 1)]) .lf) 940124427 [(.tup 3 [(fq 1 1), (fq 0 1)]), (.tup 3 [(fq 79 16), (fq 0 1)])] (.tup 3 [(fq 79 16), (fq 0 1)]) .lf)) 943407203 [(.tup 3 [(fq 1 1), (fq 0 1)]), (.tup 3 [(fq 95 8), (fq 0 1)])] (.tup 3 [(fq 95 8), (fq 0 1)]) (.nd (.nd (.nd .lf 943461019 [(.tup 3 [(fq 1 1), (fq 0 1)]), (.tup 3 [(fq 95 16), (fq 0 1)])] (.tup 3 [(fq 95 16), (fq 0 1)]) .lf) 949071292 [(.tup 3 [(fq 0 1), (fq 1 1)]), (.tup 3 [(fq 0 1), (gq 0 1)])] (.tup 3 [(fq 1 1), (fq 0 1)]) .lf) 949320191 [(.tup 3 [(fq 0 1), (fq 1 1)]), (.tup 3 [(fq 1 1), (gq 0 1)])] (.tup 3 [(fq 1 1), (fq 1 1)]) (.nd (.nd .lf 949344405 [(.tup 3 [(fq 0 1), (fq 1 1)]), (.tup 3 [(fq 1 4), (gq 4 4)])] (.tup 3 [(fq 5 4), (fq 1 4)]) .lf) 949850202 [(.tup 3 [(fq 0 1), (fq 1 1)]), (.tup 3 [(fq 3 5), (gq 3 5)])] (.tup 3 [(fq 4 5), (fq 3 5)]) .lf))))) 950099039 [(.tup 3 [(fq 0 1), (fq 1 1)]), (.tup 3 [(fq 4 5), (gq 1 5)])] (.tup 3 [(fq 2 5), (fq 4 5)]) (.nd (.nd (.nd (.nd (.nd (.nd .lf 950134203 [(.tup 3 [(fq 1 1), (fq 0 1)]), (.tup 3 [(fq 127 16), (fq 0 1)])] (.tup 3 [(fq 127 16), (fq 0 1)]) .lf) 950241835 [(.tup 3 [(fq 1 1), (fq 0 1)]), (.tup 3 [(fq 127 32), (fq 0 1)])] (.tup 3 [(fq 127 32), (fq 0 1)]) (.nd .lf 950597023 [(.tup 3 [(fq 0 1), (fq 1 1)]), (.tup 3 [(fq 6 5), (gq 7 5)])] (.tup 3 [(fq 8 5), (fq 6 5)]) .lf)) 950597271 [(.tup 3 [(fq 0 1), (fq 1 1)]), (.tup 3 [(fq 6 5), (gq 15 5)])] (.tup 3 [(fq 16 5), (fq 6 5)]) (.nd (.nd .lf 951107042 [(.tup 3 [(gq 1 1), (fq 1 1)]), (.tup 3 [(fq 4 5), (gq 1 5)])] (.tup 3 [(gq 5 5), (fq 8 5)]) .lf) 951571535 [(.tup 3 [(fq 0 1), (fq 1 1)]), (.tup 3 [(gq 1 1), (fq 0 1)])] (.tup 3 [(fq 0 1), (gq 1 1)]) .lf)) 952090665 [(.tup 3 [(fq 0 1), (fq 1 1)]), (.tup 3 [(fq 12 5), (gq 15 5)])] (.tup 3 [(fq 16 5), (fq 12 5)]) (.nd (.nd (.nd .lf 952091161 [(.tup 3 [(fq 0 1), (fq 1 1)]), (.tup 3 [(fq 12 5), (gq 31 5)])] (.tup 3 [(fq 32 5), (fq 12 5)]) .lf) 956807387 [(.tup 3 [(fq 1 1), (fq 0 1)]), (.tup 3 [(fq 159 16), (fq 0 1)])] (.tup 3 [(fq 159 16), (fq 0 1)]) .lf) 956915019 [(.tup 3 [(fq 1 1), (fq 0 1)]), (.tup 3 [(fq 159 32), (fq 0 1)])] (.tup 3 [(fq 159 32), (fq 0 1)]) (.nd (.nd .lf 957329717 [(.tup 3 [(fq 0 1), (fq 1 1)]), (.tup 3 [(fq 0 1), (fq 0 1)])] (.tup 3 [(fq 0 1), (fq 0 1)]) .lf) 957329748 [(.tup 3 [(fq 0 1), (fq 1 1)]), (.tup 3 [(fq 0 1), (fq 1 1)])] (.tup 3 [(gq 0 1), (fq 0 1)]) .lf))) 957329749 [(.tup 3 [(fq 0 1), (fq 1 1)]), (.tup 3 [(fq 0 1), (fq 1 2)])] (.tup 3 [(gq 0 2), (fq 0 1)]) (.nd (.nd (.nd (.nd .lf 957538254 [(.tup 3 [(fq 0 1), (fq 1 1)]), (.tup 3 [(fq 1 1), (fq 0 1)])] (.tup 3 [(fq 0 1), (fq 1 1)]) .lf) 957746791 [(.tup 3 [(fq 0 1), (fq 1 1)]), (.tup 3 [(fq 2 1), (fq 0 1)])] (.tup 3 [(fq 0 1), (fq 2 1)]) (.nd .lf 957746822 [(.tup 3 [(fq 0 1), (fq 1 1)]), (.tup 3 [(fq 2 1), (fq 1 1)])] (.tup 3 [(gq 0 1), (fq 2 1)]) .lf)) 957746823 [(.tup 3 [(fq 0 1), (fq 1 1)]), (.tup 3 [(fq 2 1), (fq 1 2)])] (.tup 3 [(gq 0 2), (fq 2 1)]) (.nd (.nd .lf 957982364 [(.tup 3 [(fq 0 1), (fq 1 1)]), (.tup 3 [(fq 3 5), (fq 4 5)])] (.tup 3 [(gq 3 5), (fq 3 5)]) .lf) 958320891 [(.tup 3 [(fq 0 1), (fq 1 1)]), (.tup 3 [(fq 36 37), (gq 5 37)])] (.tup 3 [(fq 6 37), (fq 36 37)]) .lf)) 958607847 [(.tup 3 [(fq 0 1), (fq 1 1)]), (.tup 3 [(fq 6 5), (fq 0 1)])] (.tup 3 [(fq 0 1), (fq 6 5)]) (.nd (.nd (.nd .lf 958608099 [(.tup 3 [(fq 0 1), (fq 1 1)]), (.tup 3 [(fq 6 5), (fq 8 5)])] (.tup 3 [(gq 7 5), (fq 6 5)]) .lf) 958608347 [(.tup 3 [(fq 0 1), (fq 1 1)]), (.tup 3 [(fq 6 5), (fq 16 5)])] (.tup 3 [(gq 15 5), (fq 6 5)]) .lf) 958665560 [(.tup 3 [(fq 1 1), (gq 2 1)]), (.tup 3 [(fq 0 1), (fq 3 1)])] (.tup 3 [(fq 9 1), (fq 3 1)]) (.nd (.nd .lf 959859069 [(.tup 3 [(fq 0 1), (fq 1 1)]), (.tup 3 [(fq 12 5), (fq 0 1)])] (.tup 3 [(fq 0 1), (fq 12 5)]) .lf) 963480571 [(.tup 3 [(fq 1 1), (fq 0 1)]), (.tup 3 [(fq 191 16), (fq 0 1)])] (.tup 3 [(fq 191 16), (fq 0 1)]) .lf)))) 963588203 [(.tup 3 [(fq 1 1), (fq 0 1)]), (.tup 3 [(fq 191 32), (fq 0 1)])] (.tup 3 [(fq 191 32), (fq 0 1)]) (.nd (.nd (.nd (.nd (.nd .lf 969331490 [(.tup 3 [(fq 383 32), (fq 0 1)]), (.tup 3 [(fq 4 3), (fq 0 1)])] (.tup 3 [(fq 383 24), (fq 0 1)]) .lf) 969476311 [(.tup 3 [(fq 19 2), (fq 0 1)]), (.tup 3 [(fq 6 5), (fq 0 1)])] (.tup 3 [(fq 57 5), (fq 0 1)]) (.nd .lf 974909710 [(.tup 3 [(fq 0 1), (gq 1 1)]), (.tup 3 [(fq 0 1), (fq 2 1)])] (.tup 3 [(fq 4 1), (fq 0 1)]) .lf)) 975118218 [(.tup 3 [(fq 0 1), (gq 1 1)]), (.tup 3 [(fq 1 1), (fq 1 3)])] (.tup 3 [(fq 2 3), (gq 1 1)]) (.nd (.nd .lf 975326722 [(.tup 3 [(fq 0 1), (gq 1 1)]), (.tup 3 [(fq 2 1), (fq 0 1)])] (.tup 3 [(fq 0 1), (gq 3 1)]) .lf) 975535259 [(.tup 3 [(fq 0 1), (gq 1 1)]), (.tup 3 [(fq 3 1), (fq 0 1)])] (.tup 3 [(fq 0 1), (gq 5 1)]) .lf)) 975757250 [(.tup 3 [(fq 0 1), (gq 1 1)]), (.tup 3 [(fq 4 3), (fq 0 1)])] (.tup 3 [(fq 0 1), (gq 7 3)]) (.nd (.nd (.nd .lf 975770704 [(.tup 3 [(fq 0 1), (gq 1 1)]), (.tup 3 [(fq 4 5), (fq 0 1)])] (.tup 3 [(fq 0 1), (gq 7 5)]) .lf) 975770770 [(.tup 3 [(fq 0 1), (gq 1 1)]), (.tup 3 [(fq 4 5), (fq 2 5)])] (.tup 3 [(fq 4 5), (gq 7 5)]) .lf) 975972514 [(.tup 3 [(fq 0 1), (gq 1 1)]), (.tup 3 [(fq 5 4), (fq 0 1)])] (.tup 3 [(fq 0 1), (gq 4 2)]) (.nd (.nd .lf 976396350 [(.tup 3 [(fq 0 1), (gq 1 1)]), (.tup 3 [(fq 7 5), (fq 1 5)])] (.tup 3 [(fq 2 5), (gq 13 5)]) .lf) 976934571 [(.tup 3 [(fq 1 1), (fq 0 1)]), (.tup 3 [(fq 255 32), (fq 0 1)])] (.tup 3 [(fq 255 32), (fq 0 1)]) .lf))) 977149835 [(.tup 3 [(fq 1 1), (fq 0 1)]), (.tup 3 [(fq 255 64), (fq 0 1)])] (.tup 3 [(fq 255 64), (fq 0 1)]) (.nd (.nd (.nd (.nd .lf 977264133 [(.tup 3 [(fq 0 1), (gq 1 1)]), (.tup 3 [(fq 11 10), (fq 1 5)])] (.tup 3 [(fq 2 5), (gq 10 5)]) .lf) 980919610 [(.tup 3 [(fq 32 5), (fq 12 5)]), (.tup 3 [(fq 4 5), (fq 0 1)])] (.tup 3 [(fq 128 25), (fq 48 25)]) .lf) 990280939 [(.tup 3 [(fq 1 1), (fq 0 1)]), (.tup 3 [(fq 319 32), (fq 0 1)])] (.tup 3 [(fq 319 32), (fq 0 1)]) (.nd (.nd .lf 990496203 [(.tup 3 [(fq 1 1), (fq 0 1)]), (.tup 3 [(fq 319 64), (fq 0 1)])] (.tup 3 [(fq 319 64), (fq 0 1)]) .lf) 994487492 [(.tup 3 [(fq 1 1), (fq 0 1)]), (.tup 3 [(fq 5119 512), (fq 0 1)])] (.tup 3 [(fq 5119 512), (fq 0 1)]) .lf)) 998559660 [(.tup 3 [(fq 10 1), (fq 0 1)]), (.tup 3 [(fq 4 3), (fq 0 1)])] (.tup 3 [(fq 40 3), (fq 0 1)]) (.nd (.nd (.nd .lf 998934120 [(.tup 3 [(fq 32 5), (gq 11 5)]), (.tup 3 [(fq 4 5), (fq 0 1)])] (.tup 3 [(fq 128 25), (gq 47 25)]) .lf) 998987120 [(.tup 3 [(fq 12 5), (gq 15 5)]), (.tup 3 [(fq 4 5), (fq 0 1)])] (.tup 3 [(fq 48 25), (gq 63 25)]) .lf) 998990188 [(.tup 3 [(fq 10 1), (fq 0 1)]), (.tup 3 [(fq 6 5), (fq 0 1)])] (.tup 3 [(fq 12 1), (fq 0 1)]) (.nd (.nd .lf 999615799 [(.tup 3 [(fq 10 1), (fq 0 1)]), (.tup 3 [(fq 9 5), (fq 0 1)])] (.tup 3 [(fq 18 1), (fq 0 1)]) .lf) 999635980 [(.tup 3 [(fq 10 1), (fq 0 1)]), (.tup 3 [(fq 9 8), (fq 0 1)])] (.tup 3 [(fq 45 4), (fq 0 1)]) .lf))))))
def t0_4 : Tr := (.nd t0_5 924410221 [(.tup 3 [(fq 1 1), (fq 0 1)]), (.tup 3 [(fq 4 5), (fq 2 5)])] (.tup 3 [(fq 4 5), (fq 2 5)]) t0_6)
def t0_0 : Tr := (.nd t0_1 596017744 [(.tup 3 [(gq 0 1), (fq 0 1)]), (.tup 3 [(fq 2 1), (fq 0 1)])] (.tup 3 [(gq 1 1), (fq 0 1)]) t0_4)
def t1_0 : Tr := (.nd (.nd (.nd (.nd (.nd (.nd .lf 68247130 [(.tup 3 [(fq 5 1), (fq 0 1)]), (.tup 3 [(fq 3 1), (fq 0 1)])] (.tup 3 [(fq 5 3), (fq 0 1)]) .lf) 68455667 [(.tup 3 [(fq 5 1), (fq 0 1)]), (.tup 3 [(fq 4 1), (fq 0 1)])] (.tup 3 [(fq 5 4), (fq 0 1)]) .lf) 112577903 [(.tup 3 [(fq 0 1), (fq 4 1)]), (.tup 3 [(gq 0 1), (fq 4 1)])] (.tup 3 [(fq 16 17), (gq 3 17)]) (.nd .lf 213362242 [(.tup 3 [(fq 9 1), (fq 0 1)]), (.tup 3 [(fq 8 1), (fq 0 1)])] (.tup 3 [(fq 9 8), (fq 0 1)]) .lf)) 235406715 [(.tup 3 [(gq 0 1), (fq 2 1)]), (.tup 3 [(fq 1 1), (fq 2 1)])] (.tup 3 [(fq 3 5), (fq 4 5)]) (.nd (.nd (.nd .lf 282020488 [(.tup 3 [(fq 4 1), (fq 0 1)]), (.tup 3 [(fq 2 1), (fq 0 1)])] (.tup 3 [(fq 2 1), (fq 0 1)]) .lf) 282229025 [(.tup 3 [(fq 4 1), (fq 0 1)]), (.tup 3 [(fq 3 1), (fq 0 1)])] (.tup 3 [(fq 4 3), (fq 0 1)]) .lf) 315801137 [(.tup 3 [(fq 3 1), (fq 1 1)]), (.tup 3 [(fq 2 1), (fq 1 1)])] (.tup 3 [(fq 7 5), (gq 0 5)]) (.nd .lf 382945361 [(.tup 3 [(fq 1 1), (fq 3 1)]), (.tup 3 [(fq 0 1), (fq 3 1)])] (.tup 3 [(fq 1 1), (gq 0 3)]) .lf))) 386623997 [(.tup 3 [(fq 2 1), (gq 0 2)]), (.tup 3 [(gq 0 1), (gq 0 1)])] (.tup 3 [(gq 2 4), (fq 5 4)]) (.nd (.nd (.nd (.nd .lf 426092915 [(.tup 3 [(fq 8 1), (fq 0 1)]), (.tup 3 [(fq 2 1), (fq 0 1)])] (.tup 3 [(fq 4 1), (fq 0 1)]) .lf) 495793846 [(.tup 3 [(fq 3 1), (fq 0 1)]), (.tup 3 [(fq 1 1), (fq 0 1)])] (.tup 3 [(fq 3 1), (fq 0 1)]) .lf) 496002383 [(.tup 3 [(fq 3 1), (fq 0 1)]), (.tup 3 [(fq 2 1), (fq 0 1)])] (.tup 3 [(fq 3 2), (fq 0 1)]) (.nd .lf 553387826 [(.tup 3 [(fq 0 1), (fq 6 1)]), (.tup 3 [(gq 0 1), (fq 6 1)])] (.tup 3 [(fq 36 37), (gq 5 37)]) .lf)) 556829449 [(.tup 3 [(fq 2 1), (fq 0 1)]), (.tup 3 [(fq 1 1), (gq 0 1)])] (.tup 3 [(fq 1 1), (fq 1 1)]) (.nd (.nd (.nd .lf 557078348 [(.tup 3 [(fq 2 1), (fq 0 1)]), (.tup 3 [(fq 2 1), (gq 0 1)])] (.tup 3 [(fq 4 5), (fq 2 5)]) .lf) 560714407 [(.tup 3 [(gq 3 1), (fq 0 1)]), (.tup 3 [(gq 4 1), (fq 0 1)])] (.tup 3 [(fq 4 5), (fq 0 1)]) .lf) 598853872 [(.tup 3 [(fq 0 1), (gq 5 1)]), (.tup 3 [(gq 0 1), (gq 5 1)])] (.tup 3 [(fq 36 37), (fq 6 37)]) (.nd .lf 621113012 [(.tup 3 [(fq 0 1), (gq 3 1)]), (.tup 3 [(gq 0 1), (gq 3 1)])] (.tup 3 [(fq 16 17), (fq 4 17)]) .lf)))) 643372152 [(.tup 3 [(fq 0 1), (gq 1 1)]), (.tup 3 [(gq 0 1), (gq 1 1)])] (.tup 3 [(fq 4 5), (fq 2 5)]) (.nd (.nd (.nd (.nd (.nd .lf 657354795 [(.tup 3 [(fq 2 1), (fq 1 2)]), (.tup 3 [(gq 0 1), (fq 1 1)])] (.tup 3 [(gq 2 4), (gq 4 4)]) .lf) 671767987 [(.tup 3 [(fq 0 1), (fq 2 1)]), (.tup 3 [(gq 0 1), (fq 2 1)])] (.tup 3 [(fq 4 5), (gq 1 5)]) .lf) 709775741 [(.tup 3 [(fq 2 1), (fq 0 1)]), (.tup 3 [(fq 1 1), (fq 0 1)])] (.tup 3 [(fq 2 1), (fq 0 1)]) (.nd .lf 709775772 [(.tup 3 [(fq 2 1), (fq 0 1)]), (.tup 3 [(fq 1 1), (fq 1 1)])] (.tup 3 [(fq 1 1), (gq 0 1)]) .lf)) 709984309 [(.tup 3 [(fq 2 1), (fq 0 1)]), (.tup 3 [(fq 2 1), (fq 1 1)])] (.tup 3 [(fq 4 5), (gq 1 5)]) (.nd (.nd (.nd .lf 710401352 [(.tup 3 [(fq 2 1), (fq 0 1)]), (.tup 3 [(fq 4 1), (fq 0 1)])] (.tup 3 [(fq 1 2), (fq 0 1)]) .lf) 775197406 [(.tup 3 [(fq 3 1), (fq 4 1)]), (.tup 3 [(fq 2 1), (fq 4 1)])] (.tup 3 [(fq 11 10), (gq 0 5)]) .lf) 804960772 [(.tup 3 [(fq 3 1), (gq 0 1)]), (.tup 3 [(fq 2 1), (gq 0 1)])] (.tup 3 [(fq 7 5), (fq 1 5)]) (.nd .lf 835725083 [(.tup 3 [(fq 1 1), (fq 2 1)]), (.tup 3 [(gq 0 1), (fq 2 1)])] (.tup 3 [(fq 3 5), (gq 3 5)]) .lf))) 853848168 [(.tup 3 [(fq 6 1), (fq 0 1)]), (.tup 3 [(fq 1 1), (fq 0 1)])] (.tup 3 [(fq 6 1), (fq 0 1)]) (.nd (.nd (.nd (.nd .lf 854682316 [(.tup 3 [(fq 6 1), (fq 0 1)]), (.tup 3 [(fq 5 1), (fq 0 1)])] (.tup 3 [(fq 6 5), (fq 0 1)]) .lf) 889045673 [(.tup 3 [(gq 5 1), (fq 0 1)]), (.tup 3 [(gq 6 1), (fq 0 1)])] (.tup 3 [(fq 6 7), (fq 0 1)]) .lf) 901726311 [(.tup 3 [(fq 9 4), (fq 0 1)]), (.tup 3 [(fq 5 4), (fq 0 1)])] (.tup 3 [(fq 9 5), (fq 0 1)]) (.nd .lf 923549161 [(.tup 3 [(fq 1 1), (fq 0 1)]), (.tup 3 [(fq 0 1), (fq 2 1)])] (.tup 3 [(fq 0 1), (gq 0 2)]) .lf)) 923757636 [(.tup 3 [(fq 1 1), (fq 0 1)]), (.tup 3 [(fq 1 1), (fq 0 1)])] (.tup 3 [(fq 1 1), (fq 0 1)]) (.nd (.nd .lf 924174710 [(.tup 3 [(fq 1 1), (fq 0 1)]), (.tup 3 [(fq 3 1), (fq 0 1)])] (.tup 3 [(fq 1 3), (fq 0 1)]) .lf) 966175653 [(.tup 3 [(fq 3 1), (gq 3 1)]), (.tup 3 [(fq 2 1), (gq 3 1)])] (.tup 3 [(fq 11 10), (fq 1 5)]) (.nd .lf 982923701 [(.tup 3 [(fq 1 1), (gq 2 1)]), (.tup 3 [(fq 0 1), (gq 2 1)])] (.tup 3 [(fq 1 1), (fq 1 3)]) .lf)))))
def t2_2 : Tr := (.nd (.nd (.nd (.nd (.nd (.nd (.nd .lf 360385 [(.tup 4 [(.tup 3 [(fq 0 1), (gq 1 1)]), (.tup 3 [(fq 1 1), (fq 0 1)]), (.tup 3 [(fq 3 5), (gq 3 5)])]), (.tup 4 [(.tup 3 [(fq 0 1), (fq 2 1)]), (.tup 3 [(fq 1 1), (fq 0 1)]), (.tup 3 [(fq 3 5), (fq 4 5)])])] (fq 8 5) .lf) 837401 [(.tup 4 [(.tup 3 [(fq 3 1), (fq 0 1)]), (.tup 3 [(fq 1 1), (fq 0 1)]), (.tup 3 [(fq 4 1), (fq 0 1)])]), (.tup 4 [(.tup 3 [(fq 2 1), (fq 0 1)]), (.tup 3 [(fq 1 1), (fq 0 1)]), (.tup 3 [(fq 6 1), (fq 0 1)])])] (fq 12 1) .lf) 10734961 [(.tup 4 [(.tup 3 [(fq 3 1), (fq 0 1)]), (.tup 3 [(fq 1 1), (fq 0 1)]), (.tup 3 [(fq 15 8), (fq 0 1)])]), (.tup 4 [(.tup 3 [(fq 2 1), (fq 0 1)]), (.tup 3 [(fq 1 1), (fq 0 1)]), (.tup 3 [(fq 23 8), (fq 0 1)])])] (fq 57 10) (.nd (.nd .lf 17563420 [(.tup 4 [(.tup 3 [(fq 0 1), (gq 1 1)]), (.tup 3 [(fq 0 1), (gq 0 1)]), (.tup 3 [(fq 6 5), (fq 16 5)])]), (.tup 4 [(.tup 3 [(fq 0 1), (fq 2 1)]), (.tup 3 [(fq 0 1), (fq 1 1)]), (.tup 3 [(fq 6 5), (gq 15 5)])])] (fq 16 5) .lf) 18823938 [(.tup 4 [(.tup 3 [(fq 3 1), (fq 0 1)]), (.tup 3 [(fq 1 1), (fq 0 1)]), (.tup 3 [(fq 63 32), (fq 0 1)])]), (.tup 4 [(.tup 3 [(fq 2 1), (fq 0 1)]), (.tup 3 [(fq 1 1), (fq 0 1)]), (.tup 3 [(fq 95 32), (fq 0 1)])])] (fq 237 40) .lf)) 21421625 [(.tup 4 [(.tup 3 [(fq 1 1), (fq 1 1)]), (.tup 3 [(fq 1 1), (fq 0 1)]), (.tup 3 [(fq 1 1), (fq 0 1)])]), (.tup 4 [(.tup 3 [(fq 1 1), (fq 1 1)]), (.tup 3 [(fq 1 1), (fq 0 1)]), (.tup 3 [(fq 1 1), (fq 0 1)])])] (fq 8 5) (.nd (.nd (.nd .lf 26578486 [(.tup 4 [(.tup 3 [(fq 3 1), (fq 0 1)]), (.tup 3 [(fq 1 1), (fq 0 1)]), (.tup 3 [(fq 7 2), (fq 0 1)])]), (.tup 4 [(.tup 3 [(fq 2 1), (fq 0 1)]), (.tup 3 [(fq 1 1), (fq 0 1)]), (.tup 3 [(fq 11 2), (fq 0 1)])])] (fq 54 5) .lf) 26624399 [(.tup 4 [(.tup 3 [(fq 2 1), (fq 0 1)]), (.tup 3 [(fq 1 1), (fq 0 1)]), (.tup 3 [(fq 3 1), (fq 0 1)])]), (.tup 4 [(.tup 3 [(fq 3 1), (fq 0 1)]), (.tup 3 [(fq 1 1), (fq 0 1)]), (.tup 3 [(fq 0 1), (fq 0 1)])])] (fq 18 5) .lf) 26832936 [(.tup 4 [(.tup 3 [(fq 2 1), (fq 0 1)]), (.tup 3 [(fq 1 1), (fq 0 1)]), (.tup 3 [(fq 3 1), (fq 0 1)])]), (.tup 4 [(.tup 3 [(fq 3 1), (fq 0 1)]), (.tup 3 [(fq 1 1), (fq 0 1)]), (.tup 3 [(fq 1 1), (fq 0 1)])])] (fq 24 5) (.nd (.nd .lf 27041473 [(.tup 4 [(.tup 3 [(fq 2 1), (fq 0 1)]), (.tup 3 [(fq 1 1), (fq 0 1)]), (.tup 3 [(fq 3 1), (fq 0 1)])]), (.tup 4 [(.tup 3 [(fq 3 1), (fq 0 1)]), (.tup 3 [(fq 1 1), (fq 0 1)]), (.tup 3 [(fq 2 1), (fq 0 1)])])] (fq 6 1) .lf) 28507959 [(.tup 4 [(.tup 3 [(fq 2 1), (fq 0 1)]), (.tup 3 [(fq 1 1), (fq 0 1)]), (.tup 3 [(fq 3 1), (fq 0 1)])]), (.tup 4 [(.tup 3 [(fq 3 1), (fq 0 1)]), (.tup 3 [(fq 1 1), (fq 0 1)]), (.tup 3 [(fq 9 2), (fq 0 1)])])] (fq 9 1) .lf))) 28870176 [(.tup 4 [(.tup 3 [(fq 0 1), (fq 2 1)]), (.tup 3 [(fq 1 1), (fq 0 1)]), (.tup 3 [(fq 3 5), (fq 4 5)])]), (.tup 4 [(.tup 3 [(fq 0 1), (gq 1 1)]), (.tup 3 [(fq 1 1), (fq 0 1)]), (.tup 3 [(fq 3 5), (gq 3 5)])])] (fq 8 5) (.nd (.nd (.nd (.nd .lf 30497467 [(.tup 4 [(.tup 3 [(fq 0 1), (fq 2 1)]), (.tup 3 [(fq 1 1), (fq 0 1)]), (.tup 3 [(fq 0 1), (fq 0 1)])]), (.tup 4 [(.tup 3 [(fq 0 1), (gq 1 1)]), (.tup 3 [(fq 0 1), (gq 0 1)]), (.tup 3 [(fq 0 1), (fq 0 1)])])] (fq 0 1) .lf) 31597199 [(.tup 4 [(.tup 3 [(fq 2 1), (fq 0 1)]), (.tup 3 [(fq 1 1), (fq 0 1)]), (.tup 3 [(fq 383 64), (fq 0 1)])]), (.tup 4 [(.tup 3 [(fq 2 1), (fq 0 1)]), (.tup 3 [(fq 1 1), (fq 0 1)]), (.tup 3 [(fq 383 64), (fq 0 1)])])] (fq 383 24) .lf) 32186714 [(.tup 4 [(.tup 3 [(fq 0 1), (gq 1 1)]), (.tup 3 [(fq 0 1), (gq 0 1)]), (.tup 3 [(fq 1 1), (fq 0 1)])]), (.tup 4 [(.tup 3 [(fq 0 1), (gq 1 1)]), (.tup 3 [(fq 1 1), (fq 0 1)]), (.tup 3 [(fq 1 1), (fq 0 1)])])] (fq 0 1) (.nd (.nd .lf 34141003 [(.tup 4 [(.tup 3 [(fq 0 1), (gq 1 1)]), (.tup 3 [(fq 1 1), (fq 0 1)]), (.tup 3 [(fq 3 5), (gq 3 5)])]), (.tup 4 [(.tup 3 [(fq 0 1), (fq 2 1)]), (.tup 3 [(fq 0 1), (fq 1 1)]), (.tup 3 [(fq 3 5), (fq 4 5)])])] (fq 0 1) .lf) 37165202 [(.tup 4 [(.tup 3 [(fq 0 1), (gq 1 1)]), (.tup 3 [(fq 1 1), (fq 0 1)]), (.tup 3 [(fq 6 5), (fq 8 5)])]), (.tup 4 [(.tup 3 [(fq 0 1), (fq 2 1)]), (.tup 3 [(fq 0 1), (fq 1 1)]), (.tup 3 [(fq 6 5), (gq 7 5)])])] (fq 0 1) .lf)) 40272743 [(.tup 4 [(.tup 3 [(fq 0 1), (fq 2 1)]), (.tup 3 [(fq 0 1), (fq 1 1)]), (.tup 3 [(fq 3 5), (fq 4 5)])]), (.tup 4 [(.tup 3 [(fq 0 1), (gq 1 1)]), (.tup 3 [(fq 1 1), (fq 0 1)]), (.tup 3 [(fq 3 5), (gq 3 5)])])] (fq 0 1) (.nd (.nd (.nd .lf 41900034 [(.tup 4 [(.tup 3 [(fq 0 1), (fq 2 1)]), (.tup 3 [(fq 0 1), (fq 1 1)]), (.tup 3 [(fq 0 1), (fq 0 1)])]), (.tup 4 [(.tup 3 [(fq 0 1), (gq 1 1)]), (.tup 3 [(fq 0 1), (gq 0 1)]), (.tup 3 [(fq 0 1), (fq 0 1)])])] (fq 0 1) .lf) 47806171 [(.tup 4 [(.tup 3 [(fq 3 1), (fq 0 1)]), (.tup 3 [(fq 1 1), (fq 0 1)]), (.tup 3 [(fq 1023 256), (fq 0 1)])]), (.tup 4 [(.tup 3 [(fq 2 1), (fq 0 1)]), (.tup 3 [(fq 1 1), (fq 0 1)]), (.tup 3 [(fq 1535 256), (fq 0 1)])])] (fq 3837 320) .lf) 50042343 [(.tup 4 [(.tup 3 [(fq 3 1), (fq 0 1)]), (.tup 3 [(fq 1 1), (fq 0 1)]), (.tup 3 [(fq 1 1), (fq 0 1)])]), (.tup 4 [(.tup 3 [(fq 2 1), (fq 0 1)]), (.tup 3 [(fq 1 1), (fq 0 1)]), (.tup 3 [(fq 2 1), (fq 0 1)])])] (fq 18 5) (.nd .lf 50250880 [(.tup 4 [(.tup 3 [(fq 3 1), (fq 0 1)]), (.tup 3 [(fq 1 1), (fq 0 1)]), (.tup 3 [(fq 1 1), (fq 0 1)])]), (.tup 4 [(.tup 3 [(fq 2 1), (fq 0 1)]), (.tup 3 [(fq 1 1), (fq 0 1)]), (.tup 3 [(fq 3 1), (fq 0 1)])])] (fq 24 5) .lf)))) 51179846 [(.tup 4 [(.tup 3 [(fq 3 1), (fq 0 1)]), (.tup 3 [(fq 1 1), (fq 0 1)]), (.tup 3 [(fq 255 128), (fq 0 1)])]), (.tup 4 [(.tup 3 [(fq 2 1), (fq 0 1)]), (.tup 3 [(fq 1 1), (fq 0 1)]), (.tup 3 [(fq 383 128), (fq 0 1)])])] (fq 957 160) (.nd (.nd (.nd (.nd (.nd .lf 52775913 [(.tup 4 [(.tup 3 [(fq 3 1), (fq 0 1)]), (.tup 3 [(fq 1 1), (fq 0 1)]), (.tup 3 [(fq 1023 256), (fq 0 1)])]), (.tup 4 [(.tup 3 [(fq 3 1), (fq 0 1)]), (.tup 3 [(fq 1 1), (fq 0 1)]), (.tup 3 [(fq 1023 256), (fq 0 1)])])] (fq 9207 1024) .lf) 54443713 [(.tup 4 [(.tup 3 [(fq 0 1), (fq 2 1)]), (.tup 3 [(fq 1 1), (fq 0 1)]), (.tup 3 [(fq 0 1), (fq 0 1)])]), (.tup 4 [(.tup 3 [(fq 2 1), (fq 0 1)]), (.tup 3 [(fq 1 1), (fq 0 1)]), (.tup 3 [(fq 0 1), (fq 0 1)])])] (fq 0 1) .lf) 55202243 [(.tup 4 [(.tup 3 [(fq 1 1), (fq 1 1)]), (.tup 3 [(fq 1 1), (fq 0 1)]), (.tup 3 [(fq 1 1), (fq 0 1)])]), (.tup 4 [(.tup 3 [(fq 1 1), (fq 1 1)]), (.tup 3 [(fq 0 1), (fq 1 1)]), (.tup 3 [(fq 1 1), (fq 0 1)])])] (fq 4 5) (.nd (.nd .lf 55857281 [(.tup 4 [(.tup 3 [(fq 0 1), (gq 1 1)]), (.tup 3 [(fq 0 1), (gq 0 1)]), (.tup 3 [(fq 6 5), (fq 16 5)])]), (.tup 4 [(.tup 3 [(fq 0 1), (gq 1 1)]), (.tup 3 [(fq 1 1), (fq 0 1)]), (.tup 3 [(fq 6 5), (fq 16 5)])])] (fq 128 25) .lf) 62487002 [(.tup 4 [(.tup 3 [(fq 2 1), (fq 0 1)]), (.tup 3 [(fq 1 1), (fq 0 1)]), (.tup 3 [(fq 3 1), (fq 0 1)])]), (.tup 4 [(.tup 3 [(fq 3 2), (fq 0 1)]), (.tup 3 [(fq 1 1), (fq 0 1)]), (.tup 3 [(fq 0 1), (fq 0 1)])])] (fq 9 2) .lf)) 62695539 [(.tup 4 [(.tup 3 [(fq 2 1), (fq 0 1)]), (.tup 3 [(fq 1 1), (fq 0 1)]), (.tup 3 [(fq 3 1), (fq 0 1)])]), (.tup 4 [(.tup 3 [(fq 3 2), (fq 0 1)]), (.tup 3 [(fq 1 1), (fq 0 1)]), (.tup 3 [(fq 1 1), (fq 0 1)])])] (fq 6 1) (.nd (.nd (.nd .lf 63529687 [(.tup 4 [(.tup 3 [(fq 2 1), (fq 0 1)]), (.tup 3 [(fq 1 1), (fq 0 1)]), (.tup 3 [(fq 3 1), (fq 0 1)])]), (.tup 4 [(.tup 3 [(fq 3 2), (fq 0 1)]), (.tup 3 [(fq 1 1), (fq 0 1)]), (.tup 3 [(fq 5 1), (fq 0 1)])])] (fq 12 1) .lf) 64390743 [(.tup 4 [(.tup 3 [(fq 2 1), (fq 0 1)]), (.tup 3 [(fq 1 1), (fq 0 1)]), (.tup 3 [(fq 3 1), (fq 0 1)])]), (.tup 4 [(.tup 3 [(fq 3 2), (fq 0 1)]), (.tup 3 [(fq 1 1), (fq 0 1)]), (.tup 3 [(fq 9 5), (fq 0 1)])])] (fq 36 5) .lf) 75459063 [(.tup 4 [(.tup 3 [(fq 0 1), (gq 1 1)]), (.tup 3 [(fq 1 1), (fq 0 1)]), (.tup 3 [(fq 6 5), (fq 8 5)])]), (.tup 4 [(.tup 3 [(fq 0 1), (gq 1 1)]), (.tup 3 [(fq 1 1), (fq 0 1)]), (.tup 3 [(fq 6 5), (fq 8 5)])])] (fq 48 25) (.nd (.nd .lf 77987013 [(.tup 4 [(.tup 3 [(fq 2 1), (fq 1 1)]), (.tup 3 [(fq 1 1), (fq 0 1)]), (.tup 3 [(fq 1 1), (fq 0 1)])]), (.tup 4 [(.tup 3 [(fq 2 1), (gq 0 1)]), (.tup 3 [(fq 0 1), (gq 0 1)]), (.tup 3 [(fq 1 1), (fq 0 1)])])] (fq 0 1) .lf) 82198038 [(.tup 4 [(.tup 3 [(fq 3 1), (fq 0 1)]), (.tup 3 [(fq 1 1), (fq 0 1)]), (.tup 3 [(fq 31 8), (fq 0 1)])]), (.tup 4 [(.tup 3 [(fq 2 1), (fq 0 1)]), (.tup 3 [(fq 1 1), (fq 0 1)]), (.tup 3 [(fq 47 8), (fq 0 1)])])] (fq 117 10) .lf))) 86911407 [(.tup 4 [(.tup 3 [(fq 2 1), (fq 0 1)]), (.tup 3 [(fq 1 1), (fq 0 1)]), (.tup 3 [(fq 47 16), (fq 0 1)])]), (.tup 4 [(.tup 3 [(fq 3 1), (fq 0 1)]), (.tup 3 [(fq 1 1), (fq 0 1)]), (.tup 3 [(fq 31 16), (fq 0 1)])])] (fq 117 20) (.nd (.nd (.nd (.nd .lf 89389580 [(.tup 4 [(.tup 3 [(fq 2 1), (fq 1 1)]), (.tup 3 [(fq 0 1), (fq 1 1)]), (.tup 3 [(fq 1 1), (fq 0 1)])]), (.tup 4 [(.tup 3 [(fq 2 1), (gq 0 1)]), (.tup 3 [(fq 0 1), (gq 0 1)]), (.tup 3 [(fq 1 1), (fq 0 1)])])] (fq 5 2) .lf) 94118075 [(.tup 4 [(.tup 3 [(fq 0 1), (gq 1 1)]), (.tup 3 [(fq 1 1), (fq 0 1)]), (.tup 3 [(fq 6 5), (fq 16 5)])]), (.tup 4 [(.tup 3 [(fq 0 1), (fq 2 1)]), (.tup 3 [(fq 0 1), (fq 1 1)]), (.tup 3 [(fq 6 5), (gq 15 5)])])] (fq 0 1) .lf) 95843497 [(.tup 4 [(.tup 3 [(fq 0 1), (fq 2 1)]), (.tup 3 [(fq 0 1), (fq 1 1)]), (.tup 3 [(fq 3 5), (fq 8 5)])]), (.tup 4 [(.tup 3 [(fq 0 1), (gq 1 1)]), (.tup 3 [(fq 0 1), (gq 0 1)]), (.tup 3 [(fq 3 5), (gq 7 5)])])] (fq 8 5) (.nd (.nd .lf 98026358 [(.tup 4 [(.tup 3 [(gq 0 1), (gq 0 1)]), (.tup 3 [(fq 1 1), (fq 0 1)]), (.tup 3 [(fq 1 1), (gq 0 2)])]), (.tup 4 [(.tup 3 [(gq 0 1), (fq 1 1)]), (.tup 3 [(fq 1 1), (fq 0 1)]), (.tup 3 [(fq 1 1), (fq 1 2)])])] (fq 4 1) .lf) 101327804 [(.tup 4 [(.tup 3 [(gq 2 1), (fq 0 1)]), (.tup 3 [(fq 1 1), (fq 0 1)]), (.tup 3 [(fq 1 1), (fq 0 1)])]), (.tup 4 [(.tup 3 [(gq 2 1), (fq 0 1)]), (.tup 3 [(fq 1 1), (fq 0 1)]), (.tup 3 [(fq 1 1), (fq 0 1)])])] (fq 9 4) .lf)) 102717603 [(.tup 4 [(.tup 3 [(fq 3 1), (fq 0 1)]), (.tup 3 [(fq 1 1), (fq 0 1)]), (.tup 3 [(fq 1 1), (fq 0 1)])]), (.tup 4 [(.tup 3 [(fq 0 1), (gq 1 1)]), (.tup 3 [(fq 0 1), (gq 0 1)]), (.tup 3 [(fq 0 1), (fq 0 1)])])] (fq 6 37) (.nd (.nd (.nd .lf 108301382 [(.tup 4 [(.tup 3 [(fq 0 1), (gq 1 1)]), (.tup 3 [(fq 0 1), (gq 0 1)]), (.tup 3 [(fq 3 5), (fq 8 5)])]), (.tup 4 [(.tup 3 [(fq 0 1), (fq 2 1)]), (.tup 3 [(fq 1 1), (fq 0 1)]), (.tup 3 [(fq 3 5), (gq 7 5)])])] (fq 0 1) .lf) 108741369 [(.tup 4 [(.tup 3 [(fq 0 1), (gq 1 1)]), (.tup 3 [(fq 1 1), (fq 0 1)]), (.tup 3 [(fq 1 1), (fq 0 1)])]), (.tup 4 [(.tup 3 [(fq 0 1), (gq 1 1)]), (.tup 3 [(fq 1 1), (fq 0 1)]), (.tup 3 [(fq 1 1), (fq 0 1)])])] (fq 8 5) .lf) 110522531 [(.tup 4 [(.tup 3 [(gq 2 1), (fq 0 1)]), (.tup 3 [(fq 1 1), (fq 0 1)]), (.tup 3 [(fq 18 1), (fq 0 1)])]), (.tup 4 [(.tup 3 [(gq 2 1), (fq 0 1)]), (.tup 3 [(fq 1 1), (fq 0 1)]), (.tup 3 [(fq 18 1), (fq 0 1)])])] (fq 81 2) (.nd .lf 112161013 [(.tup 4 [(.tup 3 [(fq 3 1), (fq 0 1)]), (.tup 3 [(fq 1 1), (fq 0 1)]), (.tup 3 [(fq 4 1), (fq 0 1)])]), (.tup 4 [(.tup 3 [(fq 3 1), (fq 0 1)]), (.tup 3 [(fq 1 1), (fq 0 1)]), (.tup 3 [(fq 4 1), (fq 0 1)])])] (fq 9 1) .lf))))) 116645149 [(.tup 4 [(.tup 3 [(fq 2 1), (fq 0 1)]), (.tup 3 [(fq 1 1), (fq 0 1)]), (.tup 3 [(fq 383 64), (fq 0 1)])]), (.tup 4 [(.tup 3 [(fq 3 1), (fq 0 1)]), (.tup 3 [(fq 1 1), (fq 0 1)]), (.tup 3 [(fq 255 64), (fq 0 1)])])] (fq 957 80) (.nd (.nd (.nd (.nd (.nd (.nd .lf 117079787 [(.tup 4 [(.tup 3 [(fq 1 1), (fq 1 1)]), (.tup 3 [(fq 1 1), (fq 0 1)]), (.tup 3 [(fq 1 1), (fq 0 1)])]), (.tup 4 [(.tup 3 [(fq 1 1), (gq 0 1)]), (.tup 3 [(fq 0 1), (gq 0 1)]), (.tup 3 [(fq 1 1), (fq 0 1)])])] (fq 0 1) .lf) 117180671 [(.tup 4 [(.tup 3 [(gq 0 1), (fq 1 1)]), (.tup 3 [(fq 0 1), (fq 1 1)]), (.tup 3 [(fq 1 1), (fq 1 2)])]), (.tup 4 [(.tup 3 [(gq 0 1), (gq 0 1)]), (.tup 3 [(fq 0 1), (gq 0 1)]), (.tup 3 [(fq 1 1), (gq 0 2)])])] (fq 4 1) .lf) 119179182 [(.tup 4 [(.tup 3 [(fq 0 1), (gq 1 1)]), (.tup 3 [(fq 0 1), (gq 0 1)]), (.tup 3 [(fq 0 1), (fq 0 1)])]), (.tup 4 [(.tup 3 [(fq 2 1), (fq 0 1)]), (.tup 3 [(fq 1 1), (fq 0 1)]), (.tup 3 [(fq 0 1), (fq 0 1)])])] (fq 0 1) (.nd (.nd .lf 120807351 [(.tup 4 [(.tup 3 [(fq 3 1), (fq 0 1)]), (.tup 3 [(fq 1 1), (fq 0 1)]), (.tup 3 [(fq 15 8), (fq 0 1)])]), (.tup 4 [(.tup 3 [(fq 3 1), (fq 0 1)]), (.tup 3 [(fq 1 1), (fq 0 1)]), (.tup 3 [(fq 15 8), (fq 0 1)])])] (fq 135 32) .lf) 123340063 [(.tup 4 [(.tup 3 [(fq 0 1), (gq 1 1)]), (.tup 3 [(fq 0 1), (gq 0 1)]), (.tup 3 [(fq 3 5), (gq 7 5)])]), (.tup 4 [(.tup 3 [(fq 0 1), (fq 2 1)]), (.tup 3 [(fq 1 1), (fq 0 1)]), (.tup 3 [(fq 3 5), (fq 8 5)])])] (fq 0 1) .lf)) 123891440 [(.tup 4 [(.tup 3 [(fq 3 1), (fq 0 1)]), (.tup 3 [(fq 1 1), (fq 0 1)]), (.tup 3 [(fq 63 32), (fq 0 1)])]), (.tup 4 [(.tup 3 [(fq 3 1), (fq 0 1)]), (.tup 3 [(fq 1 1), (fq 0 1)]), (.tup 3 [(fq 63 32), (fq 0 1)])])] (fq 567 128) (.nd (.nd (.nd .lf 127016138 [(.tup 4 [(.tup 3 [(fq 0 1), (fq 2 1)]), (.tup 3 [(fq 1 1), (fq 0 1)]), (.tup 3 [(fq 6 5), (gq 7 5)])]), (.tup 4 [(.tup 3 [(fq 0 1), (fq 2 1)]), (.tup 3 [(fq 1 1), (fq 0 1)]), (.tup 3 [(fq 6 5), (gq 7 5)])])] (fq 48 25) .lf) 128482354 [(.tup 4 [(.tup 3 [(fq 1 1), (fq 1 1)]), (.tup 3 [(fq 0 1), (fq 1 1)]), (.tup 3 [(fq 1 1), (fq 0 1)])]), (.tup 4 [(.tup 3 [(fq 1 1), (gq 0 1)]), (.tup 3 [(fq 0 1), (gq 0 1)]), (.tup 3 [(fq 1 1), (fq 0 1)])])] (fq 4 1) .lf) 131806976 [(.tup 4 [(.tup 3 [(gq 0 1), (gq 0 1)]), (.tup 3 [(fq 1 1), (fq 0 1)]), (.tup 3 [(fq 1 1), (gq 0 2)])]), (.tup 4 [(.tup 3 [(gq 0 1), (fq 1 1)]), (.tup 3 [(fq 0 1), (fq 1 1)]), (.tup 3 [(fq 1 1), (fq 1 2)])])] (fq 0 1) (.nd (.nd .lf 132411936 [(.tup 4 [(.tup 3 [(fq 0 1), (gq 1 1)]), (.tup 3 [(fq 1 1), (fq 0 1)]), (.tup 3 [(fq 6 5), (fq 16 5)])]), (.tup 4 [(.tup 3 [(fq 0 1), (gq 1 1)]), (.tup 3 [(fq 1 1), (fq 0 1)]), (.tup 3 [(fq 6 5), (fq 16 5)])])] (fq 48 25) .lf) 133162311 [(.tup 4 [(.tup 3 [(fq 1 1), (fq 1 1)]), (.tup 3 [(fq 1 1), (fq 0 1)]), (.tup 3 [(fq 1 1), (fq 0 1)])]), (.tup 4 [(.tup 3 [(fq 2 1), (fq 1 1)]), (.tup 3 [(fq 1 1), (fq 0 1)]), (.tup 3 [(fq 1 1), (fq 0 1)])])] (fq 2 1) .lf))) 136227796 [(.tup 4 [(.tup 3 [(fq 3 1), (fq 0 1)]), (.tup 3 [(fq 1 1), (fq 0 1)]), (.tup 3 [(fq 255 128), (fq 0 1)])]), (.tup 4 [(.tup 3 [(fq 3 1), (fq 0 1)]), (.tup 3 [(fq 1 1), (fq 0 1)]), (.tup 3 [(fq 255 128), (fq 0 1)])])] (fq 2295 512) (.nd (.nd (.nd (.nd .lf 136272780 [(.tup 4 [(.tup 3 [(fq 0 1), (gq 1 1)]), (.tup 3 [(fq 0 1), (gq 0 1)]), (.tup 3 [(fq 3 5), (fq 4 5)])]), (.tup 4 [(.tup 3 [(fq 0 1), (fq 2 1)]), (.tup 3 [(fq 0 1), (fq 1 1)]), (.tup 3 [(fq 3 5), (gq 3 5)])])] (fq 8 5) .lf) 137485024 [(.tup 4 [(.tup 3 [(fq 3 1), (fq 0 1)]), (.tup 3 [(fq 1 1), (fq 0 1)]), (.tup 3 [(fq 7 2), (fq 0 1)])]), (.tup 4 [(.tup 3 [(fq 3 1), (fq 0 1)]), (.tup 3 [(fq 1 1), (fq 0 1)]), (.tup 3 [(fq 7 2), (fq 0 1)])])] (fq 63 8) .lf) 137714410 [(.tup 4 [(.tup 3 [(fq 2 1), (fq 0 1)]), (.tup 3 [(fq 1 1), (fq 0 1)]), (.tup 3 [(fq 3071 512), (fq 0 1)])]), (.tup 4 [(.tup 3 [(fq 3 1), (fq 0 1)]), (.tup 3 [(fq 1 1), (fq 0 1)]), (.tup 3 [(fq 2047 512), (fq 0 1)])])] (fq 7677 640) (.nd (.nd .lf 138418705 [(.tup 4 [(.tup 3 [(fq 0 1), (fq 2 1)]), (.tup 3 [(fq 0 1), (fq 1 1)]), (.tup 3 [(fq 6 5), (gq 7 5)])]), (.tup 4 [(.tup 3 [(fq 0 1), (fq 2 1)]), (.tup 3 [(fq 1 1), (fq 0 1)]), (.tup 3 [(fq 6 5), (gq 7 5)])])] (fq 64 25) .lf) 157120681 [(.tup 4 [(.tup 3 [(fq 0 1), (gq 1 1)]), (.tup 3 [(fq 0 1), (gq 0 1)]), (.tup 3 [(fq 3 5), (gq 7 5)])]), (.tup 4 [(.tup 3 [(fq 0 1), (fq 2 1)]), (.tup 3 [(fq 0 1), (fq 1 1)]), (.tup 3 [(fq 3 5), (fq 8 5)])])] (fq 8 5) .lf)) 157746284 [(.tup 4 [(.tup 3 [(fq 2 1), (gq 0 1)]), (.tup 3 [(fq 0 1), (gq 0 1)]), (.tup 3 [(fq 1 1), (fq 0 1)])]), (.tup 4 [(.tup 3 [(fq 2 1), (gq 0 1)]), (.tup 3 [(fq 1 1), (fq 0 1)]), (.tup 3 [(fq 1 1), (fq 0 1)])])] (fq 2 5) (.nd (.nd (.nd .lf 161574492 [(.tup 4 [(.tup 3 [(fq 3 1), (fq 0 1)]), (.tup 3 [(fq 1 1), (fq 0 1)]), (.tup 3 [(fq 1 1), (fq 0 1)])]), (.tup 4 [(.tup 3 [(fq 3 1), (fq 0 1)]), (.tup 3 [(fq 1 1), (fq 0 1)]), (.tup 3 [(fq 1 1), (fq 0 1)])])] (fq 9 4) .lf) 162778243 [(.tup 4 [(.tup 3 [(fq 0 1), (fq 2 1)]), (.tup 3 [(fq 0 1), (fq 1 1)]), (.tup 3 [(gq 0 1), (fq 0 1)])]), (.tup 4 [(.tup 3 [(fq 0 1), (gq 1 1)]), (.tup 3 [(fq 0 1), (gq 0 1)]), (.tup 3 [(gq 0 1), (fq 0 1)])])] (gq 7 3) .lf) 166392936 [(.tup 4 [(.tup 3 [(fq 0 1), (fq 2 1)]), (.tup 3 [(fq 1 1), (fq 0 1)]), (.tup 3 [(fq 0 1), (fq 0 1)])]), (.tup 4 [(.tup 3 [(fq 3 1), (fq 0 1)]), (.tup 3 [(fq 1 1), (fq 0 1)]), (.tup 3 [(fq 1 1), (fq 0 1)])])] (fq 36 37) (.nd .lf 166942929 [(.tup 4 [(.tup 3 [(fq 1 1), (fq 1 1)]), (.tup 3 [(fq 1 1), (fq 0 1)]), (.tup 3 [(fq 1 1), (fq 0 1)])]), (.tup 4 [(.tup 3 [(fq 2 1), (fq 1 1)]), (.tup 3 [(fq 0 1), (fq 1 1)]), (.tup 3 [(fq 1 1), (fq 0 1)])])] (fq 2 3) .lf)))) 167108778 [(.tup 4 [(.tup 3 [(fq 3 1), (fq 0 1)]), (.tup 3 [(fq 1 1), (fq 0 1)]), (.tup 3 [(fq 4095 1024), (fq 0 1)])]), (.tup 4 [(.tup 3 [(fq 2 1), (fq 0 1)]), (.tup 3 [(fq 1 1), (fq 0 1)]), (.tup 3 [(fq 6143 1024), (fq 0 1)])])] (fq 15357 1280) (.nd (.nd (.nd (.nd (.nd .lf 167277775 [(.tup 4 [(.tup 3 [(fq 2 1), (fq 0 1)]), (.tup 3 [(fq 1 1), (fq 0 1)]), (.tup 3 [(fq 0 1), (fq 0 1)])]), (.tup 4 [(.tup 3 [(fq 0 1), (gq 1 1)]), (.tup 3 [(fq 0 1), (gq 0 1)]), (.tup 3 [(fq 0 1), (fq 0 1)])])] (fq 0 1) .lf) 174687727 [(.tup 4 [(.tup 3 [(fq 0 1), (gq 1 1)]), (.tup 3 [(fq 0 1), (gq 0 1)]), (.tup 3 [(fq 3 5), (fq 4 5)])]), (.tup 4 [(.tup 3 [(fq 0 1), (gq 1 1)]), (.tup 3 [(fq 1 1), (fq 0 1)]), (.tup 3 [(fq 3 5), (fq 4 5)])])] (fq 32 25) .lf) 176053466 [(.tup 4 [(.tup 3 [(fq 3 1), (fq 0 1)]), (.tup 3 [(fq 1 1), (fq 0 1)]), (.tup 3 [(fq 7 4), (fq 0 1)])]), (.tup 4 [(.tup 3 [(fq 2 1), (fq 0 1)]), (.tup 3 [(fq 1 1), (fq 0 1)]), (.tup 3 [(fq 11 4), (fq 0 1)])])] (fq 27 5) (.nd (.nd .lf 176816894 [(.tup 4 [(.tup 3 [(fq 0 1), (fq 2 1)]), (.tup 3 [(fq 0 1), (fq 1 1)]), (.tup 3 [(fq 0 1), (fq 0 1)])]), (.tup 4 [(.tup 3 [(fq 0 1), (fq 2 1)]), (.tup 3 [(fq 1 1), (fq 0 1)]), (.tup 3 [(fq 0 1), (fq 0 1)])])] (fq 0 1) .lf) 180711393 [(.tup 4 [(.tup 3 [(fq 0 1), (fq 2 1)]), (.tup 3 [(fq 0 1), (fq 1 1)]), (.tup 3 [(fq 3 5), (fq 4 5)])]), (.tup 4 [(.tup 3 [(fq 0 1), (fq 2 1)]), (.tup 3 [(fq 1 1), (fq 0 1)]), (.tup 3 [(fq 3 5), (fq 4 5)])])] (gq 31 25) .lf)) 182958021 [(.tup 4 [(.tup 3 [(fq 2 1), (fq 0 1)]), (.tup 3 [(fq 1 1), (fq 0 1)]), (.tup 3 [(fq 7 1), (fq 0 1)])]), (.tup 4 [(.tup 3 [(fq 2 1), (fq 0 1)]), (.tup 3 [(fq 1 1), (fq 0 1)]), (.tup 3 [(fq 7 1), (fq 0 1)])])] (fq 56 3) (.nd (.nd (.nd .lf 183969011 [(.tup 4 [(.tup 3 [(fq 0 1), (fq 2 1)]), (.tup 3 [(fq 1 1), (fq 0 1)]), (.tup 3 [(fq 6 5), (gq 15 5)])]), (.tup 4 [(.tup 3 [(fq 0 1), (fq 2 1)]), (.tup 3 [(fq 1 1), (fq 0 1)]), (.tup 3 [(fq 6 5), (gq 15 5)])])] (fq 48 25) .lf) 184011274 [(.tup 4 [(.tup 3 [(fq 0 1), (fq 2 1)]), (.tup 3 [(fq 0 1), (fq 1 1)]), (.tup 3 [(fq 3 5), (gq 7 5)])]), (.tup 4 [(.tup 3 [(fq 0 1), (gq 1 1)]), (.tup 3 [(fq 0 1), (gq 0 1)]), (.tup 3 [(fq 3 5), (fq 8 5)])])] (fq 8 5) .lf) 184856037 [(.tup 4 [(.tup 3 [(fq 0 1), (gq 1 1)]), (.tup 3 [(fq 1 1), (fq 0 1)]), (.tup 3 [(fq 3 5), (fq 8 5)])]), (.tup 4 [(.tup 3 [(fq 0 1), (fq 2 1)]), (.tup 3 [(fq 1 1), (fq 0 1)]), (.tup 3 [(fq 3 5), (gq 7 5)])])] (fq 8 5) (.nd (.nd .lf 187231426 [(.tup 4 [(.tup 3 [(fq 0 1), (gq 1 1)]), (.tup 3 [(fq 1 1), (fq 0 1)]), (.tup 3 [(fq 1 1), (fq 0 1)])]), (.tup 4 [(.tup 3 [(fq 0 1), (fq 2 1)]), (.tup 3 [(fq 1 1), (fq 0 1)]), (.tup 3 [(fq 1 1), (fq 0 1)])])] (fq 8 3) .lf) 187891656 [(.tup 4 [(.tup 3 [(fq 2 1), (fq 0 1)]), (.tup 3 [(fq 1 1), (fq 0 1)]), (.tup 3 [(fq 95 16), (fq 0 1)])]), (.tup 4 [(.tup 3 [(fq 2 1), (fq 0 1)]), (.tup 3 [(fq 1 1), (fq 0 1)]), (.tup 3 [(fq 95 16), (fq 0 1)])])] (fq 95 6) .lf))) 190602132 [(.tup 4 [(.tup 3 [(fq 3 1), (fq 0 1)]), (.tup 3 [(fq 1 1), (fq 0 1)]), (.tup 3 [(fq 31 8), (fq 0 1)])]), (.tup 4 [(.tup 3 [(fq 3 1), (fq 0 1)]), (.tup 3 [(fq 1 1), (fq 0 1)]), (.tup 3 [(fq 31 8), (fq 0 1)])])] (fq 279 32) (.nd (.nd (.nd (.nd .lf 194059834 [(.tup 4 [(.tup 3 [(fq 2 1), (fq 0 1)]), (.tup 3 [(fq 1 1), (fq 0 1)]), (.tup 3 [(fq 191 64), (fq 0 1)])]), (.tup 4 [(.tup 3 [(fq 2 1), (fq 0 1)]), (.tup 3 [(fq 1 1), (fq 0 1)]), (.tup 3 [(fq 191 64), (fq 0 1)])])] (fq 191 24) .lf) 194589071 [(.tup 4 [(.tup 3 [(fq 3 1), (fq 0 1)]), (.tup 3 [(fq 1 1), (fq 0 1)]), (.tup 3 [(fq 511 128), (fq 0 1)])]), (.tup 4 [(.tup 3 [(fq 2 1), (fq 0 1)]), (.tup 3 [(fq 1 1), (fq 0 1)]), (.tup 3 [(fq 767 128), (fq 0 1)])])] (fq 1917 160) .lf) 195371578 [(.tup 4 [(.tup 3 [(fq 0 1), (fq 2 1)]), (.tup 3 [(fq 0 1), (fq 1 1)]), (.tup 3 [(fq 6 5), (gq 15 5)])]), (.tup 4 [(.tup 3 [(fq 0 1), (fq 2 1)]), (.tup 3 [(fq 1 1), (fq 0 1)]), (.tup 3 [(fq 6 5), (gq 15 5)])])] (fq 128 25) (.nd (.nd .lf 197372321 [(.tup 4 [(.tup 3 [(fq 1 1), (gq 0 1)]), (.tup 3 [(fq 1 1), (fq 0 1)]), (.tup 3 [(fq 1 1), (fq 0 1)])]), (.tup 4 [(.tup 3 [(fq 1 1), (gq 0 1)]), (.tup 3 [(fq 1 1), (fq 0 1)]), (.tup 3 [(fq 1 1), (fq 0 1)])])] (fq 8 5) .lf) 199894718 [(.tup 4 [(.tup 3 [(fq 0 1), (gq 1 1)]), (.tup 3 [(fq 1 1), (fq 0 1)]), (.tup 3 [(fq 3 5), (gq 7 5)])]), (.tup 4 [(.tup 3 [(fq 0 1), (fq 2 1)]), (.tup 3 [(fq 1 1), (fq 0 1)]), (.tup 3 [(fq 3 5), (fq 8 5)])])] (fq 8 5) .lf)) 210597512 [(.tup 4 [(.tup 3 [(fq 0 1), (fq 2 1)]), (.tup 3 [(fq 0 1), (fq 1 1)]), (.tup 3 [(fq 0 1), (fq 0 1)])]), (.tup 4 [(.tup 3 [(fq 0 1), (fq 2 1)]), (.tup 3 [(fq 0 1), (fq 1 1)]), (.tup 3 [(fq 0 1), (fq 0 1)])])] (fq 0 1) (.nd (.nd (.nd .lf 212827435 [(.tup 4 [(.tup 3 [(fq 0 1), (gq 1 1)]), (.tup 3 [(fq 1 1), (fq 0 1)]), (.tup 3 [(fq 3 5), (fq 4 5)])]), (.tup 4 [(.tup 3 [(fq 0 1), (fq 2 1)]), (.tup 3 [(fq 0 1), (fq 1 1)]), (.tup 3 [(fq 3 5), (gq 3 5)])])] (fq 0 1) .lf) 214492011 [(.tup 4 [(.tup 3 [(fq 0 1), (fq 2 1)]), (.tup 3 [(fq 0 1), (fq 1 1)]), (.tup 3 [(fq 3 5), (fq 4 5)])]), (.tup 4 [(.tup 3 [(fq 0 1), (fq 2 1)]), (.tup 3 [(fq 0 1), (fq 1 1)]), (.tup 3 [(fq 3 5), (fq 4 5)])])] (gq 23 25) .lf) 221012044 [(.tup 4 [(.tup 3 [(fq 0 1), (gq 1 1)]), (.tup 3 [(fq 1 1), (fq 0 1)]), (.tup 3 [(fq 1 1), (fq 0 1)])]), (.tup 4 [(.tup 3 [(fq 0 1), (fq 2 1)]), (.tup 3 [(fq 0 1), (fq 1 1)]), (.tup 3 [(fq 1 1), (fq 0 1)])])] (fq 0 1) (.nd .lf 230668455 [(.tup 4 [(.tup 3 [(fq 0 1), (fq 2 1)]), (.tup 3 [(fq 0 1), (fq 1 1)]), (.tup 3 [(fq 3 5), (gq 3 5)])]), (.tup 4 [(.tup 3 [(fq 0 1), (gq 1 1)]), (.tup 3 [(fq 0 1), (gq 0 1)]), (.tup 3 [(fq 3 5), (fq 4 5)])])] (fq 8 5) .lf))))))
def t2_3 : Tr := (.nd (.nd (.nd (.nd (.nd (.nd (.nd .lf 232371500 [(.tup 4 [(.tup 3 [(fq 2 1), (fq 0 1)]), (.tup 3 [(fq 1 1), (fq 0 1)]), (.tup 3 [(fq 4 1), (fq 0 1)])]), (.tup 4 [(.tup 3 [(fq 2 1), (fq 0 1)]), (.tup 3 [(fq 1 1), (fq 0 1)]), (.tup 3 [(fq 4 1), (fq 0 1)])])] (fq 32 3) .lf) 233675336 [(.tup 4 [(.tup 3 [(fq 0 1), (gq 1 1)]), (.tup 3 [(fq 1 1), (fq 0 1)]), (.tup 3 [(fq 3 5), (gq 7 5)])]), (.tup 4 [(.tup 3 [(fq 0 1), (fq 2 1)]), (.tup 3 [(fq 0 1), (fq 1 1)]), (.tup 3 [(fq 3 5), (fq 8 5)])])] (fq 0 1) .lf) 239515612 [(.tup 4 [(.tup 3 [(fq 2 1), (fq 0 1)]), (.tup 3 [(fq 1 1), (fq 0 1)]), (.tup 3 [(fq 3071 512), (fq 0 1)])]), (.tup 4 [(.tup 3 [(fq 2 1), (fq 0 1)]), (.tup 3 [(fq 1 1), (fq 0 1)]), (.tup 3 [(fq 3071 512), (fq 0 1)])])] (fq 3071 192) (.nd (.nd .lf 240516639 [(.tup 4 [(.tup 3 [(fq 0 1), (gq 1 1)]), (.tup 3 [(fq 0 1), (gq 0 1)]), (.tup 3 [(fq 3 5), (gq 7 5)])]), (.tup 4 [(.tup 3 [(fq 0 1), (gq 1 1)]), (.tup 3 [(fq 0 1), (gq 0 1)]), (.tup 3 [(fq 3 5), (gq 7 5)])])] (gq 23 25) .lf) 245559409 [(.tup 4 [(.tup 3 [(fq 0 1), (fq 2 1)]), (.tup 3 [(fq 1 1), (fq 0 1)]), (.tup 3 [(fq 3 5), (gq 3 5)])]), (.tup 4 [(.tup 3 [(fq 0 1), (fq 2 1)]), (.tup 3 [(fq 1 1), (fq 0 1)]), (.tup 3 [(fq 3 5), (gq 3 5)])])] (fq 24 25) .lf)) 251242382 [(.tup 4 [(.tup 3 [(fq 0 1), (gq 1 1)]), (.tup 3 [(fq 1 1), (fq 0 1)]), (.tup 3 [(fq 3 5), (fq 4 5)])]), (.tup 4 [(.tup 3 [(fq 0 1), (gq 1 1)]), (.tup 3 [(fq 1 1), (fq 0 1)]), (.tup 3 [(fq 3 5), (fq 4 5)])])] (fq 24 25) (.nd (.nd (.nd .lf 252944285 [(.tup 4 [(.tup 3 [(fq 3 1), (fq 0 1)]), (.tup 3 [(fq 1 1), (fq 0 1)]), (.tup 3 [(fq 511 128), (fq 0 1)])]), (.tup 4 [(.tup 3 [(fq 3 1), (fq 0 1)]), (.tup 3 [(fq 1 1), (fq 0 1)]), (.tup 3 [(fq 511 128), (fq 0 1)])])] (fq 4599 512) .lf) 253937876 [(.tup 4 [(.tup 3 [(fq 0 1), (fq 2 1)]), (.tup 3 [(fq 1 1), (fq 0 1)]), (.tup 3 [(gq 0 1), (fq 0 1)])]), (.tup 4 [(.tup 3 [(fq 0 1), (fq 2 1)]), (.tup 3 [(fq 1 1), (fq 0 1)]), (.tup 3 [(gq 0 1), (fq 0 1)])])] (gq 7 5) .lf) 254649931 [(.tup 4 [(.tup 3 [(gq 0 1), (fq 1 1)]), (.tup 3 [(fq 0 1), (fq 1 1)]), (.tup 3 [(fq 1 1), (fq 1 2)])]), (.tup 4 [(.tup 3 [(gq 0 1), (gq 0 1)]), (.tup 3 [(fq 1 1), (fq 0 1)]), (.tup 3 [(fq 1 1), (gq 0 2)])])] (fq 0 1) (.nd (.nd .lf 256961976 [(.tup 4 [(.tup 3 [(fq 0 1), (fq 2 1)]), (.tup 3 [(fq 0 1), (fq 1 1)]), (.tup 3 [(fq 3 5), (gq 3 5)])]), (.tup 4 [(.tup 3 [(fq 0 1), (fq 2 1)]), (.tup 3 [(fq 1 1), (fq 0 1)]), (.tup 3 [(fq 3 5), (gq 3 5)])])] (fq 32 25) .lf) 260189400 [(.tup 4 [(.tup 3 [(fq 3 2), (fq 0 1)]), (.tup 3 [(fq 1 1), (fq 0 1)]), (.tup 3 [(fq 0 1), (fq 0 1)])]), (.tup 4 [(.tup 3 [(fq 3 2), (fq 0 1)]), (.tup 3 [(fq 1 1), (fq 0 1)]), (.tup 3 [(fq 0 1), (fq 0 1)])])] (fq 0 1) .lf))) 262017504 [(.tup 4 [(.tup 3 [(fq 3 2), (fq 0 1)]), (.tup 3 [(fq 1 1), (fq 0 1)]), (.tup 3 [(fq 9 5), (fq 0 1)])]), (.tup 4 [(.tup 3 [(fq 2 1), (fq 0 1)]), (.tup 3 [(fq 1 1), (fq 0 1)]), (.tup 3 [(fq 3 1), (fq 0 1)])])] (fq 36 5) (.nd (.nd (.nd (.nd .lf 265340443 [(.tup 4 [(.tup 3 [(fq 0 1), (fq 2 1)]), (.tup 3 [(fq 0 1), (fq 1 1)]), (.tup 3 [(gq 0 1), (fq 0 1)])]), (.tup 4 [(.tup 3 [(fq 0 1), (fq 2 1)]), (.tup 3 [(fq 1 1), (fq 0 1)]), (.tup 3 [(gq 0 1), (fq 0 1)])])] (fq 0 1) .lf) 266939967 [(.tup 4 [(.tup 3 [(fq 0 1), (gq 1 1)]), (.tup 3 [(fq 0 1), (gq 0 1)]), (.tup 3 [(fq 0 1), (fq 0 1)])]), (.tup 4 [(.tup 3 [(fq 0 1), (gq 1 1)]), (.tup 3 [(fq 1 1), (fq 0 1)]), (.tup 3 [(fq 0 1), (fq 0 1)])])] (fq 0 1) .lf) 267980521 [(.tup 4 [(.tup 3 [(fq 3 1), (fq 0 1)]), (.tup 3 [(fq 1 1), (fq 0 1)]), (.tup 3 [(fq 255 64), (fq 0 1)])]), (.tup 4 [(.tup 3 [(fq 2 1), (fq 0 1)]), (.tup 3 [(fq 1 1), (fq 0 1)]), (.tup 3 [(fq 383 64), (fq 0 1)])])] (fq 957 80) (.nd (.nd .lf 268441751 [(.tup 4 [(.tup 3 [(fq 2 1), (fq 1 1)]), (.tup 3 [(fq 1 1), (fq 0 1)]), (.tup 3 [(fq 1 1), (fq 0 1)])]), (.tup 4 [(.tup 3 [(fq 1 1), (gq 0 1)]), (.tup 3 [(fq 0 1), (gq 0 1)]), (.tup 3 [(fq 1 1), (fq 0 1)])])] (fq 2 5) .lf) 275782370 [(.tup 4 [(.tup 3 [(fq 0 1), (fq 2 1)]), (.tup 3 [(fq 1 1), (fq 0 1)]), (.tup 3 [(fq 3 5), (fq 8 5)])]), (.tup 4 [(.tup 3 [(fq 0 1), (gq 1 1)]), (.tup 3 [(fq 0 1), (gq 0 1)]), (.tup 3 [(fq 3 5), (gq 7 5)])])] (fq 0 1) .lf)) 279041272 [(.tup 4 [(.tup 3 [(fq 0 1), (gq 1 1)]), (.tup 3 [(fq 0 1), (gq 0 1)]), (.tup 3 [(fq 3 5), (fq 8 5)])]), (.tup 4 [(.tup 3 [(fq 0 1), (gq 1 1)]), (.tup 3 [(fq 0 1), (gq 0 1)]), (.tup 3 [(fq 3 5), (fq 8 5)])])] (gq 23 25) (.nd (.nd (.nd .lf 279844318 [(.tup 4 [(.tup 3 [(fq 2 1), (fq 1 1)]), (.tup 3 [(fq 0 1), (fq 1 1)]), (.tup 3 [(fq 1 1), (fq 0 1)])]), (.tup 4 [(.tup 3 [(fq 1 1), (gq 0 1)]), (.tup 3 [(fq 0 1), (gq 0 1)]), (.tup 3 [(fq 1 1), (fq 0 1)])])] (fq 14 5) .lf) 281784979 [(.tup 4 [(.tup 3 [(fq 2 1), (fq 0 1)]), (.tup 3 [(fq 1 1), (fq 0 1)]), (.tup 3 [(fq 1 1), (fq 0 1)])]), (.tup 4 [(.tup 3 [(fq 2 1), (fq 0 1)]), (.tup 3 [(fq 1 1), (fq 0 1)]), (.tup 3 [(fq 1 1), (fq 0 1)])])] (fq 8 3) .lf) 283595927 [(.tup 4 [(.tup 3 [(gq 0 1), (fq 1 1)]), (.tup 3 [(fq 0 1), (fq 1 1)]), (.tup 3 [(fq 1 1), (fq 1 2)])]), (.tup 4 [(.tup 3 [(gq 0 1), (fq 1 1)]), (.tup 3 [(fq 1 1), (fq 0 1)]), (.tup 3 [(fq 1 1), (fq 1 2)])])] (gq 7 5) (.nd .lf 286960004 [(.tup 4 [(.tup 3 [(fq 3 1), (fq 0 1)]), (.tup 3 [(fq 1 1), (fq 0 1)]), (.tup 3 [(fq 7 4), (fq 0 1)])]), (.tup 4 [(.tup 3 [(fq 3 1), (fq 0 1)]), (.tup 3 [(fq 1 1), (fq 0 1)]), (.tup 3 [(fq 7 4), (fq 0 1)])])] (fq 63 16) .lf)))) 292454152 [(.tup 4 [(.tup 3 [(fq 2 1), (fq 0 1)]), (.tup 3 [(fq 1 1), (fq 0 1)]), (.tup 3 [(fq 191 64), (fq 0 1)])]), (.tup 4 [(.tup 3 [(fq 3 1), (fq 0 1)]), (.tup 3 [(fq 1 1), (fq 0 1)]), (.tup 3 [(fq 127 64), (fq 0 1)])])] (fq 477 80) (.nd (.nd (.nd (.nd (.nd .lf 292959158 [(.tup 4 [(.tup 3 [(fq 2 1), (fq 0 1)]), (.tup 3 [(fq 1 1), (fq 0 1)]), (.tup 3 [(fq 95 16), (fq 0 1)])]), (.tup 4 [(.tup 3 [(fq 3 1), (fq 0 1)]), (.tup 3 [(fq 1 1), (fq 0 1)]), (.tup 3 [(fq 63 16), (fq 0 1)])])] (fq 237 20) .lf) 294281633 [(.tup 4 [(.tup 3 [(fq 2 1), (fq 0 1)]), (.tup 3 [(fq 1 1), (fq 0 1)]), (.tup 3 [(fq 7 1), (fq 0 1)])]), (.tup 4 [(.tup 3 [(fq 3 1), (fq 0 1)]), (.tup 3 [(fq 1 1), (fq 0 1)]), (.tup 3 [(fq 5 1), (fq 0 1)])])] (fq 72 5) .lf) 304017385 [(.tup 4 [(.tup 3 [(fq 0 1), (gq 1 1)]), (.tup 3 [(fq 0 1), (gq 0 1)]), (.tup 3 [(fq 3 5), (gq 7 5)])]), (.tup 4 [(.tup 3 [(fq 0 1), (gq 1 1)]), (.tup 3 [(fq 1 1), (fq 0 1)]), (.tup 3 [(fq 3 5), (gq 7 5)])])] (gq 63 25) (.nd (.nd .lf 304676246 [(.tup 4 [(.tup 3 [(fq 3 1), (fq 0 1)]), (.tup 3 [(fq 1 1), (fq 0 1)]), (.tup 3 [(fq 127 32), (fq 0 1)])]), (.tup 4 [(.tup 3 [(fq 2 1), (fq 0 1)]), (.tup 3 [(fq 1 1), (fq 0 1)]), (.tup 3 [(fq 191 32), (fq 0 1)])])] (fq 477 40) .lf) 317376545 [(.tup 4 [(.tup 3 [(gq 0 1), (fq 1 1)]), (.tup 3 [(fq 0 1), (fq 1 1)]), (.tup 3 [(fq 1 1), (fq 1 2)])]), (.tup 4 [(.tup 3 [(gq 0 1), (fq 1 1)]), (.tup 3 [(fq 0 1), (fq 1 1)]), (.tup 3 [(fq 1 1), (fq 1 2)])])] (gq 5 5) .lf)) 317699577 [(.tup 4 [(.tup 3 [(fq 3 1), (fq 0 1)]), (.tup 3 [(fq 1 1), (fq 0 1)]), (.tup 3 [(fq 5 1), (fq 0 1)])]), (.tup 4 [(.tup 3 [(fq 2 1), (fq 0 1)]), (.tup 3 [(fq 1 1), (fq 0 1)]), (.tup 3 [(fq 7 1), (fq 0 1)])])] (fq 72 5) (.nd (.nd (.nd .lf 325698453 [(.tup 4 [(.tup 3 [(fq 0 1), (gq 1 1)]), (.tup 3 [(fq 0 1), (gq 0 1)]), (.tup 3 [(fq 3 5), (fq 4 5)])]), (.tup 4 [(.tup 3 [(fq 0 1), (gq 1 1)]), (.tup 3 [(fq 0 1), (gq 0 1)]), (.tup 3 [(fq 3 5), (fq 4 5)])])] (gq 23 25) .lf) 330483680 [(.tup 4 [(.tup 3 [(fq 0 1), (fq 2 1)]), (.tup 3 [(fq 1 1), (fq 0 1)]), (.tup 3 [(fq 3 5), (gq 7 5)])]), (.tup 4 [(.tup 3 [(fq 0 1), (fq 2 1)]), (.tup 3 [(fq 0 1), (fq 1 1)]), (.tup 3 [(fq 3 5), (gq 7 5)])])] (fq 64 25) .lf) 334800979 [(.tup 4 [(.tup 3 [(fq 2 1), (fq 0 1)]), (.tup 3 [(fq 1 1), (fq 0 1)]), (.tup 3 [(fq 3 1), (fq 0 1)])]), (.tup 4 [(.tup 3 [(gq 2 1), (fq 0 1)]), (.tup 3 [(fq 1 1), (fq 0 1)]), (.tup 3 [(fq 0 1), (fq 0 1)])])] (fq 18 7) (.nd (.nd .lf 334993251 [(.tup 4 [(.tup 3 [(gq 2 1), (fq 0 1)]), (.tup 3 [(fq 1 1), (fq 0 1)]), (.tup 3 [(fq 1 2), (fq 0 1)])]), (.tup 4 [(.tup 3 [(fq 2 1), (fq 0 1)]), (.tup 3 [(fq 1 1), (fq 0 1)]), (.tup 3 [(fq 3 1), (fq 0 1)])])] (fq 3 1) .lf) 335009516 [(.tup 4 [(.tup 3 [(fq 2 1), (fq 0 1)]), (.tup 3 [(fq 1 1), (fq 0 1)]), (.tup 3 [(fq 3 1), (fq 0 1)])]), (.tup 4 [(.tup 3 [(gq 2 1), (fq 0 1)]), (.tup 3 [(fq 1 1), (fq 0 1)]), (.tup 3 [(fq 1 1), (fq 0 1)])])] (fq 24 7) .lf))) 335016243 [(.tup 4 [(.tup 3 [(fq 2 1), (fq 0 1)]), (.tup 3 [(fq 1 1), (fq 0 1)]), (.tup 3 [(fq 3 1), (fq 0 1)])]), (.tup 4 [(.tup 3 [(gq 2 1), (fq 0 1)]), (.tup 3 [(fq 1 1), (fq 0 1)]), (.tup 3 [(fq 1 2), (fq 0 1)])])] (fq 3 1) (.nd (.nd (.nd (.nd .lf 336081057 [(.tup 4 [(.tup 3 [(gq 2 1), (fq 0 1)]), (.tup 3 [(fq 1 1), (fq 0 1)]), (.tup 3 [(fq 0 1), (fq 0 1)])]), (.tup 4 [(.tup 3 [(gq 2 1), (fq 0 1)]), (.tup 3 [(fq 1 1), (fq 0 1)]), (.tup 3 [(fq 0 1), (fq 0 1)])])] (fq 0 1) .lf) 338554645 [(.tup 4 [(.tup 3 [(fq 2 1), (fq 0 1)]), (.tup 3 [(fq 1 1), (fq 0 1)]), (.tup 3 [(fq 3 1), (fq 0 1)])]), (.tup 4 [(.tup 3 [(gq 2 1), (fq 0 1)]), (.tup 3 [(fq 1 1), (fq 0 1)]), (.tup 3 [(fq 18 1), (fq 0 1)])])] (fq 18 1) .lf) 341886247 [(.tup 4 [(.tup 3 [(fq 0 1), (fq 2 1)]), (.tup 3 [(fq 0 1), (fq 1 1)]), (.tup 3 [(fq 3 5), (gq 7 5)])]), (.tup 4 [(.tup 3 [(fq 0 1), (fq 2 1)]), (.tup 3 [(fq 0 1), (fq 1 1)]), (.tup 3 [(fq 3 5), (gq 7 5)])])] (gq 23 25) (.nd (.nd .lf 343494622 [(.tup 4 [(.tup 3 [(fq 0 1), (gq 1 1)]), (.tup 3 [(fq 1 1), (fq 0 1)]), (.tup 3 [(fq 0 1), (fq 0 1)])]), (.tup 4 [(.tup 3 [(fq 0 1), (gq 1 1)]), (.tup 3 [(fq 1 1), (fq 0 1)]), (.tup 3 [(fq 0 1), (fq 0 1)])])] (fq 0 1) .lf) 343695112 [(.tup 4 [(.tup 3 [(fq 2 1), (fq 0 1)]), (.tup 3 [(fq 1 1), (fq 0 1)]), (.tup 3 [(fq 4 1), (fq 0 1)])]), (.tup 4 [(.tup 3 [(fq 3 1), (fq 0 1)]), (.tup 3 [(fq 1 1), (fq 0 1)]), (.tup 3 [(fq 2 1), (fq 0 1)])])] (fq 36 5) .lf)) 344852783 [(.tup 4 [(.tup 3 [(fq 0 1), (gq 1 1)]), (.tup 3 [(fq 0 1), (gq 0 1)]), (.tup 3 [(gq 0 1), (fq 0 1)])]), (.tup 4 [(.tup 3 [(fq 0 1), (fq 2 1)]), (.tup 3 [(fq 0 1), (fq 1 1)]), (.tup 3 [(gq 0 1), (fq 0 1)])])] (gq 7 3) (.nd (.nd (.nd .lf 348734285 [(.tup 4 [(.tup 3 [(fq 2 1), (gq 0 1)]), (.tup 3 [(fq 1 1), (fq 0 1)]), (.tup 3 [(fq 1 1), (fq 0 1)])]), (.tup 4 [(.tup 3 [(fq 1 1), (gq 0 1)]), (.tup 3 [(fq 1 1), (fq 0 1)]), (.tup 3 [(fq 1 1), (fq 0 1)])])] (fq 2 1) .lf) 349250944 [(.tup 4 [(.tup 3 [(fq 0 1), (gq 1 1)]), (.tup 3 [(fq 0 1), (gq 0 1)]), (.tup 3 [(fq 1 1), (fq 0 1)])]), (.tup 4 [(.tup 3 [(fq 0 1), (gq 1 1)]), (.tup 3 [(fq 0 1), (gq 0 1)]), (.tup 3 [(fq 1 1), (fq 0 1)])])] (gq 7 5) .lf) 350674566 [(.tup 4 [(.tup 3 [(fq 0 1), (gq 1 1)]), (.tup 3 [(fq 0 1), (gq 0 1)]), (.tup 3 [(fq 3 5), (gq 3 5)])]), (.tup 4 [(.tup 3 [(fq 0 1), (gq 1 1)]), (.tup 3 [(fq 1 1), (fq 0 1)]), (.tup 3 [(fq 3 5), (gq 3 5)])])] (gq 31 25) (.nd .lf 353028471 [(.tup 4 [(.tup 3 [(fq 3 1), (fq 0 1)]), (.tup 3 [(fq 1 1), (fq 0 1)]), (.tup 3 [(fq 255 64), (fq 0 1)])]), (.tup 4 [(.tup 3 [(fq 3 1), (fq 0 1)]), (.tup 3 [(fq 1 1), (fq 0 1)]), (.tup 3 [(fq 255 64), (fq 0 1)])])] (fq 2295 256) .lf))))) 354675192 [(.tup 4 [(.tup 3 [(fq 2 1), (fq 0 1)]), (.tup 3 [(fq 1 1), (fq 0 1)]), (.tup 3 [(fq 0 1), (fq 0 1)])]), (.tup 4 [(.tup 3 [(fq 0 1), (fq 2 1)]), (.tup 3 [(fq 1 1), (fq 0 1)]), (.tup 3 [(fq 0 1), (fq 0 1)])])] (fq 0 1) (.nd (.nd (.nd (.nd (.nd (.nd .lf 360731953 [(.tup 4 [(.tup 3 [(fq 1 1), (fq 1 1)]), (.tup 3 [(fq 0 1), (fq 1 1)]), (.tup 3 [(fq 1 1), (fq 0 1)])]), (.tup 4 [(.tup 3 [(fq 1 1), (gq 0 1)]), (.tup 3 [(fq 1 1), (fq 0 1)]), (.tup 3 [(fq 1 1), (fq 0 1)])])] (fq 0 1) .lf) 363950147 [(.tup 4 [(.tup 3 [(fq 0 1), (fq 2 1)]), (.tup 3 [(fq 1 1), (fq 0 1)]), (.tup 3 [(fq 3 5), (gq 7 5)])]), (.tup 4 [(.tup 3 [(fq 0 1), (gq 1 1)]), (.tup 3 [(fq 0 1), (gq 0 1)]), (.tup 3 [(fq 3 5), (fq 8 5)])])] (fq 0 1) .lf) 366904519 [(.tup 4 [(.tup 3 [(fq 3 1), (fq 0 1)]), (.tup 3 [(fq 1 1), (fq 0 1)]), (.tup 3 [(fq 2 1), (fq 0 1)])]), (.tup 4 [(.tup 3 [(fq 2 1), (fq 0 1)]), (.tup 3 [(fq 1 1), (fq 0 1)]), (.tup 3 [(fq 3 1), (fq 0 1)])])] (fq 6 1) (.nd (.nd .lf 367113056 [(.tup 4 [(.tup 3 [(fq 3 1), (fq 0 1)]), (.tup 3 [(fq 1 1), (fq 0 1)]), (.tup 3 [(fq 2 1), (fq 0 1)])]), (.tup 4 [(.tup 3 [(fq 2 1), (fq 0 1)]), (.tup 3 [(fq 1 1), (fq 0 1)]), (.tup 3 [(fq 4 1), (fq 0 1)])])] (fq 36 5) .lf) 368898627 [(.tup 4 [(.tup 3 [(fq 0 1), (fq 2 1)]), (.tup 3 [(fq 1 1), (fq 0 1)]), (.tup 3 [(fq 3 5), (gq 7 5)])]), (.tup 4 [(.tup 3 [(fq 0 1), (gq 1 1)]), (.tup 3 [(fq 1 1), (fq 0 1)]), (.tup 3 [(fq 3 5), (fq 8 5)])])] (fq 8 5) .lf)) 370412957 [(.tup 4 [(.tup 3 [(fq 0 1), (gq 1 1)]), (.tup 3 [(fq 1 1), (fq 0 1)]), (.tup 3 [(fq 3 5), (fq 8 5)])]), (.tup 4 [(.tup 3 [(fq 0 1), (gq 1 1)]), (.tup 3 [(fq 0 1), (gq 0 1)]), (.tup 3 [(fq 3 5), (fq 8 5)])])] (fq 64 25) (.nd (.nd (.nd .lf 377727266 [(.tup 4 [(.tup 3 [(fq 0 1), (fq 2 1)]), (.tup 3 [(fq 0 1), (fq 1 1)]), (.tup 3 [(fq 1 1), (fq 0 1)])]), (.tup 4 [(.tup 3 [(fq 0 1), (gq 1 1)]), (.tup 3 [(fq 1 1), (fq 0 1)]), (.tup 3 [(fq 1 1), (fq 0 1)])])] (fq 0 1) .lf) 380245726 [(.tup 4 [(.tup 3 [(fq 0 1), (fq 2 1)]), (.tup 3 [(fq 0 1), (fq 1 1)]), (.tup 3 [(fq 3 5), (fq 8 5)])]), (.tup 4 [(.tup 3 [(fq 0 1), (fq 2 1)]), (.tup 3 [(fq 1 1), (fq 0 1)]), (.tup 3 [(fq 3 5), (fq 8 5)])])] (gq 63 25) .lf) 380301194 [(.tup 4 [(.tup 3 [(fq 0 1), (fq 2 1)]), (.tup 3 [(fq 0 1), (fq 1 1)]), (.tup 3 [(fq 3 5), (gq 7 5)])]), (.tup 4 [(.tup 3 [(fq 0 1), (gq 1 1)]), (.tup 3 [(fq 1 1), (fq 0 1)]), (.tup 3 [(fq 3 5), (fq 8 5)])])] (fq 0 1) (.nd (.nd .lf 380607400 [(.tup 4 [(.tup 3 [(fq 2 1), (fq 0 1)]), (.tup 3 [(fq 1 1), (fq 0 1)]), (.tup 3 [(fq 47 8), (fq 0 1)])]), (.tup 4 [(.tup 3 [(fq 2 1), (fq 0 1)]), (.tup 3 [(fq 1 1), (fq 0 1)]), (.tup 3 [(fq 47 8), (fq 0 1)])])] (fq 47 3) .lf) 382698108 [(.tup 4 [(.tup 3 [(fq 0 1), (fq 2 1)]), (.tup 3 [(fq 0 1), (fq 1 1)]), (.tup 3 [(fq 6 5), (gq 15 5)])]), (.tup 4 [(.tup 3 [(fq 0 1), (gq 1 1)]), (.tup 3 [(fq 0 1), (gq 0 1)]), (.tup 3 [(fq 6 5), (fq 16 5)])])] (fq 16 5) .lf))) 383691489 [(.tup 4 [(.tup 3 [(fq 2 1), (fq 0 1)]), (.tup 3 [(fq 1 1), (fq 0 1)]), (.tup 3 [(fq 95 32), (fq 0 1)])]), (.tup 4 [(.tup 3 [(fq 2 1), (fq 0 1)]), (.tup 3 [(fq 1 1), (fq 0 1)]), (.tup 3 [(fq 95 32), (fq 0 1)])])] (fq 95 12) (.nd (.nd (.nd (.nd .lf 388455810 [(.tup 4 [(.tup 3 [(fq 2 1), (fq 0 1)]), (.tup 3 [(fq 1 1), (fq 0 1)]), (.tup 3 [(fq 0 1), (fq 0 1)])]), (.tup 4 [(.tup 3 [(fq 0 1), (fq 2 1)]), (.tup 3 [(fq 0 1), (fq 1 1)]), (.tup 3 [(fq 0 1), (fq 0 1)])])] (fq 0 1) .lf) 400353940 [(.tup 4 [(.tup 3 [(fq 0 1), (gq 1 1)]), (.tup 3 [(fq 1 1), (fq 0 1)]), (.tup 3 [(fq 3 5), (gq 3 5)])]), (.tup 4 [(.tup 3 [(fq 0 1), (gq 1 1)]), (.tup 3 [(fq 0 1), (gq 0 1)]), (.tup 3 [(fq 3 5), (gq 3 5)])])] (gq 31 25) .lf) 403070564 [(.tup 4 [(.tup 3 [(fq 3 1), (fq 0 1)]), (.tup 3 [(fq 1 1), (fq 0 1)]), (.tup 3 [(fq 127 32), (fq 0 1)])]), (.tup 4 [(.tup 3 [(fq 3 1), (fq 0 1)]), (.tup 3 [(fq 1 1), (fq 0 1)]), (.tup 3 [(fq 127 32), (fq 0 1)])])] (fq 1143 128) (.nd (.nd .lf 404162716 [(.tup 4 [(.tup 3 [(fq 0 1), (gq 1 1)]), (.tup 3 [(fq 0 1), (gq 0 1)]), (.tup 3 [(fq 6 5), (fq 8 5)])]), (.tup 4 [(.tup 3 [(fq 0 1), (fq 2 1)]), (.tup 3 [(fq 1 1), (fq 0 1)]), (.tup 3 [(fq 6 5), (gq 7 5)])])] (fq 0 1) .lf) 406419378 [(.tup 4 [(.tup 3 [(fq 2 1), (fq 0 1)]), (.tup 3 [(fq 1 1), (fq 0 1)]), (.tup 3 [(fq 1535 256), (fq 0 1)])]), (.tup 4 [(.tup 3 [(fq 2 1), (fq 0 1)]), (.tup 3 [(fq 1 1), (fq 0 1)]), (.tup 3 [(fq 1535 256), (fq 0 1)])])] (fq 1535 96) .lf)) 406467652 [(.tup 4 [(.tup 3 [(fq 2 1), (fq 1 1)]), (.tup 3 [(fq 0 1), (fq 1 1)]), (.tup 3 [(fq 1 1), (fq 0 1)])]), (.tup 4 [(.tup 3 [(fq 1 1), (gq 0 1)]), (.tup 3 [(fq 1 1), (fq 0 1)]), (.tup 3 [(fq 1 1), (fq 0 1)])])] (gq 1 5) (.nd (.nd (.nd .lf 409177561 [(.tup 4 [(.tup 3 [(gq 0 1), (fq 1 1)]), (.tup 3 [(fq 1 1), (fq 0 1)]), (.tup 3 [(fq 1 1), (fq 1 2)])]), (.tup 4 [(.tup 3 [(gq 0 1), (fq 1 1)]), (.tup 3 [(fq 1 1), (fq 0 1)]), (.tup 3 [(fq 1 1), (fq 1 2)])])] (fq 6 5) .lf) 410607328 [(.tup 4 [(.tup 3 [(fq 0 1), (fq 2 1)]), (.tup 3 [(fq 1 1), (fq 0 1)]), (.tup 3 [(fq 3 5), (gq 3 5)])]), (.tup 4 [(.tup 3 [(fq 0 1), (gq 1 1)]), (.tup 3 [(fq 0 1), (gq 0 1)]), (.tup 3 [(fq 3 5), (fq 4 5)])])] (fq 0 1) .lf) 410898923 [(.tup 4 [(.tup 3 [(fq 3 2), (fq 0 1)]), (.tup 3 [(fq 1 1), (fq 0 1)]), (.tup 3 [(fq 9 5), (fq 0 1)])]), (.tup 4 [(.tup 3 [(fq 3 2), (fq 0 1)]), (.tup 3 [(fq 1 1), (fq 0 1)]), (.tup 3 [(fq 9 5), (fq 0 1)])])] (fq 162 25) (.nd .lf 411389120 [(.tup 4 [(.tup 3 [(fq 2 1), (fq 0 1)]), (.tup 3 [(fq 1 1), (fq 0 1)]), (.tup 3 [(fq 1535 256), (fq 0 1)])]), (.tup 4 [(.tup 3 [(fq 3 1), (fq 0 1)]), (.tup 3 [(fq 1 1), (fq 0 1)]), (.tup 3 [(fq 1023 256), (fq 0 1)])])] (fq 3837 320) .lf)))) 412520766 [(.tup 4 [(.tup 3 [(fq 1 1), (gq 0 1)]), (.tup 3 [(fq 0 1), (gq 0 1)]), (.tup 3 [(fq 1 1), (fq 0 1)])]), (.tup 4 [(.tup 3 [(fq 2 1), (gq 0 1)]), (.tup 3 [(fq 0 1), (gq 0 1)]), (.tup 3 [(fq 1 1), (fq 0 1)])])] (gq 1 1) (.nd (.nd (.nd (.nd (.nd .lf 414026344 [(.tup 4 [(.tup 3 [(fq 0 1), (fq 2 1)]), (.tup 3 [(fq 0 1), (fq 1 1)]), (.tup 3 [(fq 3 5), (fq 8 5)])]), (.tup 4 [(.tup 3 [(fq 0 1), (fq 2 1)]), (.tup 3 [(fq 0 1), (fq 1 1)]), (.tup 3 [(fq 3 5), (fq 8 5)])])] (gq 23 25) .lf) 417070138 [(.tup 4 [(.tup 3 [(fq 0 1), (gq 1 1)]), (.tup 3 [(fq 1 1), (fq 0 1)]), (.tup 3 [(fq 3 5), (fq 4 5)])]), (.tup 4 [(.tup 3 [(fq 0 1), (gq 1 1)]), (.tup 3 [(fq 0 1), (gq 0 1)]), (.tup 3 [(fq 3 5), (fq 4 5)])])] (fq 32 25) .lf) 429023189 [(.tup 4 [(.tup 3 [(fq 3 1), (fq 0 1)]), (.tup 3 [(fq 1 1), (fq 0 1)]), (.tup 3 [(fq 5 1), (fq 0 1)])]), (.tup 4 [(.tup 3 [(fq 3 1), (fq 0 1)]), (.tup 3 [(fq 1 1), (fq 0 1)]), (.tup 3 [(fq 5 1), (fq 0 1)])])] (fq 45 4) (.nd (.nd .lf 431259959 [(.tup 4 [(.tup 3 [(fq 2 1), (fq 0 1)]), (.tup 3 [(fq 1 1), (fq 0 1)]), (.tup 3 [(fq 1 3), (fq 0 1)])]), (.tup 4 [(.tup 3 [(fq 2 1), (fq 0 1)]), (.tup 3 [(fq 1 1), (fq 0 1)]), (.tup 3 [(fq 1 3), (fq 0 1)])])] (fq 8 9) .lf) 434588804 [(.tup 4 [(.tup 3 [(gq 0 1), (fq 1 1)]), (.tup 3 [(fq 1 1), (fq 0 1)]), (.tup 3 [(fq 1 1), (fq 1 2)])]), (.tup 4 [(.tup 3 [(gq 0 1), (gq 0 1)]), (.tup 3 [(fq 1 1), (fq 0 1)]), (.tup 3 [(fq 1 1), (gq 0 2)])])] (fq 4 1) .lf)) 436224468 [(.tup 4 [(.tup 3 [(fq 0 1), (gq 1 1)]), (.tup 3 [(fq 1 1), (fq 0 1)]), (.tup 3 [(gq 0 1), (fq 0 1)])]), (.tup 4 [(.tup 3 [(fq 0 1), (fq 2 1)]), (.tup 3 [(fq 0 1), (fq 1 1)]), (.tup 3 [(gq 0 1), (fq 0 1)])])] (fq 0 1) (.nd (.nd (.nd .lf 439377658 [(.tup 4 [(.tup 3 [(fq 3 1), (fq 0 1)]), (.tup 3 [(fq 1 1), (fq 0 1)]), (.tup 3 [(fq 1 1), (fq 0 1)])]), (.tup 4 [(.tup 3 [(fq 0 1), (fq 2 1)]), (.tup 3 [(fq 1 1), (fq 0 1)]), (.tup 3 [(fq 0 1), (fq 0 1)])])] (fq 36 37) .lf) 440622629 [(.tup 4 [(.tup 3 [(fq 0 1), (gq 1 1)]), (.tup 3 [(fq 1 1), (fq 0 1)]), (.tup 3 [(fq 1 1), (fq 0 1)])]), (.tup 4 [(.tup 3 [(fq 0 1), (gq 1 1)]), (.tup 3 [(fq 0 1), (gq 0 1)]), (.tup 3 [(fq 1 1), (fq 0 1)])])] (fq 0 1) .lf) 442958179 [(.tup 4 [(.tup 3 [(gq 0 1), (fq 1 1)]), (.tup 3 [(fq 1 1), (fq 0 1)]), (.tup 3 [(fq 1 1), (fq 1 2)])]), (.tup 4 [(.tup 3 [(gq 0 1), (fq 1 1)]), (.tup 3 [(fq 0 1), (fq 1 1)]), (.tup 3 [(fq 1 1), (fq 1 2)])])] (gq 7 5) (.nd (.nd .lf 444196102 [(.tup 4 [(.tup 3 [(fq 0 1), (fq 2 1)]), (.tup 3 [(fq 1 1), (fq 0 1)]), (.tup 3 [(fq 0 1), (fq 0 1)])]), (.tup 4 [(.tup 3 [(fq 0 1), (fq 2 1)]), (.tup 3 [(fq 1 1), (fq 0 1)]), (.tup 3 [(fq 0 1), (fq 0 1)])])] (fq 0 1) .lf) 445331977 [(.tup 4 [(.tup 3 [(fq 0 1), (gq 1 1)]), (.tup 3 [(fq 1 1), (fq 0 1)]), (.tup 3 [(fq 3 5), (gq 7 5)])]), (.tup 4 [(.tup 3 [(fq 0 1), (gq 1 1)]), (.tup 3 [(fq 1 1), (fq 0 1)]), (.tup 3 [(fq 3 5), (gq 7 5)])])] (fq 24 25) .lf))) 448090601 [(.tup 4 [(.tup 3 [(fq 0 1), (fq 2 1)]), (.tup 3 [(fq 1 1), (fq 0 1)]), (.tup 3 [(fq 3 5), (fq 4 5)])]), (.tup 4 [(.tup 3 [(fq 0 1), (fq 2 1)]), (.tup 3 [(fq 1 1), (fq 0 1)]), (.tup 3 [(fq 3 5), (fq 4 5)])])] (fq 24 25) (.nd (.nd (.nd (.nd .lf 461115589 [(.tup 4 [(.tup 3 [(fq 0 1), (gq 1 1)]), (.tup 3 [(fq 0 1), (gq 0 1)]), (.tup 3 [(fq 6 5), (fq 16 5)])]), (.tup 4 [(.tup 3 [(fq 0 1), (fq 2 1)]), (.tup 3 [(fq 1 1), (fq 0 1)]), (.tup 3 [(fq 6 5), (gq 15 5)])])] (fq 0 1) .lf) 473158276 [(.tup 4 [(.tup 3 [(fq 3 1), (fq 0 1)]), (.tup 3 [(fq 1 1), (fq 0 1)]), (.tup 3 [(fq 1 1), (fq 0 1)])]), (.tup 4 [(.tup 3 [(fq 0 1), (fq 2 1)]), (.tup 3 [(fq 0 1), (fq 1 1)]), (.tup 3 [(fq 0 1), (fq 0 1)])])] (fq 6 37) .lf) 474246589 [(.tup 4 [(.tup 3 [(fq 3 1), (fq 0 1)]), (.tup 3 [(fq 1 1), (fq 0 1)]), (.tup 3 [(fq 1 1), (fq 0 1)])]), (.tup 4 [(.tup 3 [(fq 0 1), (gq 1 1)]), (.tup 3 [(fq 1 1), (fq 0 1)]), (.tup 3 [(fq 0 1), (fq 0 1)])])] (fq 36 37) (.nd (.nd .lf 476012470 [(.tup 4 [(.tup 3 [(fq 0 1), (fq 2 1)]), (.tup 3 [(fq 0 1), (fq 1 1)]), (.tup 3 [(fq 6 5), (gq 7 5)])]), (.tup 4 [(.tup 3 [(fq 0 1), (gq 1 1)]), (.tup 3 [(fq 0 1), (gq 0 1)]), (.tup 3 [(fq 6 5), (fq 8 5)])])] (fq 16 5) .lf) 476965272 [(.tup 4 [(.tup 3 [(fq 2 1), (fq 0 1)]), (.tup 3 [(fq 1 1), (fq 0 1)]), (.tup 3 [(fq 23 4), (fq 0 1)])]), (.tup 4 [(.tup 3 [(fq 2 1), (fq 0 1)]), (.tup 3 [(fq 1 1), (fq 0 1)]), (.tup 3 [(fq 23 4), (fq 0 1)])])] (fq 46 3) .lf)) 477976720 [(.tup 4 [(.tup 3 [(fq 0 1), (fq 2 1)]), (.tup 3 [(fq 1 1), (fq 0 1)]), (.tup 3 [(fq 0 1), (fq 0 1)])]), (.tup 4 [(.tup 3 [(fq 0 1), (fq 2 1)]), (.tup 3 [(fq 0 1), (fq 1 1)]), (.tup 3 [(fq 0 1), (fq 0 1)])])] (fq 0 1) (.nd (.nd (.nd .lf 478436668 [(.tup 4 [(.tup 3 [(fq 3 1), (fq 0 1)]), (.tup 3 [(fq 1 1), (fq 0 1)]), (.tup 3 [(fq 2 1), (fq 0 1)])]), (.tup 4 [(.tup 3 [(fq 3 1), (fq 0 1)]), (.tup 3 [(fq 1 1), (fq 0 1)]), (.tup 3 [(fq 2 1), (fq 0 1)])])] (fq 9 2) .lf) 480616868 [(.tup 4 [(.tup 3 [(fq 0 1), (gq 1 1)]), (.tup 3 [(fq 1 1), (fq 0 1)]), (.tup 3 [(fq 0 1), (fq 0 1)])]), (.tup 4 [(.tup 3 [(fq 2 1), (fq 0 1)]), (.tup 3 [(fq 1 1), (fq 0 1)]), (.tup 3 [(fq 0 1), (fq 0 1)])])] (fq 0 1) .lf) 480717371 [(.tup 4 [(.tup 3 [(fq 0 1), (gq 1 1)]), (.tup 3 [(fq 1 1), (fq 0 1)]), (.tup 3 [(fq 6 5), (fq 8 5)])]), (.tup 4 [(.tup 3 [(fq 0 1), (fq 2 1)]), (.tup 3 [(fq 1 1), (fq 0 1)]), (.tup 3 [(fq 6 5), (gq 7 5)])])] (fq 16 5) (.nd .lf 481366324 [(.tup 4 [(.tup 3 [(fq 0 1), (gq 1 1)]), (.tup 3 [(fq 1 1), (fq 0 1)]), (.tup 3 [(gq 0 1), (fq 0 1)])]), (.tup 4 [(.tup 3 [(fq 0 1), (gq 1 1)]), (.tup 3 [(fq 0 1), (gq 0 1)]), (.tup 3 [(gq 0 1), (fq 0 1)])])] (fq 0 1) .lf))))))
def t2_1 : Tr := (.nd t2_2 231128405 [(.tup 4 [(.tup 3 [(fq 0 1), (gq 1 1)]), (.tup 3 [(fq 0 1), (gq 0 1)]), (.tup 3 [(fq 0 1), (fq 0 1)])]), (.tup 4 [(.tup 3 [(fq 3 1), (fq 0 1)]), (.tup 3 [(fq 1 1), (fq 0 1)]), (.tup 3 [(fq 1 1), (fq 0 1)])])] (fq 6 37) t2_3)
def t2_5 : Tr := (.nd (.nd (.nd (.nd (.nd (.nd (.nd .lf 486313587 [(.tup 4 [(.tup 3 [(fq 1 1), (fq 1 1)]), (.tup 3 [(fq 1 1), (fq 0 1)]), (.tup 3 [(fq 1 1), (fq 0 1)])]), (.tup 4 [(.tup 3 [(fq 1 1), (gq 0 1)]), (.tup 3 [(fq 1 1), (fq 0 1)]), (.tup 3 [(fq 1 1), (fq 0 1)])])] (fq 4 1) .lf) 487141089 [(.tup 4 [(.tup 3 [(gq 0 1), (gq 0 1)]), (.tup 3 [(fq 0 1), (gq 0 1)]), (.tup 3 [(fq 1 1), (gq 0 2)])]), (.tup 4 [(.tup 3 [(gq 0 1), (fq 1 1)]), (.tup 3 [(fq 1 1), (fq 0 1)]), (.tup 3 [(fq 1 1), (fq 1 2)])])] (fq 0 1) .lf) 488758991 [(.tup 4 [(.tup 3 [(fq 2 1), (fq 0 1)]), (.tup 3 [(fq 1 1), (fq 0 1)]), (.tup 3 [(fq 95 32), (fq 0 1)])]), (.tup 4 [(.tup 3 [(fq 3 1), (fq 0 1)]), (.tup 3 [(fq 1 1), (fq 0 1)]), (.tup 3 [(fq 63 32), (fq 0 1)])])] (fq 237 40) (.nd (.nd .lf 489011494 [(.tup 4 [(.tup 3 [(fq 2 1), (fq 0 1)]), (.tup 3 [(fq 1 1), (fq 0 1)]), (.tup 3 [(fq 47 8), (fq 0 1)])]), (.tup 4 [(.tup 3 [(fq 3 1), (fq 0 1)]), (.tup 3 [(fq 1 1), (fq 0 1)]), (.tup 3 [(fq 31 8), (fq 0 1)])])] (fq 117 10) .lf) 489871261 [(.tup 4 [(.tup 3 [(fq 2 1), (fq 0 1)]), (.tup 3 [(fq 1 1), (fq 0 1)]), (.tup 3 [(fq 767 128), (fq 0 1)])]), (.tup 4 [(.tup 3 [(fq 2 1), (fq 0 1)]), (.tup 3 [(fq 1 1), (fq 0 1)]), (.tup 3 [(fq 767 128), (fq 0 1)])])] (fq 767 48) .lf)) 491989158 [(.tup 4 [(.tup 3 [(fq 0 1), (gq 1 1)]), (.tup 3 [(fq 1 1), (fq 0 1)]), (.tup 3 [(fq 3 5), (gq 3 5)])]), (.tup 4 [(.tup 3 [(fq 0 1), (gq 1 1)]), (.tup 3 [(fq 1 1), (fq 0 1)]), (.tup 3 [(fq 3 5), (gq 3 5)])])] (fq 24 25) (.nd (.nd (.nd .lf 493679070 [(.tup 4 [(.tup 3 [(fq 0 1), (fq 2 1)]), (.tup 3 [(fq 0 1), (fq 1 1)]), (.tup 3 [(fq 1 1), (fq 0 1)])]), (.tup 4 [(.tup 3 [(fq 0 1), (fq 2 1)]), (.tup 3 [(fq 1 1), (fq 0 1)]), (.tup 3 [(fq 1 1), (fq 0 1)])])] (fq 0 1) .lf) 503308900 [(.tup 4 [(.tup 3 [(fq 0 1), (fq 2 1)]), (.tup 3 [(fq 1 1), (fq 0 1)]), (.tup 3 [(fq 1 1), (fq 0 1)])]), (.tup 4 [(.tup 3 [(fq 0 1), (gq 1 1)]), (.tup 3 [(fq 1 1), (fq 0 1)]), (.tup 3 [(fq 1 1), (fq 0 1)])])] (fq 8 3) .lf) 508931571 [(.tup 4 [(.tup 3 [(fq 0 1), (gq 1 1)]), (.tup 3 [(fq 0 1), (gq 0 1)]), (.tup 3 [(fq 0 1), (fq 0 1)])]), (.tup 4 [(.tup 3 [(fq 0 1), (fq 2 1)]), (.tup 3 [(fq 1 1), (fq 0 1)]), (.tup 3 [(fq 0 1), (fq 0 1)])])] (fq 0 1) (.nd (.nd .lf 519872082 [(.tup 4 [(.tup 3 [(gq 2 1), (fq 0 1)]), (.tup 3 [(fq 1 1), (fq 0 1)]), (.tup 3 [(fq 3 1), (fq 0 1)])]), (.tup 4 [(.tup 3 [(gq 1 1), (fq 0 1)]), (.tup 3 [(fq 1 1), (fq 0 1)]), (.tup 3 [(fq 2 1), (fq 0 1)])])] (fq 6 1) .lf) 520921707 [(.tup 4 [(.tup 3 [(gq 0 1), (gq 0 1)]), (.tup 3 [(fq 0 1), (gq 0 1)]), (.tup 3 [(fq 1 1), (gq 0 2)])]), (.tup 4 [(.tup 3 [(gq 0 1), (fq 1 1)]), (.tup 3 [(fq 0 1), (fq 1 1)]), (.tup 3 [(fq 1 1), (fq 1 2)])])] (fq 4 1) .lf))) 522091251 [(.tup 4 [(.tup 3 [(fq 2 1), (fq 1 1)]), (.tup 3 [(fq 0 1), (fq 1 1)]), (.tup 3 [(fq 1 1), (fq 0 1)])]), (.tup 4 [(.tup 3 [(fq 1 1), (fq 1 1)]), (.tup 3 [(fq 1 1), (fq 0 1)]), (.tup 3 [(fq 1 1), (fq 0 1)])])] (fq 2 3) (.nd (.nd (.nd (.nd .lf 524288625 [(.tup 4 [(.tup 3 [(fq 1 1), (gq 0 1)]), (.tup 3 [(fq 1 1), (fq 0 1)]), (.tup 3 [(fq 1 1), (fq 0 1)])]), (.tup 4 [(.tup 3 [(fq 2 1), (gq 0 1)]), (.tup 3 [(fq 1 1), (fq 0 1)]), (.tup 3 [(fq 1 1), (fq 0 1)])])] (fq 2 1) .lf) 525144208 [(.tup 4 [(.tup 3 [(fq 2 1), (fq 0 1)]), (.tup 3 [(fq 1 1), (fq 0 1)]), (.tup 3 [(fq 11 2), (fq 0 1)])]), (.tup 4 [(.tup 3 [(fq 2 1), (fq 0 1)]), (.tup 3 [(fq 1 1), (fq 0 1)]), (.tup 3 [(fq 11 2), (fq 0 1)])])] (fq 44 3) .lf) 527459688 [(.tup 4 [(.tup 3 [(fq 0 1), (fq 2 1)]), (.tup 3 [(fq 0 1), (fq 1 1)]), (.tup 3 [(fq 1 1), (fq 0 1)])]), (.tup 4 [(.tup 3 [(fq 0 1), (fq 2 1)]), (.tup 3 [(fq 0 1), (fq 1 1)]), (.tup 3 [(fq 1 1), (fq 0 1)])])] (gq 7 5) (.nd (.nd .lf 531370431 [(.tup 4 [(.tup 3 [(fq 2 1), (gq 0 1)]), (.tup 3 [(fq 0 1), (gq 0 1)]), (.tup 3 [(fq 1 1), (fq 0 1)])]), (.tup 4 [(.tup 3 [(fq 2 1), (gq 0 1)]), (.tup 3 [(fq 0 1), (gq 0 1)]), (.tup 3 [(fq 1 1), (fq 0 1)])])] (gq 10 5) .lf) 532049286 [(.tup 4 [(.tup 3 [(fq 2 1), (fq 1 1)]), (.tup 3 [(fq 1 1), (fq 0 1)]), (.tup 3 [(fq 1 1), (fq 0 1)])]), (.tup 4 [(.tup 3 [(fq 1 1), (gq 0 1)]), (.tup 3 [(fq 1 1), (fq 0 1)]), (.tup 3 [(fq 1 1), (fq 0 1)])])] (fq 14 5) .lf)) 537670244 [(.tup 4 [(.tup 3 [(fq 0 1), (gq 1 1)]), (.tup 3 [(fq 1 1), (fq 0 1)]), (.tup 3 [(fq 6 5), (fq 16 5)])]), (.tup 4 [(.tup 3 [(fq 0 1), (fq 2 1)]), (.tup 3 [(fq 1 1), (fq 0 1)]), (.tup 3 [(fq 6 5), (gq 15 5)])])] (fq 16 5) (.nd (.nd (.nd .lf 538586120 [(.tup 4 [(.tup 3 [(fq 0 1), (gq 1 1)]), (.tup 3 [(fq 0 1), (gq 0 1)]), (.tup 3 [(fq 6 5), (fq 16 5)])]), (.tup 4 [(.tup 3 [(fq 0 1), (gq 1 1)]), (.tup 3 [(fq 0 1), (gq 0 1)]), (.tup 3 [(fq 6 5), (fq 16 5)])])] (gq 47 25) .lf) 542712189 [(.tup 4 [(.tup 3 [(fq 0 1), (gq 1 1)]), (.tup 3 [(fq 0 1), (gq 0 1)]), (.tup 3 [(fq 0 1), (fq 0 1)])]), (.tup 4 [(.tup 3 [(fq 0 1), (fq 2 1)]), (.tup 3 [(fq 0 1), (fq 1 1)]), (.tup 3 [(fq 0 1), (fq 0 1)])])] (fq 0 1) .lf) 548226475 [(.tup 4 [(.tup 3 [(fq 2 1), (fq 0 1)]), (.tup 3 [(fq 1 1), (fq 0 1)]), (.tup 3 [(fq 767 128), (fq 0 1)])]), (.tup 4 [(.tup 3 [(fq 3 1), (fq 0 1)]), (.tup 3 [(fq 1 1), (fq 0 1)]), (.tup 3 [(fq 511 128), (fq 0 1)])])] (fq 1917 160) (.nd .lf 549233676 [(.tup 4 [(.tup 3 [(fq 2 1), (fq 0 1)]), (.tup 3 [(fq 1 1), (fq 0 1)]), (.tup 3 [(fq 5 1), (fq 0 1)])]), (.tup 4 [(.tup 3 [(fq 2 1), (fq 0 1)]), (.tup 3 [(fq 1 1), (fq 0 1)]), (.tup 3 [(fq 5 1), (fq 0 1)])])] (fq 40 3) .lf)))) 553930261 [(.tup 4 [(.tup 3 [(fq 0 1), (gq 1 1)]), (.tup 3 [(fq 0 1), (gq 0 1)]), (.tup 3 [(gq 0 1), (fq 0 1)])]), (.tup 4 [(.tup 3 [(fq 0 1), (gq 1 1)]), (.tup 3 [(fq 1 1), (fq 0 1)]), (.tup 3 [(gq 0 1), (fq 0 1)])])] (fq 0 1) (.nd (.nd (.nd (.nd (.nd .lf 555871869 [(.tup 4 [(.tup 3 [(fq 2 1), (fq 1 1)]), (.tup 3 [(fq 0 1), (fq 1 1)]), (.tup 3 [(fq 1 1), (fq 0 1)])]), (.tup 4 [(.tup 3 [(fq 1 1), (fq 1 1)]), (.tup 3 [(fq 0 1), (fq 1 1)]), (.tup 3 [(fq 1 1), (fq 0 1)])])] (gq 1 1) .lf) 562636981 [(.tup 4 [(.tup 3 [(fq 0 1), (fq 2 1)]), (.tup 3 [(fq 1 1), (fq 0 1)]), (.tup 3 [(fq 6 5), (gq 15 5)])]), (.tup 4 [(.tup 3 [(fq 0 1), (gq 1 1)]), (.tup 3 [(fq 0 1), (gq 0 1)]), (.tup 3 [(fq 6 5), (fq 16 5)])])] (fq 0 1) .lf) 564964543 [(.tup 4 [(.tup 3 [(fq 0 1), (gq 1 1)]), (.tup 3 [(fq 0 1), (gq 0 1)]), (.tup 3 [(fq 0 1), (fq 0 1)])]), (.tup 4 [(.tup 3 [(fq 0 1), (gq 1 1)]), (.tup 3 [(fq 0 1), (gq 0 1)]), (.tup 3 [(fq 0 1), (fq 0 1)])])] (fq 0 1) (.nd (.nd .lf 577051576 [(.tup 4 [(.tup 3 [(fq 3 2), (fq 0 1)]), (.tup 3 [(fq 1 1), (fq 0 1)]), (.tup 3 [(fq 1 1), (fq 0 1)])]), (.tup 4 [(.tup 3 [(fq 3 2), (fq 0 1)]), (.tup 3 [(fq 1 1), (fq 0 1)]), (.tup 3 [(fq 1 1), (fq 0 1)])])] (fq 18 5) .lf) 579824949 [(.tup 4 [(.tup 3 [(fq 0 1), (gq 1 1)]), (.tup 3 [(fq 0 1), (gq 0 1)]), (.tup 3 [(fq 3 5), (fq 4 5)])]), (.tup 4 [(.tup 3 [(fq 0 1), (fq 2 1)]), (.tup 3 [(fq 1 1), (fq 0 1)]), (.tup 3 [(fq 3 5), (gq 3 5)])])] (fq 0 1) .lf)) 581759674 [(.tup 4 [(.tup 3 [(fq 1 1), (gq 0 1)]), (.tup 3 [(fq 1 1), (fq 0 1)]), (.tup 3 [(fq 1 1), (fq 0 1)])]), (.tup 4 [(.tup 3 [(fq 2 1), (gq 0 1)]), (.tup 3 [(fq 0 1), (gq 0 1)]), (.tup 3 [(fq 1 1), (fq 0 1)])])] (fq 2 3) (.nd (.nd (.nd .lf 587037662 [(.tup 4 [(.tup 3 [(fq 2 1), (fq 0 1)]), (.tup 3 [(fq 1 1), (fq 0 1)]), (.tup 3 [(fq 23 4), (fq 0 1)])]), (.tup 4 [(.tup 3 [(fq 3 1), (fq 0 1)]), (.tup 3 [(fq 1 1), (fq 0 1)]), (.tup 3 [(fq 15 4), (fq 0 1)])])] (fq 57 5) .lf) 590364997 [(.tup 4 [(.tup 3 [(fq 2 1), (fq 0 1)]), (.tup 3 [(fq 1 1), (fq 0 1)]), (.tup 3 [(fq 6143 1024), (fq 0 1)])]), (.tup 4 [(.tup 3 [(fq 3 1), (fq 0 1)]), (.tup 3 [(fq 1 1), (fq 0 1)]), (.tup 3 [(fq 4095 1024), (fq 0 1)])])] (fq 15357 1280) .lf) 592566091 [(.tup 4 [(.tup 3 [(fq 0 1), (gq 1 1)]), (.tup 3 [(fq 1 1), (fq 0 1)]), (.tup 3 [(fq 0 1), (fq 0 1)])]), (.tup 4 [(.tup 3 [(fq 3 1), (fq 0 1)]), (.tup 3 [(fq 1 1), (fq 0 1)]), (.tup 3 [(fq 1 1), (fq 0 1)])])] (fq 36 37) (.nd (.nd .lf 598647155 [(.tup 4 [(.tup 3 [(fq 2 1), (fq 0 1)]), (.tup 3 [(fq 1 1), (fq 0 1)]), (.tup 3 [(fq 2 1), (fq 0 1)])]), (.tup 4 [(.tup 3 [(fq 2 1), (fq 0 1)]), (.tup 3 [(fq 1 1), (fq 0 1)]), (.tup 3 [(fq 2 1), (fq 0 1)])])] (fq 16 3) .lf) 602975504 [(.tup 4 [(.tup 3 [(fq 1 1), (gq 0 1)]), (.tup 3 [(fq 0 1), (gq 0 1)]), (.tup 3 [(fq 1 1), (fq 0 1)])]), (.tup 4 [(.tup 3 [(fq 1 1), (gq 0 1)]), (.tup 3 [(fq 0 1), (gq 0 1)]), (.tup 3 [(fq 1 1), (fq 0 1)])])] (gq 7 5) .lf))) 612480519 [(.tup 4 [(.tup 3 [(fq 0 1), (fq 2 1)]), (.tup 3 [(fq 0 1), (fq 1 1)]), (.tup 3 [(fq 0 1), (fq 0 1)])]), (.tup 4 [(.tup 3 [(fq 0 1), (gq 1 1)]), (.tup 3 [(fq 1 1), (fq 0 1)]), (.tup 3 [(fq 0 1), (fq 0 1)])])] (fq 0 1) (.nd (.nd (.nd (.nd .lf 623971166 [(.tup 4 [(.tup 3 [(fq 2 1), (fq 0 1)]), (.tup 3 [(fq 1 1), (fq 0 1)]), (.tup 3 [(fq 5 2), (fq 0 1)])]), (.tup 4 [(.tup 3 [(fq 2 1), (fq 0 1)]), (.tup 3 [(fq 1 1), (fq 0 1)]), (.tup 3 [(fq 5 2), (fq 0 1)])])] (fq 20 3) .lf) 629957805 [(.tup 4 [(.tup 3 [(fq 0 1), (gq 1 1)]), (.tup 3 [(fq 1 1), (fq 0 1)]), (.tup 3 [(fq 6 5), (fq 16 5)])]), (.tup 4 [(.tup 3 [(fq 0 1), (gq 1 1)]), (.tup 3 [(fq 0 1), (gq 0 1)]), (.tup 3 [(fq 6 5), (fq 16 5)])])] (fq 128 25) .lf) 631821305 [(.tup 4 [(.tup 3 [(gq 2 1), (fq 0 1)]), (.tup 3 [(fq 1 1), (fq 0 1)]), (.tup 3 [(fq 3 1), (fq 0 1)])]), (.tup 4 [(.tup 3 [(gq 2 1), (fq 0 1)]), (.tup 3 [(fq 1 1), (fq 0 1)]), (.tup 3 [(fq 3 1), (fq 0 1)])])] (fq 27 4) (.nd (.nd .lf 631900482 [(.tup 4 [(.tup 3 [(fq 0 1), (gq 1 1)]), (.tup 3 [(fq 0 1), (gq 0 1)]), (.tup 3 [(fq 6 5), (fq 8 5)])]), (.tup 4 [(.tup 3 [(fq 0 1), (gq 1 1)]), (.tup 3 [(fq 0 1), (gq 0 1)]), (.tup 3 [(fq 6 5), (fq 8 5)])])] (gq 47 25) .lf) 633831937 [(.tup 4 [(.tup 3 [(fq 2 1), (fq 1 1)]), (.tup 3 [(fq 0 1), (fq 1 1)]), (.tup 3 [(fq 1 1), (fq 0 1)])]), (.tup 4 [(.tup 3 [(fq 2 1), (fq 1 1)]), (.tup 3 [(fq 1 1), (fq 0 1)]), (.tup 3 [(fq 1 1), (fq 0 1)])])] (fq 2 5) .lf)) 636050746 [(.tup 4 [(.tup 3 [(fq 2 1), (fq 0 1)]), (.tup 3 [(fq 1 1), (fq 0 1)]), (.tup 3 [(fq 11 2), (fq 0 1)])]), (.tup 4 [(.tup 3 [(fq 3 1), (fq 0 1)]), (.tup 3 [(fq 1 1), (fq 0 1)]), (.tup 3 [(fq 7 2), (fq 0 1)])])] (fq 54 5) (.nd (.nd (.nd .lf 643374316 [(.tup 4 [(.tup 3 [(gq 2 1), (fq 0 1)]), (.tup 3 [(fq 1 1), (fq 0 1)]), (.tup 3 [(fq 18 1), (fq 0 1)])]), (.tup 4 [(.tup 3 [(fq 2 1), (fq 0 1)]), (.tup 3 [(fq 1 1), (fq 0 1)]), (.tup 3 [(fq 3 1), (fq 0 1)])])] (fq 18 1) .lf) 647624934 [(.tup 4 [(.tup 3 [(fq 0 1), (fq 2 1)]), (.tup 3 [(fq 1 1), (fq 0 1)]), (.tup 3 [(fq 3 5), (fq 8 5)])]), (.tup 4 [(.tup 3 [(fq 0 1), (fq 2 1)]), (.tup 3 [(fq 1 1), (fq 0 1)]), (.tup 3 [(fq 3 5), (fq 8 5)])])] (fq 24 25) .lf) 650172159 [(.tup 4 [(.tup 3 [(fq 1 1), (gq 0 1)]), (.tup 3 [(fq 0 1), (gq 0 1)]), (.tup 3 [(fq 1 1), (fq 0 1)])]), (.tup 4 [(.tup 3 [(fq 1 1), (gq 0 1)]), (.tup 3 [(fq 1 1), (fq 0 1)]), (.tup 3 [(fq 1 1), (fq 0 1)])])] (fq 4 5) (.nd .lf 652439176 [(.tup 4 [(.tup 3 [(fq 3 1), (fq 0 1)]), (.tup 3 [(fq 1 1), (fq 0 1)]), (.tup 3 [(fq 2047 512), (fq 0 1)])]), (.tup 4 [(.tup 3 [(fq 3 1), (fq 0 1)]), (.tup 3 [(fq 1 1), (fq 0 1)]), (.tup 3 [(fq 2047 512), (fq 0 1)])])] (fq 18423 2048) .lf))))) 655951343 [(.tup 4 [(.tup 3 [(fq 0 1), (fq 2 1)]), (.tup 3 [(fq 1 1), (fq 0 1)]), (.tup 3 [(fq 6 5), (gq 7 5)])]), (.tup 4 [(.tup 3 [(fq 0 1), (gq 1 1)]), (.tup 3 [(fq 0 1), (gq 0 1)]), (.tup 3 [(fq 6 5), (fq 8 5)])])] (fq 0 1) (.nd (.nd (.nd (.nd (.nd (.nd .lf 656336228 [(.tup 4 [(.tup 3 [(fq 0 1), (gq 1 1)]), (.tup 3 [(fq 1 1), (fq 0 1)]), (.tup 3 [(fq 0 1), (fq 0 1)])]), (.tup 4 [(.tup 3 [(fq 0 1), (gq 1 1)]), (.tup 3 [(fq 0 1), (gq 0 1)]), (.tup 3 [(fq 0 1), (fq 0 1)])])] (fq 0 1) .lf) 656379604 [(.tup 4 [(.tup 3 [(fq 0 1), (gq 1 1)]), (.tup 3 [(fq 1 1), (fq 0 1)]), (.tup 3 [(fq 3 5), (fq 4 5)])]), (.tup 4 [(.tup 3 [(fq 0 1), (fq 2 1)]), (.tup 3 [(fq 1 1), (fq 0 1)]), (.tup 3 [(fq 3 5), (gq 3 5)])])] (fq 8 5) .lf) 658210741 [(.tup 4 [(.tup 3 [(fq 3 1), (fq 0 1)]), (.tup 3 [(fq 1 1), (fq 0 1)]), (.tup 3 [(fq 9 2), (fq 0 1)])]), (.tup 4 [(.tup 3 [(fq 2 1), (fq 0 1)]), (.tup 3 [(fq 1 1), (fq 0 1)]), (.tup 3 [(fq 3 1), (fq 0 1)])])] (fq 9 1) (.nd (.nd .lf 660557288 [(.tup 4 [(.tup 3 [(fq 2 1), (fq 0 1)]), (.tup 3 [(fq 1 1), (fq 0 1)]), (.tup 3 [(fq 5 1), (fq 0 1)])]), (.tup 4 [(.tup 3 [(fq 3 1), (fq 0 1)]), (.tup 3 [(fq 1 1), (fq 0 1)]), (.tup 3 [(fq 3 1), (fq 0 1)])])] (fq 48 5) .lf) 663472680 [(.tup 4 [(.tup 3 [(fq 2 1), (fq 0 1)]), (.tup 3 [(fq 1 1), (fq 0 1)]), (.tup 3 [(fq 0 1), (fq 0 1)])]), (.tup 4 [(.tup 3 [(fq 0 1), (gq 1 1)]), (.tup 3 [(fq 1 1), (fq 0 1)]), (.tup 3 [(fq 0 1), (fq 0 1)])])] (fq 0 1) .lf)) 664749220 [(.tup 4 [(.tup 3 [(fq 0 1), (gq 1 1)]), (.tup 3 [(fq 0 1), (gq 0 1)]), (.tup 3 [(fq 3 5), (fq 8 5)])]), (.tup 4 [(.tup 3 [(fq 0 1), (fq 2 1)]), (.tup 3 [(fq 0 1), (fq 1 1)]), (.tup 3 [(fq 3 5), (gq 7 5)])])] (fq 8 5) (.nd (.nd (.nd .lf 667612555 [(.tup 4 [(.tup 3 [(fq 2 1), (fq 1 1)]), (.tup 3 [(fq 0 1), (fq 1 1)]), (.tup 3 [(fq 1 1), (fq 0 1)])]), (.tup 4 [(.tup 3 [(fq 2 1), (fq 1 1)]), (.tup 3 [(fq 0 1), (fq 1 1)]), (.tup 3 [(fq 1 1), (fq 0 1)])])] (gq 10 5) .lf) 667660160 [(.tup 4 [(.tup 3 [(fq 0 1), (fq 2 1)]), (.tup 3 [(fq 0 1), (fq 1 1)]), (.tup 3 [(fq 3 5), (fq 4 5)])]), (.tup 4 [(.tup 3 [(fq 0 1), (gq 1 1)]), (.tup 3 [(fq 0 1), (gq 0 1)]), (.tup 3 [(fq 3 5), (gq 3 5)])])] (fq 8 5) .lf) 671562949 [(.tup 4 [(.tup 3 [(fq 0 1), (fq 2 1)]), (.tup 3 [(fq 0 1), (fq 1 1)]), (.tup 3 [(gq 0 1), (fq 0 1)])]), (.tup 4 [(.tup 3 [(fq 0 1), (gq 1 1)]), (.tup 3 [(fq 1 1), (fq 0 1)]), (.tup 3 [(gq 0 1), (fq 0 1)])])] (fq 0 1) (.nd (.nd .lf 674619188 [(.tup 4 [(.tup 3 [(fq 2 1), (fq 0 1)]), (.tup 3 [(fq 1 1), (fq 0 1)]), (.tup 3 [(fq 11 4), (fq 0 1)])]), (.tup 4 [(.tup 3 [(fq 2 1), (fq 0 1)]), (.tup 3 [(fq 1 1), (fq 0 1)]), (.tup 3 [(fq 11 4), (fq 0 1)])])] (fq 22 3) .lf) 675650589 [(.tup 4 [(.tup 3 [(fq 2 1), (gq 0 1)]), (.tup 3 [(fq 1 1), (fq 0 1)]), (.tup 3 [(fq 1 1), (fq 0 1)])]), (.tup 4 [(.tup 3 [(fq 2 1), (gq 0 1)]), (.tup 3 [(fq 1 1), (fq 0 1)]), (.tup 3 [(fq 1 1), (fq 0 1)])])] (fq 11 5) .lf))) 680097958 [(.tup 4 [(.tup 3 [(fq 3 1), (fq 0 1)]), (.tup 3 [(fq 1 1), (fq 0 1)]), (.tup 3 [(fq 31 16), (fq 0 1)])]), (.tup 4 [(.tup 3 [(fq 2 1), (fq 0 1)]), (.tup 3 [(fq 1 1), (fq 0 1)]), (.tup 3 [(fq 47 16), (fq 0 1)])])] (fq 117 20) (.nd (.nd (.nd (.nd .lf 681242298 [(.tup 4 [(.tup 3 [(gq 0 1), (gq 0 1)]), (.tup 3 [(fq 1 1), (fq 0 1)]), (.tup 3 [(fq 1 1), (gq 0 2)])]), (.tup 4 [(.tup 3 [(gq 0 1), (gq 0 1)]), (.tup 3 [(fq 1 1), (fq 0 1)]), (.tup 3 [(fq 1 1), (gq 0 2)])])] (fq 6 5) .lf) 681405552 [(.tup 4 [(.tup 3 [(fq 0 1), (fq 2 1)]), (.tup 3 [(fq 1 1), (fq 0 1)]), (.tup 3 [(fq 3 5), (fq 8 5)])]), (.tup 4 [(.tup 3 [(fq 0 1), (fq 2 1)]), (.tup 3 [(fq 0 1), (fq 1 1)]), (.tup 3 [(fq 3 5), (fq 8 5)])])] (gq 63 25) .lf) 683463976 [(.tup 4 [(.tup 3 [(fq 0 1), (fq 2 1)]), (.tup 3 [(fq 1 1), (fq 0 1)]), (.tup 3 [(fq 6 5), (gq 7 5)])]), (.tup 4 [(.tup 3 [(fq 0 1), (fq 2 1)]), (.tup 3 [(fq 0 1), (fq 1 1)]), (.tup 3 [(fq 6 5), (gq 7 5)])])] (fq 64 25) (.nd (.nd .lf 683975232 [(.tup 4 [(.tup 3 [(fq 3 1), (fq 0 1)]), (.tup 3 [(fq 1 1), (fq 0 1)]), (.tup 3 [(fq 3 1), (fq 0 1)])]), (.tup 4 [(.tup 3 [(fq 2 1), (fq 0 1)]), (.tup 3 [(fq 1 1), (fq 0 1)]), (.tup 3 [(fq 5 1), (fq 0 1)])])] (fq 48 5) .lf) 687648257 [(.tup 4 [(.tup 3 [(fq 1 1), (fq 1 1)]), (.tup 3 [(fq 0 1), (fq 1 1)]), (.tup 3 [(fq 1 1), (fq 0 1)])]), (.tup 4 [(.tup 3 [(fq 2 1), (gq 0 1)]), (.tup 3 [(fq 1 1), (fq 0 1)]), (.tup 3 [(fq 1 1), (fq 0 1)])])] (fq 2 5) .lf)) 694866543 [(.tup 4 [(.tup 3 [(fq 0 1), (fq 2 1)]), (.tup 3 [(fq 0 1), (fq 1 1)]), (.tup 3 [(fq 6 5), (gq 7 5)])]), (.tup 4 [(.tup 3 [(fq 0 1), (fq 2 1)]), (.tup 3 [(fq 0 1), (fq 1 1)]), (.tup 3 [(fq 6 5), (gq 7 5)])])] (gq 47 25) (.nd (.nd (.nd .lf 695244853 [(.tup 4 [(.tup 3 [(fq 0 1), (gq 1 1)]), (.tup 3 [(fq 1 1), (fq 0 1)]), (.tup 3 [(gq 0 1), (fq 0 1)])]), (.tup 4 [(.tup 3 [(fq 0 1), (gq 1 1)]), (.tup 3 [(fq 1 1), (fq 0 1)]), (.tup 3 [(gq 0 1), (fq 0 1)])])] (gq 7 5) .lf) 696275912 [(.tup 4 [(.tup 3 [(fq 3 1), (fq 0 1)]), (.tup 3 [(fq 1 1), (fq 0 1)]), (.tup 3 [(fq 127 64), (fq 0 1)])]), (.tup 4 [(.tup 3 [(fq 2 1), (fq 0 1)]), (.tup 3 [(fq 1 1), (fq 0 1)]), (.tup 3 [(fq 191 64), (fq 0 1)])])] (fq 477 80) .lf) 696479910 [(.tup 4 [(.tup 3 [(fq 3 2), (fq 0 1)]), (.tup 3 [(fq 1 1), (fq 0 1)]), (.tup 3 [(fq 5 1), (fq 0 1)])]), (.tup 4 [(.tup 3 [(fq 2 1), (fq 0 1)]), (.tup 3 [(fq 1 1), (fq 0 1)]), (.tup 3 [(fq 3 1), (fq 0 1)])])] (fq 12 1) (.nd .lf 699249081 [(.tup 4 [(.tup 3 [(fq 1 1), (gq 0 1)]), (.tup 3 [(fq 0 1), (gq 0 1)]), (.tup 3 [(fq 1 1), (fq 0 1)])]), (.tup 4 [(.tup 3 [(fq 1 1), (fq 1 1)]), (.tup 3 [(fq 1 1), (fq 0 1)]), (.tup 3 [(fq 1 1), (fq 0 1)])])] (fq 0 1) .lf)))) 703164167 [(.tup 4 [(.tup 3 [(fq 0 1), (gq 1 1)]), (.tup 3 [(fq 0 1), (gq 0 1)]), (.tup 3 [(fq 3 5), (fq 8 5)])]), (.tup 4 [(.tup 3 [(fq 0 1), (gq 1 1)]), (.tup 3 [(fq 1 1), (fq 0 1)]), (.tup 3 [(fq 3 5), (fq 8 5)])])] (fq 64 25) (.nd (.nd (.nd (.nd (.nd .lf 709098173 [(.tup 4 [(.tup 3 [(gq 1 1), (fq 0 1)]), (.tup 3 [(fq 1 1), (fq 0 1)]), (.tup 3 [(fq 2 1), (fq 0 1)])]), (.tup 4 [(.tup 3 [(gq 1 1), (fq 0 1)]), (.tup 3 [(fq 1 1), (fq 0 1)]), (.tup 3 [(fq 2 1), (fq 0 1)])])] (fq 16 3) .lf) 710179304 [(.tup 4 [(.tup 3 [(fq 2 1), (fq 0 1)]), (.tup 3 [(fq 1 1), (fq 0 1)]), (.tup 3 [(fq 2 1), (fq 0 1)])]), (.tup 4 [(.tup 3 [(fq 3 1), (fq 0 1)]), (.tup 3 [(fq 1 1), (fq 0 1)]), (.tup 3 [(fq 1 1), (fq 0 1)])])] (fq 18 5) .lf) 711785008 [(.tup 4 [(.tup 3 [(fq 3 1), (fq 0 1)]), (.tup 3 [(fq 1 1), (fq 0 1)]), (.tup 3 [(fq 15 4), (fq 0 1)])]), (.tup 4 [(.tup 3 [(fq 2 1), (fq 0 1)]), (.tup 3 [(fq 1 1), (fq 0 1)]), (.tup 3 [(fq 23 4), (fq 0 1)])])] (fq 57 5) (.nd (.nd .lf 721757837 [(.tup 4 [(.tup 3 [(fq 0 1), (fq 2 1)]), (.tup 3 [(fq 1 1), (fq 0 1)]), (.tup 3 [(fq 6 5), (gq 7 5)])]), (.tup 4 [(.tup 3 [(fq 0 1), (gq 1 1)]), (.tup 3 [(fq 1 1), (fq 0 1)]), (.tup 3 [(fq 6 5), (fq 8 5)])])] (fq 16 5) .lf) 721825169 [(.tup 4 [(.tup 3 [(fq 2 1), (gq 0 1)]), (.tup 3 [(fq 0 1), (gq 0 1)]), (.tup 3 [(fq 1 1), (fq 0 1)])]), (.tup 4 [(.tup 3 [(fq 1 1), (gq 0 1)]), (.tup 3 [(fq 0 1), (gq 0 1)]), (.tup 3 [(fq 1 1), (fq 0 1)])])] (gq 1 1) .lf)) 723272167 [(.tup 4 [(.tup 3 [(fq 0 1), (gq 1 1)]), (.tup 3 [(fq 1 1), (fq 0 1)]), (.tup 3 [(fq 6 5), (fq 8 5)])]), (.tup 4 [(.tup 3 [(fq 0 1), (gq 1 1)]), (.tup 3 [(fq 0 1), (gq 0 1)]), (.tup 3 [(fq 6 5), (fq 8 5)])])] (fq 64 25) (.nd (.nd (.nd .lf 725281652 [(.tup 4 [(.tup 3 [(fq 1 1), (gq 0 1)]), (.tup 3 [(fq 1 1), (fq 0 1)]), (.tup 3 [(fq 1 1), (fq 0 1)])]), (.tup 4 [(.tup 3 [(fq 1 1), (fq 1 1)]), (.tup 3 [(fq 1 1), (fq 0 1)]), (.tup 3 [(fq 1 1), (fq 0 1)])])] (fq 4 1) .lf) 733029699 [(.tup 4 [(.tup 3 [(fq 1 1), (gq 0 1)]), (.tup 3 [(fq 0 1), (gq 0 1)]), (.tup 3 [(fq 1 1), (fq 0 1)])]), (.tup 4 [(.tup 3 [(fq 1 1), (fq 1 1)]), (.tup 3 [(fq 0 1), (fq 1 1)]), (.tup 3 [(fq 1 1), (fq 0 1)])])] (fq 4 1) .lf) 733160404 [(.tup 4 [(.tup 3 [(fq 0 1), (fq 2 1)]), (.tup 3 [(fq 0 1), (fq 1 1)]), (.tup 3 [(fq 6 5), (gq 7 5)])]), (.tup 4 [(.tup 3 [(fq 0 1), (gq 1 1)]), (.tup 3 [(fq 1 1), (fq 0 1)]), (.tup 3 [(fq 6 5), (fq 8 5)])])] (fq 0 1) (.nd (.nd .lf 733383956 [(.tup 4 [(.tup 3 [(fq 2 1), (fq 1 1)]), (.tup 3 [(fq 0 1), (fq 1 1)]), (.tup 3 [(fq 1 1), (fq 0 1)])]), (.tup 4 [(.tup 3 [(fq 2 1), (gq 0 1)]), (.tup 3 [(fq 1 1), (fq 0 1)]), (.tup 3 [(fq 1 1), (fq 0 1)])])] (fq 0 1) .lf) 735294778 [(.tup 4 [(.tup 3 [(fq 2 1), (fq 0 1)]), (.tup 3 [(fq 1 1), (fq 0 1)]), (.tup 3 [(fq 5 2), (fq 0 1)])]), (.tup 4 [(.tup 3 [(fq 3 1), (fq 0 1)]), (.tup 3 [(fq 1 1), (fq 0 1)]), (.tup 3 [(fq 3 2), (fq 0 1)])])] (fq 24 5) .lf))) 738062153 [(.tup 4 [(.tup 3 [(fq 0 1), (fq 2 1)]), (.tup 3 [(fq 1 1), (fq 0 1)]), (.tup 3 [(fq 0 1), (fq 0 1)])]), (.tup 4 [(.tup 3 [(fq 0 1), (gq 1 1)]), (.tup 3 [(fq 1 1), (fq 0 1)]), (.tup 3 [(fq 0 1), (fq 0 1)])])] (fq 0 1) (.nd (.nd (.nd (.nd .lf 740416849 [(.tup 4 [(.tup 3 [(fq 0 1), (fq 2 1)]), (.tup 3 [(fq 1 1), (fq 0 1)]), (.tup 3 [(fq 6 5), (gq 15 5)])]), (.tup 4 [(.tup 3 [(fq 0 1), (fq 2 1)]), (.tup 3 [(fq 0 1), (fq 1 1)]), (.tup 3 [(fq 6 5), (gq 15 5)])])] (fq 128 25) .lf) 741303875 [(.tup 4 [(.tup 3 [(fq 0 1), (gq 1 1)]), (.tup 3 [(fq 1 1), (fq 0 1)]), (.tup 3 [(fq 3 5), (fq 8 5)])]), (.tup 4 [(.tup 3 [(fq 0 1), (fq 2 1)]), (.tup 3 [(fq 0 1), (fq 1 1)]), (.tup 3 [(fq 3 5), (gq 7 5)])])] (fq 0 1) .lf) 749606568 [(.tup 4 [(.tup 3 [(gq 0 1), (gq 0 1)]), (.tup 3 [(fq 0 1), (gq 0 1)]), (.tup 3 [(fq 1 1), (gq 0 2)])]), (.tup 4 [(.tup 3 [(gq 0 1), (gq 0 1)]), (.tup 3 [(fq 1 1), (fq 0 1)]), (.tup 3 [(fq 1 1), (gq 0 2)])])] (gq 7 5) (.nd (.nd .lf 751819416 [(.tup 4 [(.tup 3 [(fq 0 1), (fq 2 1)]), (.tup 3 [(fq 0 1), (fq 1 1)]), (.tup 3 [(fq 6 5), (gq 15 5)])]), (.tup 4 [(.tup 3 [(fq 0 1), (fq 2 1)]), (.tup 3 [(fq 0 1), (fq 1 1)]), (.tup 3 [(fq 6 5), (gq 15 5)])])] (gq 47 25) .lf) 754042424 [(.tup 4 [(.tup 3 [(fq 1 1), (fq 1 1)]), (.tup 3 [(fq 0 1), (fq 1 1)]), (.tup 3 [(fq 1 1), (fq 0 1)])]), (.tup 4 [(.tup 3 [(fq 1 1), (fq 1 1)]), (.tup 3 [(fq 1 1), (fq 0 1)]), (.tup 3 [(fq 1 1), (fq 0 1)])])] (fq 4 5) .lf)) 754240378 [(.tup 4 [(.tup 3 [(fq 3 1), (fq 0 1)]), (.tup 3 [(fq 1 1), (fq 0 1)]), (.tup 3 [(fq 2047 512), (fq 0 1)])]), (.tup 4 [(.tup 3 [(fq 2 1), (fq 0 1)]), (.tup 3 [(fq 1 1), (fq 0 1)]), (.tup 3 [(fq 3071 512), (fq 0 1)])])] (fq 7677 640) (.nd (.nd (.nd .lf 758712722 [(.tup 4 [(.tup 3 [(fq 3 1), (fq 0 1)]), (.tup 3 [(fq 1 1), (fq 0 1)]), (.tup 3 [(fq 3 2), (fq 0 1)])]), (.tup 4 [(.tup 3 [(fq 2 1), (fq 0 1)]), (.tup 3 [(fq 1 1), (fq 0 1)]), (.tup 3 [(fq 5 2), (fq 0 1)])])] (fq 24 5) .lf) 759062270 [(.tup 4 [(.tup 3 [(fq 1 1), (gq 0 1)]), (.tup 3 [(fq 1 1), (fq 0 1)]), (.tup 3 [(fq 1 1), (fq 0 1)])]), (.tup 4 [(.tup 3 [(fq 1 1), (fq 1 1)]), (.tup 3 [(fq 0 1), (fq 1 1)]), (.tup 3 [(fq 1 1), (fq 0 1)])])] (fq 0 1) .lf) 761058278 [(.tup 4 [(.tup 3 [(fq 0 1), (fq 2 1)]), (.tup 3 [(fq 1 1), (fq 0 1)]), (.tup 3 [(fq 1 1), (fq 0 1)])]), (.tup 4 [(.tup 3 [(fq 0 1), (fq 2 1)]), (.tup 3 [(fq 1 1), (fq 0 1)]), (.tup 3 [(fq 1 1), (fq 0 1)])])] (fq 8 5) (.nd .lf 762417502 [(.tup 4 [(.tup 3 [(fq 2 1), (gq 0 1)]), (.tup 3 [(fq 1 1), (fq 0 1)]), (.tup 3 [(fq 1 1), (fq 0 1)])]), (.tup 4 [(.tup 3 [(fq 2 1), (gq 0 1)]), (.tup 3 [(fq 0 1), (gq 0 1)]), (.tup 3 [(fq 1 1), (fq 0 1)])])] (fq 2 5) .lf))))))
def t2_6 : Tr := (.nd (.nd (.nd (.nd (.nd (.nd (.nd .lf 771174478 [(.tup 4 [(.tup 3 [(gq 2 1), (fq 0 1)]), (.tup 3 [(fq 1 1), (fq 0 1)]), (.tup 3 [(fq 1 2), (fq 0 1)])]), (.tup 4 [(.tup 3 [(gq 2 1), (fq 0 1)]), (.tup 3 [(fq 1 1), (fq 0 1)]), (.tup 3 [(fq 1 2), (fq 0 1)])])] (fq 9 8) .lf) 771209376 [(.tup 4 [(.tup 3 [(fq 3 1), (fq 0 1)]), (.tup 3 [(fq 1 1), (fq 0 1)]), (.tup 3 [(fq 9 2), (fq 0 1)])]), (.tup 4 [(.tup 3 [(fq 3 1), (fq 0 1)]), (.tup 3 [(fq 1 1), (fq 0 1)]), (.tup 3 [(fq 9 2), (fq 0 1)])])] (fq 81 8) .lf) 772214412 [(.tup 4 [(.tup 3 [(fq 1 1), (gq 0 1)]), (.tup 3 [(fq 1 1), (fq 0 1)]), (.tup 3 [(fq 1 1), (fq 0 1)])]), (.tup 4 [(.tup 3 [(fq 1 1), (gq 0 1)]), (.tup 3 [(fq 0 1), (gq 0 1)]), (.tup 3 [(fq 1 1), (fq 0 1)])])] (fq 4 5) (.nd (.nd .lf 774035849 [(.tup 4 [(.tup 3 [(fq 0 1), (fq 2 1)]), (.tup 3 [(fq 1 1), (fq 0 1)]), (.tup 3 [(fq 3 5), (gq 7 5)])]), (.tup 4 [(.tup 3 [(fq 0 1), (fq 2 1)]), (.tup 3 [(fq 1 1), (fq 0 1)]), (.tup 3 [(fq 3 5), (gq 7 5)])])] (fq 24 25) .lf) 775915232 [(.tup 4 [(.tup 3 [(fq 2 1), (fq 0 1)]), (.tup 3 [(fq 1 1), (fq 0 1)]), (.tup 3 [(fq 23 8), (fq 0 1)])]), (.tup 4 [(.tup 3 [(fq 2 1), (fq 0 1)]), (.tup 3 [(fq 1 1), (fq 0 1)]), (.tup 3 [(fq 23 8), (fq 0 1)])])] (fq 23 3) .lf)) 778710710 [(.tup 4 [(.tup 3 [(fq 0 1), (fq 2 1)]), (.tup 3 [(fq 1 1), (fq 0 1)]), (.tup 3 [(fq 6 5), (gq 15 5)])]), (.tup 4 [(.tup 3 [(fq 0 1), (gq 1 1)]), (.tup 3 [(fq 1 1), (fq 0 1)]), (.tup 3 [(fq 6 5), (fq 16 5)])])] (fq 16 5) (.nd (.nd (.nd .lf 779718822 [(.tup 4 [(.tup 3 [(fq 0 1), (gq 1 1)]), (.tup 3 [(fq 1 1), (fq 0 1)]), (.tup 3 [(fq 3 5), (fq 8 5)])]), (.tup 4 [(.tup 3 [(fq 0 1), (gq 1 1)]), (.tup 3 [(fq 1 1), (fq 0 1)]), (.tup 3 [(fq 3 5), (fq 8 5)])])] (fq 24 25) .lf) 785438416 [(.tup 4 [(.tup 3 [(fq 0 1), (fq 2 1)]), (.tup 3 [(fq 0 1), (fq 1 1)]), (.tup 3 [(fq 3 5), (gq 7 5)])]), (.tup 4 [(.tup 3 [(fq 0 1), (fq 2 1)]), (.tup 3 [(fq 1 1), (fq 0 1)]), (.tup 3 [(fq 3 5), (gq 7 5)])])] (fq 64 25) .lf) 785525726 [(.tup 4 [(.tup 3 [(fq 2 1), (fq 0 1)]), (.tup 3 [(fq 1 1), (fq 0 1)]), (.tup 3 [(fq 11 4), (fq 0 1)])]), (.tup 4 [(.tup 3 [(fq 3 1), (fq 0 1)]), (.tup 3 [(fq 1 1), (fq 0 1)]), (.tup 3 [(fq 7 4), (fq 0 1)])])] (fq 27 5) (.nd (.nd .lf 787064512 [(.tup 4 [(.tup 3 [(fq 0 1), (fq 2 1)]), (.tup 3 [(fq 0 1), (fq 1 1)]), (.tup 3 [(fq 0 1), (fq 0 1)])]), (.tup 4 [(.tup 3 [(fq 2 1), (fq 0 1)]), (.tup 3 [(fq 1 1), (fq 0 1)]), (.tup 3 [(fq 0 1), (fq 0 1)])])] (fq 0 1) .lf) 787823042 [(.tup 4 [(.tup 3 [(fq 1 1), (fq 1 1)]), (.tup 3 [(fq 0 1), (fq 1 1)]), (.tup 3 [(fq 1 1), (fq 0 1)])]), (.tup 4 [(.tup 3 [(fq 1 1), (fq 1 1)]), (.tup 3 [(fq 0 1), (fq 1 1)]), (.tup 3 [(fq 1 1), (fq 0 1)])])] (gq 7 5) .lf))) 788404952 [(.tup 4 [(.tup 3 [(fq 0 1), (gq 1 1)]), (.tup 3 [(fq 0 1), (gq 0 1)]), (.tup 3 [(gq 0 1), (fq 0 1)])]), (.tup 4 [(.tup 3 [(fq 0 1), (fq 2 1)]), (.tup 3 [(fq 1 1), (fq 0 1)]), (.tup 3 [(gq 0 1), (fq 0 1)])])] (fq 0 1) (.nd (.nd (.nd (.nd .lf 788502052 [(.tup 4 [(.tup 3 [(fq 3 1), (fq 0 1)]), (.tup 3 [(fq 1 1), (fq 0 1)]), (.tup 3 [(fq 31 16), (fq 0 1)])]), (.tup 4 [(.tup 3 [(fq 3 1), (fq 0 1)]), (.tup 3 [(fq 1 1), (fq 0 1)]), (.tup 3 [(fq 31 16), (fq 0 1)])])] (fq 279 64) .lf) 789470459 [(.tup 4 [(.tup 3 [(fq 2 1), (fq 1 1)]), (.tup 3 [(fq 1 1), (fq 0 1)]), (.tup 3 [(fq 1 1), (fq 0 1)])]), (.tup 4 [(.tup 3 [(fq 1 1), (fq 1 1)]), (.tup 3 [(fq 1 1), (fq 0 1)]), (.tup 3 [(fq 1 1), (fq 0 1)])])] (fq 2 1) .lf) 790113277 [(.tup 4 [(.tup 3 [(fq 0 1), (fq 2 1)]), (.tup 3 [(fq 0 1), (fq 1 1)]), (.tup 3 [(fq 6 5), (gq 15 5)])]), (.tup 4 [(.tup 3 [(fq 0 1), (gq 1 1)]), (.tup 3 [(fq 1 1), (fq 0 1)]), (.tup 3 [(fq 6 5), (fq 16 5)])])] (fq 0 1) (.nd (.nd .lf 794670230 [(.tup 4 [(.tup 3 [(fq 3 1), (fq 0 1)]), (.tup 3 [(fq 1 1), (fq 0 1)]), (.tup 3 [(fq 127 64), (fq 0 1)])]), (.tup 4 [(.tup 3 [(fq 3 1), (fq 0 1)]), (.tup 3 [(fq 1 1), (fq 0 1)]), (.tup 3 [(fq 127 64), (fq 0 1)])])] (fq 1143 256) .lf) 794838896 [(.tup 4 [(.tup 3 [(fq 0 1), (fq 2 1)]), (.tup 3 [(fq 1 1), (fq 0 1)]), (.tup 3 [(fq 1 1), (fq 0 1)])]), (.tup 4 [(.tup 3 [(fq 0 1), (fq 2 1)]), (.tup 3 [(fq 0 1), (fq 1 1)]), (.tup 3 [(fq 1 1), (fq 0 1)])])] (fq 0 1) .lf)) 795298844 [(.tup 4 [(.tup 3 [(fq 3 1), (fq 0 1)]), (.tup 3 [(fq 1 1), (fq 0 1)]), (.tup 3 [(fq 3 1), (fq 0 1)])]), (.tup 4 [(.tup 3 [(fq 3 1), (fq 0 1)]), (.tup 3 [(fq 1 1), (fq 0 1)]), (.tup 3 [(fq 3 1), (fq 0 1)])])] (fq 27 4) (.nd (.nd (.nd .lf 802007247 [(.tup 4 [(.tup 3 [(fq 0 1), (fq 2 1)]), (.tup 3 [(fq 1 1), (fq 0 1)]), (.tup 3 [(fq 3 5), (gq 3 5)])]), (.tup 4 [(.tup 3 [(fq 0 1), (fq 2 1)]), (.tup 3 [(fq 0 1), (fq 1 1)]), (.tup 3 [(fq 3 5), (gq 3 5)])])] (fq 32 25) .lf) 802460175 [(.tup 4 [(.tup 3 [(fq 2 1), (fq 0 1)]), (.tup 3 [(fq 1 1), (fq 0 1)]), (.tup 3 [(fq 191 32), (fq 0 1)])]), (.tup 4 [(.tup 3 [(fq 2 1), (fq 0 1)]), (.tup 3 [(fq 1 1), (fq 0 1)]), (.tup 3 [(fq 191 32), (fq 0 1)])])] (fq 191 12) .lf) 804709561 [(.tup 4 [(.tup 3 [(gq 0 1), (gq 0 1)]), (.tup 3 [(fq 0 1), (gq 0 1)]), (.tup 3 [(fq 1 1), (gq 0 2)])]), (.tup 4 [(.tup 3 [(gq 0 1), (gq 0 1)]), (.tup 3 [(fq 0 1), (gq 0 1)]), (.tup 3 [(fq 1 1), (gq 0 2)])])] (gq 5 5) (.nd .lf 804797969 [(.tup 4 [(.tup 3 [(fq 2 1), (gq 0 1)]), (.tup 3 [(fq 1 1), (fq 0 1)]), (.tup 3 [(fq 1 1), (fq 0 1)])]), (.tup 4 [(.tup 3 [(fq 1 1), (fq 1 1)]), (.tup 3 [(fq 0 1), (fq 1 1)]), (.tup 3 [(fq 1 1), (fq 0 1)])])] (fq 2 5) .lf)))) 810385714 [(.tup 4 [(.tup 3 [(fq 0 1), (fq 2 1)]), (.tup 3 [(fq 1 1), (fq 0 1)]), (.tup 3 [(gq 0 1), (fq 0 1)])]), (.tup 4 [(.tup 3 [(fq 0 1), (fq 2 1)]), (.tup 3 [(fq 0 1), (fq 1 1)]), (.tup 3 [(gq 0 1), (fq 0 1)])])] (fq 0 1) (.nd (.nd (.nd (.nd (.nd .lf 810989767 [(.tup 4 [(.tup 3 [(fq 1 1), (gq 0 1)]), (.tup 3 [(fq 0 1), (gq 0 1)]), (.tup 3 [(fq 1 1), (fq 0 1)])]), (.tup 4 [(.tup 3 [(fq 2 1), (fq 1 1)]), (.tup 3 [(fq 1 1), (fq 0 1)]), (.tup 3 [(fq 1 1), (fq 0 1)])])] (fq 2 5) .lf) 812333302 [(.tup 4 [(.tup 3 [(fq 0 1), (gq 1 1)]), (.tup 3 [(fq 0 1), (gq 0 1)]), (.tup 3 [(fq 3 5), (gq 3 5)])]), (.tup 4 [(.tup 3 [(fq 0 1), (gq 1 1)]), (.tup 3 [(fq 0 1), (gq 0 1)]), (.tup 3 [(fq 3 5), (gq 3 5)])])] (gq 23 25) .lf) 813229891 [(.tup 4 [(.tup 3 [(fq 1 1), (fq 1 1)]), (.tup 3 [(fq 1 1), (fq 0 1)]), (.tup 3 [(fq 1 1), (fq 0 1)])]), (.tup 4 [(.tup 3 [(fq 2 1), (gq 0 1)]), (.tup 3 [(fq 1 1), (fq 0 1)]), (.tup 3 [(fq 1 1), (fq 0 1)])])] (fq 14 5) (.nd (.nd .lf 813409814 [(.tup 4 [(.tup 3 [(fq 0 1), (fq 2 1)]), (.tup 3 [(fq 0 1), (fq 1 1)]), (.tup 3 [(fq 3 5), (gq 3 5)])]), (.tup 4 [(.tup 3 [(fq 0 1), (fq 2 1)]), (.tup 3 [(fq 0 1), (fq 1 1)]), (.tup 3 [(fq 3 5), (gq 3 5)])])] (gq 23 25) .lf) 814783875 [(.tup 4 [(.tup 3 [(fq 0 1), (fq 2 1)]), (.tup 3 [(fq 1 1), (fq 0 1)]), (.tup 3 [(fq 1 1), (fq 0 1)])]), (.tup 4 [(.tup 3 [(fq 0 1), (gq 1 1)]), (.tup 3 [(fq 0 1), (gq 0 1)]), (.tup 3 [(fq 1 1), (fq 0 1)])])] (fq 0 1) .lf)) 814796531 [(.tup 4 [(.tup 3 [(fq 2 1), (fq 0 1)]), (.tup 3 [(fq 1 1), (fq 0 1)]), (.tup 3 [(fq 383 128), (fq 0 1)])]), (.tup 4 [(.tup 3 [(fq 2 1), (fq 0 1)]), (.tup 3 [(fq 1 1), (fq 0 1)]), (.tup 3 [(fq 383 128), (fq 0 1)])])] (fq 383 48) (.nd (.nd (.nd .lf 821047396 [(.tup 4 [(.tup 3 [(gq 1 1), (fq 0 1)]), (.tup 3 [(fq 1 1), (fq 0 1)]), (.tup 3 [(fq 2 1), (fq 0 1)])]), (.tup 4 [(.tup 3 [(gq 2 1), (fq 0 1)]), (.tup 3 [(fq 1 1), (fq 0 1)]), (.tup 3 [(fq 3 1), (fq 0 1)])])] (fq 6 1) .lf) 821788281 [(.tup 4 [(.tup 3 [(fq 0 1), (fq 2 1)]), (.tup 3 [(fq 0 1), (fq 1 1)]), (.tup 3 [(gq 0 1), (fq 0 1)])]), (.tup 4 [(.tup 3 [(fq 0 1), (fq 2 1)]), (.tup 3 [(fq 0 1), (fq 1 1)]), (.tup 3 [(gq 0 1), (fq 0 1)])])] (fq 8 5) .lf) 821857398 [(.tup 4 [(.tup 3 [(fq 3 1), (fq 0 1)]), (.tup 3 [(fq 1 1), (fq 0 1)]), (.tup 3 [(fq 15 4), (fq 0 1)])]), (.tup 4 [(.tup 3 [(fq 3 1), (fq 0 1)]), (.tup 3 [(fq 1 1), (fq 0 1)]), (.tup 3 [(fq 15 4), (fq 0 1)])])] (fq 135 16) (.nd (.nd .lf 823024112 [(.tup 4 [(.tup 3 [(fq 3 1), (fq 0 1)]), (.tup 3 [(fq 1 1), (fq 0 1)]), (.tup 3 [(fq 63 16), (fq 0 1)])]), (.tup 4 [(.tup 3 [(fq 2 1), (fq 0 1)]), (.tup 3 [(fq 1 1), (fq 0 1)]), (.tup 3 [(fq 95 16), (fq 0 1)])])] (fq 237 20) .lf) 823251077 [(.tup 4 [(.tup 3 [(fq 2 1), (fq 1 1)]), (.tup 3 [(fq 1 1), (fq 0 1)]), (.tup 3 [(fq 1 1), (fq 0 1)])]), (.tup 4 [(.tup 3 [(fq 1 1), (fq 1 1)]), (.tup 3 [(fq 0 1), (fq 1 1)]), (.tup 3 [(fq 1 1), (fq 0 1)])])] (fq 2 3) .lf))) 825793747 [(.tup 4 [(.tup 3 [(fq 0 1), (gq 1 1)]), (.tup 3 [(fq 0 1), (gq 0 1)]), (.tup 3 [(fq 1 1), (fq 0 1)])]), (.tup 4 [(.tup 3 [(fq 0 1), (fq 2 1)]), (.tup 3 [(fq 1 1), (fq 0 1)]), (.tup 3 [(fq 1 1), (fq 0 1)])])] (fq 0 1) (.nd (.nd (.nd (.nd .lf 826186442 [(.tup 4 [(.tup 3 [(fq 0 1), (fq 2 1)]), (.tup 3 [(fq 0 1), (fq 1 1)]), (.tup 3 [(fq 1 1), (fq 0 1)])]), (.tup 4 [(.tup 3 [(fq 0 1), (gq 1 1)]), (.tup 3 [(fq 0 1), (gq 0 1)]), (.tup 3 [(fq 1 1), (fq 0 1)])])] (fq 8 3) .lf) 828537284 [(.tup 4 [(.tup 3 [(fq 0 1), (gq 1 1)]), (.tup 3 [(fq 1 1), (fq 0 1)]), (.tup 3 [(fq 3 5), (gq 7 5)])]), (.tup 4 [(.tup 3 [(fq 0 1), (gq 1 1)]), (.tup 3 [(fq 0 1), (gq 0 1)]), (.tup 3 [(fq 3 5), (gq 7 5)])])] (gq 63 25) .lf) 830829987 [(.tup 4 [(.tup 3 [(fq 2 1), (gq 0 1)]), (.tup 3 [(fq 0 1), (gq 0 1)]), (.tup 3 [(fq 1 1), (fq 0 1)])]), (.tup 4 [(.tup 3 [(fq 1 1), (gq 0 1)]), (.tup 3 [(fq 1 1), (fq 0 1)]), (.tup 3 [(fq 1 1), (fq 0 1)])])] (fq 2 3) (.nd (.nd .lf 837022338 [(.tup 4 [(.tup 3 [(fq 1 1), (gq 0 1)]), (.tup 3 [(fq 1 1), (fq 0 1)]), (.tup 3 [(fq 1 1), (fq 0 1)])]), (.tup 4 [(.tup 3 [(fq 2 1), (fq 1 1)]), (.tup 3 [(fq 1 1), (fq 0 1)]), (.tup 3 [(fq 1 1), (fq 0 1)])])] (fq 14 5) .lf) 840422194 [(.tup 4 [(.tup 3 [(fq 0 1), (fq 2 1)]), (.tup 3 [(fq 1 1), (fq 0 1)]), (.tup 3 [(fq 3 5), (gq 3 5)])]), (.tup 4 [(.tup 3 [(fq 0 1), (gq 1 1)]), (.tup 3 [(fq 1 1), (fq 0 1)]), (.tup 3 [(fq 3 5), (fq 4 5)])])] (fq 8 5) .lf)) 844500273 [(.tup 4 [(.tup 3 [(fq 3 2), (fq 0 1)]), (.tup 3 [(fq 1 1), (fq 0 1)]), (.tup 3 [(fq 5 1), (fq 0 1)])]), (.tup 4 [(.tup 3 [(fq 3 2), (fq 0 1)]), (.tup 3 [(fq 1 1), (fq 0 1)]), (.tup 3 [(fq 5 1), (fq 0 1)])])] (fq 18 1) (.nd (.nd (.nd .lf 844712323 [(.tup 4 [(.tup 3 [(fq 3 1), (fq 0 1)]), (.tup 3 [(fq 1 1), (fq 0 1)]), (.tup 3 [(fq 0 1), (fq 0 1)])]), (.tup 4 [(.tup 3 [(fq 3 1), (fq 0 1)]), (.tup 3 [(fq 1 1), (fq 0 1)]), (.tup 3 [(fq 0 1), (fq 0 1)])])] (fq 0 1) .lf) 844770385 [(.tup 4 [(.tup 3 [(fq 1 1), (gq 0 1)]), (.tup 3 [(fq 0 1), (gq 0 1)]), (.tup 3 [(fq 1 1), (fq 0 1)])]), (.tup 4 [(.tup 3 [(fq 2 1), (fq 1 1)]), (.tup 3 [(fq 0 1), (fq 1 1)]), (.tup 3 [(fq 1 1), (fq 0 1)])])] (fq 14 5) .lf) 847599033 [(.tup 4 [(.tup 3 [(fq 0 1), (fq 2 1)]), (.tup 3 [(fq 1 1), (fq 0 1)]), (.tup 3 [(fq 3 5), (fq 4 5)])]), (.tup 4 [(.tup 3 [(fq 0 1), (gq 1 1)]), (.tup 3 [(fq 0 1), (gq 0 1)]), (.tup 3 [(fq 3 5), (gq 3 5)])])] (fq 0 1) (.nd .lf 850611045 [(.tup 4 [(.tup 3 [(fq 2 1), (gq 0 1)]), (.tup 3 [(fq 0 1), (gq 0 1)]), (.tup 3 [(fq 1 1), (fq 0 1)])]), (.tup 4 [(.tup 3 [(fq 1 1), (fq 1 1)]), (.tup 3 [(fq 1 1), (fq 0 1)]), (.tup 3 [(fq 1 1), (fq 0 1)])])] (gq 1 5) .lf))))) 851501822 [(.tup 4 [(.tup 3 [(fq 0 1), (fq 2 1)]), (.tup 3 [(fq 1 1), (fq 0 1)]), (.tup 3 [(gq 0 1), (fq 0 1)])]), (.tup 4 [(.tup 3 [(fq 0 1), (gq 1 1)]), (.tup 3 [(fq 1 1), (fq 0 1)]), (.tup 3 [(gq 0 1), (fq 0 1)])])] (gq 7 3) (.nd (.nd (.nd (.nd (.nd (.nd .lf 851765695 [(.tup 4 [(.tup 3 [(fq 3 1), (fq 0 1)]), (.tup 3 [(fq 1 1), (fq 0 1)]), (.tup 3 [(fq 4095 1024), (fq 0 1)])]), (.tup 4 [(.tup 3 [(fq 3 1), (fq 0 1)]), (.tup 3 [(fq 1 1), (fq 0 1)]), (.tup 3 [(fq 4095 1024), (fq 0 1)])])] (fq 36855 4096) .lf) 851824761 [(.tup 4 [(.tup 3 [(fq 0 1), (fq 2 1)]), (.tup 3 [(fq 0 1), (fq 1 1)]), (.tup 3 [(fq 3 5), (gq 3 5)])]), (.tup 4 [(.tup 3 [(fq 0 1), (gq 1 1)]), (.tup 3 [(fq 1 1), (fq 0 1)]), (.tup 3 [(fq 3 5), (fq 4 5)])])] (fq 0 1) .lf) 858965590 [(.tup 4 [(.tup 3 [(fq 2 1), (fq 1 1)]), (.tup 3 [(fq 1 1), (fq 0 1)]), (.tup 3 [(fq 1 1), (fq 0 1)])]), (.tup 4 [(.tup 3 [(fq 2 1), (gq 0 1)]), (.tup 3 [(fq 1 1), (fq 0 1)]), (.tup 3 [(fq 1 1), (fq 0 1)])])] (fq 5 2) (.nd (.nd .lf 859574365 [(.tup 4 [(.tup 3 [(fq 0 1), (gq 1 1)]), (.tup 3 [(fq 0 1), (gq 0 1)]), (.tup 3 [(fq 1 1), (fq 0 1)])]), (.tup 4 [(.tup 3 [(fq 0 1), (fq 2 1)]), (.tup 3 [(fq 0 1), (fq 1 1)]), (.tup 3 [(fq 1 1), (fq 0 1)])])] (fq 8 3) .lf) 865783110 [(.tup 4 [(.tup 3 [(fq 1 1), (fq 1 1)]), (.tup 3 [(fq 0 1), (fq 1 1)]), (.tup 3 [(fq 1 1), (fq 0 1)])]), (.tup 4 [(.tup 3 [(fq 2 1), (fq 1 1)]), (.tup 3 [(fq 1 1), (fq 0 1)]), (.tup 3 [(fq 1 1), (fq 0 1)])])] (fq 2 3) .lf)) 866095852 [(.tup 4 [(.tup 3 [(fq 2 1), (fq 0 1)]), (.tup 3 [(fq 1 1), (fq 0 1)]), (.tup 3 [(fq 6 1), (fq 0 1)])]), (.tup 4 [(.tup 3 [(fq 2 1), (fq 0 1)]), (.tup 3 [(fq 1 1), (fq 0 1)]), (.tup 3 [(fq 6 1), (fq 0 1)])])] (fq 16 1) (.nd (.nd (.nd .lf 870036334 [(.tup 4 [(.tup 3 [(fq 3 1), (fq 0 1)]), (.tup 3 [(fq 1 1), (fq 0 1)]), (.tup 3 [(fq 3 2), (fq 0 1)])]), (.tup 4 [(.tup 3 [(fq 3 1), (fq 0 1)]), (.tup 3 [(fq 1 1), (fq 0 1)]), (.tup 3 [(fq 3 2), (fq 0 1)])])] (fq 27 8) .lf) 870369257 [(.tup 4 [(.tup 3 [(fq 0 1), (gq 1 1)]), (.tup 3 [(fq 1 1), (fq 0 1)]), (.tup 3 [(fq 0 1), (fq 0 1)])]), (.tup 4 [(.tup 3 [(fq 0 1), (fq 2 1)]), (.tup 3 [(fq 1 1), (fq 0 1)]), (.tup 3 [(fq 0 1), (fq 0 1)])])] (fq 0 1) .lf) 870802956 [(.tup 4 [(.tup 3 [(fq 1 1), (gq 0 1)]), (.tup 3 [(fq 1 1), (fq 0 1)]), (.tup 3 [(fq 1 1), (fq 0 1)])]), (.tup 4 [(.tup 3 [(fq 2 1), (fq 1 1)]), (.tup 3 [(fq 0 1), (fq 1 1)]), (.tup 3 [(fq 1 1), (fq 0 1)])])] (gq 1 5) (.nd (.nd .lf 879776637 [(.tup 4 [(.tup 3 [(fq 0 1), (gq 1 1)]), (.tup 3 [(fq 1 1), (fq 0 1)]), (.tup 3 [(gq 0 1), (fq 0 1)])]), (.tup 4 [(.tup 3 [(fq 0 1), (fq 2 1)]), (.tup 3 [(fq 1 1), (fq 0 1)]), (.tup 3 [(gq 0 1), (fq 0 1)])])] (gq 7 3) .lf) 882758037 [(.tup 4 [(.tup 3 [(fq 2 1), (gq 0 1)]), (.tup 3 [(fq 1 1), (fq 0 1)]), (.tup 3 [(fq 1 1), (fq 0 1)])]), (.tup 4 [(.tup 3 [(fq 2 1), (fq 1 1)]), (.tup 3 [(fq 1 1), (fq 0 1)]), (.tup 3 [(fq 1 1), (fq 0 1)])])] (fq 5 2) .lf))) 884391663 [(.tup 4 [(.tup 3 [(fq 2 1), (gq 0 1)]), (.tup 3 [(fq 0 1), (gq 0 1)]), (.tup 3 [(fq 1 1), (fq 0 1)])]), (.tup 4 [(.tup 3 [(fq 1 1), (fq 1 1)]), (.tup 3 [(fq 0 1), (fq 1 1)]), (.tup 3 [(fq 1 1), (fq 0 1)])])] (fq 14 5) (.nd (.nd (.nd (.nd .lf 885987622 [(.tup 4 [(.tup 3 [(fq 2 1), (fq 0 1)]), (.tup 3 [(fq 1 1), (fq 0 1)]), (.tup 3 [(fq 23 8), (fq 0 1)])]), (.tup 4 [(.tup 3 [(fq 3 1), (fq 0 1)]), (.tup 3 [(fq 1 1), (fq 0 1)]), (.tup 3 [(fq 15 8), (fq 0 1)])])] (fq 57 10) .lf) 893271791 [(.tup 4 [(.tup 3 [(fq 2 1), (fq 0 1)]), (.tup 3 [(fq 1 1), (fq 0 1)]), (.tup 3 [(gq 0 1), (fq 0 1)])]), (.tup 4 [(.tup 3 [(fq 2 1), (fq 0 1)]), (.tup 3 [(fq 1 1), (fq 0 1)]), (.tup 3 [(gq 0 1), (fq 0 1)])])] (gq 7 3) .lf) 893345686 [(.tup 4 [(.tup 3 [(fq 0 1), (gq 1 1)]), (.tup 3 [(fq 0 1), (gq 0 1)]), (.tup 3 [(gq 0 1), (fq 0 1)])]), (.tup 4 [(.tup 3 [(fq 0 1), (gq 1 1)]), (.tup 3 [(fq 0 1), (gq 0 1)]), (.tup 3 [(gq 0 1), (fq 0 1)])])] (fq 8 5) (.nd (.nd .lf 899013735 [(.tup 4 [(.tup 3 [(fq 0 1), (fq 2 1)]), (.tup 3 [(fq 0 1), (fq 1 1)]), (.tup 3 [(fq 0 1), (fq 0 1)])]), (.tup 4 [(.tup 3 [(fq 3 1), (fq 0 1)]), (.tup 3 [(fq 1 1), (fq 0 1)]), (.tup 3 [(fq 1 1), (fq 0 1)])])] (fq 6 37) .lf) 899563728 [(.tup 4 [(.tup 3 [(fq 1 1), (fq 1 1)]), (.tup 3 [(fq 0 1), (fq 1 1)]), (.tup 3 [(fq 1 1), (fq 0 1)])]), (.tup 4 [(.tup 3 [(fq 2 1), (fq 1 1)]), (.tup 3 [(fq 0 1), (fq 1 1)]), (.tup 3 [(fq 1 1), (fq 0 1)])])] (gq 1 1) .lf)) 899844481 [(.tup 4 [(.tup 3 [(fq 2 1), (fq 0 1)]), (.tup 3 [(fq 1 1), (fq 0 1)]), (.tup 3 [(fq 383 128), (fq 0 1)])]), (.tup 4 [(.tup 3 [(fq 3 1), (fq 0 1)]), (.tup 3 [(fq 1 1), (fq 0 1)]), (.tup 3 [(fq 255 128), (fq 0 1)])])] (fq 957 160) (.nd (.nd (.nd .lf 900854493 [(.tup 4 [(.tup 3 [(fq 2 1), (fq 0 1)]), (.tup 3 [(fq 1 1), (fq 0 1)]), (.tup 3 [(fq 191 32), (fq 0 1)])]), (.tup 4 [(.tup 3 [(fq 3 1), (fq 0 1)]), (.tup 3 [(fq 1 1), (fq 0 1)]), (.tup 3 [(fq 127 32), (fq 0 1)])])] (fq 477 40) .lf) 901211145 [(.tup 4 [(.tup 3 [(fq 2 1), (fq 1 1)]), (.tup 3 [(fq 1 1), (fq 0 1)]), (.tup 3 [(fq 1 1), (fq 0 1)])]), (.tup 4 [(.tup 3 [(fq 2 1), (fq 1 1)]), (.tup 3 [(fq 1 1), (fq 0 1)]), (.tup 3 [(fq 1 1), (fq 0 1)])])] (fq 11 5) .lf) 904149875 [(.tup 4 [(.tup 3 [(fq 0 1), (gq 1 1)]), (.tup 3 [(fq 1 1), (fq 0 1)]), (.tup 3 [(fq 0 1), (fq 0 1)])]), (.tup 4 [(.tup 3 [(fq 0 1), (fq 2 1)]), (.tup 3 [(fq 0 1), (fq 1 1)]), (.tup 3 [(fq 0 1), (fq 0 1)])])] (fq 0 1) (.nd .lf 905708087 [(.tup 4 [(.tup 3 [(fq 2 1), (fq 0 1)]), (.tup 3 [(fq 1 1), (fq 0 1)]), (.tup 3 [(fq 6143 1024), (fq 0 1)])]), (.tup 4 [(.tup 3 [(fq 2 1), (fq 0 1)]), (.tup 3 [(fq 1 1), (fq 0 1)]), (.tup 3 [(fq 6143 1024), (fq 0 1)])])] (fq 6143 384) .lf)))) 912591588 [(.tup 4 [(.tup 3 [(gq 0 1), (fq 1 1)]), (.tup 3 [(fq 1 1), (fq 0 1)]), (.tup 3 [(fq 1 1), (fq 1 2)])]), (.tup 4 [(.tup 3 [(gq 0 1), (gq 0 1)]), (.tup 3 [(fq 0 1), (gq 0 1)]), (.tup 3 [(fq 1 1), (gq 0 2)])])] (fq 0 1) (.nd (.nd (.nd (.nd (.nd .lf 915509331 [(.tup 4 [(.tup 3 [(fq 2 1), (fq 0 1)]), (.tup 3 [(fq 1 1), (fq 0 1)]), (.tup 3 [(fq 3 1), (fq 0 1)])]), (.tup 4 [(.tup 3 [(fq 2 1), (fq 0 1)]), (.tup 3 [(fq 1 1), (fq 0 1)]), (.tup 3 [(fq 3 1), (fq 0 1)])])] (fq 8 1) .lf) 916538655 [(.tup 4 [(.tup 3 [(fq 2 1), (gq 0 1)]), (.tup 3 [(fq 1 1), (fq 0 1)]), (.tup 3 [(fq 1 1), (fq 0 1)])]), (.tup 4 [(.tup 3 [(fq 2 1), (fq 1 1)]), (.tup 3 [(fq 0 1), (fq 1 1)]), (.tup 3 [(fq 1 1), (fq 0 1)])])] (fq 0 1) .lf) 923805737 [(.tup 4 [(.tup 3 [(fq 0 1), (gq 1 1)]), (.tup 3 [(fq 0 1), (gq 0 1)]), (.tup 3 [(fq 3 5), (gq 3 5)])]), (.tup 4 [(.tup 3 [(fq 0 1), (fq 2 1)]), (.tup 3 [(fq 1 1), (fq 0 1)]), (.tup 3 [(fq 3 5), (fq 4 5)])])] (fq 0 1) (.nd (.nd .lf 926625056 [(.tup 4 [(.tup 3 [(fq 1 1), (fq 1 1)]), (.tup 3 [(fq 1 1), (fq 0 1)]), (.tup 3 [(fq 1 1), (fq 0 1)])]), (.tup 4 [(.tup 3 [(fq 2 1), (gq 0 1)]), (.tup 3 [(fq 0 1), (gq 0 1)]), (.tup 3 [(fq 1 1), (fq 0 1)])])] (gq 1 5) .lf) 928091614 [(.tup 4 [(.tup 3 [(fq 3 1), (fq 0 1)]), (.tup 3 [(fq 1 1), (fq 0 1)]), (.tup 3 [(fq 63 16), (fq 0 1)])]), (.tup 4 [(.tup 3 [(fq 3 1), (fq 0 1)]), (.tup 3 [(fq 1 1), (fq 0 1)]), (.tup 3 [(fq 63 16), (fq 0 1)])])] (fq 567 64) .lf)) 934991763 [(.tup 4 [(.tup 3 [(fq 2 1), (fq 1 1)]), (.tup 3 [(fq 1 1), (fq 0 1)]), (.tup 3 [(fq 1 1), (fq 0 1)])]), (.tup 4 [(.tup 3 [(fq 2 1), (fq 1 1)]), (.tup 3 [(fq 0 1), (fq 1 1)]), (.tup 3 [(fq 1 1), (fq 0 1)])])] (fq 2 5) (.nd (.nd (.nd .lf 938027623 [(.tup 4 [(.tup 3 [(fq 1 1), (fq 1 1)]), (.tup 3 [(fq 0 1), (fq 1 1)]), (.tup 3 [(fq 1 1), (fq 0 1)])]), (.tup 4 [(.tup 3 [(fq 2 1), (gq 0 1)]), (.tup 3 [(fq 0 1), (gq 0 1)]), (.tup 3 [(fq 1 1), (fq 0 1)])])] (fq 14 5) .lf) 948919950 [(.tup 4 [(.tup 3 [(gq 0 1), (gq 0 1)]), (.tup 3 [(fq 1 1), (fq 0 1)]), (.tup 3 [(fq 1 1), (gq 0 2)])]), (.tup 4 [(.tup 3 [(gq 0 1), (gq 0 1)]), (.tup 3 [(fq 0 1), (gq 0 1)]), (.tup 3 [(fq 1 1), (gq 0 2)])])] (gq 7 5) .lf) 952872240 [(.tup 4 [(.tup 3 [(fq 2 1), (gq 0 1)]), (.tup 3 [(fq 1 1), (fq 0 1)]), (.tup 3 [(fq 1 1), (fq 0 1)])]), (.tup 4 [(.tup 3 [(fq 1 1), (gq 0 1)]), (.tup 3 [(fq 0 1), (gq 0 1)]), (.tup 3 [(fq 1 1), (fq 0 1)])])] (fq 2 3) (.nd .lf 957586355 [(.tup 4 [(.tup 3 [(fq 0 1), (gq 1 1)]), (.tup 3 [(fq 0 1), (gq 0 1)]), (.tup 3 [(fq 3 5), (gq 3 5)])]), (.tup 4 [(.tup 3 [(fq 0 1), (fq 2 1)]), (.tup 3 [(fq 0 1), (fq 1 1)]), (.tup 3 [(fq 3 5), (fq 4 5)])])] (fq 8 5) .lf))) 958189160 [(.tup 4 [(.tup 3 [(fq 0 1), (fq 2 1)]), (.tup 3 [(fq 1 1), (fq 0 1)]), (.tup 3 [(gq 0 1), (fq 0 1)])]), (.tup 4 [(.tup 3 [(fq 0 1), (gq 1 1)]), (.tup 3 [(fq 0 1), (gq 0 1)]), (.tup 3 [(gq 0 1), (fq 0 1)])])] (fq 0 1) (.nd (.nd (.nd (.nd .lf 960610554 [(.tup 4 [(.tup 3 [(fq 0 1), (gq 1 1)]), (.tup 3 [(fq 0 1), (gq 0 1)]), (.tup 3 [(fq 6 5), (fq 8 5)])]), (.tup 4 [(.tup 3 [(fq 0 1), (fq 2 1)]), (.tup 3 [(fq 0 1), (fq 1 1)]), (.tup 3 [(fq 6 5), (gq 7 5)])])] (fq 16 5) .lf) 962351731 [(.tup 4 [(.tup 3 [(fq 2 1), (gq 0 1)]), (.tup 3 [(fq 0 1), (gq 0 1)]), (.tup 3 [(fq 1 1), (fq 0 1)])]), (.tup 4 [(.tup 3 [(fq 2 1), (fq 1 1)]), (.tup 3 [(fq 1 1), (fq 0 1)]), (.tup 3 [(fq 1 1), (fq 0 1)])])] (fq 0 1) .lf) 964922810 [(.tup 4 [(.tup 3 [(fq 2 1), (fq 0 1)]), (.tup 3 [(fq 1 1), (fq 0 1)]), (.tup 3 [(fq 0 1), (fq 0 1)])]), (.tup 4 [(.tup 3 [(fq 2 1), (fq 0 1)]), (.tup 3 [(fq 1 1), (fq 0 1)]), (.tup 3 [(fq 0 1), (fq 0 1)])])] (fq 0 1) (.nd (.nd .lf 977088463 [(.tup 4 [(.tup 3 [(fq 1 1), (gq 0 1)]), (.tup 3 [(fq 0 1), (gq 0 1)]), (.tup 3 [(fq 1 1), (fq 0 1)])]), (.tup 4 [(.tup 3 [(fq 2 1), (gq 0 1)]), (.tup 3 [(fq 1 1), (fq 0 1)]), (.tup 3 [(fq 1 1), (fq 0 1)])])] (fq 2 3) .lf) 977419464 [(.tup 4 [(.tup 3 [(fq 2 1), (fq 0 1)]), (.tup 3 [(fq 1 1), (fq 0 1)]), (.tup 3 [(fq 6 1), (fq 0 1)])]), (.tup 4 [(.tup 3 [(fq 3 1), (fq 0 1)]), (.tup 3 [(fq 1 1), (fq 0 1)]), (.tup 3 [(fq 4 1), (fq 0 1)])])] (fq 12 1) .lf)) 978507320 [(.tup 4 [(.tup 3 [(fq 2 1), (fq 0 1)]), (.tup 3 [(fq 1 1), (fq 0 1)]), (.tup 3 [(fq 47 16), (fq 0 1)])]), (.tup 4 [(.tup 3 [(fq 2 1), (fq 0 1)]), (.tup 3 [(fq 1 1), (fq 0 1)]), (.tup 3 [(fq 47 16), (fq 0 1)])])] (fq 47 6) (.nd (.nd (.nd .lf 982213002 [(.tup 4 [(.tup 3 [(fq 0 1), (fq 2 1)]), (.tup 3 [(fq 1 1), (fq 0 1)]), (.tup 3 [(fq 3 5), (fq 8 5)])]), (.tup 4 [(.tup 3 [(fq 0 1), (gq 1 1)]), (.tup 3 [(fq 1 1), (fq 0 1)]), (.tup 3 [(fq 3 5), (gq 7 5)])])] (fq 8 5) .lf) 993615569 [(.tup 4 [(.tup 3 [(fq 0 1), (fq 2 1)]), (.tup 3 [(fq 0 1), (fq 1 1)]), (.tup 3 [(fq 3 5), (fq 8 5)])]), (.tup 4 [(.tup 3 [(fq 0 1), (gq 1 1)]), (.tup 3 [(fq 1 1), (fq 0 1)]), (.tup 3 [(fq 3 5), (gq 7 5)])])] (fq 0 1) .lf) 996132349 [(.tup 4 [(.tup 3 [(fq 2 1), (gq 0 1)]), (.tup 3 [(fq 0 1), (gq 0 1)]), (.tup 3 [(fq 1 1), (fq 0 1)])]), (.tup 4 [(.tup 3 [(fq 2 1), (fq 1 1)]), (.tup 3 [(fq 0 1), (fq 1 1)]), (.tup 3 [(fq 1 1), (fq 0 1)])])] (fq 5 2) (.nd .lf 998904415 [(.tup 4 [(.tup 3 [(fq 0 1), (gq 1 1)]), (.tup 3 [(fq 0 1), (gq 0 1)]), (.tup 3 [(fq 6 5), (fq 8 5)])]), (.tup 4 [(.tup 3 [(fq 0 1), (gq 1 1)]), (.tup 3 [(fq 1 1), (fq 0 1)]), (.tup 3 [(fq 6 5), (fq 8 5)])])] (fq 64 25) .lf))))))
def t2_4 : Tr := (.nd t2_5 771017351 [(.tup 4 [(.tup 3 [(fq 2 1), (gq 0 1)]), (.tup 3 [(fq 1 1), (fq 0 1)]), (.tup 3 [(fq 1 1), (fq 0 1)])]), (.tup 4 [(.tup 3 [(fq 1 1), (fq 1 1)]), (.tup 3 [(fq 1 1), (fq 0 1)]), (.tup 3 [(fq 1 1), (fq 0 1)])])] (fq 14 5) t2_6)
def t2_0 : Tr := (.nd t2_1 481871219 [(.tup 4 [(.tup 3 [(fq 0 1), (fq 2 1)]), (.tup 3 [(fq 1 1), (fq 0 1)]), (.tup 3 [(fq 3 5), (fq 4 5)])]), (.tup 4 [(.tup 3 [(fq 0 1), (fq 2 1)]), (.tup 3 [(fq 0 1), (fq 1 1)]), (.tup 3 [(fq 3 5), (fq 4 5)])])] (gq 31 25) t2_4)
def t3_0 : Tr := (.nd (.nd (.nd (.nd (.nd (.nd .lf 78897550 [(.tup 3 [(fq 0 1)]), (.int (.ofNat 0)), (.tup 4 [(.tup 3 [(fq 0 1), (gq 1 1)]), (.tup 3 [(fq 1 1), (fq 0 1)]), (.tup 3 [(fq 0 1), (fq 0 1)])])] (fq 0 1) .lf) 79973496 [(.tup 3 [(fq 1 1), (fq 0 1)]), (.int (.ofNat 0)), (.tup 4 [(.tup 3 [(fq 1 1), (fq 1 1)]), (.tup 3 [(fq 1 1), (fq 0 1)]), (.tup 3 [(fq 1 1), (fq 0 1)])])] (fq 2 1) .lf) 96765266 [(.tup 3 [(fq 0 1)]), (.int (.ofNat 0)), (.tup 4 [(.tup 3 [(fq 2 1), (fq 0 1)]), (.tup 3 [(fq 1 1), (fq 0 1)]), (.tup 3 [(fq 0 1), (fq 0 1)])])] (fq 0 1) (.nd .lf 97390877 [(.tup 3 [(fq 0 1)]), (.int (.ofNat 0)), (.tup 4 [(.tup 3 [(fq 2 1), (fq 0 1)]), (.tup 3 [(fq 1 1), (fq 0 1)]), (.tup 3 [(fq 3 1), (fq 0 1)])])] (fq 3 1) .lf)) 113754114 [(.tup 3 [(fq 1 1), (fq 0 1)]), (.int (.ofNat 0)), (.tup 4 [(.tup 3 [(fq 1 1), (fq 1 1)]), (.tup 3 [(fq 0 1), (fq 1 1)]), (.tup 3 [(fq 1 1), (fq 0 1)])])] (fq 0 1) (.nd (.nd .lf 183310115 [(.tup 3 [(fq 1 1), (fq 1 1)]), (.int (.ofNat 1)), (.tup 4 [(.tup 3 [(gq 0 1), (gq 0 1)]), (.tup 3 [(fq 1 1), (fq 0 1)]), (.tup 3 [(fq 1 1), (gq 0 2)])])] (fq 1 4) .lf) 191714182 [(.tup 3 [(fq 1 1), (fq 0 1)]), (.int (.ofNat 0)), (.tup 4 [(.tup 3 [(fq 2 1), (fq 1 1)]), (.tup 3 [(fq 1 1), (fq 0 1)]), (.tup 3 [(fq 1 1), (fq 0 1)])])] (fq 2 1) (.nd .lf 218679418 [(.tup 3 [(fq 1 1), (fq 0 1)]), (.int (.ofNat 1)), (.tup 4 [(.tup 3 [(fq 1 1), (fq 1 1)]), (.tup 3 [(fq 1 1), (fq 0 1)]), (.tup 3 [(fq 1 1), (fq 0 1)])])] (fq 1 1) .lf))) 225494800 [(.tup 3 [(fq 1 1), (fq 0 1)]), (.int (.ofNat 0)), (.tup 4 [(.tup 3 [(fq 2 1), (fq 1 1)]), (.tup 3 [(fq 0 1), (fq 1 1)]), (.tup 3 [(fq 1 1), (fq 0 1)])])] (fq 0 1) (.nd (.nd (.nd (.nd .lf 244373154 [(.tup 3 [(fq 1 1), (fq 1 1)]), (.int (.ofNat 0)), (.tup 4 [(.tup 3 [(gq 0 1), (gq 0 1)]), (.tup 3 [(fq 1 1), (fq 0 1)]), (.tup 3 [(fq 1 1), (gq 0 2)])])] (fq 2 1) .lf) 252460036 [(.tup 3 [(fq 1 1), (fq 0 1)]), (.int (.ofNat 1)), (.tup 4 [(.tup 3 [(fq 1 1), (fq 1 1)]), (.tup 3 [(fq 0 1), (fq 1 1)]), (.tup 3 [(fq 1 1), (fq 0 1)])])] (fq 1 1) .lf) 276010690 [(.tup 3 [(fq 0 1)]), (.int (.ofNat 0)), (.tup 4 [(.tup 3 [(fq 0 1), (gq 1 1)]), (.tup 3 [(fq 0 1), (gq 0 1)]), (.tup 3 [(fq 0 1), (fq 0 1)])])] (fq 0 1) (.nd .lf 330391625 [(.tup 3 [(fq 1 1), (fq 0 1)]), (.int (.ofNat 0)), (.tup 4 [(.tup 3 [(fq 1 1), (gq 0 1)]), (.tup 3 [(fq 1 1), (fq 0 1)]), (.tup 3 [(fq 1 1), (fq 0 1)])])] (fq 2 1) .lf)) 330420104 [(.tup 3 [(fq 1 1), (fq 0 1)]), (.int (.ofNat 1)), (.tup 4 [(.tup 3 [(fq 2 1), (fq 1 1)]), (.tup 3 [(fq 1 1), (fq 0 1)]), (.tup 3 [(fq 1 1), (fq 0 1)])])] (fq 4 5) (.nd (.nd .lf 364200722 [(.tup 3 [(fq 1 1), (fq 0 1)]), (.int (.ofNat 1)), (.tup 4 [(.tup 3 [(fq 2 1), (fq 1 1)]), (.tup 3 [(fq 0 1), (fq 1 1)]), (.tup 3 [(fq 1 1), (fq 0 1)])])] (fq 2 5) .lf) 393155377 [(.tup 3 [(fq 1 1)]), (.int (.ofNat 0)), (.tup 4 [(.tup 3 [(fq 2 1), (fq 0 1)]), (.tup 3 [(fq 1 1), (fq 0 1)]), (.tup 3 [(fq 0 1), (fq 0 1)])])] (fq 1 1) (.nd .lf 393363914 [(.tup 3 [(fq 1 1)]), (.int (.ofNat 0)), (.tup 4 [(.tup 3 [(fq 2 1), (fq 0 1)]), (.tup 3 [(fq 1 1), (fq 0 1)]), (.tup 3 [(fq 1 1), (fq 0 1)])])] (fq 2 1) .lf)))) 393377368 [(.tup 3 [(fq 1 1)]), (.int (.ofNat 0)), (.tup 4 [(.tup 3 [(fq 2 1), (fq 0 1)]), (.tup 3 [(fq 1 1), (fq 0 1)]), (.tup 3 [(fq 1 3), (fq 0 1)])])] (fq 4 3) (.nd (.nd (.nd (.nd (.nd .lf 393780988 [(.tup 3 [(fq 1 1)]), (.int (.ofNat 0)), (.tup 4 [(.tup 3 [(fq 2 1), (fq 0 1)]), (.tup 3 [(fq 1 1), (fq 0 1)]), (.tup 3 [(fq 3 1), (fq 0 1)])])] (fq 4 1) .lf) 431427725 [(.tup 3 [(fq 1 1), (fq 0 1)]), (.int (.ofNat 1)), (.tup 4 [(.tup 3 [(fq 1 1), (gq 0 1)]), (.tup 3 [(fq 1 1), (fq 0 1)]), (.tup 3 [(fq 1 1), (fq 0 1)])])] (fq 1 1) .lf) 486517655 [(.tup 3 [(fq 0 1)]), (.int (.ofNat 0)), (.tup 4 [(.tup 3 [(fq 0 1), (fq 2 1)]), (.tup 3 [(fq 1 1), (fq 0 1)]), (.tup 3 [(fq 0 1), (fq 0 1)])])] (fq 0 1) (.nd .lf 520298273 [(.tup 3 [(fq 0 1)]), (.int (.ofNat 0)), (.tup 4 [(.tup 3 [(fq 0 1), (fq 2 1)]), (.tup 3 [(fq 0 1), (fq 1 1)]), (.tup 3 [(fq 0 1), (fq 0 1)])])] (fq 0 1) .lf)) 603051606 [(.tup 3 [(fq 1 1), (fq 0 1)]), (.int (.ofNat 1)), (.tup 4 [(.tup 3 [(fq 2 1), (gq 0 1)]), (.tup 3 [(fq 0 1), (gq 0 1)]), (.tup 3 [(fq 1 1), (fq 0 1)])])] (fq 2 5) (.nd (.nd .lf 653301941 [(.tup 3 [(fq 1 1), (fq 1 1)]), (.int (.ofNat 0)), (.tup 4 [(.tup 3 [(gq 0 1), (gq 0 1)]), (.tup 3 [(fq 0 1), (gq 0 1)]), (.tup 3 [(fq 1 1), (gq 0 2)])])] (gq 0 2) .lf) 657307929 [(.tup 3 [(fq 1 1), (fq 0 1)]), (.int (.ofNat 0)), (.tup 4 [(.tup 3 [(fq 2 1), (gq 0 1)]), (.tup 3 [(fq 1 1), (fq 0 1)]), (.tup 3 [(fq 1 1), (fq 0 1)])])] (fq 2 1) (.nd .lf 708266585 [(.tup 3 [(fq 1 1), (fq 0 1)]), (.int (.ofNat 0)), (.tup 4 [(.tup 3 [(fq 2 1), (gq 0 1)]), (.tup 3 [(fq 0 1), (gq 0 1)]), (.tup 3 [(fq 1 1), (fq 0 1)])])] (fq 0 1) .lf))) 741710573 [(.tup 3 [(fq 1 1), (fq 1 1)]), (.int (.ofNat 1)), (.tup 4 [(.tup 3 [(gq 0 1), (gq 0 1)]), (.tup 3 [(fq 0 1), (gq 0 1)]), (.tup 3 [(fq 1 1), (gq 0 2)])])] (fq 5 4) (.nd (.nd (.nd .lf 758344029 [(.tup 3 [(fq 1 1), (fq 0 1)]), (.int (.ofNat 1)), (.tup 4 [(.tup 3 [(fq 2 1), (gq 0 1)]), (.tup 3 [(fq 1 1), (fq 0 1)]), (.tup 3 [(fq 1 1), (fq 0 1)])])] (fq 4 5) .lf) 793506344 [(.tup 3 [(fq 1 1), (fq 0 1)]), (.int (.ofNat 1)), (.tup 4 [(.tup 3 [(fq 1 1), (gq 0 1)]), (.tup 3 [(fq 0 1), (gq 0 1)]), (.tup 3 [(fq 1 1), (fq 0 1)])])] (fq 1 1) (.nd .lf 865132832 [(.tup 3 [(fq 1 1), (fq 1 1)]), (.int (.ofNat 0)), (.tup 4 [(.tup 3 [(gq 0 1), (fq 1 1)]), (.tup 3 [(fq 1 1), (fq 0 1)]), (.tup 3 [(fq 1 1), (fq 1 2)])])] (fq 2 1) .lf)) 898721323 [(.tup 3 [(fq 1 1), (fq 0 1)]), (.int (.ofNat 0)), (.tup 4 [(.tup 3 [(fq 1 1), (gq 0 1)]), (.tup 3 [(fq 0 1), (gq 0 1)]), (.tup 3 [(fq 1 1), (fq 0 1)])])] (fq 0 1) (.nd (.nd .lf 898913450 [(.tup 3 [(fq 1 1), (fq 1 1)]), (.int (.ofNat 0)), (.tup 4 [(.tup 3 [(gq 0 1), (fq 1 1)]), (.tup 3 [(fq 0 1), (fq 1 1)]), (.tup 3 [(fq 1 1), (fq 1 2)])])] (gq 0 2) .lf) 966168932 [(.tup 3 [(fq 1 1), (fq 1 1)]), (.int (.ofNat 1)), (.tup 4 [(.tup 3 [(gq 0 1), (fq 1 1)]), (.tup 3 [(fq 1 1), (fq 0 1)]), (.tup 3 [(fq 1 1), (fq 1 2)])])] (fq 1 4) (.nd .lf 999949550 [(.tup 3 [(fq 1 1), (fq 1 1)]), (.int (.ofNat 1)), (.tup 4 [(.tup 3 [(gq 0 1), (fq 1 1)]), (.tup 3 [(fq 0 1), (fq 1 1)]), (.tup 3 [(fq 1 1), (fq 1 2)])])] (fq 5 4) .lf)))))
def t4_0 : Tr := (.nd (.nd (.nd (.nd (.nd (.nd .lf 51205749 [(.tup 3 [(fq 2 1)]), (.tup 3 [(fq 1 1), (gq 0 2)])] (.tup 3 [(fq 2 1), (gq 0 1)]) .lf) 123939878 [(.tup 3 [(fq 1 1), (fq 1 1)]), (.tup 3 [(fq 1 1)])] (.tup 3 [(fq 1 1), (fq 1 1)]) .lf) 132709625 [(.tup 3 [(fq 8 5), (fq 3 5)]), (.tup 3 [(fq 1 1)])] (.tup 3 [(fq 8 5), (fq 3 5)]) (.nd (.nd .lf 142022054 [(.tup 3 [(fq 1 1)]), (.tup 3 [(fq 1 1), (fq 1 1)])] (.tup 3 [(fq 1 1), (fq 1 1)]) .lf) 142022056 [(.tup 3 [(fq 1 1)]), (.tup 3 [(fq 1 1), (fq 1 3)])] (.tup 3 [(fq 1 1), (fq 1 3)]) .lf)) 212420537 [(.tup 3 [(fq 5 1)]), (.tup 3 [(fq 1 1), (gq 0 2)])] (.tup 3 [(fq 5 1), (gq 4 2)]) (.nd (.nd (.nd .lf 304141155 [(.tup 3 [(fq 0 1), (fq 1 1)]), (.tup 3 [(fq 1 1)])] (.tup 3 [(fq 0 1), (fq 1 1)]) .lf) 330800821 [(.tup 3 [(fq 1 1)]), (.tup 3 [(fq 1 1), (gq 0 1)])] (.tup 3 [(fq 1 1), (gq 0 1)]) .lf) 330800822 [(.tup 3 [(fq 1 1)]), (.tup 3 [(fq 1 1), (gq 0 2)])] (.tup 3 [(fq 1 1), (gq 0 2)]) (.nd (.nd .lf 330800823 [(.tup 3 [(fq 1 1)]), (.tup 3 [(fq 1 1), (gq 0 3)])] (.tup 3 [(fq 1 1), (gq 0 3)]) .lf) 330800854 [(.tup 3 [(fq 1 1)]), (.tup 3 [(fq 1 1), (gq 1 3)])] (.tup 3 [(fq 1 1), (gq 1 3)]) .lf))) 333052196 [(.tup 3 [(fq 1 1)]), (.tup 3 [(gq 1 1), (fq 1 1)])] (.tup 3 [(gq 1 1), (fq 1 1)]) (.nd (.nd (.nd (.nd .lf 333065652 [(.tup 3 [(fq 1 1)]), (.tup 3 [(gq 1 3), (fq 1 3)])] (.tup 3 [(gq 1 3), (fq 1 3)]) .lf) 333267460 [(.tup 3 [(fq 1 1)]), (.tup 3 [(gq 2 2), (fq 1 1)])] (.tup 3 [(gq 2 2), (fq 1 1)]) .lf) 333280917 [(.tup 3 [(fq 1 1)]), (.tup 3 [(gq 2 4), (fq 1 4)])] (.tup 3 [(gq 2 4), (fq 1 4)]) (.nd (.nd .lf 333523125 [(.tup 3 [(fq 1 1)]), (.tup 3 [(gq 3 9), (fq 2 9)])] (.tup 3 [(gq 3 9), (fq 2 9)]) .lf) 334316967 [(.tup 3 [(fq 1 1)]), (.tup 3 [(gq 7 3), (fq 4 3)])] (.tup 3 [(gq 7 3), (fq 4 3)]) .lf)) 334559113 [(.tup 3 [(fq 1 1)]), (.tup 3 [(gq 8 8), (fq 3 8)])] (.tup 3 [(gq 8 8), (fq 3 8)]) (.nd (.nd (.nd .lf 334572564 [(.tup 3 [(fq 1 1)]), (.tup 3 [(gq 8 10), (fq 3 5)])] (.tup 3 [(gq 8 10), (fq 3 5)]) .lf) 382144954 [(.tup 3 [(fq 1 1)]), (.tup 3 [(fq 1 1), (fq 0 1), (fq 1 4)])] (.tup 3 [(fq 1 1), (fq 0 1), (fq 1 4)]) .lf) 472117833 [(.tup 3 [(fq 9 2)]), (.tup 3 [(fq 1 1), (gq 0 2)])] (.tup 3 [(fq 9 2), (gq 8 4)]) (.nd (.nd .lf 494571939 [(.tup 3 [(fq 6 5), (fq 4 5)]), (.tup 3 [(fq 1 2)])] (.tup 3 [(fq 3 5), (fq 2 5)]) .lf) 527487694 [(.tup 3 [(gq 7 5), (fq 3 5)]), (.tup 3 [(fq 1 1)])] (.tup 3 [(gq 7 5), (fq 3 5)]) .lf)))) 580406919 [(.tup 3 [(fq 18 1)]), (.tup 3 [(gq 3 9), (fq 2 9)])] (.tup 3 [(gq 7 1), (fq 4 1)]) (.nd (.nd (.nd (.nd (.nd .lf 606350569 [(.tup 3 [(fq 9 5)]), (.tup 3 [(fq 1 1), (gq 0 2)])] (.tup 3 [(fq 9 5), (gq 8 10)]) .lf) 609207975 [(.tup 3 [(fq 1 1)]), (.tup 3 [(fq 1 1)])] (.tup 3 [(fq 1 1)]) .lf) 609302153 [(.tup 3 [(fq 1 3)]), (.tup 3 [(fq 1 1)])] (.tup 3 [(fq 1 3)]) (.nd (.nd .lf 610667735 [(.tup 3 [(fq 2 1)]), (.tup 3 [(fq 1 2)])] (.tup 3 [(fq 1 1)]) .lf) 612127493 [(.tup 3 [(fq 3 1)]), (.tup 3 [(fq 1 1)])] (.tup 3 [(fq 3 1)]) .lf)) 695478700 [(.tup 3 [(fq 16 5), (fq 6 5)]), (.tup 3 [(fq 1 1)])] (.tup 3 [(fq 16 5), (fq 6 5)]) (.nd (.nd (.nd .lf 712394548 [(.tup 3 [(fq 1 2)]), (.tup 3 [(gq 7 3), (fq 4 3)])] (.tup 3 [(gq 3 3), (fq 2 3)]) .lf) 726309204 [(.tup 3 [(fq 12 5), (gq 7 5)]), (.tup 3 [(gq 0 2)])] (.tup 3 [(gq 5 5), (fq 4 5)]) .lf) 774077321 [(.tup 3 [(fq 3 1)]), (.tup 3 [(gq 2 2), (fq 1 1)])] (.tup 3 [(gq 8 2), (fq 3 1)]) (.nd (.nd .lf 774090778 [(.tup 3 [(fq 3 1)]), (.tup 3 [(gq 2 4), (fq 1 4)])] (.tup 3 [(gq 8 4), (fq 3 4)]) .lf) 775368974 [(.tup 3 [(fq 3 1)]), (.tup 3 [(gq 8 8), (fq 3 8)])] (.tup 3 [(gq 26 8), (fq 9 8)]) .lf))) 775382425 [(.tup 3 [(fq 3 1)]), (.tup 3 [(gq 8 10), (fq 3 5)])] (.tup 3 [(gq 26 10), (fq 9 5)]) (.nd (.nd (.nd (.nd .lf 777128471 [(.tup 3 [(fq 0 1), (fq 2 1)]), (.tup 3 [(fq 0 1), (fq 1 1)])] (.tup 3 [(fq 0 1), (fq 0 1), (fq 2 1)]) .lf) 781619509 [(.tup 3 [(fq 3 1)]), (.tup 3 [(fq 1 1), (fq 1 3)])] (.tup 3 [(fq 3 1), (fq 1 1)]) .lf) 786117638 [(.tup 3 [(fq 6 5), (gq 3 5)]), (.tup 3 [(gq 0 2)])] (.tup 3 [(gq 2 5), (fq 2 5)]) (.nd (.nd .lf 823893694 [(.tup 3 [(fq 1 1)]), (.tup 3 [(gq 0 1)])] (.tup 3 [(gq 0 1)]) .lf) 825635988 [(.tup 3 [(fq 2 1)]), (.tup 3 [(gq 0 2)])] (.tup 3 [(gq 0 1)]) .lf)) 869432443 [(.tup 3 [(fq 1 1), (fq 1 3)]), (.tup 3 [(fq 1 1), (gq 0 2)])] (.tup 3 [(fq 1 1), (gq 0 6), (gq 0 6)]) (.nd (.nd (.nd .lf 920440260 [(.tup 3 [(fq 1 1), (gq 0 2)]), (.tup 3 [(fq 1 1), (gq 0 3)])] (.tup 3 [(fq 1 1), (gq 4 6), (fq 1 6)]) .lf) 920440291 [(.tup 3 [(fq 1 1), (gq 0 2)]), (.tup 3 [(fq 1 1), (gq 1 3)])] (.tup 3 [(fq 1 1), (gq 6 6), (fq 1 3)]) .lf) 943738608 [(.tup 3 [(fq 2 1), (fq 1 1)]), (.tup 3 [(fq 1 1)])] (.tup 3 [(fq 2 1), (fq 1 1)]) (.nd .lf 945195679 [(.tup 3 [(fq 2 1), (fq 2 1), (fq 1 1)]), (.tup 2 [])] (.tup 2 []) .lf)))))
def t5_0 : Tr := (.nd (.nd (.nd (.nd (.nd (.nd .lf 35688445 [(.tup 3 [(gq 4 3), (gq 4 3)]), (.tup 3 [(gq 4 3), (fq 5 3)])] (.tup 4 [(.tup 3 [(gq 0 1)]), (.tup 3 [(gq 9 3)])]) .lf) 74384247 [(.tup 3 [(fq 1 4), (fq 1 4)]), (.tup 3 [(fq 1 1)])] (.tup 4 [(.tup 3 [(fq 1 4), (fq 1 4)]), (.tup 2 [])]) (.nd .lf 79769370 [(.tup 3 [(fq 1 3), (gq 0 3)]), (.tup 3 [(fq 1 1)])] (.tup 4 [(.tup 3 [(fq 1 3), (gq 0 3)]), (.tup 2 [])]) .lf)) 89823916 [(.tup 3 [(gq 8 8), (fq 9 8)]), (.tup 3 [(gq 0 8), (gq 0 8)])] (.tup 4 [(.tup 3 [(gq 8 1)]), (.tup 3 [(gq 8 4)])]) (.nd (.nd .lf 115320118 [(.tup 3 [(fq 1 1), (fq 1 1)]), (.tup 3 [(gq 0 1), (fq 1 1)])] (.tup 4 [(.tup 3 [(fq 1 1)]), (.tup 3 [(fq 2 1)])]) .lf) 123939878 [(.tup 3 [(fq 1 1), (fq 1 1)]), (.tup 3 [(fq 1 1)])] (.tup 4 [(.tup 3 [(fq 1 1), (fq 1 1)]), (.tup 2 [])]) .lf)) 126859396 [(.tup 3 [(fq 1 1), (fq 3 1)]), (.tup 3 [(fq 1 1)])] (.tup 4 [(.tup 3 [(fq 1 1), (fq 3 1)]), (.tup 2 [])]) (.nd (.nd (.nd .lf 131238673 [(.tup 3 [(fq 1 1), (fq 6 1)]), (.tup 3 [(fq 1 1)])] (.tup 4 [(.tup 3 [(fq 1 1), (fq 6 1)]), (.tup 2 [])]) .lf) 195172287 [(.tup 3 [(fq 0 1), (gq 0 1), (fq 1 1)]), (.tup 3 [(fq 0 1), (fq 1 1)])] (.tup 4 [(.tup 3 [(gq 0 1), (fq 1 1)]), (.tup 2 [])]) (.nd .lf 210978788 [(.tup 3 [(fq 5 1), (gq 4 1)]), (.tup 3 [(fq 1 1)])] (.tup 4 [(.tup 3 [(fq 5 1), (gq 4 1)]), (.tup 2 [])]) .lf)) 222933500 [(.tup 3 [(fq 6 1), (fq 1 1)]), (.tup 3 [(fq 1 1)])] (.tup 4 [(.tup 3 [(fq 6 1), (fq 1 1)]), (.tup 2 [])]) (.nd (.nd .lf 231142857 [(.tup 3 [(fq 1 4), (fq 1 4)]), (.tup 3 [(fq 1 4), (gq 0 4)])] (.tup 4 [(.tup 3 [(gq 0 1)]), (.tup 3 [(fq 1 2)])]) .lf) 237347557 [(.tup 3 [(gq 0 2), (gq 0 2)]), (.tup 3 [(fq 1 1)])] (.tup 4 [(.tup 3 [(gq 0 2), (gq 0 2)]), (.tup 2 [])]) .lf))) 240807139 [(.tup 3 [(fq 6 1)]), (.tup 3 [(fq 0 1), (fq 1 1)])] (.tup 4 [(.tup 2 []), (.tup 3 [(fq 6 1)])]) (.nd (.nd (.nd (.nd .lf 255187954 [(.tup 3 [(fq 5 1), (gq 4 1)]), (.tup 3 [(fq 5 9), (fq 5 9)])] (.tup 4 [(.tup 3 [(gq 8 1)]), (.tup 3 [(fq 10 1)])]) .lf) 304141155 [(.tup 3 [(fq 0 1), (fq 1 1)]), (.tup 3 [(fq 1 1)])] (.tup 4 [(.tup 3 [(fq 0 1), (fq 1 1)]), (.tup 2 [])]) (.nd .lf 305601007 [(.tup 3 [(fq 0 1), (fq 2 1)]), (.tup 3 [(fq 4 1)])] (.tup 4 [(.tup 3 [(fq 0 1), (fq 1 2)]), (.tup 2 [])]) .lf)) 306489340 [(.tup 3 [(gq 8 8), (fq 9 8)]), (.tup 3 [(fq 1 1)])] (.tup 4 [(.tup 3 [(gq 8 8), (fq 9 8)]), (.tup 2 [])]) (.nd (.nd .lf 319276582 [(.tup 3 [(fq 1 1), (gq 0 1)]), (.tup 3 [(fq 1 1), (fq 1 1)])] (.tup 4 [(.tup 3 [(gq 0 1)]), (.tup 3 [(fq 2 1)])]) .lf) 323520037 [(.tup 3 [(fq 1 1), (gq 0 1)]), (.tup 3 [(fq 1 1)])] (.tup 4 [(.tup 3 [(fq 1 1), (gq 0 1)]), (.tup 2 [])]) .lf)) 383570910 [(.tup 3 [(fq 1 1), (fq 3 1)]), (.tup 3 [(fq 3 1), (fq 1 1)])] (.tup 4 [(.tup 3 [(fq 3 1)]), (.tup 3 [(gq 7 1)])]) (.nd (.nd (.nd .lf 415607961 [(.tup 3 [(gq 0 1), (fq 1 1)]), (.tup 3 [(fq 1 1), (fq 1 1)])] (.tup 4 [(.tup 3 [(fq 1 1)]), (.tup 3 [(gq 1 1)])]) .lf) 437381459 [(.tup 3 [(gq 4 3), (fq 5 3)]), (.tup 3 [(fq 1 1)])] (.tup 4 [(.tup 3 [(gq 4 3), (fq 5 3)]), (.tup 2 [])]) .lf) 457894040 [(.tup 3 [(fq 1 4), (gq 0 4)]), (.tup 3 [(fq 1 1)])] (.tup 4 [(.tup 3 [(fq 1 4), (gq 0 4)]), (.tup 2 [])]) (.nd (.nd .lf 501559548 [(.tup 3 [(fq 9 10), (gq 8 10)]), (.tup 3 [(fq 1 1)])] (.tup 4 [(.tup 3 [(fq 9 10), (gq 8 10)]), (.tup 2 [])]) .lf) 502930978 [(.tup 3 [(gq 4 3), (gq 4 3)]), (.tup 3 [(fq 1 1)])] (.tup 4 [(.tup 3 [(gq 4 3), (gq 4 3)]), (.tup 2 [])]) .lf)))) 506095563 [(.tup 3 [(gq 0 8), (gq 0 8)]), (.tup 3 [(fq 1 1)])] (.tup 4 [(.tup 3 [(gq 0 8), (gq 0 8)]), (.tup 2 [])]) (.nd (.nd (.nd (.nd (.nd .lf 511859363 [(.tup 3 [(gq 0 2), (gq 0 2), (fq 1 1)]), (.tup 3 [(fq 1 2), (fq 1 1)])] (.tup 4 [(.tup 3 [(gq 0 1), (fq 1 1)]), (.tup 2 [])]) .lf) 518717947 [(.tup 3 [(gq 0 1), (fq 1 1)]), (.tup 3 [(fq 1 1)])] (.tup 4 [(.tup 3 [(gq 0 1), (fq 1 1)]), (.tup 2 [])]) (.nd .lf 554193786 [(.tup 3 [(gq 1 1), (gq 1 1)]), (.tup 3 [(gq 0 1), (fq 1 1)])] (.tup 4 [(.tup 3 [(gq 1 1)]), (.tup 3 [(gq 3 1)])]) .lf)) 581087580 [(.tup 3 [(gq 1 1), (gq 1 1)]), (.tup 3 [(fq 1 1)])] (.tup 4 [(.tup 3 [(gq 1 1), (gq 1 1)]), (.tup 2 [])]) (.nd (.nd .lf 602699450 [(.tup 3 [(fq 1 2), (fq 3 2), (fq 1 1)]), (.tup 3 [(gq 0 2), (gq 0 2), (fq 1 1)])] (.tup 4 [(.tup 3 [(fq 1 1)]), (.tup 3 [(fq 1 1), (fq 2 1)])]) .lf) 608564609 [(.tup 3 [(fq 1 3), (gq 0 3)]), (.tup 3 [(fq 1 3), (fq 1 3)])] (.tup 4 [(.tup 3 [(gq 0 1)]), (.tup 3 [(fq 2 3)])]) .lf)) 608954332 [(.tup 3 [(fq 0 1), (gq 4 1)]), (.tup 3 [(fq 7 1)])] (.tup 4 [(.tup 3 [(fq 0 1), (gq 4 7)]), (.tup 2 [])]) (.nd (.nd (.nd .lf 609207975 [(.tup 3 [(fq 1 1)]), (.tup 3 [(fq 1 1)])] (.tup 4 [(.tup 3 [(fq 1 1)]), (.tup 2 [])]) .lf) 610667734 [(.tup 3 [(fq 2 1)]), (.tup 3 [(fq 1 1)])] (.tup 4 [(.tup 3 [(fq 2 1)]), (.tup 2 [])]) .lf) 610667765 [(.tup 3 [(fq 2 1)]), (.tup 3 [(fq 2 1)])] (.tup 4 [(.tup 3 [(fq 1 1)]), (.tup 2 [])]) (.nd (.nd .lf 665575167 [(.tup 3 [(gq 0 2), (gq 0 2)]), (.tup 3 [(gq 0 2), (fq 1 2)])] (.tup 4 [(.tup 3 [(gq 0 1)]), (.tup 3 [(gq 0 1)])]) .lf) 673647077 [(.tup 3 [(fq 6 1), (fq 1 1)]), (.tup 3 [(fq 1 1), (fq 6 1)])] (.tup 4 [(.tup 3 [(fq 1 6)]), (.tup 3 [(fq 35 6)])]) .lf))) 702614261 [(.tup 3 [(gq 0 1), (gq 0 1)]), (.tup 3 [(gq 0 1), (fq 1 1)])] (.tup 4 [(.tup 3 [(gq 0 1)]), (.tup 3 [(gq 1 1)])]) (.nd (.nd (.nd (.nd .lf 757569462 [(.tup 3 [(fq 1 3), (fq 1 3)]), (.tup 3 [(fq 1 1)])] (.tup 4 [(.tup 3 [(fq 1 3), (fq 1 3)]), (.tup 2 [])]) .lf) 763537331 [(.tup 3 [(fq 3 1), (fq 1 1)]), (.tup 3 [(fq 1 1)])] (.tup 4 [(.tup 3 [(fq 3 1), (fq 1 1)]), (.tup 2 [])]) (.nd .lf 835532739 [(.tup 3 [(gq 0 2), (fq 1 2)]), (.tup 3 [(fq 1 1)])] (.tup 4 [(.tup 3 [(gq 0 2), (fq 1 2)]), (.tup 2 [])]) .lf)) 859222894 [(.tup 3 [(gq 0 1), (gq 0 1)]), (.tup 3 [(fq 1 1)])] (.tup 4 [(.tup 3 [(gq 0 1), (gq 0 1)]), (.tup 2 [])]) (.nd (.nd .lf 873976357 [(.tup 3 [(fq 0 1), (fq 1 1), (fq 1 1)]), (.tup 3 [(fq 0 1), (gq 0 1), (fq 1 1)])] (.tup 4 [(.tup 3 [(fq 1 1)]), (.tup 3 [(fq 0 1), (fq 2 1)])]) .lf) 943492135 [(.tup 3 [(fq 5 9), (fq 5 9)]), (.tup 3 [(fq 1 1)])] (.tup 4 [(.tup 3 [(fq 5 9), (fq 5 9)]), (.tup 2 [])]) .lf)) 943738608 [(.tup 3 [(fq 2 1), (fq 1 1)]), (.tup 3 [(fq 1 1)])] (.tup 4 [(.tup 3 [(fq 2 1), (fq 1 1)]), (.tup 2 [])]) (.nd (.nd (.nd .lf 957329748 [(.tup 3 [(fq 0 1), (fq 1 1)]), (.tup 3 [(fq 0 1), (fq 1 1)])] (.tup 4 [(.tup 3 [(fq 1 1)]), (.tup 2 [])]) .lf) 957746822 [(.tup 3 [(fq 0 1), (fq 1 1)]), (.tup 3 [(fq 2 1), (fq 1 1)])] (.tup 4 [(.tup 3 [(fq 1 1)]), (.tup 3 [(gq 1 1)])]) .lf) 975272992 [(.tup 3 [(fq 1 10), (fq 1 10)]), (.tup 3 [(fq 1 1)])] (.tup 4 [(.tup 3 [(fq 1 10), (fq 1 10)]), (.tup 2 [])]) (.nd (.nd .lf 991119252 [(.tup 3 [(fq 9 10), (gq 8 10)]), (.tup 3 [(fq 1 10), (fq 1 10)])] (.tup 4 [(.tup 3 [(gq 8 1)]), (.tup 3 [(fq 9 5)])]) .lf) 999682148 [(.tup 3 [(fq 2 1), (fq 2 1)]), (.tup 3 [(gq 0 1), (fq 1 1)])] (.tup 4 [(.tup 3 [(fq 2 1)]), (.tup 3 [(fq 4 1)])]) .lf)))))
def t6_0 : Tr := (.nd (.nd (.nd (.nd (.nd .lf 2469036 [(.tup 3 [(fq 1 1)]), (.tup 2 [])] (.tup 3 [(fq 1 1)]) .lf) 2469253 [(.tup 3 [(fq 2 1)]), (.tup 2 [])] (.tup 3 [(fq 1 1)]) (.nd .lf 35688445 [(.tup 3 [(gq 4 3), (gq 4 3)]), (.tup 3 [(gq 4 3), (fq 5 3)])] (.tup 3 [(fq 1 1)]) .lf)) 89823916 [(.tup 3 [(gq 8 8), (fq 9 8)]), (.tup 3 [(gq 0 8), (gq 0 8)])] (.tup 3 [(fq 1 1)]) (.nd (.nd .lf 115320118 [(.tup 3 [(fq 1 1), (fq 1 1)]), (.tup 3 [(gq 0 1), (fq 1 1)])] (.tup 3 [(fq 1 1)]) .lf) 231142857 [(.tup 3 [(fq 1 4), (fq 1 4)]), (.tup 3 [(fq 1 4), (gq 0 4)])] (.tup 3 [(fq 1 1)]) .lf)) 240807139 [(.tup 3 [(fq 6 1)]), (.tup 3 [(fq 0 1), (fq 1 1)])] (.tup 3 [(fq 1 1)]) (.nd (.nd (.nd .lf 255187954 [(.tup 3 [(fq 5 1), (gq 4 1)]), (.tup 3 [(fq 5 9), (fq 5 9)])] (.tup 3 [(fq 1 1)]) .lf) 319276582 [(.tup 3 [(fq 1 1), (gq 0 1)]), (.tup 3 [(fq 1 1), (fq 1 1)])] (.tup 3 [(fq 1 1)]) .lf) 383570910 [(.tup 3 [(fq 1 1), (fq 3 1)]), (.tup 3 [(fq 3 1), (fq 1 1)])] (.tup 3 [(fq 1 1)]) (.nd (.nd .lf 415607961 [(.tup 3 [(gq 0 1), (fq 1 1)]), (.tup 3 [(fq 1 1), (fq 1 1)])] (.tup 3 [(fq 1 1)]) .lf) 554193786 [(.tup 3 [(gq 1 1), (gq 1 1)]), (.tup 3 [(gq 0 1), (fq 1 1)])] (.tup 3 [(fq 1 1)]) .lf))) 602699450 [(.tup 3 [(fq 1 2), (fq 3 2), (fq 1 1)]), (.tup 3 [(gq 0 2), (gq 0 2), (fq 1 1)])] (.tup 3 [(fq 1 2), (fq 1 1)]) (.nd (.nd (.nd (.nd .lf 608564609 [(.tup 3 [(fq 1 3), (gq 0 3)]), (.tup 3 [(fq 1 3), (fq 1 3)])] (.tup 3 [(fq 1 1)]) .lf) 609207975 [(.tup 3 [(fq 1 1)]), (.tup 3 [(fq 1 1)])] (.tup 3 [(fq 1 1)]) .lf) 610667765 [(.tup 3 [(fq 2 1)]), (.tup 3 [(fq 2 1)])] (.tup 3 [(fq 1 1)]) (.nd (.nd .lf 665575167 [(.tup 3 [(gq 0 2), (gq 0 2)]), (.tup 3 [(gq 0 2), (fq 1 2)])] (.tup 3 [(fq 1 1)]) .lf) 673647077 [(.tup 3 [(fq 6 1), (fq 1 1)]), (.tup 3 [(fq 1 1), (fq 6 1)])] (.tup 3 [(fq 1 1)]) .lf)) 702614261 [(.tup 3 [(gq 0 1), (gq 0 1)]), (.tup 3 [(gq 0 1), (fq 1 1)])] (.tup 3 [(fq 1 1)]) (.nd (.nd (.nd .lf 873976357 [(.tup 3 [(fq 0 1), (fq 1 1), (fq 1 1)]), (.tup 3 [(fq 0 1), (gq 0 1), (fq 1 1)])] (.tup 3 [(fq 0 1), (fq 1 1)]) .lf) 957329748 [(.tup 3 [(fq 0 1), (fq 1 1)]), (.tup 3 [(fq 0 1), (fq 1 1)])] (.tup 3 [(fq 0 1), (fq 1 1)]) .lf) 957746822 [(.tup 3 [(fq 0 1), (fq 1 1)]), (.tup 3 [(fq 2 1), (fq 1 1)])] (.tup 3 [(fq 1 1)]) (.nd (.nd .lf 991119252 [(.tup 3 [(fq 9 10), (gq 8 10)]), (.tup 3 [(fq 1 10), (fq 1 10)])] (.tup 3 [(fq 1 1)]) .lf) 999682148 [(.tup 3 [(fq 2 1), (fq 2 1)]), (.tup 3 [(gq 0 1), (fq 1 1)])] (.tup 3 [(fq 1 1)]) .lf))))
def t7_1 : Tr := (.nd (.nd (.nd (.nd (.nd (.nd .lf 2468819 [(.tup 3 [(fq 0 1)]), (.tup 2 [])] (.tup 4 [(.tup 3 [(fq 0 1)])]) .lf) 2469036 [(.tup 3 [(fq 1 1)]), (.tup 2 [])] (.tup 4 [(.tup 3 [(fq 2 1)])]) .lf) 2949040 [(.tup 3 [(gq 0 1)]), (.tup 2 [])] (.tup 4 [(.tup 3 [(gq 1 1)])]) (.nd .lf 7348455 [(.tup 3 [(fq 1 1), (fq 0 1)]), (.tup 5 [(.tup 4 [(.tup 3 [(fq 1 1), (fq 1 1)]), (.tup 3 [(fq 1 1), (fq 0 1)])]), (.tup 4 [(.tup 3 [(fq 2 1), (fq 1 1)]), (.tup 3 [(fq 1 1), (fq 0 1)])])])] (.tup 4 [(.tup 3 [(fq 2 1), (fq 0 1), (fq 4 1), (fq 0 1), (fq 4 1), (fq 0 1)]), (.tup 3 [(fq 0 1), (fq 2 1), (fq 2 1), (fq 2 1), (fq 8 5), (fq 4 5)]), (.tup 3 [(fq 4 1), (fq 2 1), (fq 56 5), (fq 8 5), (fq 48 5), (fq 8 15)]), (.tup 3 [(fq 0 1), (fq 2 1), (fq 8 5), (fq 24 5), (fq 32 15), (fq 8 5)]), (.tup 3 [(fq 4 1), (fq 8 5), (fq 48 5), (fq 32 15), (fq 47 5), (fq 4 5)]), (.tup 3 [(fq 0 1), (fq 4 5), (fq 8 15), (fq 8 5), (fq 4 5), (fq 3 5)])]) .lf)) 34507713 [(.tup 2 []), (.tup 5 [(.tup 4 [(.tup 3 [(fq 0 1), (fq 2 1)]), (.tup 3 [(fq 1 1), (fq 0 1)])])])] (.tup 4 [(.tup 3 [(fq 128 15), (fq 0 1)]), (.tup 3 [(fq 0 1), (fq 32 15)])]) (.nd (.nd .lf 34951823 [(.tup 2 []), (.tup 5 [(.tup 4 [(.tup 3 [(fq 0 1), (fq 2 1)]), (.tup 3 [(fq 3 5), (fq 4 5)])])])] (.tup 4 [(.tup 3 [(fq 128 25), (gq 63 25)]), (.tup 3 [(gq 63 25), (fq 32 25)])]) .lf) 34951947 [(.tup 2 []), (.tup 5 [(.tup 4 [(.tup 3 [(fq 0 1), (fq 2 1)]), (.tup 3 [(fq 3 5), (fq 8 5)])])])] (.tup 4 [(.tup 3 [(fq 128 25), (gq 127 25)]), (.tup 3 [(gq 127 25), (fq 32 25)])]) (.nd .lf 41716977 [(.tup 2 []), (.tup 5 [(.tup 4 [(.tup 3 [(fq 0 1), (fq 2 1)]), (.tup 3 [(fq 3 5), (gq 3 5)])])])] (.tup 4 [(.tup 3 [(fq 128 25), (fq 64 25)]), (.tup 3 [(fq 64 25), (fq 32 25)])]) .lf))) 41717101 [(.tup 2 []), (.tup 5 [(.tup 4 [(.tup 3 [(fq 0 1), (fq 2 1)]), (.tup 3 [(fq 3 5), (gq 7 5)])])])] (.tup 4 [(.tup 3 [(fq 128 25), (fq 128 25)]), (.tup 3 [(fq 128 25), (fq 32 25)])]) (.nd (.nd (.nd (.nd .lf 42463798 [(.tup 2 []), (.tup 5 [(.tup 4 [(.tup 3 [(fq 0 1), (fq 2 1)]), (.tup 3 [(fq 6 5), (gq 7 5)])])])] (.tup 4 [(.tup 3 [(fq 256 25), (fq 128 25)]), (.tup 3 [(fq 128 25), (fq 64 25)])]) .lf) 42464046 [(.tup 2 []), (.tup 5 [(.tup 4 [(.tup 3 [(fq 0 1), (fq 2 1)]), (.tup 3 [(fq 6 5), (gq 15 5)])])])] (.tup 4 [(.tup 3 [(fq 256 25), (fq 256 25)]), (.tup 3 [(fq 256 25), (fq 64 25)])]) .lf) 43229773 [(.tup 2 []), (.tup 5 [(.tup 4 [(.tup 3 [(fq 0 1), (fq 2 1)]), (.tup 3 [(gq 0 1), (fq 0 1)])])])] (.tup 4 [(.tup 3 [(gq 127 15), (fq 0 1)]), (.tup 3 [(fq 0 1), (gq 31 15)])]) (.nd .lf 57431788 [(.tup 2 []), (.tup 5 [(.tup 4 [(.tup 3 [(fq 2 1), (fq 0 1)]), (.tup 3 [(fq 95 16), (fq 0 1)])]), (.tup 4 [(.tup 3 [(fq 3 1), (fq 0 1)]), (.tup 3 [(fq 63 16), (fq 0 1)])])])] (.tup 4 [(.tup 3 [(fq 95 6), (fq 237 20)]), (.tup 3 [(fq 237 20), (fq 567 64)])]) .lf)) 74150928 [(.tup 2 []), (.tup 5 [(.tup 4 [(.tup 3 [(fq 2 1), (fq 0 1)]), (.tup 3 [(fq 95 32), (fq 0 1)])]), (.tup 4 [(.tup 3 [(fq 3 1), (fq 0 1)]), (.tup 3 [(fq 63 32), (fq 0 1)])])])] (.tup 4 [(.tup 3 [(fq 95 12), (fq 237 40)]), (.tup 3 [(fq 237 40), (fq 567 128)])]) (.nd (.nd .lf 100220354 [(.tup 2 []), (.tup 5 [(.tup 4 [(.tup 3 [(fq 2 1), (fq 0 1)]), (.tup 3 [(fq 4 1), (fq 0 1)])]), (.tup 4 [(.tup 3 [(fq 3 1), (fq 0 1)]), (.tup 3 [(fq 2 1), (fq 0 1)])])])] (.tup 4 [(.tup 3 [(fq 32 3), (fq 36 5)]), (.tup 3 [(fq 36 5), (fq 9 2)])]) .lf) 125397166 [(.tup 3 [(fq 1 1), (fq 2 1), (fq 2 1)]), (.tup 2 [])] (.tup 4 [(.tup 3 [(fq 2 1), (fq 2 1), (fq 2 1)]), (.tup 3 [(fq 2 1), (fq 2 1), (fq 2 1)]), (.tup 3 [(fq 2 1), (fq 2 1), (fq 2 1)])]) (.nd .lf 133658634 [(.tup 2 []), (.tup 5 [(.tup 4 [(.tup 3 [(fq 2 1), (fq 0 1)]), (.tup 3 [(fq 5 2), (fq 0 1)])]), (.tup 4 [(.tup 3 [(fq 3 1), (fq 0 1)]), (.tup 3 [(fq 3 2), (fq 0 1)])])])] (.tup 4 [(.tup 3 [(fq 20 3), (fq 24 5)]), (.tup 3 [(fq 24 5), (fq 27 8)])]) .lf)))) 151505818 [(.tup 2 []), (.tup 5 [(.tup 4 [(.tup 3 [(fq 0 1), (fq 2 1)]), (.tup 3 [(fq 0 1), (fq 0 1)])]), (.tup 4 [(.tup 3 [(fq 2 1), (fq 0 1)]), (.tup 3 [(fq 0 1), (fq 0 1)])])])] (.tup 4 [(.tup 3 [(fq 0 1), (fq 0 1), (fq 0 1)]), (.tup 3 [(fq 0 1), (fq 0 1), (fq 0 1)]), (.tup 3 [(fq 0 1), (fq 0 1), (fq 0 1)])]) (.nd (.nd (.nd (.nd (.nd .lf 177237763 [(.tup 2 []), (.tup 5 [(.tup 4 [(.tup 3 [(fq 2 1), (fq 0 1)]), (.tup 3 [(fq 191 32), (fq 0 1)])]), (.tup 4 [(.tup 3 [(fq 3 1), (fq 0 1)]), (.tup 3 [(fq 127 32), (fq 0 1)])])])] (.tup 4 [(.tup 3 [(fq 191 12), (fq 477 40)]), (.tup 3 [(fq 477 40), (fq 1143 128)])]) .lf) 197227677 [(.tup 2 []), (.tup 5 [(.tup 4 [(.tup 3 [(gq 2 1), (fq 0 1)]), (.tup 3 [(fq 3 1), (fq 0 1)])]), (.tup 4 [(.tup 3 [(gq 1 1), (fq 0 1)]), (.tup 3 [(fq 2 1), (fq 0 1)])])])] (.tup 4 [(.tup 3 [(fq 27 4), (fq 6 1)]), (.tup 3 [(fq 6 1), (fq 16 3)])]) .lf) 210676043 [(.tup 2 []), (.tup 5 [(.tup 4 [(.tup 3 [(fq 2 1), (fq 0 1)]), (.tup 3 [(fq 191 64), (fq 0 1)])]), (.tup 4 [(.tup 3 [(fq 3 1), (fq 0 1)]), (.tup 3 [(fq 127 64), (fq 0 1)])])])] (.tup 4 [(.tup 3 [(fq 191 24), (fq 477 80)]), (.tup 3 [(fq 477 80), (fq 1143 256)])]) (.nd .lf 214984334 [(.tup 2 []), (.tup 5 [(.tup 4 [(.tup 3 [(fq 2 1), (fq 0 1)]), (.tup 3 [(fq 3 1), (fq 0 1)])]), (.tup 4 [(.tup 3 [(fq 3 2), (fq 0 1)]), (.tup 3 [(fq 5 1), (fq 0 1)])])])] (.tup 4 [(.tup 3 [(fq 8 1), (fq 12 1)]), (.tup 3 [(fq 12 1), (fq 18 1)])]) .lf)) 215845390 [(.tup 2 []), (.tup 5 [(.tup 4 [(.tup 3 [(fq 2 1), (fq 0 1)]), (.tup 3 [(fq 3 1), (fq 0 1)])]), (.tup 4 [(.tup 3 [(fq 3 2), (fq 0 1)]), (.tup 3 [(fq 9 5), (fq 0 1)])])])] (.tup 4 [(.tup 3 [(fq 8 1), (fq 36 5)]), (.tup 3 [(fq 36 5), (fq 162 25)])]) (.nd (.nd .lf 219710824 [(.tup 3 [(fq 0 1)]), (.tup 5 [(.tup 4 [(.tup 3 [(fq 0 1), (fq 2 1)]), (.tup 3 [(fq 0 1), (fq 0 1)])]), (.tup 4 [(.tup 3 [(fq 2 1), (fq 0 1)]), (.tup 3 [(fq 0 1), (fq 0 1)])])])] (.tup 4 [(.tup 3 [(fq 0 1), (fq 0 1), (fq 0 1), (fq 0 1)]), (.tup 3 [(fq 0 1), (fq 0 1), (fq 0 1), (fq 0 1)]), (.tup 3 [(fq 0 1), (fq 0 1), (fq 0 1), (fq 0 1)]), (.tup 3 [(fq 0 1), (fq 0 1), (fq 0 1), (fq 0 1)])]) .lf) 317827022 [(.tup 2 []), (.tup 5 [(.tup 4 [(.tup 3 [(fq 2 1), (fq 0 1)]), (.tup 3 [(fq 3 1), (fq 0 1)])]), (.tup 4 [(.tup 3 [(fq 3 1), (fq 0 1)]), (.tup 3 [(fq 1 1), (fq 0 1)])])])] (.tup 4 [(.tup 3 [(fq 8 1), (fq 24 5)]), (.tup 3 [(fq 24 5), (fq 9 4)])]) (.nd .lf 318035559 [(.tup 2 []), (.tup 5 [(.tup 4 [(.tup 3 [(fq 2 1), (fq 0 1)]), (.tup 3 [(fq 3 1), (fq 0 1)])]), (.tup 4 [(.tup 3 [(fq 3 1), (fq 0 1)]), (.tup 3 [(fq 2 1), (fq 0 1)])])])] (.tup 4 [(.tup 3 [(fq 8 1), (fq 6 1)]), (.tup 3 [(fq 6 1), (fq 9 2)])]) .lf))) 319502045 [(.tup 2 []), (.tup 5 [(.tup 4 [(.tup 3 [(fq 2 1), (fq 0 1)]), (.tup 3 [(fq 3 1), (fq 0 1)])]), (.tup 4 [(.tup 3 [(fq 3 1), (fq 0 1)]), (.tup 3 [(fq 9 2), (fq 0 1)])])])] (.tup 4 [(.tup 3 [(fq 8 1), (fq 9 1)]), (.tup 3 [(fq 9 1), (fq 81 8)])]) (.nd (.nd (.nd .lf 329691455 [(.tup 2 []), (.tup 5 [(.tup 4 [(.tup 3 [(fq 2 1), (fq 0 1)]), (.tup 3 [(fq 11 4), (fq 0 1)])]), (.tup 4 [(.tup 3 [(fq 3 1), (fq 0 1)]), (.tup 3 [(fq 7 4), (fq 0 1)])])])] (.tup 4 [(.tup 3 [(fq 22 3), (fq 27 5)]), (.tup 3 [(fq 27 5), (fq 63 16)])]) .lf) 416849713 [(.tup 2 []), (.tup 5 [(.tup 4 [(.tup 3 [(fq 2 1), (fq 0 1)]), (.tup 3 [(fq 383 64), (fq 0 1)])]), (.tup 4 [(.tup 3 [(fq 3 1), (fq 0 1)]), (.tup 3 [(fq 255 64), (fq 0 1)])])])] (.tup 4 [(.tup 3 [(fq 383 24), (fq 957 80)]), (.tup 3 [(fq 957 80), (fq 2295 256)])]) (.nd .lf 447400357 [(.tup 2 []), (.tup 5 [(.tup 4 [(.tup 3 [(fq 2 1), (fq 0 1)]), (.tup 3 [(fq 7 1), (fq 0 1)])]), (.tup 4 [(.tup 3 [(fq 3 1), (fq 0 1)]), (.tup 3 [(fq 5 1), (fq 0 1)])])])] (.tup 4 [(.tup 3 [(fq 56 3), (fq 72 5)]), (.tup 3 [(fq 72 5), (fq 45 4)])]) .lf)) 483726273 [(.tup 2 []), (.tup 5 [(.tup 4 [(.tup 3 [(fq 2 1), (fq 0 1)]), (.tup 3 [(fq 383 128), (fq 0 1)])]), (.tup 4 [(.tup 3 [(fq 3 1), (fq 0 1)]), (.tup 3 [(fq 255 128), (fq 0 1)])])])] (.tup 4 [(.tup 3 [(fq 383 48), (fq 957 160)]), (.tup 3 [(fq 957 160), (fq 2295 512)])]) (.nd (.nd .lf 497528804 [(.tup 2 []), (.tup 5 [(.tup 4 [(.tup 3 [(fq 2 1), (fq 0 1)]), (.tup 3 [(fq 47 8), (fq 0 1)])]), (.tup 4 [(.tup 3 [(fq 3 1), (fq 0 1)]), (.tup 3 [(fq 31 8), (fq 0 1)])])])] (.tup 4 [(.tup 3 [(fq 47 3), (fq 117 10)]), (.tup 3 [(fq 117 10), (fq 279 32)])]) .lf) 505888374 [(.tup 2 []), (.tup 5 [(.tup 4 [(.tup 3 [(fq 2 1), (fq 0 1)]), (.tup 3 [(fq 47 16), (fq 0 1)])]), (.tup 4 [(.tup 3 [(fq 3 1), (fq 0 1)]), (.tup 3 [(fq 31 16), (fq 0 1)])])])] (.tup 4 [(.tup 3 [(fq 47 6), (fq 117 20)]), (.tup 3 [(fq 117 20), (fq 279 64)])]) (.nd .lf 535642227 [(.tup 2 []), (.tup 5 [(.tup 4 [(.tup 3 [(fq 2 1), (fq 0 1)]), (.tup 3 [(fq 2 1), (fq 0 1)])]), (.tup 4 [(.tup 3 [(fq 3 1), (fq 0 1)]), (.tup 3 [(fq 1 1), (fq 0 1)])])])] (.tup 4 [(.tup 3 [(fq 16 3), (fq 18 5)]), (.tup 3 [(fq 18 5), (fq 9 4)])]) .lf)))))
def t7_2 : Tr := (.nd (.nd (.nd (.nd (.nd (.nd .lf 607745311 [(.tup 3 [(fq 0 1), (fq 0 1)]), (.tup 2 [])] (.tup 4 [(.tup 3 [(fq 0 1), (fq 0 1)]), (.tup 3 [(fq 0 1), (fq 0 1)])]) .lf) 607745528 [(.tup 3 [(fq 0 1), (fq 1 1)]), (.tup 2 [])] (.tup 4 [(.tup 3 [(fq 0 1), (fq 1 1)]), (.tup 3 [(fq 1 1), (fq 0 1)])]) .lf) 609205287 [(.tup 3 [(fq 1 1), (fq 1 1)]), (.tup 2 [])] (.tup 4 [(.tup 3 [(fq 2 1), (fq 1 1)]), (.tup 3 [(fq 1 1), (fq 2 1)])]) (.nd .lf 609205504 [(.tup 3 [(fq 1 1), (fq 2 1)]), (.tup 2 [])] (.tup 4 [(.tup 3 [(fq 2 1), (fq 2 1)]), (.tup 3 [(fq 2 1), (fq 2 1)])]) .lf)) 609205721 [(.tup 3 [(fq 1 1), (fq 3 1)]), (.tup 2 [])] (.tup 4 [(.tup 3 [(fq 2 1), (fq 3 1)]), (.tup 3 [(fq 3 1), (fq 2 1)])]) (.nd (.nd .lf 609252376 [(.tup 3 [(fq 1 2), (fq 1 1)]), (.tup 2 [])] (.tup 4 [(.tup 3 [(fq 1 1), (fq 1 1)]), (.tup 3 [(fq 1 1), (fq 1 1)])]) .lf) 609346554 [(.tup 3 [(fq 1 4), (fq 1 1)]), (.tup 2 [])] (.tup 4 [(.tup 3 [(fq 1 2), (fq 1 1)]), (.tup 3 [(fq 1 1), (fq 1 2)])]) (.nd .lf 610665046 [(.tup 3 [(fq 2 1), (fq 1 1)]), (.tup 2 [])] (.tup 4 [(.tup 3 [(fq 4 1), (fq 1 1)]), (.tup 3 [(fq 1 1), (fq 4 1)])]) .lf))) 610665480 [(.tup 3 [(fq 2 1), (fq 3 1)]), (.tup 2 [])] (.tup 4 [(.tup 3 [(fq 4 1), (fq 3 1)]), (.tup 3 [(fq 3 1), (fq 4 1)])]) (.nd (.nd (.nd .lf 612172328 [(.tup 3 [(fq 3 2), (fq 3 1)]), (.tup 2 [])] (.tup 4 [(.tup 3 [(fq 3 1), (fq 3 1)]), (.tup 3 [(fq 3 1), (fq 3 1)])]) .lf) 612454428 [(.tup 3 [(fq 3 8), (fq 1 1)]), (.tup 2 [])] (.tup 4 [(.tup 3 [(fq 3 4), (fq 1 1)]), (.tup 3 [(fq 1 1), (fq 3 4)])]) (.nd .lf 615186024 [(.tup 3 [(fq 5 4), (fq 3 1)]), (.tup 2 [])] (.tup 4 [(.tup 3 [(fq 5 2), (fq 3 1)]), (.tup 3 [(fq 3 1), (fq 5 2)])]) .lf)) 618670176 [(.tup 3 [(fq 7 16), (fq 1 1)]), (.tup 2 [])] (.tup 4 [(.tup 3 [(fq 7 8), (fq 1 1)]), (.tup 3 [(fq 1 1), (fq 7 8)])]) (.nd (.nd .lf 624132934 [(.tup 3 [(fq 11 8), (fq 3 1)]), (.tup 2 [])] (.tup 4 [(.tup 3 [(fq 11 4), (fq 3 1)]), (.tup 3 [(fq 3 1), (fq 11 4)])]) .lf) 647427568 [(.tup 2 []), (.tup 5 [(.tup 4 [(.tup 3 [(gq 2 1), (fq 0 1)]), (.tup 3 [(fq 1 2), (fq 0 1)])]), (.tup 4 [(.tup 3 [(fq 2 1), (fq 0 1)]), (.tup 3 [(fq 3 1), (fq 0 1)])])])] (.tup 4 [(.tup 3 [(fq 9 8), (fq 3 1)]), (.tup 3 [(fq 3 1), (fq 8 1)])]) (.nd .lf 665007025 [(.tup 2 []), (.tup 5 [(.tup 4 [(.tup 3 [(fq 2 1), (fq 0 1)]), (.tup 3 [(fq 6 1), (fq 0 1)])]), (.tup 4 [(.tup 3 [(fq 3 1), (fq 0 1)]), (.tup 3 [(fq 4 1), (fq 0 1)])])])] (.tup 4 [(.tup 3 [(fq 16 1), (fq 12 1)]), (.tup 3 [(fq 12 1), (fq 9 1)])]) .lf)))) 693530890 [(.tup 2 []), (.tup 5 [(.tup 4 [(.tup 3 [(gq 2 1), (fq 0 1)]), (.tup 3 [(fq 18 1), (fq 0 1)])]), (.tup 4 [(.tup 3 [(fq 2 1), (fq 0 1)]), (.tup 3 [(fq 3 1), (fq 0 1)])])])] (.tup 4 [(.tup 3 [(fq 81 2), (fq 18 1)]), (.tup 3 [(fq 18 1), (fq 8 1)])]) (.nd (.nd (.nd (.nd (.nd .lf 717577312 [(.tup 2 []), (.tup 5 [(.tup 4 [(.tup 3 [(fq 2 1), (fq 0 1)]), (.tup 3 [(fq 23 4), (fq 0 1)])]), (.tup 4 [(.tup 3 [(fq 3 1), (fq 0 1)]), (.tup 3 [(fq 15 4), (fq 0 1)])])])] (.tup 4 [(.tup 3 [(fq 46 3), (fq 57 5)]), (.tup 3 [(fq 57 5), (fq 135 16)])]) .lf) 721757097 [(.tup 2 []), (.tup 5 [(.tup 4 [(.tup 3 [(fq 2 1), (fq 0 1)]), (.tup 3 [(fq 23 8), (fq 0 1)])]), (.tup 4 [(.tup 3 [(fq 3 1), (fq 0 1)]), (.tup 3 [(fq 15 8), (fq 0 1)])])])] (.tup 4 [(.tup 3 [(fq 23 3), (fq 57 10)]), (.tup 3 [(fq 57 10), (fq 135 32)])]) .lf) 771416992 [(.tup 2 []), (.tup 5 [(.tup 4 [(.tup 3 [(fq 2 1), (fq 0 1)]), (.tup 3 [(fq 3071 512), (fq 0 1)])]), (.tup 4 [(.tup 3 [(fq 3 1), (fq 0 1)]), (.tup 3 [(fq 2047 512), (fq 0 1)])])])] (.tup 4 [(.tup 3 [(fq 3071 192), (fq 7677 640)]), (.tup 3 [(fq 7677 640), (fq 18423 2048)])]) (.nd .lf 824291535 [(.tup 3 [(fq 1 1)]), (.tup 5 [(.tup 4 [(.tup 3 [(fq 2 1), (fq 0 1)]), (.tup 3 [(fq 1 3), (fq 0 1)])])])] (.tup 4 [(.tup 3 [(fq 2 1), (fq 4 3)]), (.tup 3 [(fq 4 3), (fq 8 9)])]) .lf)) 824695155 [(.tup 3 [(fq 1 1)]), (.tup 5 [(.tup 4 [(.tup 3 [(fq 2 1), (fq 0 1)]), (.tup 3 [(fq 3 1), (fq 0 1)])])])] (.tup 4 [(.tup 3 [(fq 2 1), (fq 4 1)]), (.tup 3 [(fq 4 1), (fq 8 1)])]) (.nd (.nd .lf 827601566 [(.tup 2 []), (.tup 5 [(.tup 4 [(.tup 3 [(fq 2 1), (fq 0 1)]), (.tup 3 [(fq 11 2), (fq 0 1)])]), (.tup 4 [(.tup 3 [(fq 3 1), (fq 0 1)]), (.tup 3 [(fq 7 2), (fq 0 1)])])])] (.tup 4 [(.tup 3 [(fq 44 3), (fq 54 5)]), (.tup 3 [(fq 54 5), (fq 63 8)])]) .lf) 854521406 [(.tup 2 []), (.tup 5 [(.tup 4 [(.tup 3 [(fq 2 1), (fq 0 1)]), (.tup 3 [(fq 1535 256), (fq 0 1)])]), (.tup 4 [(.tup 3 [(fq 3 1), (fq 0 1)]), (.tup 3 [(fq 1023 256), (fq 0 1)])])])] (.tup 4 [(.tup 3 [(fq 1535 96), (fq 3837 320)]), (.tup 3 [(fq 3837 320), (fq 9207 1024)])]) (.nd .lf 882613693 [(.tup 2 []), (.tup 5 [(.tup 4 [(.tup 3 [(fq 2 1), (fq 0 1)]), (.tup 3 [(fq 5 1), (fq 0 1)])]), (.tup 4 [(.tup 3 [(fq 3 1), (fq 0 1)]), (.tup 3 [(fq 3 1), (fq 0 1)])])])] (.tup 4 [(.tup 3 [(fq 40 3), (fq 48 5)]), (.tup 3 [(fq 48 5), (fq 27 4)])]) .lf))) 896073613 [(.tup 2 []), (.tup 5 [(.tup 4 [(.tup 3 [(fq 2 1), (fq 0 1)]), (.tup 3 [(fq 767 128), (fq 0 1)])]), (.tup 4 [(.tup 3 [(fq 3 1), (fq 0 1)]), (.tup 3 [(fq 511 128), (fq 0 1)])])])] (.tup 4 [(.tup 3 [(fq 767 48), (fq 1917 160)]), (.tup 3 [(fq 1917 160), (fq 4599 512)])]) (.nd (.nd (.nd .lf 930334111 [(.tup 2 []), (.tup 5 [(.tup 4 [(.tup 3 [(fq 2 1), (fq 0 1)]), (.tup 3 [(gq 0 1), (fq 0 1)])])])] (.tup 4 [(.tup 3 [(gq 7 3)])]) .lf) 937732467 [(.tup 2 []), (.tup 5 [(.tup 4 [(.tup 3 [(fq 0 1), (fq 2 1)]), (.tup 3 [(fq 0 1), (fq 0 1)])]), (.tup 4 [(.tup 3 [(fq 3 1), (fq 0 1)]), (.tup 3 [(fq 1 1), (fq 0 1)])])])] (.tup 4 [(.tup 3 [(fq 0 1), (fq 0 1), (fq 72 37)]), (.tup 3 [(fq 0 1), (fq 0 1), (fq 12 37)]), (.tup 3 [(fq 72 37), (fq 12 37), (fq 9 4)])]) (.nd .lf 966737947 [(.tup 2 []), (.tup 5 [(.tup 4 [(.tup 3 [(fq 2 1), (fq 0 1)]), (.tup 3 [(fq 0 1), (fq 0 1)])])])] (.tup 4 [(.tup 3 [(fq 0 1)])]) .lf)) 966946484 [(.tup 2 []), (.tup 5 [(.tup 4 [(.tup 3 [(fq 2 1), (fq 0 1)]), (.tup 3 [(fq 1 1), (fq 0 1)])])])] (.tup 4 [(.tup 3 [(fq 8 3)])]) (.nd (.nd .lf 967155021 [(.tup 2 []), (.tup 5 [(.tup 4 [(.tup 3 [(fq 2 1), (fq 0 1)]), (.tup 3 [(fq 2 1), (fq 0 1)])])])] (.tup 4 [(.tup 3 [(fq 16 3)])]) .lf) 967363558 [(.tup 2 []), (.tup 5 [(.tup 4 [(.tup 3 [(fq 2 1), (fq 0 1)]), (.tup 3 [(fq 3 1), (fq 0 1)])])])] (.tup 4 [(.tup 3 [(fq 8 1)])]) (.nd .lf 970898186 [(.tup 3 [(fq 1 1), (fq 1 1)]), (.tup 5 [(.tup 4 [(.tup 3 [(gq 0 1), (fq 1 1)]), (.tup 3 [(fq 1 1), (fq 1 2)])])])] (.tup 4 [(.tup 3 [(fq 2 1), (fq 1 1), (fq 4 1), (gq 0 1)]), (.tup 3 [(fq 1 1), (fq 2 1), (fq 1 2), (fq 5 2)]), (.tup 3 [(fq 4 1), (fq 1 2), (fq 52 5), (gq 15 5)]), (.tup 3 [(gq 0 1), (fq 5 2), (gq 15 5), (fq 28 5)])]) .lf)))))
def t7_0 : Tr := (.nd t7_1 605208164 [(.tup 2 []), (.tup 5 [(.tup 4 [(.tup 3 [(fq 2 1), (fq 0 1)]), (.tup 3 [(fq 6143 1024), (fq 0 1)])]), (.tup 4 [(.tup 3 [(fq 3 1), (fq 0 1)]), (.tup 3 [(fq 4095 1024), (fq 0 1)])])])] (.tup 4 [(.tup 3 [(fq 6143 384), (fq 15357 1280)]), (.tup 3 [(fq 15357 1280), (fq 36855 4096)])]) t7_2)
def t8_0 : Tr := (.nd (.nd (.nd (.nd (.nd .lf 2471693 [(.tup 4 [(.tup 3 [(fq 0 1)])])] (.tup 3 [(fq 1 1)]) .lf) 2471755 [(.tup 4 [(.tup 3 [(fq 2 1)])])] .non .lf) 2471941 [(.tup 4 [(.tup 3 [(fq 8 1)])])] .non (.nd .lf 46021943 [(.tup 4 [(.tup 3 [(fq 2 1), (fq 2 1), (fq 2 1)]), (.tup 3 [(fq 2 1), (fq 2 1), (fq 2 1)]), (.tup 3 [(fq 2 1), (fq 2 1), (fq 2 1)])])] (.tup 3 [(gq 0 1), (fq 1 1), (fq 0 1)]) .lf)) 73413370 [(.tup 4 [(.tup 3 [(fq 8 1), (fq 9 1)]), (.tup 3 [(fq 9 1), (fq 81 8)])])] (.tup 3 [(gq 8 8), (fq 1 1)]) (.nd (.nd (.nd .lf 152873933 [(.tup 4 [(.tup 3 [(fq 128 25), (gq 63 25)]), (.tup 3 [(gq 63 25), (fq 32 25)])])] (.tup 3 [(fq 1 2), (fq 1 1)]) .lf) 191419785 [(.tup 4 [(.tup 3 [(fq 0 1), (fq 0 1), (fq 0 1)]), (.tup 3 [(fq 0 1), (fq 0 1), (fq 0 1)]), (.tup 3 [(fq 0 1), (fq 0 1), (fq 0 1)])])] (.tup 3 [(fq 1 1), (fq 0 1), (fq 0 1)]) .lf) 213647793 [(.tup 4 [(.tup 3 [(fq 9 8), (fq 3 1)]), (.tup 3 [(fq 3 1), (fq 8 1)])])] (.tup 3 [(gq 7 3), (fq 1 1)]) (.nd .lf 257266156 [(.tup 4 [(.tup 3 [(fq 2 1), (fq 4 1)]), (.tup 3 [(fq 4 1), (fq 8 1)])])] (.tup 3 [(gq 1 1), (fq 1 1)]) .lf))) 405200651 [(.tup 4 [(.tup 3 [(fq 0 1), (fq 0 1)]), (.tup 3 [(fq 0 1), (fq 0 1)])])] (.tup 3 [(fq 1 1), (fq 0 1)]) (.nd (.nd (.nd (.nd .lf 480709666 [(.tup 4 [(.tup 3 [(fq 8 1), (fq 36 5)]), (.tup 3 [(fq 36 5), (fq 162 25)])])] (.tup 3 [(gq 8 10), (fq 1 1)]) .lf) 533433197 [(.tup 4 [(.tup 3 [(fq 8 1), (fq 12 1)]), (.tup 3 [(fq 12 1), (fq 18 1)])])] (.tup 3 [(gq 2 2), (fq 1 1)]) .lf) 564043596 [(.tup 4 [(.tup 3 [(fq 128 15), (fq 0 1)]), (.tup 3 [(fq 0 1), (fq 32 15)])])] .non (.nd .lf 610326241 [(.tup 4 [(.tup 3 [(fq 128 25), (fq 64 25)]), (.tup 3 [(fq 64 25), (fq 32 25)])])] (.tup 3 [(gq 0 2), (fq 1 1)]) .lf)) 613389352 [(.tup 4 [(.tup 3 [(fq 8 1), (fq 6 1)]), (.tup 3 [(fq 6 1), (fq 9 2)])])] (.tup 3 [(gq 2 4), (fq 1 1)]) (.nd (.nd .lf 701109586 [(.tup 4 [(.tup 3 [(fq 256 25), (fq 128 25)]), (.tup 3 [(fq 128 25), (fq 64 25)])])] (.tup 3 [(gq 0 2), (fq 1 1)]) .lf) 729121395 [(.tup 4 [(.tup 3 [(fq 81 2), (fq 18 1)]), (.tup 3 [(fq 18 1), (fq 8 1)])])] (.tup 3 [(gq 3 9), (fq 1 1)]) (.nd .lf 890815024 [(.tup 4 [(.tup 3 [(fq 2 1), (fq 4 3)]), (.tup 3 [(fq 4 3), (fq 8 9)])])] (.tup 3 [(gq 1 3), (fq 1 1)]) .lf))))
def t9_1 : Tr := (.nd (.nd (.nd (.nd (.nd .lf 1597032 [(.tup 4 [(.tup 3 [(fq 7 8), (fq 1 1)]), (.tup 3 [(fq 1 1), (fq 7 8)])])] (.tup 3 [(gq 7 7), (fq 1 1)]) .lf) 2471693 [(.tup 4 [(.tup 3 [(fq 0 1)])])] .non (.nd .lf 2471755 [(.tup 4 [(.tup 3 [(fq 2 1)])])] .non .lf)) 2471941 [(.tup 4 [(.tup 3 [(fq 8 1)])])] .non (.nd (.nd .lf 2471943 [(.tup 4 [(.tup 3 [(fq 8 3)])])] .non .lf) 2472191 [(.tup 4 [(.tup 3 [(fq 16 3)])])] .non (.nd .lf 2950457 [(.tup 4 [(.tup 3 [(gq 1 1)])])] (.tup 3 [(fq 1 1)]) .lf))) 2950645 [(.tup 4 [(.tup 3 [(gq 7 3)])])] (.tup 3 [(fq 1 1)]) (.nd (.nd (.nd .lf 9294982 [(.tup 4 [(.tup 3 [(fq 4 1), (fq 3 1)]), (.tup 3 [(fq 3 1), (fq 4 1)])])] .non .lf) 11226047 [(.tup 4 [(.tup 3 [(fq 1 1), (fq 1 1)]), (.tup 3 [(fq 1 1), (fq 1 1)])])] .non (.nd .lf 42821787 [(.tup 4 [(.tup 3 [(fq 2 1), (fq 0 1), (fq 4 1), (fq 0 1), (fq 4 1), (fq 0 1)]), (.tup 3 [(fq 0 1), (fq 2 1), (fq 2 1), (fq 2 1), (fq 8 5), (fq 4 5)]), (.tup 3 [(fq 4 1), (fq 2 1), (fq 56 5), (fq 8 5), (fq 48 5), (fq 8 15)]), (.tup 3 [(fq 0 1), (fq 2 1), (fq 8 5), (fq 24 5), (fq 32 15), (fq 8 5)]), (.tup 3 [(fq 4 1), (fq 8 5), (fq 48 5), (fq 32 15), (fq 47 5), (fq 4 5)]), (.tup 3 [(fq 0 1), (fq 4 5), (fq 8 15), (fq 8 5), (fq 4 5), (fq 3 5)])])] .non .lf)) 46021943 [(.tup 4 [(.tup 3 [(fq 2 1), (fq 2 1), (fq 2 1)]), (.tup 3 [(fq 2 1), (fq 2 1), (fq 2 1)]), (.tup 3 [(fq 2 1), (fq 2 1), (fq 2 1)])])] .non (.nd (.nd .lf 79707372 [(.tup 4 [(.tup 3 [(fq 3071 192), (fq 7677 640)]), (.tup 3 [(fq 7677 640), (fq 18423 2048)])])] (.tup 3 [(gq 23030 30710), (fq 1 1)]) .lf) 90790958 [(.tup 4 [(.tup 3 [(fq 128 25), (fq 128 25)]), (.tup 3 [(fq 128 25), (fq 32 25)])])] (.tup 3 [(gq 0 1), (fq 1 1)]) .lf))) 137785783 [(.tup 4 [(.tup 3 [(fq 32 3), (fq 36 5)]), (.tup 3 [(fq 36 5), (fq 9 2)])])] (.tup 3 [(gq 26 40), (fq 1 1)]) (.nd (.nd (.nd (.nd .lf 152873933 [(.tup 4 [(.tup 3 [(fq 128 25), (gq 63 25)]), (.tup 3 [(gq 63 25), (fq 32 25)])])] .non .lf) 158036145 [(.tup 4 [(.tup 3 [(fq 0 1), (fq 0 1), (fq 0 1), (fq 0 1)]), (.tup 3 [(fq 0 1), (fq 0 1), (fq 0 1), (fq 0 1)]), (.tup 3 [(fq 0 1), (fq 0 1), (fq 0 1), (fq 0 1)]), (.tup 3 [(fq 0 1), (fq 0 1), (fq 0 1), (fq 0 1)])])] .non (.nd .lf 191419785 [(.tup 4 [(.tup 3 [(fq 0 1), (fq 0 1), (fq 0 1)]), (.tup 3 [(fq 0 1), (fq 0 1), (fq 0 1)]), (.tup 3 [(fq 0 1), (fq 0 1), (fq 0 1)])])] .non .lf)) 200391443 [(.tup 4 [(.tup 3 [(fq 11 4), (fq 3 1)]), (.tup 3 [(fq 3 1), (fq 11 4)])])] (.tup 3 [(gq 11 11), (fq 1 1)]) (.nd (.nd .lf 213351859 [(.tup 4 [(.tup 3 [(fq 6143 384), (fq 15357 1280)]), (.tup 3 [(fq 15357 1280), (fq 36855 4096)])])] (.tup 3 [(gq 46070 61430), (fq 1 1)]) .lf) 223276846 [(.tup 4 [(.tup 3 [(fq 3 1), (fq 3 1)]), (.tup 3 [(fq 3 1), (fq 3 1)])])] .non (.nd .lf 225207911 [(.tup 4 [(.tup 3 [(fq 0 1), (fq 1 1)]), (.tup 3 [(fq 1 1), (fq 0 1)])])] (.tup 3 [(gq 0 2), (fq 1 1)]) .lf))) 257266156 [(.tup 4 [(.tup 3 [(fq 2 1), (fq 4 1)]), (.tup 3 [(fq 4 1), (fq 8 1)])])] .non (.nd (.nd (.nd .lf 266018331 [(.tup 4 [(.tup 3 [(fq 40 3), (fq 48 5)]), (.tup 3 [(fq 48 5), (fq 27 4)])])] (.tup 3 [(gq 17 25), (fq 1 1)]) .lf) 272135755 [(.tup 4 [(.tup 3 [(fq 128 25), (gq 127 25)]), (.tup 3 [(gq 127 25), (fq 32 25)])])] (.tup 3 [(fq 1 1), (fq 1 1)]) (.nd .lf 272231821 [(.tup 4 [(.tup 3 [(fq 3 4), (fq 1 1)]), (.tup 3 [(fq 1 1), (fq 3 4)])])] (.tup 3 [(gq 3 3), (fq 1 1)]) .lf)) 318770884 [(.tup 4 [(.tup 3 [(fq 191 24), (fq 477 80)]), (.tup 3 [(fq 477 80), (fq 1143 256)])])] (.tup 3 [(gq 1430 1910), (fq 1 1)]) (.nd (.nd .lf 330135445 [(.tup 4 [(.tup 3 [(fq 44 3), (fq 54 5)]), (.tup 3 [(fq 54 5), (fq 63 8)])])] (.tup 3 [(gq 80 110), (fq 1 1)]) .lf) 362195682 [(.tup 4 [(.tup 3 [(fq 46 3), (fq 57 5)]), (.tup 3 [(fq 57 5), (fq 135 16)])])] (.tup 3 [(gq 170 230), (fq 1 1)]) .lf))))
def t9_2 : Tr := (.nd (.nd (.nd (.nd (.nd .lf 375425005 [(.tup 4 [(.tup 3 [(fq 0 1), (fq 0 1), (fq 72 37)]), (.tup 3 [(fq 0 1), (fq 0 1), (fq 12 37)]), (.tup 3 [(fq 72 37), (fq 12 37), (fq 9 4)])])] (.tup 3 [(gq 480 576), (fq 0 1), (fq 1 1)]) .lf) 405200651 [(.tup 4 [(.tup 3 [(fq 0 1), (fq 0 1)]), (.tup 3 [(fq 0 1), (fq 0 1)])])] .non (.nd .lf 437258710 [(.tup 4 [(.tup 3 [(fq 2 1), (fq 3 1)]), (.tup 3 [(fq 3 1), (fq 2 1)])])] (.tup 3 [(gq 2 2), (fq 1 1)]) .lf)) 512885132 [(.tup 4 [(.tup 3 [(fq 1535 96), (fq 3837 320)]), (.tup 3 [(fq 3837 320), (fq 9207 1024)])])] (.tup 3 [(gq 11510 15350), (fq 1 1)]) (.nd (.nd .lf 522482865 [(.tup 4 [(.tup 3 [(fq 56 3), (fq 72 5)]), (.tup 3 [(fq 72 5), (fq 45 4)])])] .non .lf) 564043596 [(.tup 4 [(.tup 3 [(fq 128 15), (fq 0 1)]), (.tup 3 [(fq 0 1), (fq 32 15)])])] .non (.nd .lf 610326241 [(.tup 4 [(.tup 3 [(fq 128 25), (fq 64 25)]), (.tup 3 [(fq 64 25), (fq 32 25)])])] .non .lf))) 613389352 [(.tup 4 [(.tup 3 [(fq 8 1), (fq 6 1)]), (.tup 3 [(fq 6 1), (fq 9 2)])])] .non (.nd (.nd (.nd .lf 617251450 [(.tup 4 [(.tup 3 [(fq 2 1), (fq 2 1)]), (.tup 3 [(fq 2 1), (fq 2 1)])])] .non .lf) 632416888 [(.tup 4 [(.tup 3 [(fq 95 12), (fq 237 40)]), (.tup 3 [(fq 237 40), (fq 567 128)])])] (.tup 3 [(gq 710 950), (fq 1 1)]) (.nd .lf 640617768 [(.tup 4 [(.tup 3 [(fq 8 1), (fq 24 5)]), (.tup 3 [(fq 24 5), (fq 9 4)])])] (.tup 3 [(gq 2 5), (fq 1 1)]) .lf)) 662039027 [(.tup 4 [(.tup 3 [(fq 256 25), (fq 256 25)]), (.tup 3 [(fq 256 25), (fq 64 25)])])] (.tup 3 [(gq 0 1), (fq 1 1)]) (.nd (.nd .lf 691478883 [(.tup 4 [(.tup 3 [(fq 383 48), (fq 957 160)]), (.tup 3 [(fq 957 160), (fq 2295 512)])])] (.tup 3 [(gq 2870 3830), (fq 1 1)]) .lf) 691636290 [(.tup 4 [(.tup 3 [(fq 5 2), (fq 3 1)]), (.tup 3 [(fq 3 1), (fq 5 2)])])] (.tup 3 [(gq 5 5), (fq 1 1)]) .lf))) 701109586 [(.tup 4 [(.tup 3 [(fq 256 25), (fq 128 25)]), (.tup 3 [(fq 128 25), (fq 64 25)])])] .non (.nd (.nd (.nd (.nd .lf 729474012 [(.tup 4 [(.tup 3 [(fq 767 48), (fq 1917 160)]), (.tup 3 [(fq 1917 160), (fq 4599 512)])])] (.tup 3 [(gq 5750 7670), (fq 1 1)]) .lf) 789239890 [(.tup 4 [(.tup 3 [(fq 47 6), (fq 117 20)]), (.tup 3 [(fq 117 20), (fq 279 64)])])] (.tup 3 [(gq 350 470), (fq 1 1)]) (.nd .lf 797244190 [(.tup 4 [(.tup 3 [(fq 2 1), (fq 1 1)]), (.tup 3 [(fq 1 1), (fq 2 1)])])] .non .lf)) 801365383 [(.tup 4 [(.tup 3 [(fq 16 3), (fq 18 5)]), (.tup 3 [(fq 18 5), (fq 9 4)])])] (.tup 3 [(gq 26 40), (fq 1 1)]) (.nd (.nd .lf 821577772 [(.tup 4 [(.tup 3 [(fq 16 1), (fq 12 1)]), (.tup 3 [(fq 12 1), (fq 9 1)])])] .non .lf) 837768452 [(.tup 4 [(.tup 3 [(fq 383 24), (fq 957 80)]), (.tup 3 [(fq 957 80), (fq 2295 256)])])] (.tup 3 [(gq 2870 3830), (fq 1 1)]) (.nd .lf 865481939 [(.tup 4 [(.tup 3 [(fq 20 3), (fq 24 5)]), (.tup 3 [(fq 24 5), (fq 27 8)])])] (.tup 3 [(gq 17 25), (fq 1 1)]) .lf))) 867651391 [(.tup 4 [(.tup 3 [(fq 23 3), (fq 57 10)]), (.tup 3 [(fq 57 10), (fq 135 32)])])] (.tup 3 [(gq 170 230), (fq 1 1)]) (.nd (.nd (.nd .lf 891915672 [(.tup 4 [(.tup 3 [(fq 191 12), (fq 477 40)]), (.tup 3 [(fq 477 40), (fq 1143 128)])])] (.tup 3 [(gq 1430 1910), (fq 1 1)]) .lf) 897541060 [(.tup 4 [(.tup 3 [(fq 22 3), (fq 27 5)]), (.tup 3 [(fq 27 5), (fq 63 16)])])] (.tup 3 [(gq 80 110), (fq 1 1)]) (.nd .lf 907549219 [(.tup 4 [(.tup 3 [(fq 1 2), (fq 1 1)]), (.tup 3 [(fq 1 1), (fq 1 2)])])] (.tup 3 [(gq 1 1), (fq 1 1)]) .lf)) 918026989 [(.tup 4 [(.tup 3 [(gq 127 15), (fq 0 1)]), (.tup 3 [(fq 0 1), (gq 31 15)])])] (.tup 3 [(fq 1 1), (fq 0 1)]) (.nd (.nd .lf 918989282 [(.tup 4 [(.tup 3 [(fq 95 6), (fq 237 20)]), (.tup 3 [(fq 237 20), (fq 567 64)])])] (.tup 3 [(gq 710 950), (fq 1 1)]) .lf) 932526087 [(.tup 4 [(.tup 3 [(fq 47 3), (fq 117 10)]), (.tup 3 [(fq 117 10), (fq 279 32)])])] (.tup 3 [(gq 350 470), (fq 1 1)]) .lf))))
def t9_0 : Tr := (.nd t9_1 369280462 [(.tup 4 [(.tup 3 [(fq 4 1), (fq 1 1)]), (.tup 3 [(fq 1 1), (fq 4 1)])])] .non t9_2)
def t10_0 : Tr := (.nd (.nd (.nd (.nd (.nd .lf 52 [(.tup 2 [])] (.bl false) .lf) 218 [.non] (.bl false) (.nd .lf 218 [(.str "20")] (.bl false) .lf)) 219 [(.int (.ofNat 2))] (.bl false) (.nd (.nd .lf 50004 [(fq 1 1)] (.bl false) .lf) 352750 [(.tup 3 [(fq 2 1)])] (.bl false) (.nd .lf 10935250 [(.tup 3 [(fq 2 1), (.int (.ofNat 0))])] (.bl false) .lf))) 372535046 [(.tup 3 [(fq 0 1), (fq 0 1)])] (.bl false) (.nd (.nd (.nd .lf 372535077 [(.tup 3 [(fq 0 1), (fq 1 1)])] (.bl false) .lf) 372535108 [(.tup 3 [(fq 0 1), (fq 2 1)])] (.bl true) (.nd .lf 372743583 [(.tup 3 [(fq 1 1), (fq 0 1)])] (.bl false) .lf)) 372743614 [(.tup 3 [(fq 1 1), (fq 1 1)])] (.bl true) (.nd (.nd .lf 372750310 [(.tup 3 [(fq 1 2), (fq 0 1)])] (.bl false) .lf) 372952120 [(.tup 3 [(fq 2 1), (fq 0 1)])] (.bl true) (.nd .lf 372952151 [(.tup 3 [(fq 2 1), (fq 1 1)])] (.bl true) .lf)))) 372952275 [(.tup 3 [(fq 2 1), (.tup 2 [(.bl true), (.int (.ofNat 1))])])] (.bl false) (.nd (.nd (.nd (.nd .lf 372958847 [(.tup 3 [(fq 2 2), (fq 0 1)])] (.bl false) .lf) 373160657 [(.tup 3 [(fq 3 1), (fq 0 1)])] (.bl true) (.nd .lf 373167384 [(.tup 3 [(fq 3 2), (fq 0 1)])] (.bl true) .lf)) 373187693 [(.tup 3 [(fq 3 5), (fq 4 5)])] (.bl false) (.nd (.nd .lf 373190175 [(.tup 3 [(fq 3 5), (fq 81 100)])] (.bl true) .lf) 373369194 [(.tup 3 [(fq 4 1), (fq 0 1)])] (.bl true) (.nd .lf 394263256 [(.tup 3 [(fq 101 100), (fq 0 1)])] (.bl true) .lf))) 832233519 [(.tup 3 [(fq 2 1), (gq 0 1)])] (.bl false) (.nd (.nd (.nd .lf 834027427 [(.tup 3 [(gq 0 1), (fq 0 1)])] (.bl false) .lf) 834027458 [(.tup 3 [(gq 0 1), (fq 1 1)])] (.bl true) (.nd .lf 834027467 [(.tup 3 [(gq 0 1), (fq 1 10)])] (.bl true) .lf)) 834235964 [(.tup 3 [(gq 1 1), (fq 0 1)])] (.bl true) (.nd (.nd .lf 834444501 [(.tup 3 [(gq 2 1), (fq 0 1)])] (.bl true) .lf) 834451228 [(.tup 3 [(gq 2 2), (fq 0 1)])] (.bl true) (.nd .lf 848896568 [(.tup 3 [(fq 2 1), (fq 0 1), (fq 0 1)])] (.bl false) .lf)))))
def t11_0 : Tr := (.nd (.nd (.nd (.nd (.nd (.nd .lf 69706280 [(.tup 2 []), (.tup 5 [(.tup 4 [(.tup 3 [(fq 0 1), (fq 2 1)]), (.tup 3 [(fq 0 1), (fq 0 1)])]), (.tup 4 [(.tup 3 [(fq 3 1), (fq 0 1)]), (.tup 3 [(fq 1 1), (fq 0 1)])])]), (.int (.ofNat 6))] (.tup 6 [(.tup 2 []), (.tup 5 [(.tup 4 [(.tup 3 [(fq 0 1), (fq 2 1)]), (.tup 3 [(fq 0 1), (fq 0 1)])]), (.tup 4 [(.tup 3 [(fq 3 1), (fq 0 1)]), (.tup 3 [(fq 1 1), (fq 0 1)])])])]) .lf) 69739102 [(.tup 2 []), (.tup 5 [(.tup 4 [(.tup 3 [(fq 0 1), (fq 2 1)]), (.tup 3 [(fq 1 1), (fq 0 1)])])]), (.int (.ofNat 6))] (.tup 6 [(.tup 2 []), (.tup 5 [(.tup 4 [(.tup 3 [(fq 0 1), (fq 2 1)]), (.tup 3 [(fq 1 1), (fq 0 1)])])])]) .lf) 76533394 [(.tup 3 [(fq 0 1)]), (.tup 2 []), (.int (.ofNat 5))] (.tup 4 [(.tup 3 [(fq 0 1)]), (.tup 2 [])]) (.nd .lf 76540121 [(.tup 3 [(fq 1 1)]), (.tup 2 []), (.int (.ofNat 5))] (.tup 4 [(.tup 3 [(fq 1 1)]), (.tup 2 [])]) .lf)) 76540122 [(.tup 3 [(fq 1 1)]), (.tup 2 []), (.int (.ofNat 6))] (.tup 4 [(.tup 3 [(fq 1 1)]), (.tup 2 [])]) (.nd (.nd (.nd .lf 83506512 [(.tup 2 []), (.tup 5 [(.tup 4 [(.tup 3 [(fq 0 1), (fq 2 1)]), (.tup 3 [(fq 3 5), (fq 4 5)])])]), (.int (.ofNat 6))] (.tup 6 [(.tup 2 []), (.tup 5 [(.tup 4 [(.tup 3 [(fq 0 1), (fq 2 1)]), (.tup 3 [(fq 3 5), (fq 4 5)])])])]) .lf) 83510356 [(.tup 2 []), (.tup 5 [(.tup 4 [(.tup 3 [(fq 0 1), (fq 2 1)]), (.tup 3 [(fq 3 5), (fq 8 5)])])]), (.int (.ofNat 6))] (.tup 6 [(.tup 2 []), (.tup 5 [(.tup 4 [(.tup 3 [(fq 0 1), (fq 2 1)]), (.tup 3 [(fq 3 5), (fq 8 5)])])])]) .lf) 91420245 [(.tup 3 [(gq 0 1)]), (.tup 2 []), (.int (.ofNat 5))] (.tup 4 [(.tup 3 [(gq 0 1)]), (.tup 2 [])]) (.nd .lf 91420246 [(.tup 3 [(gq 0 1)]), (.tup 2 []), (.int (.ofNat 6))] (.tup 4 [(.tup 3 [(gq 0 1)]), (.tup 2 [])]) .lf))) 97843562 [(.tup 3 [(fq 1 1), (fq 1 1)]), (.tup 5 [(.tup 4 [(.tup 3 [(gq 0 1), (fq 1 1)]), (.tup 3 [(fq 1 1), (fq 1 2)])])]), (.int (.ofNat 6))] (.tup 6 [(.tup 3 [(fq 1 1), (fq 1 1)]), (.tup 5 [(.tup 4 [(.tup 3 [(gq 0 1), (fq 1 1)]), (.tup 3 [(fq 1 1), (fq 1 2)])])])]) (.nd (.nd (.nd (.nd .lf 227802111 [(.tup 3 [(fq 1 1), (fq 0 1)]), (.tup 5 [(.tup 4 [(.tup 3 [(fq 1 1), (fq 1 1)]), (.tup 3 [(fq 1 1), (fq 0 1)])]), (.tup 4 [(.tup 3 [(fq 2 1), (fq 1 1)]), (.tup 3 [(fq 1 1), (fq 0 1)])])]), (.int (.ofNat 6))] (.tup 6 [(.tup 3 [(fq 1 1), (fq 0 1)]), (.tup 5 [(.tup 4 [(.tup 3 [(fq 1 1), (fq 1 1)]), (.tup 3 [(fq 1 1), (fq 0 1)])]), (.tup 4 [(.tup 3 [(fq 2 1), (fq 1 1)]), (.tup 3 [(fq 1 1), (fq 0 1)])])])]) .lf) 293226286 [(.tup 2 []), (.tup 5 [(.tup 4 [(.tup 3 [(fq 0 1), (fq 2 1)]), (.tup 3 [(fq 3 5), (gq 3 5)])])]), (.int (.ofNat 6))] (.tup 6 [(.tup 2 []), (.tup 5 [(.tup 4 [(.tup 3 [(fq 0 1), (fq 2 1)]), (.tup 3 [(fq 3 5), (gq 3 5)])])])]) .lf) 293230130 [(.tup 2 []), (.tup 5 [(.tup 4 [(.tup 3 [(fq 0 1), (fq 2 1)]), (.tup 3 [(fq 3 5), (gq 7 5)])])]), (.int (.ofNat 6))] (.tup 6 [(.tup 2 []), (.tup 5 [(.tup 4 [(.tup 3 [(fq 0 1), (fq 2 1)]), (.tup 3 [(fq 3 5), (gq 7 5)])])])]) (.nd .lf 316377737 [(.tup 2 []), (.tup 5 [(.tup 4 [(.tup 3 [(fq 0 1), (fq 2 1)]), (.tup 3 [(fq 6 5), (gq 7 5)])])]), (.int (.ofNat 6))] (.tup 6 [(.tup 2 []), (.tup 5 [(.tup 4 [(.tup 3 [(fq 0 1), (fq 2 1)]), (.tup 3 [(fq 6 5), (gq 7 5)])])])]) .lf)) 316385425 [(.tup 2 []), (.tup 5 [(.tup 4 [(.tup 3 [(fq 0 1), (fq 2 1)]), (.tup 3 [(fq 6 5), (gq 15 5)])])]), (.int (.ofNat 6))] (.tup 6 [(.tup 2 []), (.tup 5 [(.tup 4 [(.tup 3 [(fq 0 1), (fq 2 1)]), (.tup 3 [(fq 6 5), (gq 15 5)])])])]) (.nd (.nd .lf 340122962 [(.tup 2 []), (.tup 5 [(.tup 4 [(.tup 3 [(fq 0 1), (fq 2 1)]), (.tup 3 [(gq 0 1), (fq 0 1)])])]), (.int (.ofNat 6))] (.tup 6 [(.tup 2 []), (.tup 5 [(.tup 4 [(.tup 3 [(fq 0 1), (fq 2 1)]), (.tup 3 [(gq 0 1), (fq 0 1)])])])]) .lf) 565549635 [(.tup 3 [(fq 1 1)]), (.tup 5 [(.tup 4 [(.tup 3 [(fq 2 1), (fq 0 1)]), (.tup 3 [(fq 3 1), (fq 0 1)])])]), (.int (.ofNat 5))] (.tup 6 [(.tup 3 [(fq 1 1)]), (.tup 5 [(.tup 4 [(.tup 3 [(fq 2 1), (fq 0 1)]), (.tup 3 [(fq 3 1), (fq 0 1)])])])]) (.nd .lf 565549636 [(.tup 3 [(fq 1 1)]), (.tup 5 [(.tup 4 [(.tup 3 [(fq 2 1), (fq 0 1)]), (.tup 3 [(fq 3 1), (fq 0 1)])])]), (.int (.ofNat 6))] (.tup 6 [(.tup 3 [(fq 1 1)]), (.tup 5 [(.tup 4 [(.tup 3 [(fq 2 1), (fq 0 1)]), (.tup 3 [(fq 3 1), (fq 0 1)])])])]) .lf)))) 696680336 [(.tup 2 []), (.tup 5 [(.tup 4 [(.tup 3 [(fq 0 1), (fq 2 1)]), (.tup 3 [(fq 0 1), (fq 0 1)])]), (.tup 4 [(.tup 3 [(fq 2 1), (fq 0 1)]), (.tup 3 [(fq 0 1), (fq 0 1)])])]), (.int (.ofNat 6))] (.tup 6 [(.tup 2 []), (.tup 5 [(.tup 4 [(.tup 3 [(fq 0 1), (fq 2 1)]), (.tup 3 [(fq 0 1), (fq 0 1)])]), (.tup 4 [(.tup 3 [(fq 2 1), (fq 0 1)]), (.tup 3 [(fq 0 1), (fq 0 1)])])])]) (.nd (.nd (.nd (.nd (.nd .lf 811035508 [(.tup 3 [(fq 0 1)]), (.tup 5 [(.tup 4 [(.tup 3 [(fq 0 1), (fq 2 1)]), (.tup 3 [(fq 0 1), (fq 0 1)])]), (.tup 4 [(.tup 3 [(fq 2 1), (fq 0 1)]), (.tup 3 [(fq 0 1), (fq 0 1)])])]), (.int (.ofNat 6))] (.tup 6 [(.tup 3 [(fq 0 1)]), (.tup 5 [(.tup 4 [(.tup 3 [(fq 0 1), (fq 2 1)]), (.tup 3 [(fq 0 1), (fq 0 1)])]), (.tup 4 [(.tup 3 [(fq 2 1), (fq 0 1)]), (.tup 3 [(fq 0 1), (fq 0 1)])])])]) .lf) 816587857 [(.tup 3 [(fq 2 1)]), (.tup 5 [(.tup 4 [(.tup 3 [(fq 2 1), (fq 0 1)]), (.tup 3 [(fq 3 1), (fq 0 1)])])]), (.int (.ofNat 6))] (.tup 6 [(.tup 3 [(fq 2 1)]), (.tup 5 [(.tup 4 [(.tup 3 [(fq 2 1), (fq 0 1)]), (.tup 3 [(fq 3 1), (fq 0 1)])])])]) .lf) 840104521 [(.tup 3 [(fq 0 1), (fq 0 1)]), (.tup 2 []), (.int (.ofNat 6))] (.tup 4 [(.tup 3 [(fq 0 1), (fq 0 1)]), (.tup 2 [])]) (.nd .lf 840111248 [(.tup 3 [(fq 0 1), (fq 1 1)]), (.tup 2 []), (.int (.ofNat 6))] (.tup 4 [(.tup 3 [(fq 0 1), (fq 1 1)]), (.tup 2 [])]) .lf)) 840357251 [(.tup 2 []), (.tup 5 [(.tup 4 [(.tup 3 [(fq 2 1), (fq 0 1)]), (.tup 3 [(gq 0 1), (fq 0 1)])])]), (.int (.ofNat 6))] (.tup 6 [(.tup 2 []), (.tup 5 [(.tup 4 [(.tup 3 [(fq 2 1), (fq 0 1)]), (.tup 3 [(gq 0 1), (fq 0 1)])])])]) (.nd (.nd .lf 852637624 [(.tup 2 []), (.tup 5 [(.tup 4 [(.tup 3 [(fq 2 1), (fq 0 1)]), (.tup 3 [(fq 3 1), (fq 0 1)])]), (.tup 4 [(.tup 3 [(fq 3 1), (fq 0 1)]), (.tup 3 [(fq 1 1), (fq 0 1)])])]), (.int (.ofNat 5))] (.tup 6 [(.tup 2 []), (.tup 5 [(.tup 4 [(.tup 3 [(fq 2 1), (fq 0 1)]), (.tup 3 [(fq 3 1), (fq 0 1)])]), (.tup 4 [(.tup 3 [(fq 3 1), (fq 0 1)]), (.tup 3 [(fq 1 1), (fq 0 1)])])])]) .lf) 852637625 [(.tup 2 []), (.tup 5 [(.tup 4 [(.tup 3 [(fq 2 1), (fq 0 1)]), (.tup 3 [(fq 3 1), (fq 0 1)])]), (.tup 4 [(.tup 3 [(fq 3 1), (fq 0 1)]), (.tup 3 [(fq 1 1), (fq 0 1)])])]), (.int (.ofNat 6))] (.tup 6 [(.tup 2 []), (.tup 5 [(.tup 4 [(.tup 3 [(fq 2 1), (fq 0 1)]), (.tup 3 [(fq 3 1), (fq 0 1)])]), (.tup 4 [(.tup 3 [(fq 3 1), (fq 0 1)]), (.tup 3 [(fq 1 1), (fq 0 1)])])])]) (.nd .lf 859102271 [(.tup 2 []), (.tup 5 [(.tup 4 [(.tup 3 [(fq 2 1), (fq 0 1)]), (.tup 3 [(fq 3 1), (fq 0 1)])]), (.tup 4 [(.tup 3 [(fq 3 1), (fq 0 1)]), (.tup 3 [(fq 2 1), (fq 0 1)])])]), (.int (.ofNat 5))] (.tup 6 [(.tup 2 []), (.tup 5 [(.tup 4 [(.tup 3 [(fq 2 1), (fq 0 1)]), (.tup 3 [(fq 3 1), (fq 0 1)])]), (.tup 4 [(.tup 3 [(fq 3 1), (fq 0 1)]), (.tup 3 [(fq 2 1), (fq 0 1)])])])]) .lf))) 859102272 [(.tup 2 []), (.tup 5 [(.tup 4 [(.tup 3 [(fq 2 1), (fq 0 1)]), (.tup 3 [(fq 3 1), (fq 0 1)])]), (.tup 4 [(.tup 3 [(fq 3 1), (fq 0 1)]), (.tup 3 [(fq 2 1), (fq 0 1)])])]), (.int (.ofNat 6))] (.tup 6 [(.tup 2 []), (.tup 5 [(.tup 4 [(.tup 3 [(fq 2 1), (fq 0 1)]), (.tup 3 [(fq 3 1), (fq 0 1)])]), (.tup 4 [(.tup 3 [(fq 3 1), (fq 0 1)]), (.tup 3 [(fq 2 1), (fq 0 1)])])])]) (.nd (.nd (.nd (.nd .lf 885370503 [(.tup 3 [(fq 1 1), (fq 2 1)]), (.tup 2 []), (.int (.ofNat 5))] (.tup 4 [(.tup 3 [(fq 1 1), (fq 2 1)]), (.tup 2 [])]) .lf) 885377230 [(.tup 3 [(fq 1 1), (fq 3 1)]), (.tup 2 []), (.int (.ofNat 5))] (.tup 4 [(.tup 3 [(fq 1 1), (fq 3 1)]), (.tup 2 [])]) .lf) 887312131 [(.tup 3 [(fq 1 1), (fq 2 1), (fq 2 1)]), (.tup 2 []), (.int (.ofNat 6))] (.tup 4 [(.tup 3 [(fq 1 1), (fq 2 1), (fq 2 1)]), (.tup 2 [])]) (.nd .lf 887318858 [(.tup 3 [(fq 1 1), (fq 2 1), (fq 3 1)]), (.tup 2 []), (.int (.ofNat 6))] (.tup 4 [(.tup 3 [(fq 1 1), (fq 2 1), (fq 3 1)]), (.tup 2 [])]) .lf)) 930616305 [(.tup 3 [(fq 2 1), (fq 1 1)]), (.tup 2 []), (.int (.ofNat 5))] (.tup 4 [(.tup 3 [(fq 2 1), (fq 1 1)]), (.tup 2 [])]) (.nd (.nd .lf 968876159 [(.tup 2 []), (.tup 5 [(.tup 4 [(.tup 3 [(fq 2 1), (fq 0 1)]), (.tup 3 [(fq 0 1), (fq 0 1)])])]), (.int (.ofNat 5))] (.tup 6 [(.tup 2 []), (.tup 5 [(.tup 4 [(.tup 3 [(fq 2 1), (fq 0 1)]), (.tup 3 [(fq 0 1), (fq 0 1)])])])]) .lf) 988270100 [(.tup 2 []), (.tup 5 [(.tup 4 [(.tup 3 [(fq 2 1), (fq 0 1)]), (.tup 3 [(fq 3 1), (fq 0 1)])])]), (.int (.ofNat 5))] (.tup 6 [(.tup 2 []), (.tup 5 [(.tup 4 [(.tup 3 [(fq 2 1), (fq 0 1)]), (.tup 3 [(fq 3 1), (fq 0 1)])])])]) (.nd .lf 988270101 [(.tup 2 []), (.tup 5 [(.tup 4 [(.tup 3 [(fq 2 1), (fq 0 1)]), (.tup 3 [(fq 3 1), (fq 0 1)])])]), (.int (.ofNat 6))] (.tup 6 [(.tup 2 []), (.tup 5 [(.tup 4 [(.tup 3 [(fq 2 1), (fq 0 1)]), (.tup 3 [(fq 3 1), (fq 0 1)])])])]) .lf)))))
def t12_0 : Tr := (.nd (.nd (.nd .lf 284857934 [(.tup 4 [(.tup 3 [(fq 2 1), (fq 2 1)]), (.tup 3 [(fq 1 1), (gq 0 1)])])] (.bl true) .lf) 324201533 [(.tup 4 [(.tup 3 [(fq 0 1), (fq 6 1)]), (.tup 3 [(fq 1 1), (fq 0 1)])])] (.bl false) .lf) 391033720 [(.tup 4 [(.tup 3 [(fq 1 1)]), (.tup 3 [(fq 1 1)])])] (.bl true) (.nd (.nd .lf 400495911 [(.tup 4 [(.tup 3 [(fq 1 1), (fq 1 1)]), (.tup 3 [(fq 1 1), (gq 0 1)])])] (.bl true) .lf) 606495213 [(.tup 4 [(.tup 3 [(fq 1 1), (gq 0 1)]), (.tup 3 [(fq 1 1), (fq 1 1)])])] (.bl true) .lf))
def t13_0 : Tr := (.nd (.nd (.nd (.nd .lf 103021500 [(.tup 2 []), (.tup 5 [(.tup 4 [(.tup 3 [(fq 0 1), (fq 2 1)]), (.tup 3 [(fq 6 5), (gq 7 5)])])]), (.tup 3 [(gq 0 2), (fq 1 1)])] (.tup 4 [(.tup 3 [(fq 2 1), (fq 2 1)]), (.tup 3 [(fq 1 1), (gq 0 1)])]) .lf) 164929641 [(.tup 2 []), (.tup 5 [(.tup 4 [(.tup 3 [(fq 2 1), (fq 0 1)]), (.tup 3 [(fq 3 1), (fq 0 1)])]), (.tup 4 [(.tup 3 [(fq 3 1), (fq 0 1)]), (.tup 3 [(fq 2 1), (fq 0 1)])])]), (.tup 3 [(gq 2 4), (fq 1 1)])] (.tup 4 [(.tup 3 [(fq 1 1), (fq 1 1)]), (.tup 3 [(fq 1 1), (gq 0 1)])]) (.nd .lf 257665697 [(.tup 2 []), (.tup 5 [(.tup 4 [(.tup 3 [(gq 2 1), (fq 0 1)]), (.tup 3 [(fq 1 2), (fq 0 1)])]), (.tup 4 [(.tup 3 [(fq 2 1), (fq 0 1)]), (.tup 3 [(fq 3 1), (fq 0 1)])])]), (.tup 3 [(gq 7 3), (fq 1 1)])] (.tup 4 [(.tup 3 [(fq 1 1), (fq 1 1)]), (.tup 3 [(fq 1 1), (gq 0 1)])]) .lf)) 269921768 [(.tup 3 [(fq 1 1)]), (.tup 5 [(.tup 4 [(.tup 3 [(fq 2 1), (fq 0 1)]), (.tup 3 [(fq 3 1), (fq 0 1)])])]), (.tup 3 [(gq 1 1), (fq 1 1)])] (.tup 4 [(.tup 3 [(fq 1 1), (fq 1 1)]), (.tup 3 [(fq 1 1), (gq 0 1)])]) (.nd (.nd .lf 539170720 [(.tup 2 []), (.tup 5 [(.tup 4 [(.tup 3 [(fq 2 1), (fq 0 1)]), (.tup 3 [(fq 3 1), (fq 0 1)])]), (.tup 4 [(.tup 3 [(fq 3 2), (fq 0 1)]), (.tup 3 [(fq 9 5), (fq 0 1)])])]), (.tup 3 [(gq 8 10), (fq 1 1)])] (.tup 4 [(.tup 3 [(fq 9 1), (gq 8 1)]), (.tup 3 [(fq 1 1), (fq 1 1)])]) .lf) 570558968 [(.tup 2 []), (.tup 5 [(.tup 4 [(.tup 3 [(fq 2 1), (fq 0 1)]), (.tup 3 [(fq 3 1), (fq 0 1)])]), (.tup 4 [(.tup 3 [(fq 3 2), (fq 0 1)]), (.tup 3 [(fq 5 1), (fq 0 1)])])]), (.tup 3 [(gq 2 2), (fq 1 1)])] (.tup 4 [(.tup 3 [(fq 1 1), (fq 1 1)]), (.tup 3 [(fq 1 1), (gq 0 1)])]) .lf)) 592681569 [(.tup 2 []), (.tup 5 [(.tup 4 [(.tup 3 [(gq 2 1), (fq 0 1)]), (.tup 3 [(fq 18 1), (fq 0 1)])]), (.tup 4 [(.tup 3 [(fq 2 1), (fq 0 1)]), (.tup 3 [(fq 3 1), (fq 0 1)])])]), (.tup 3 [(gq 3 9), (fq 1 1)])] (.tup 4 [(.tup 3 [(fq 9 1), (gq 8 1)]), (.tup 3 [(fq 1 1), (fq 1 1)])]) (.nd (.nd (.nd .lf 597760202 [(.tup 3 [(fq 1 1)]), (.tup 5 [(.tup 4 [(.tup 3 [(fq 2 1), (fq 0 1)]), (.tup 3 [(fq 1 3), (fq 0 1)])])]), (.tup 3 [(gq 1 3), (fq 1 1)])] (.tup 4 [(.tup 3 [(fq 1 1), (gq 0 1)]), (.tup 3 [(fq 1 1), (fq 1 1)])]) .lf) 641777022 [(.tup 2 []), (.tup 5 [(.tup 4 [(.tup 3 [(fq 2 1), (fq 0 1)]), (.tup 3 [(fq 3 1), (fq 0 1)])]), (.tup 4 [(.tup 3 [(fq 3 1), (fq 0 1)]), (.tup 3 [(fq 9 2), (fq 0 1)])])]), (.tup 3 [(gq 8 8), (fq 1 1)])] (.tup 4 [(.tup 3 [(fq 9 1), (gq 8 1)]), (.tup 3 [(fq 1 1), (fq 1 1)])]) .lf) 765247747 [(.tup 2 []), (.tup 5 [(.tup 4 [(.tup 3 [(fq 0 1), (fq 2 1)]), (.tup 3 [(fq 3 5), (fq 4 5)])])]), (.tup 3 [(fq 1 2), (fq 1 1)])] (.tup 4 [(.tup 3 [(fq 1 1), (gq 0 1)]), (.tup 3 [(fq 1 1), (fq 1 1)])]) (.nd (.nd .lf 821782356 [(.tup 3 [(fq 1 1), (fq 2 1), (fq 2 1)]), (.tup 2 []), (.tup 3 [(gq 0 1), (fq 1 1), (fq 0 1)])] (.tup 4 [(.tup 3 [(fq 1 1), (fq 1 1)]), (.tup 3 [(fq 1 1), (gq 0 1)])]) .lf) 827877998 [(.tup 2 []), (.tup 5 [(.tup 4 [(.tup 3 [(fq 0 1), (fq 2 1)]), (.tup 3 [(fq 3 5), (gq 3 5)])])]), (.tup 3 [(gq 0 2), (fq 1 1)])] (.tup 4 [(.tup 3 [(fq 1 1), (fq 1 1)]), (.tup 3 [(fq 1 1), (gq 0 1)])]) .lf)))
def t14_0 : Tr := (.nd (.nd (.nd (.nd .lf 82443042 [(.tup 2 []), (.tup 5 [(.tup 4 [(.tup 3 [(fq 2 1), (fq 0 1)]), (.tup 3 [(fq 3 1), (fq 0 1)])])]), (gq 2 1), (fq 0 1)] (.tup 3 [(fq 18 7), (fq 0 1)]) .lf) 82443073 [(.tup 2 []), (.tup 5 [(.tup 4 [(.tup 3 [(fq 2 1), (fq 0 1)]), (.tup 3 [(fq 3 1), (fq 0 1)])])]), (gq 2 1), (fq 1 1)] (.tup 3 [(fq 24 7), (fq 9 4)]) (.nd .lf 92892140 [(.tup 2 []), (.tup 5 [(.tup 4 [(.tup 3 [(fq 2 1), (fq 0 1)]), (.tup 3 [(fq 3 1), (fq 0 1)])])]), .non, (fq 0 1)] (.tup 3 [(fq 3 1), (fq 0 1)]) .lf)) 92892171 [(.tup 2 []), (.tup 5 [(.tup 4 [(.tup 3 [(fq 2 1), (fq 0 1)]), (.tup 3 [(fq 3 1), (fq 0 1)])])]), .non, (fq 1 1)] (.tup 3 [(fq 4 1), (fq 2 1)]) (.nd (.nd .lf 142230560 [(.tup 3 [(fq 1 1)]), (.tup 2 []), (fq 2 1), (fq 0 1)] (.tup 3 [(fq 1 1), (fq 0 1)]) .lf) 142230591 [(.tup 3 [(fq 1 1)]), (.tup 2 []), (fq 2 1), (fq 1 1)] (.tup 3 [(fq 2 1), (fq 8 3)]) .lf)) 175537816 [(.tup 2 []), (.tup 5 [(.tup 4 [(.tup 3 [(fq 2 1), (fq 0 1)]), (.tup 3 [(fq 3 1), (fq 0 1)])])]), (fq 3 1), (fq 0 1)] (.tup 3 [(fq 18 5), (fq 0 1)]) (.nd (.nd (.nd .lf 175537847 [(.tup 2 []), (.tup 5 [(.tup 4 [(.tup 3 [(fq 2 1), (fq 0 1)]), (.tup 3 [(fq 3 1), (fq 0 1)])])]), (fq 3 1), (fq 1 1)] (.tup 3 [(fq 24 5), (fq 9 4)]) .lf) 175544543 [(.tup 2 []), (.tup 5 [(.tup 4 [(.tup 3 [(fq 2 1), (fq 0 1)]), (.tup 3 [(fq 3 1), (fq 0 1)])])]), (fq 3 2), (fq 0 1)] (.tup 3 [(fq 9 2), (fq 0 1)]) .lf) 175544574 [(.tup 2 []), (.tup 5 [(.tup 4 [(.tup 3 [(fq 2 1), (fq 0 1)]), (.tup 3 [(fq 3 1), (fq 0 1)])])]), (fq 3 2), (fq 1 1)] (.tup 3 [(fq 6 1), (fq 18 5)]) (.nd (.nd .lf 885366345 [(.tup 3 [(fq 1 1)]), (.tup 2 []), .non, (fq 0 1)] (.tup 3 [(fq 0 1), (fq 2 1)]) .lf) 885366376 [(.tup 3 [(fq 1 1)]), (.tup 2 []), .non, (fq 1 1)] (.tup 3 [(fq 1 1), (fq 2 1)]) .lf)))
def t15_0 : Tr := (.nd (.nd (.nd .lf 357276819 [(.tup 4 [(.tup 3 [(fq 8 1)])]), (.tup 3 [(fq 3 1), (fq 0 1)]), (.tup 3 [(fq 4 1), (fq 2 1)])] (.tup 3 [(fq 1 1), (fq 9 1)]) .lf) 529698728 [(.tup 4 [(.tup 3 [(fq 8 1)])]), (.tup 3 [(fq 18 7), (fq 0 1)]), (.tup 3 [(fq 24 7), (fq 9 4)])] (.tup 3 [(fq 1 2), (fq 18 1)]) (.nd .lf 737038946 [(.tup 4 [(.tup 3 [(fq 8 1)])]), (.tup 3 [(fq 18 5), (fq 0 1)]), (.tup 3 [(fq 24 5), (fq 9 4)])] (.tup 3 [(fq 2 1), (fq 9 2)]) .lf)) 798493070 [(.tup 4 [(.tup 3 [(fq 2 1)])]), (.tup 3 [(fq 0 1), (fq 2 1)]), (.tup 3 [(fq 1 1), (fq 2 1)])] (.tup 3 [(gq 1 1), (fq 2 1)]) (.nd (.nd .lf 945122454 [(.tup 4 [(.tup 3 [(fq 2 1)])]), (.tup 3 [(fq 1 1), (fq 0 1)]), (.tup 3 [(fq 2 1), (fq 8 3)])] (.tup 3 [(fq 1 3), (fq 3 1)]) .lf) 970126201 [(.tup 4 [(.tup 3 [(fq 8 1)])]), (.tup 3 [(fq 9 2), (fq 0 1)]), (.tup 3 [(fq 6 1), (fq 18 5)])] (.tup 3 [(fq 9 5), (fq 5 1)]) .lf))
def t16_0 : Tr := (.nd (.nd (.nd (.nd (.nd (.nd .lf 22364943 [(.tup 2 []), (.tup 5 [(.tup 4 [(.tup 3 [(fq 2 1), (fq 0 1)]), (.tup 3 [(fq 3 1), (fq 0 1)])]), (.tup 4 [(.tup 3 [(fq 3 1), (fq 0 1)]), (.tup 3 [(fq 1 1), (fq 0 1)])])]), (fq 1 1)] (.bl false) .lf) 22364974 [(.tup 2 []), (.tup 5 [(.tup 4 [(.tup 3 [(fq 2 1), (fq 0 1)]), (.tup 3 [(fq 3 1), (fq 0 1)])]), (.tup 4 [(.tup 3 [(fq 3 1), (fq 0 1)]), (.tup 3 [(fq 1 1), (fq 0 1)])])]), (fq 2 1)] (.bl false) .lf) 22365005 [(.tup 2 []), (.tup 5 [(.tup 4 [(.tup 3 [(fq 2 1), (fq 0 1)]), (.tup 3 [(fq 3 1), (fq 0 1)])]), (.tup 4 [(.tup 3 [(fq 3 1), (fq 0 1)]), (.tup 3 [(fq 1 1), (fq 0 1)])])]), (fq 3 1)] (.bl true) (.nd .lf 22365036 [(.tup 2 []), (.tup 5 [(.tup 4 [(.tup 3 [(fq 2 1), (fq 0 1)]), (.tup 3 [(fq 3 1), (fq 0 1)])]), (.tup 4 [(.tup 3 [(fq 3 1), (fq 0 1)]), (.tup 3 [(fq 1 1), (fq 0 1)])])]), (fq 4 1)] (.bl true) .lf)) 22365068 [(.tup 2 []), (.tup 5 [(.tup 4 [(.tup 3 [(fq 2 1), (fq 0 1)]), (.tup 3 [(fq 3 1), (fq 0 1)])]), (.tup 4 [(.tup 3 [(fq 3 1), (fq 0 1)]), (.tup 3 [(fq 1 1), (fq 0 1)])])]), (fq 5 2)] (.bl false) (.nd (.nd (.nd .lf 22365256 [(.tup 2 []), (.tup 5 [(.tup 4 [(.tup 3 [(fq 2 1), (fq 0 1)]), (.tup 3 [(fq 3 1), (fq 0 1)])]), (.tup 4 [(.tup 3 [(fq 3 1), (fq 0 1)]), (.tup 3 [(fq 1 1), (fq 0 1)])])]), (fq 11 4)] (.bl false) .lf) 22365632 [(.tup 2 []), (.tup 5 [(.tup 4 [(.tup 3 [(fq 2 1), (fq 0 1)]), (.tup 3 [(fq 3 1), (fq 0 1)])]), (.tup 4 [(.tup 3 [(fq 3 1), (fq 0 1)]), (.tup 3 [(fq 1 1), (fq 0 1)])])]), (fq 23 8)] (.bl false) .lf) 22366384 [(.tup 2 []), (.tup 5 [(.tup 4 [(.tup 3 [(fq 2 1), (fq 0 1)]), (.tup 3 [(fq 3 1), (fq 0 1)])]), (.tup 4 [(.tup 3 [(fq 3 1), (fq 0 1)]), (.tup 3 [(fq 1 1), (fq 0 1)])])]), (fq 47 16)] (.bl false) (.nd .lf 22367888 [(.tup 2 []), (.tup 5 [(.tup 4 [(.tup 3 [(fq 2 1), (fq 0 1)]), (.tup 3 [(fq 3 1), (fq 0 1)])]), (.tup 4 [(.tup 3 [(fq 3 1), (fq 0 1)]), (.tup 3 [(fq 1 1), (fq 0 1)])])]), (fq 95 32)] (.bl false) .lf))) 22370896 [(.tup 2 []), (.tup 5 [(.tup 4 [(.tup 3 [(fq 2 1), (fq 0 1)]), (.tup 3 [(fq 3 1), (fq 0 1)])]), (.tup 4 [(.tup 3 [(fq 3 1), (fq 0 1)]), (.tup 3 [(fq 1 1), (fq 0 1)])])]), (fq 191 64)] (.bl false) (.nd (.nd (.nd (.nd .lf 22376912 [(.tup 2 []), (.tup 5 [(.tup 4 [(.tup 3 [(fq 2 1), (fq 0 1)]), (.tup 3 [(fq 3 1), (fq 0 1)])]), (.tup 4 [(.tup 3 [(fq 3 1), (fq 0 1)]), (.tup 3 [(fq 1 1), (fq 0 1)])])]), (fq 383 128)] (.bl false) .lf) 22388944 [(.tup 2 []), (.tup 5 [(.tup 4 [(.tup 3 [(fq 2 1), (fq 0 1)]), (.tup 3 [(fq 3 1), (fq 0 1)])]), (.tup 4 [(.tup 3 [(fq 3 1), (fq 0 1)]), (.tup 3 [(fq 1 1), (fq 0 1)])])]), (fq 767 256)] (.bl false) .lf) 22413008 [(.tup 2 []), (.tup 5 [(.tup 4 [(.tup 3 [(fq 2 1), (fq 0 1)]), (.tup 3 [(fq 3 1), (fq 0 1)])]), (.tup 4 [(.tup 3 [(fq 3 1), (fq 0 1)]), (.tup 3 [(fq 1 1), (fq 0 1)])])]), (fq 1535 512)] (.bl false) (.nd .lf 22461136 [(.tup 2 []), (.tup 5 [(.tup 4 [(.tup 3 [(fq 2 1), (fq 0 1)]), (.tup 3 [(fq 3 1), (fq 0 1)])]), (.tup 4 [(.tup 3 [(fq 3 1), (fq 0 1)]), (.tup 3 [(fq 1 1), (fq 0 1)])])]), (fq 3071 1024)] (.bl false) .lf)) 29623796 [(.tup 3 [(fq 2 1), (fq 1 1)]), (.tup 2 []), (gq 0 1)] (.bl true) (.nd (.nd .lf 29623827 [(.tup 3 [(fq 2 1), (fq 1 1)]), (.tup 2 []), (gq 1 1)] (.bl false) .lf) 29623859 [(.tup 3 [(fq 2 1), (fq 1 1)]), (.tup 2 []), (gq 2 2)] (.bl true) (.nd .lf 29623985 [(.tup 3 [(fq 2 1), (fq 1 1)]), (.tup 2 []), (gq 6 4)] (.bl false) .lf)))) 29624175 [(.tup 3 [(fq 2 1), (fq 1 1)]), (.tup 2 []), (gq 12 8)] (.bl false) (.nd (.nd (.nd (.nd (.nd .lf 29624555 [(.tup 3 [(fq 2 1), (fq 1 1)]), (.tup 2 []), (gq 24 16)] (.bl false) .lf) 126859396 [(.tup 3 [(fq 1 1), (fq 3 1)]), (.tup 2 []), (fq 1 1)] (.bl true) .lf) 126859397 [(.tup 3 [(fq 1 1), (fq 3 1)]), (.tup 2 []), (fq 1 2)] (.bl true) (.nd .lf 126859399 [(.tup 3 [(fq 1 1), (fq 3 1)]), (.tup 2 []), (fq 1 4)] (.bl false) .lf)) 126859465 [(.tup 3 [(fq 1 1), (fq 3 1)]), (.tup 2 []), (fq 3 8)] (.bl false) (.nd (.nd .lf 507489123 [(.tup 2 []), (.tup 5 [(.tup 4 [(.tup 3 [(fq 2 1), (fq 0 1)]), (.tup 3 [(fq 3 1), (fq 0 1)])]), (.tup 4 [(.tup 3 [(fq 3 1), (fq 0 1)]), (.tup 3 [(fq 2 1), (fq 0 1)])])]), (gq 0 1)] (.bl false) .lf) 507489124 [(.tup 2 []), (.tup 5 [(.tup 4 [(.tup 3 [(fq 2 1), (fq 0 1)]), (.tup 3 [(fq 3 1), (fq 0 1)])]), (.tup 4 [(.tup 3 [(fq 3 1), (fq 0 1)]), (.tup 3 [(fq 2 1), (fq 0 1)])])]), (gq 0 2)] (.bl false) (.nd .lf 507489126 [(.tup 2 []), (.tup 5 [(.tup 4 [(.tup 3 [(fq 2 1), (fq 0 1)]), (.tup 3 [(fq 3 1), (fq 0 1)])]), (.tup 4 [(.tup 3 [(fq 3 1), (fq 0 1)]), (.tup 3 [(fq 2 1), (fq 0 1)])])]), (gq 0 4)] (.bl false) .lf))) 507489130 [(.tup 2 []), (.tup 5 [(.tup 4 [(.tup 3 [(fq 2 1), (fq 0 1)]), (.tup 3 [(fq 3 1), (fq 0 1)])]), (.tup 4 [(.tup 3 [(fq 3 1), (fq 0 1)]), (.tup 3 [(fq 2 1), (fq 0 1)])])]), (gq 0 8)] (.bl false) (.nd (.nd (.nd (.nd .lf 507489138 [(.tup 2 []), (.tup 5 [(.tup 4 [(.tup 3 [(fq 2 1), (fq 0 1)]), (.tup 3 [(fq 3 1), (fq 0 1)])]), (.tup 4 [(.tup 3 [(fq 3 1), (fq 0 1)]), (.tup 3 [(fq 2 1), (fq 0 1)])])]), (gq 0 16)] (.bl false) .lf) 507489154 [(.tup 2 []), (.tup 5 [(.tup 4 [(.tup 3 [(fq 2 1), (fq 0 1)]), (.tup 3 [(fq 3 1), (fq 0 1)])]), (.tup 4 [(.tup 3 [(fq 3 1), (fq 0 1)]), (.tup 3 [(fq 2 1), (fq 0 1)])])]), (gq 0 32)] (.bl false) .lf) 507489186 [(.tup 2 []), (.tup 5 [(.tup 4 [(.tup 3 [(fq 2 1), (fq 0 1)]), (.tup 3 [(fq 3 1), (fq 0 1)])]), (.tup 4 [(.tup 3 [(fq 3 1), (fq 0 1)]), (.tup 3 [(fq 2 1), (fq 0 1)])])]), (gq 0 64)] (.bl false) (.nd .lf 507489250 [(.tup 2 []), (.tup 5 [(.tup 4 [(.tup 3 [(fq 2 1), (fq 0 1)]), (.tup 3 [(fq 3 1), (fq 0 1)])]), (.tup 4 [(.tup 3 [(fq 3 1), (fq 0 1)]), (.tup 3 [(fq 2 1), (fq 0 1)])])]), (gq 0 128)] (.bl false) .lf)) 961956603 [(.tup 2 []), (.tup 5 [(.tup 4 [(.tup 3 [(fq 2 1), (fq 0 1)]), (.tup 3 [(fq 3 1), (fq 0 1)])])]), (gq 0 1)] (.bl true) (.nd (.nd .lf 961956634 [(.tup 2 []), (.tup 5 [(.tup 4 [(.tup 3 [(fq 2 1), (fq 0 1)]), (.tup 3 [(fq 3 1), (fq 0 1)])])]), (gq 1 1)] (.bl true) .lf) 961956665 [(.tup 2 []), (.tup 5 [(.tup 4 [(.tup 3 [(fq 2 1), (fq 0 1)]), (.tup 3 [(fq 3 1), (fq 0 1)])])]), (gq 2 1)] (.bl true) (.nd .lf 961956696 [(.tup 2 []), (.tup 5 [(.tup 4 [(.tup 3 [(fq 2 1), (fq 0 1)]), (.tup 3 [(fq 3 1), (fq 0 1)])])]), (gq 3 1)] (.bl false) .lf)))))
def t17_0 : Tr := (.nd (.nd (.nd (.nd .lf 76533390 [(.tup 3 [(fq 0 1)]), (.tup 2 []), .non] (.tup 3 [(fq 0 1), (fq 0 1)]) .lf) 76540117 [(.tup 3 [(fq 1 1)]), (.tup 2 []), .non] (.tup 3 [(gq 1 1), (fq 2 1)]) (.nd .lf 246126925 [(.tup 2 []), (.tup 5 [(.tup 4 [(.tup 3 [(fq 2 1), (fq 0 1)]), (.tup 3 [(fq 0 1), (fq 0 1)])])]), (fq 3 1)] (.tup 3 [(fq 0 1), (fq 0 1)]) .lf)) 425193428 [(.tup 2 []), (.tup 5 [(.tup 4 [(.tup 3 [(fq 2 1), (fq 0 1)]), (.tup 3 [(fq 3 1), (fq 0 1)])]), (.tup 4 [(.tup 3 [(fq 3 1), (fq 0 1)]), (.tup 3 [(fq 2 1), (fq 0 1)])])]), (fq 4 1)] (.tup 3 [(fq 5 3), (fq 5 3)]) (.nd (.nd .lf 454612094 [(.tup 2 []), (.tup 5 [(.tup 4 [(.tup 3 [(fq 2 1), (fq 0 1)]), (.tup 3 [(fq 3 1), (fq 0 1)])])]), (fq 3 1)] (.tup 3 [(fq 2 1), (fq 9 2)]) .lf) 454612095 [(.tup 2 []), (.tup 5 [(.tup 4 [(.tup 3 [(fq 2 1), (fq 0 1)]), (.tup 3 [(fq 3 1), (fq 0 1)])])]), (fq 3 2)] (.tup 3 [(fq 9 5), (fq 5 1)]) .lf)) 565549631 [(.tup 3 [(fq 1 1)]), (.tup 5 [(.tup 4 [(.tup 3 [(fq 2 1), (fq 0 1)]), (.tup 3 [(fq 3 1), (fq 0 1)])])]), .non] (.tup 3 [(fq 2 1), (fq 2 1)]) (.nd (.nd (.nd .lf 609208006 [(.tup 3 [(fq 1 1)]), (.tup 2 []), (fq 2 1)] (.tup 3 [(fq 1 3), (fq 3 1)]) .lf) 859102267 [(.tup 2 []), (.tup 5 [(.tup 4 [(.tup 3 [(fq 2 1), (fq 0 1)]), (.tup 3 [(fq 3 1), (fq 0 1)])]), (.tup 4 [(.tup 3 [(fq 3 1), (fq 0 1)]), (.tup 3 [(fq 2 1), (fq 0 1)])])]), .non] (.tup 3 [(fq 1 1), (fq 1 1)]) .lf) 961956665 [(.tup 2 []), (.tup 5 [(.tup 4 [(.tup 3 [(fq 2 1), (fq 0 1)]), (.tup 3 [(fq 3 1), (fq 0 1)])])]), (gq 2 1)] (.tup 3 [(fq 1 2), (fq 18 1)]) (.nd (.nd .lf 968876155 [(.tup 2 []), (.tup 5 [(.tup 4 [(.tup 3 [(fq 2 1), (fq 0 1)]), (.tup 3 [(fq 0 1), (fq 0 1)])])]), .non] (.tup 3 [(fq 0 1), (fq 0 1)]) .lf) 988270096 [(.tup 2 []), (.tup 5 [(.tup 4 [(.tup 3 [(fq 2 1), (fq 0 1)]), (.tup 3 [(fq 3 1), (fq 0 1)])])]), .non] (.tup 3 [(fq 1 1), (fq 9 1)]) .lf)))
def t18_0 : Tr := (.nd (.nd (.nd (.nd (.nd .lf 92974816 [(.tup 2 []), (.tup 5 [(.tup 4 [(.tup 3 [(fq 2 1), (fq 0 1)]), (.tup 3 [(fq 3 1), (fq 0 1)])])]), (fq 3 1), (.int (.ofNat 0))] (.tup 4 [(.tup 3 [(fq 1 1), (fq 1 1)]), (.tup 3 [(fq 1 1), (gq 0 1)])]) .lf) 92974817 [(.tup 2 []), (.tup 5 [(.tup 4 [(.tup 3 [(fq 2 1), (fq 0 1)]), (.tup 3 [(fq 3 1), (fq 0 1)])])]), (fq 3 1), (.int (.ofNat 1))] (.tup 4 [(.tup 3 [(fq 9 1), (gq 8 1)]), (.tup 3 [(fq 1 1), (fq 1 1)])]) .lf) 92974847 [(.tup 2 []), (.tup 5 [(.tup 4 [(.tup 3 [(fq 2 1), (fq 0 1)]), (.tup 3 [(fq 3 1), (fq 0 1)])])]), (fq 3 2), (.int (.ofNat 0))] (.tup 4 [(.tup 3 [(fq 9 1), (gq 8 1)]), (.tup 3 [(fq 1 1), (fq 1 1)])]) (.nd .lf 92974848 [(.tup 2 []), (.tup 5 [(.tup 4 [(.tup 3 [(fq 2 1), (fq 0 1)]), (.tup 3 [(fq 3 1), (fq 0 1)])])]), (fq 3 2), (.int (.ofNat 1))] (.tup 4 [(.tup 3 [(fq 1 1), (fq 1 1)]), (.tup 3 [(fq 1 1), (gq 0 1)])]) .lf)) 180996177 [(.tup 2 []), (.tup 5 [(.tup 4 [(.tup 3 [(fq 2 1), (fq 0 1)]), (.tup 3 [(fq 3 1), (fq 0 1)])]), (.tup 4 [(.tup 3 [(fq 3 1), (fq 0 1)]), (.tup 3 [(fq 2 1), (fq 0 1)])])]), (fq 4 1), (.int (.ofNat 0))] (.tup 4 [(.tup 3 [(fq 1 1), (fq 1 1)]), (.tup 3 [(fq 1 1), (gq 0 1)])]) (.nd (.nd (.nd .lf 180996178 [(.tup 2 []), (.tup 5 [(.tup 4 [(.tup 3 [(fq 2 1), (fq 0 1)]), (.tup 3 [(fq 3 1), (fq 0 1)])]), (.tup 4 [(.tup 3 [(fq 3 1), (fq 0 1)]), (.tup 3 [(fq 2 1), (fq 0 1)])])]), (fq 4 1), (.int (.ofNat 1))] (.tup 4 [(.tup 3 [(fq 1 1), (fq 1 1)]), (.tup 3 [(fq 1 1), (gq 0 1)])]) .lf) 273072867 [(.tup 2 []), (.tup 5 [(.tup 4 [(.tup 3 [(fq 0 1), (fq 2 1)]), (.tup 3 [(fq 6 5), (gq 7 5)])])]), (fq 2 1), (.int (.ofNat 0))] (.tup 4 [(.tup 3 [(fq 2 1), (fq 2 1)]), (.tup 3 [(fq 1 1), (gq 0 1)])]) .lf) 383124174 [(.tup 3 [(fq 0 1), (fq 0 1)]), (.tup 2 []), (fq 2 1), (.int (.ofNat 0))] .non (.nd .lf 452426669 [(.tup 3 [(fq 1 1)]), (.tup 5 [(.tup 4 [(.tup 3 [(fq 2 1), (fq 0 1)]), (.tup 3 [(fq 3 1), (fq 0 1)])])]), (fq 3 1), (.int (.ofNat 0))] (.tup 4 [(.tup 3 [(fq 1 1), (fq 1 1)]), (.tup 3 [(fq 1 1), (gq 0 1)])]) .lf))) 533263082 [(.tup 2 []), (.tup 5 [(.tup 4 [(.tup 3 [(fq 0 1), (fq 2 1)]), (.tup 3 [(fq 3 5), (gq 3 5)])])]), (fq 2 1), (.int (.ofNat 0))] (.tup 4 [(.tup 3 [(fq 1 1), (fq 1 1)]), (.tup 3 [(fq 1 1), (gq 0 1)])]) (.nd (.nd (.nd (.nd .lf 568639395 [(.tup 2 []), (.tup 5 [(.tup 4 [(.tup 3 [(fq 0 1), (fq 2 1)]), (.tup 3 [(fq 0 1), (fq 0 1)])]), (.tup 4 [(.tup 3 [(fq 2 1), (fq 0 1)]), (.tup 3 [(fq 0 1), (fq 0 1)])])]), (fq 3 1), (.int (.ofNat 0))] .non .lf) 629934627 [(.tup 2 []), (.tup 5 [(.tup 4 [(.tup 3 [(fq 2 1), (fq 0 1)]), (.tup 3 [(fq 0 1), (fq 0 1)])])]), (fq 3 1), (.int (.ofNat 1))] .non .lf) 748353261 [(.tup 2 []), (.tup 5 [(.tup 4 [(.tup 3 [(fq 0 1), (fq 2 1)]), (.tup 3 [(fq 3 5), (fq 4 5)])])]), (fq 2 1), (.int (.ofNat 0))] (.tup 4 [(.tup 3 [(fq 1 1), (gq 0 1)]), (.tup 3 [(fq 1 1), (fq 1 1)])]) (.nd .lf 820656412 [(.tup 2 []), (.tup 5 [(.tup 4 [(.tup 3 [(fq 2 1), (fq 0 1)]), (.tup 3 [(fq 3 1), (fq 0 1)])])]), (gq 2 1), (.int (.ofNat 0))] (.tup 4 [(.tup 3 [(fq 1 1), (fq 1 1)]), (.tup 3 [(fq 1 1), (gq 0 1)])]) .lf)) 820656413 [(.tup 2 []), (.tup 5 [(.tup 4 [(.tup 3 [(fq 2 1), (fq 0 1)]), (.tup 3 [(fq 3 1), (fq 0 1)])])]), (gq 2 1), (.int (.ofNat 1))] (.tup 4 [(.tup 3 [(fq 9 1), (gq 8 1)]), (.tup 3 [(fq 1 1), (fq 1 1)])]) (.nd (.nd .lf 885448060 [(.tup 3 [(fq 1 1)]), (.tup 2 []), (fq 2 1), (.int (.ofNat 0))] (.tup 4 [(.tup 3 [(fq 1 1), (gq 0 1)]), (.tup 3 [(fq 1 1), (fq 1 1)])]) .lf) 885448061 [(.tup 3 [(fq 1 1)]), (.tup 2 []), (fq 2 1), (.int (.ofNat 1))] (.tup 4 [(.tup 3 [(fq 1 1), (fq 1 1)]), (.tup 3 [(fq 1 1), (gq 0 1)])]) (.nd .lf 948714425 [(.tup 3 [(fq 1 1), (fq 2 1), (fq 2 1)]), (.tup 2 []), (fq 2 1), (.int (.ofNat 0))] (.tup 4 [(.tup 3 [(fq 1 1), (fq 1 1)]), (.tup 3 [(fq 1 1), (gq 0 1)])]) .lf))))
def t19_0 : Tr := (.nd (.nd (.nd .lf 22364943 [(.tup 2 []), (.tup 5 [(.tup 4 [(.tup 3 [(fq 2 1), (fq 0 1)]), (.tup 3 [(fq 3 1), (fq 0 1)])]), (.tup 4 [(.tup 3 [(fq 3 1), (fq 0 1)]), (.tup 3 [(fq 1 1), (fq 0 1)])])]), (fq 1 1)] (.tup 3 [(fq 2 1), (fq 3 1)]) .lf) 22365942 [(.tup 2 []), (.tup 5 [(.tup 4 [(.tup 3 [(fq 2 1), (fq 0 1)]), (.tup 3 [(fq 3 1), (fq 0 1)])]), (.tup 4 [(.tup 3 [(fq 3 1), (fq 0 1)]), (.tup 3 [(fq 1 1), (fq 0 1)])])]), (fq 1 1000)] (.tup 3 [(fq 3071 1024), (fq 3 1)]) .lf) 126399636 [(.tup 3 [(fq 1 1), (fq 2 1)]), (.tup 2 []), (fq 1 1000000)] (.tup 3 [(fq 0 1), (fq 0 1)]) (.nd (.nd .lf 126859403 [(.tup 3 [(fq 1 1), (fq 3 1)]), (.tup 2 []), (fq 1 8)] (.tup 3 [(fq 3 8), (fq 1 2)]) .lf) 425193335 [(.tup 2 []), (.tup 5 [(.tup 4 [(.tup 3 [(fq 2 1), (fq 0 1)]), (.tup 3 [(fq 3 1), (fq 0 1)])]), (.tup 4 [(.tup 3 [(fq 3 1), (fq 0 1)]), (.tup 3 [(fq 2 1), (fq 0 1)])])]), (fq 1 1)] (.tup 3 [(fq 0 1), (fq 0 1)]) .lf))
def t20_0 : Tr := (.nd (.nd .lf 425193434 [(.tup 2 []), (.tup 5 [(.tup 4 [(.tup 3 [(fq 2 1), (fq 0 1)]), (.tup 3 [(fq 3 1), (fq 0 1)])]), (.tup 4 [(.tup 3 [(fq 3 1), (fq 0 1)]), (.tup 3 [(fq 2 1), (fq 0 1)])])]), (fq 1 100)] (.tup 3 [(fq 0 1), (fq 1 128)]) .lf) 454612032 [(.tup 2 []), (.tup 5 [(.tup 4 [(.tup 3 [(fq 2 1), (fq 0 1)]), (.tup 3 [(fq 3 1), (fq 0 1)])])]), (fq 1 1)] (.tup 3 [(fq 3 1), (fq 4 1)]) (.nd .lf 943738616 [(.tup 3 [(fq 2 1), (fq 1 1)]), (.tup 2 []), (fq 1 9)] (.tup 3 [(fq 3 2), (fq 25 16)]) .lf))
def t21_0 : Tr := (.nd .lf 7 [] (.bl true) .lf)
def t22_0 : Tr := (.nd .lf 7 [] (.bl true) .lf)
def t23_0 : Tr := (.nd .lf 7 [] (.bl true) .lf)
def t24_0 : Tr := (.nd .lf 7 [] (.bl true) .lf)
def m0 : List Tr := []
def m1 : List Tr := [t0_0]
def m2 : List Tr := [t0_0, t1_0]
def m3 : List Tr := [t0_0, t1_0, t2_0]
def m4 : List Tr := [t0_0, t1_0, t2_0, t3_0]
def m5 : List Tr := [t0_0, t1_0, t2_0, t3_0, t4_0]
def m6 : List Tr := [t0_0, t1_0, t2_0, t3_0, t4_0, t5_0]
def m7 : List Tr := [t0_0, t1_0, t2_0, t3_0, t4_0, t5_0, t6_0]
def m8 : List Tr := [t0_0, t1_0, t2_0, t3_0, t4_0, t5_0, t6_0, t7_0]
def m9 : List Tr := [t0_0, t1_0, t2_0, t3_0, t4_0, t5_0, t6_0, t7_0, t8_0]
def m10 : List Tr := [t0_0, t1_0, t2_0, t3_0, t4_0, t5_0, t6_0, t7_0, t8_0, t9_0]
def m11 : List Tr := [t0_0, t1_0, t2_0, t3_0, t4_0, t5_0, t6_0, t7_0, t8_0, t9_0, t10_0]
def m12 : List Tr := [t0_0, t1_0, t2_0, t3_0, t4_0, t5_0, t6_0, t7_0, t8_0, t9_0, t10_0, t11_0]
def m13 : List Tr := [t0_0, t1_0, t2_0, t3_0, t4_0, t5_0, t6_0, t7_0, t8_0, t9_0, t10_0, t11_0, t12_0]
def m14 : List Tr := [t0_0, t1_0, t2_0, t3_0, t4_0, t5_0, t6_0, t7_0, t8_0, t9_0, t10_0, t11_0, t12_0, t13_0]
def m15 : List Tr := [t0_0, t1_0, t2_0, t3_0, t4_0, t5_0, t6_0, t7_0, t8_0, t9_0, t10_0, t11_0, t12_0, t13_0, t14_0]
def m16 : List Tr := [t0_0, t1_0, t2_0, t3_0, t4_0, t5_0, t6_0, t7_0, t8_0, t9_0, t10_0, t11_0, t12_0, t13_0, t14_0, t15_0]
def m17 : List Tr := [t0_0, t1_0, t2_0, t3_0, t4_0, t5_0, t6_0, t7_0, t8_0, t9_0, t10_0, t11_0, t12_0, t13_0, t14_0, t15_0, t16_0]
def m18 : List Tr := [t0_0, t1_0, t2_0, t3_0, t4_0, t5_0, t6_0, t7_0, t8_0, t9_0, t10_0, t11_0, t12_0, t13_0, t14_0, t15_0, t16_0, t17_0]
def m19 : List Tr := [t0_0, t1_0, t2_0, t3_0, t4_0, t5_0, t6_0, t7_0, t8_0, t9_0, t10_0, t11_0, t12_0, t13_0, t14_0, t15_0, t16_0, t17_0, t18_0]
def m20 : List Tr := [t0_0, t1_0, t2_0, t3_0, t4_0, t5_0, t6_0, t7_0, t8_0, t9_0, t10_0, t11_0, t12_0, t13_0, t14_0, t15_0, t16_0, t17_0, t18_0, t19_0]
def m21 : List Tr := [t0_0, t1_0, t2_0, t3_0, t4_0, t5_0, t6_0, t7_0, t8_0, t9_0, t10_0, t11_0, t12_0, t13_0, t14_0, t15_0, t16_0, t17_0, t18_0, t19_0, t20_0]
def m22 : List Tr := [t0_0, t1_0, t2_0, t3_0, t4_0, t5_0, t6_0, t7_0, t8_0, t9_0, t10_0, t11_0, t12_0, t13_0, t14_0, t15_0, t16_0, t17_0, t18_0, t19_0, t20_0, t21_0]
def m23 : List Tr := [t0_0, t1_0, t2_0, t3_0, t4_0, t5_0, t6_0, t7_0, t8_0, t9_0, t10_0, t11_0, t12_0, t13_0, t14_0, t15_0, t16_0, t17_0, t18_0, t19_0, t20_0, t21_0, t22_0]
def m24 : List Tr := [t0_0, t1_0, t2_0, t3_0, t4_0, t5_0, t6_0, t7_0, t8_0, t9_0, t10_0, t11_0, t12_0, t13_0, t14_0, t15_0, t16_0, t17_0, t18_0, t19_0, t20_0, t21_0, t22_0, t23_0]
def m25 : List Tr := [t0_0, t1_0, t2_0, t3_0, t4_0, t5_0, t6_0, t7_0, t8_0, t9_0, t10_0, t11_0, t12_0, t13_0, t14_0, t15_0, t16_0, t17_0, t18_0, t19_0, t20_0, t21_0, t22_0, t23_0, t24_0]
end L_k66
namespace L_k66
open PySem Mi
theorem c_t0_2 : chkT (callF tab glbs (tfast 10 10 m0) 4) 10 2 t0_2 = true := by decide +kernel
theorem c_t0_3 : chkT (callF tab glbs (tfast 10 10 m0) 4) 10 2 t0_3 = true := by decide +kernel
theorem e_t0_1 : okE (callF tab glbs (tfast 10 10 m0) 4) 10 2 [(.tup 3 [(fq 1 1), (gq 0 1)]), (.tup 3 [(fq 1 1), (fq 1 1)])] (.tup 3 [(fq 2 1), (fq 0 1)]) = true := by decide +kernel
theorem c_t0_1 : chkT (callF tab glbs (tfast 10 10 m0) 4) 10 2 t0_1 = true := chk_nd c_t0_2 e_t0_1 c_t0_3
theorem c_t0_5 : chkT (callF tab glbs (tfast 10 10 m0) 4) 10 2 t0_5 = true := by decide +kernel
theorem c_t0_6 : chkT (callF tab glbs (tfast 10 10 m0) 4) 10 2 t0_6 = true := by decide +kernel
theorem e_t0_4 : okE (callF tab glbs (tfast 10 10 m0) 4) 10 2 [(.tup 3 [(fq 1 1), (fq 0 1)]), (.tup 3 [(fq 4 5), (fq 2 5)])] (.tup 3 [(fq 4 5), (fq 2 5)]) = true := by decide +kernel
theorem c_t0_4 : chkT (callF tab glbs (tfast 10 10 m0) 4) 10 2 t0_4 = true := chk_nd c_t0_5 e_t0_4 c_t0_6
theorem e_t0_0 : okE (callF tab glbs (tfast 10 10 m0) 4) 10 2 [(.tup 3 [(gq 0 1), (fq 0 1)]), (.tup 3 [(fq 2 1), (fq 0 1)])] (.tup 3 [(gq 1 1), (fq 0 1)]) = true := by decide +kernel
theorem c_t0_0 : chkT (callF tab glbs (tfast 10 10 m0) 4) 10 2 t0_0 = true := chk_nd c_t0_1 e_t0_0 c_t0_4
theorem c_t1_0 : chkT (callF tab glbs (tfast 10 11 m1) 4) 11 2 t1_0 = true := by decide +kernel
theorem c_t2_2 : chkT (callF tab glbs (tfast 10 12 m2) 5) 12 2 t2_2 = true := by decide +kernel
theorem c_t2_3 : chkT (callF tab glbs (tfast 10 12 m2) 5) 12 2 t2_3 = true := by decide +kernel
theorem e_t2_1 : okE (callF tab glbs (tfast 10 12 m2) 5) 12 2 [(.tup 4 [(.tup 3 [(fq 0 1), (gq 1 1)]), (.tup 3 [(fq 0 1), (gq 0 1)]), (.tup 3 [(fq 0 1), (fq 0 1)])]), (.tup 4 [(.tup 3 [(fq 3 1), (fq 0 1)]), (.tup 3 [(fq 1 1), (fq 0 1)]), (.tup 3 [(fq 1 1), (fq 0 1)])])] (fq 6 37) = true := by decide +kernel
theorem c_t2_1 : chkT (callF tab glbs (tfast 10 12 m2) 5) 12 2 t2_1 = true := chk_nd c_t2_2 e_t2_1 c_t2_3
theorem c_t2_5 : chkT (callF tab glbs (tfast 10 12 m2) 5) 12 2 t2_5 = true := by decide +kernel
theorem c_t2_6 : chkT (callF tab glbs (tfast 10 12 m2) 5) 12 2 t2_6 = true := by decide +kernel
theorem e_t2_4 : okE (callF tab glbs (tfast 10 12 m2) 5) 12 2 [(.tup 4 [(.tup 3 [(fq 2 1), (gq 0 1)]), (.tup 3 [(fq 1 1), (fq 0 1)]), (.tup 3 [(fq 1 1), (fq 0 1)])]), (.tup 4 [(.tup 3 [(fq 1 1), (fq 1 1)]), (.tup 3 [(fq 1 1), (fq 0 1)]), (.tup 3 [(fq 1 1), (fq 0 1)])])] (fq 14 5) = true := by decide +kernel
theorem c_t2_4 : chkT (callF tab glbs (tfast 10 12 m2) 5) 12 2 t2_4 = true := chk_nd c_t2_5 e_t2_4 c_t2_6
theorem e_t2_0 : okE (callF tab glbs (tfast 10 12 m2) 5) 12 2 [(.tup 4 [(.tup 3 [(fq 0 1), (fq 2 1)]), (.tup 3 [(fq 1 1), (fq 0 1)]), (.tup 3 [(fq 3 5), (fq 4 5)])]), (.tup 4 [(.tup 3 [(fq 0 1), (fq 2 1)]), (.tup 3 [(fq 0 1), (fq 1 1)]), (.tup 3 [(fq 3 5), (fq 4 5)])])] (gq 31 25) = true := by decide +kernel
theorem c_t2_0 : chkT (callF tab glbs (tfast 10 12 m2) 5) 12 2 t2_0 = true := chk_nd c_t2_1 e_t2_0 c_t2_4
theorem c_t3_0 : chkT (callF tab glbs (tfast 10 13 m3) 5) 13 3 t3_0 = true := by decide +kernel
theorem c_t4_0 : chkT (callF tab glbs (tfast 10 14 m4) 6) 14 2 t4_0 = true := by decide +kernel
theorem c_t5_0 : chkT (callF tab glbs (tfast 10 15 m5) 4) 15 2 t5_0 = true := by decide +kernel
theorem c_t6_0 : chkT (callF tab glbs (tfast 10 16 m6) 6) 16 2 t6_0 = true := by decide +kernel
theorem c_t7_1 : chkT (callF tab glbs (tfast 10 17 m7) 6) 17 2 t7_1 = true := by decide +kernel
theorem c_t7_2 : chkT (callF tab glbs (tfast 10 17 m7) 6) 17 2 t7_2 = true := by decide +kernel
theorem e_t7_0 : okE (callF tab glbs (tfast 10 17 m7) 6) 17 2 [(.tup 2 []), (.tup 5 [(.tup 4 [(.tup 3 [(fq 2 1), (fq 0 1)]), (.tup 3 [(fq 6143 1024), (fq 0 1)])]), (.tup 4 [(.tup 3 [(fq 3 1), (fq 0 1)]), (.tup 3 [(fq 4095 1024), (fq 0 1)])])])] (.tup 4 [(.tup 3 [(fq 6143 384), (fq 15357 1280)]), (.tup 3 [(fq 15357 1280), (fq 36855 4096)])]) = true := by decide +kernel
theorem c_t7_0 : chkT (callF tab glbs (tfast 10 17 m7) 6) 17 2 t7_0 = true := chk_nd c_t7_1 e_t7_0 c_t7_2
theorem c_t8_0 : chkT (callF tab glbs (tfast 10 18 m8) 6) 18 1 t8_0 = true := by decide +kernel
theorem c_t9_1 : chkT (callF tab glbs (tfast 10 19 m9) 9) 19 1 t9_1 = true := by decide +kernel
theorem c_t9_2 : chkT (callF tab glbs (tfast 10 19 m9) 9) 19 1 t9_2 = true := by decide +kernel
theorem e_t9_0 : okE (callF tab glbs (tfast 10 19 m9) 9) 19 1 [(.tup 4 [(.tup 3 [(fq 4 1), (fq 1 1)]), (.tup 3 [(fq 1 1), (fq 4 1)])])] .non = true := by decide +kernel
theorem c_t9_0 : chkT (callF tab glbs (tfast 10 19 m9) 9) 19 1 t9_0 = true := chk_nd c_t9_1 e_t9_0 c_t9_2
theorem c_t10_0 : chkT (callF tab glbs (tfast 10 20 m10) 7) 20 1 t10_0 = true := by decide +kernel
theorem c_t11_0 : chkT (callF tab glbs (tfast 10 21 m11) 9) 21 3 t11_0 = true := by decide +kernel
theorem c_t12_0 : chkT (callF tab glbs (tfast 10 22 m12) 11) 22 1 t12_0 = true := by decide +kernel
theorem c_t13_0 : chkT (callF tab glbs (tfast 10 23 m13) 6) 23 3 t13_0 = true := by decide +kernel
theorem c_t14_0 : chkT (callF tab glbs (tfast 10 24 m14) 6) 24 4 t14_0 = true := by decide +kernel
theorem c_t15_0 : chkT (callF tab glbs (tfast 10 25 m15) 7) 25 3 t15_0 = true := by decide +kernel
theorem c_t16_0 : chkT (callF tab glbs (tfast 10 26 m16) 5) 26 3 t16_0 = true := by decide +kernel
theorem c_t17_0 : chkT (callF tab glbs (tfast 10 27 m17) 10) 27 3 t17_0 = true := by decide +kernel
theorem c_t18_0 : chkT (callF tab glbs (tfast 10 28 m18) 4) 28 4 t18_0 = true := by decide +kernel
theorem c_t19_0 : chkT (callF tab glbs (tfast 10 29 m19) 7) 29 3 t19_0 = true := by decide +kernel
theorem c_t20_0 : chkT (callF tab glbs (tfast 10 30 m20) 7) 30 3 t20_0 = true := by decide +kernel
theorem c_t21_0 : chkT (callF tab glbs (tfast 10 31 m21) 11) 31 0 t21_0 = true := by decide +kernel
theorem c_t22_0 : chkT (callF tab glbs (tfast 10 32 m22) 11) 32 0 t22_0 = true := by decide +kernel
theorem c_t23_0 : chkT (callF tab glbs (tfast 10 33 m23) 9) 33 0 t23_0 = true := by decide +kernel
theorem c_t24_0 : chkT (callF tab glbs (tfast 10 34 m24) 13) 34 0 t24_0 = true := by decide +kernel
theorem lawT : isT (callF tab glbs (tfast 10 35 m25) 3 140 [.opq] []) = true := by decide +kernel
end L_k66
namespace L_k66
open PySem PySem.Spec PyProof.Rows L2 Mi
section
variable {P : Program} {w : World} {K : PySem.W.Frag} {mg : PySem.Str → Option Value} {base : Heap}
theorem chain (M : ModOk TT ts tab glbs (faOf TT K) (caOf TT K) K mg) : AllOk TT P w K mg base (faOf TT K) (caOf TT K) 181 (callF tab glbs (tfast 10 35 m25) 3) := by
  have k0 : Known TT (tfast 10 10 m0) (fun _ _ _ => .bad) := known_nil
  have a0 : AllOk TT P w K mg base (faOf TT K) (caOf TT K) 0 (fun _ _ _ => .bad) := all_bad
  have a1 : AllOk TT P w K mg base (faOf TT K) (caOf TT K) 4 (callF tab glbs (tfast 10 10 m0) 4) := all_up M a0 k0 4
  have k1 : Known TT (tfast 10 11 m1) (callF tab glbs (tfast 10 10 m0) 4) := known_step (ms := m0) (hi := 10) (n := 3) (k := 10) (np := 2) (x := "times_i") (ps := [("one" : PySem.Str), ("other" : PySem.Str)]) k0 rfl (by decide) rfl rfl c_t0_0
  have a2 : AllOk TT P w K mg base (faOf TT K) (caOf TT K) 8 (callF tab glbs (tfast 10 11 m1) 4) := all_up M a1 k1 4
  have k2 : Known TT (tfast 10 12 m2) (callF tab glbs (tfast 10 11 m1) 4) := known_step (ms := m1) (hi := 11) (n := 3) (k := 11) (np := 2) (x := "over_i") (ps := [("one" : PySem.Str), ("other" : PySem.Str)]) k1 rfl (by decide) rfl rfl c_t1_0
  have a3 : AllOk TT P w K mg base (faOf TT K) (caOf TT K) 13 (callF tab glbs (tfast 10 12 m2) 5) := all_up M a2 k2 5
  have k3 : Known TT (tfast 10 13 m3) (callF tab glbs (tfast 10 12 m2) 5) := known_step (ms := m2) (hi := 12) (n := 4) (k := 12) (np := 2) (x := "at_both") (ps := [("entry" : PySem.Str), ("other" : PySem.Str)]) k2 rfl (by decide) rfl rfl c_t2_0
  have a4 : AllOk TT P w K mg base (faOf TT K) (caOf TT K) 18 (callF tab glbs (tfast 10 13 m3) 5) := all_up M a3 k3 5
  have k4 : Known TT (tfast 10 14 m4) (callF tab glbs (tfast 10 13 m3) 5) := known_step (ms := m3) (hi := 13) (n := 4) (k := 13) (np := 3) (x := "at_echo") (ps := [("heard" : PySem.Str), ("k" : PySem.Str), ("entry" : PySem.Str)]) k3 rfl (by decide) rfl rfl c_t3_0
  have a5 : AllOk TT P w K mg base (faOf TT K) (caOf TT K) 24 (callF tab glbs (tfast 10 14 m4) 6) := all_up M a4 k4 6
  have k5 : Known TT (tfast 10 15 m5) (callF tab glbs (tfast 10 14 m4) 6) := known_step (ms := m4) (hi := 14) (n := 5) (k := 14) (np := 2) (x := "poly_by") (ps := [("p" : PySem.Str), ("q" : PySem.Str)]) k4 rfl (by decide) rfl rfl c_t4_0
  have a6 : AllOk TT P w K mg base (faOf TT K) (caOf TT K) 28 (callF tab glbs (tfast 10 15 m5) 4) := all_up M a5 k5 4
  have k6 : Known TT (tfast 10 16 m6) (callF tab glbs (tfast 10 15 m5) 4) := known_step (ms := m5) (hi := 15) (n := 3) (k := 15) (np := 2) (x := "poly_over") (ps := [("p" : PySem.Str), ("q" : PySem.Str)]) k5 rfl (by decide) rfl rfl c_t5_0
  have a7 : AllOk TT P w K mg base (faOf TT K) (caOf TT K) 34 (callF tab glbs (tfast 10 16 m6) 6) := all_up M a6 k6 6
  have k7 : Known TT (tfast 10 17 m7) (callF tab glbs (tfast 10 16 m6) 6) := known_step (ms := m6) (hi := 16) (n := 5) (k := 16) (np := 2) (x := "poly_divisor") (ps := [("p" : PySem.Str), ("q" : PySem.Str)]) k6 rfl (by decide) rfl rfl c_t6_0
  have a8 : AllOk TT P w K mg base (faOf TT K) (caOf TT K) 40 (callF tab glbs (tfast 10 17 m7) 6) := all_up M a7 k7 6
  have k8 : Known TT (tfast 10 18 m8) (callF tab glbs (tfast 10 17 m7) 6) := known_step (ms := m7) (hi := 17) (n := 5) (k := 17) (np := 2) (x := "table_of") (ps := [("heard" : PySem.Str), ("told" : PySem.Str)]) k7 rfl (by decide) rfl rfl c_t7_0
  have a9 : AllOk TT P w K mg base (faOf TT K) (caOf TT K) 46 (callF tab glbs (tfast 10 18 m8) 6) := all_up M a8 k8 6
  have k9 : Known TT (tfast 10 19 m9) (callF tab glbs (tfast 10 18 m8) 6) := known_step (ms := m8) (hi := 18) (n := 5) (k := 18) (np := 1) (x := "nought_row") (ps := [("table" : PySem.Str)]) k8 rfl (by decide) rfl rfl c_t8_0
  have a10 : AllOk TT P w K mg base (faOf TT K) (caOf TT K) 55 (callF tab glbs (tfast 10 19 m9) 9) := all_up M a9 k9 9
  have k10 : Known TT (tfast 10 20 m10) (callF tab glbs (tfast 10 19 m9) 9) := known_step (ms := m9) (hi := 19) (n := 8) (k := 19) (np := 1) (x := "below_row") (ps := [("table" : PySem.Str)]) k9 rfl (by decide) rfl rfl c_t9_0
  have a11 : AllOk TT P w K mg base (faOf TT K) (caOf TT K) 62 (callF tab glbs (tfast 10 20 m10) 7) := all_up M a10 k10 7
  have k11 : Known TT (tfast 10 21 m11) (callF tab glbs (tfast 10 20 m10) 7) := known_step (ms := m10) (hi := 20) (n := 6) (k := 20) (np := 1) (x := "is_spot_so") (ps := [("thing" : PySem.Str)]) k10 rfl (by decide) rfl rfl c_t10_0
  have a12 : AllOk TT P w K mg base (faOf TT K) (caOf TT K) 71 (callF tab glbs (tfast 10 21 m11) 9) := all_up M a11 k11 9
  have k12 : Known TT (tfast 10 22 m12) (callF tab glbs (tfast 10 21 m11) 9) := known_step (ms := m11) (hi := 21) (n := 8) (k := 21) (np := 3) (x := "sure_seen") (ps := [("heard" : PySem.Str), ("told" : PySem.Str), ("most" : PySem.Str)]) k11 rfl (by decide) rfl rfl c_t11_0
  have a13 : AllOk TT P w K mg base (faOf TT K) (caOf TT K) 82 (callF tab glbs (tfast 10 22 m12) 11) := all_up M a12 k12 11
  have k13 : Known TT (tfast 10 23 m13) (callF tab glbs (tfast 10 22 m12) 11) := known_step (ms := m12) (hi := 22) (n := 10) (k := 22) (np := 1) (x := "is_keeper_in") (ps := [("box" : PySem.Str)]) k12 rfl (by decide) rfl rfl c_t12_0
  have a14 : AllOk TT P w K mg base (faOf TT K) (caOf TT K) 88 (callF tab glbs (tfast 10 23 m13) 6) := all_up M a13 k13 6
  have k14 : Known TT (tfast 10 24 m14) (callF tab glbs (tfast 10 23 m13) 6) := known_step (ms := m13) (hi := 23) (n := 5) (k := 23) (np := 3) (x := "keeper_by") (ps := [("heard" : PySem.Str), ("told" : PySem.Str), ("row" : PySem.Str)]) k13 rfl (by decide) rfl rfl c_t13_0
  have a15 : AllOk TT P w K mg base (faOf TT K) (caOf TT K) 94 (callF tab glbs (tfast 10 24 m14) 6) := all_up M a14 k14 6
  have k15 : Known TT (tfast 10 25 m15) (callF tab glbs (tfast 10 24 m14) 6) := known_step (ms := m14) (hi := 24) (n := 5) (k := 24) (np := 4) (x := "more_column") (ps := [("heard" : PySem.Str), ("told" : PySem.Str), ("a" : PySem.Str), ("w" : PySem.Str)]) k14 rfl (by decide) rfl rfl c_t14_0
  have a16 : AllOk TT P w K mg base (faOf TT K) (caOf TT K) 101 (callF tab glbs (tfast 10 25 m15) 7) := all_up M a15 k15 7
  have k16 : Known TT (tfast 10 26 m16) (callF tab glbs (tfast 10 25 m15) 7) := known_step (ms := m15) (hi := 25) (n := 6) (k := 25) (np := 3) (x := "ends_by") (ps := [("table" : PySem.Str), ("first" : PySem.Str), ("second" : PySem.Str)]) k15 rfl (by decide) rfl rfl c_t15_0
  have a17 : AllOk TT P w K mg base (faOf TT K) (caOf TT K) 106 (callF tab glbs (tfast 10 26 m16) 5) := all_up M a16 k16 5
  have k17 : Known TT (tfast 10 27 m17) (callF tab glbs (tfast 10 26 m16) 5) := known_step (ms := m16) (hi := 26) (n := 4) (k := 26) (np := 3) (x := "can_moved") (ps := [("heard" : PySem.Str), ("told" : PySem.Str), ("e" : PySem.Str)]) k16 rfl (by decide) rfl rfl c_t16_0
  have a18 : AllOk TT P w K mg base (faOf TT K) (caOf TT K) 116 (callF tab glbs (tfast 10 27 m17) 10) := all_up M a17 k17 10
  have k18 : Known TT (tfast 10 28 m18) (callF tab glbs (tfast 10 27 m17) 10) := known_step (ms := m17) (hi := 27) (n := 9) (k := 27) (np := 3) (x := "ends_in") (ps := [("heard" : PySem.Str), ("told" : PySem.Str), ("a" : PySem.Str)]) k17 rfl (by decide) rfl rfl c_t17_0
  have a19 : AllOk TT P w K mg base (faOf TT K) (caOf TT K) 120 (callF tab glbs (tfast 10 28 m18) 4) := all_up M a18 k18 4
  have k19 : Known TT (tfast 10 29 m19) (callF tab glbs (tfast 10 28 m18) 4) := known_step (ms := m18) (hi := 28) (n := 3) (k := 28) (np := 4) (x := "end_in") (ps := [("heard" : PySem.Str), ("told" : PySem.Str), ("a" : PySem.Str), ("which" : PySem.Str)]) k18 rfl (by decide) rfl rfl c_t18_0
  have a20 : AllOk TT P w K mg base (faOf TT K) (caOf TT K) 127 (callF tab glbs (tfast 10 29 m19) 7) := all_up M a19 k19 7
  have k20 : Known TT (tfast 10 30 m20) (callF tab glbs (tfast 10 29 m19) 7) := known_step (ms := m19) (hi := 29) (n := 6) (k := 29) (np := 3) (x := "damper_more") (ps := [("heard" : PySem.Str), ("told" : PySem.Str), ("width" : PySem.Str)]) k19 rfl (by decide) rfl rfl c_t19_0
  have a21 : AllOk TT P w K mg base (faOf TT K) (caOf TT K) 134 (callF tab glbs (tfast 10 30 m20) 7) := all_up M a20 k20 7
  have k21 : Known TT (tfast 10 31 m21) (callF tab glbs (tfast 10 30 m20) 7) := known_step (ms := m20) (hi := 30) (n := 6) (k := 30) (np := 3) (x := "share_left") (ps := [("heard" : PySem.Str), ("told" : PySem.Str), ("width" : PySem.Str)]) k20 rfl (by decide) rfl rfl c_t20_0
  have a22 : AllOk TT P w K mg base (faOf TT K) (caOf TT K) 145 (callF tab glbs (tfast 10 31 m21) 11) := all_up M a21 k21 11
  have k22 : Known TT (tfast 10 32 m22) (callF tab glbs (tfast 10 31 m21) 11) := known_step (ms := m21) (hi := 31) (n := 10) (k := 31) (np := 0) (x := "_law_tables_right") (ps := []) k21 rfl (by decide) rfl rfl c_t21_0
  have a23 : AllOk TT P w K mg base (faOf TT K) (caOf TT K) 156 (callF tab glbs (tfast 10 32 m22) 11) := all_up M a22 k22 11
  have k23 : Known TT (tfast 10 33 m23) (callF tab glbs (tfast 10 32 m22) 11) := known_step (ms := m22) (hi := 32) (n := 10) (k := 32) (np := 0) (x := "_law_keepers_right") (ps := []) k22 rfl (by decide) rfl rfl c_t22_0
  have a24 : AllOk TT P w K mg base (faOf TT K) (caOf TT K) 165 (callF tab glbs (tfast 10 33 m23) 9) := all_up M a23 k23 9
  have k24 : Known TT (tfast 10 34 m24) (callF tab glbs (tfast 10 33 m23) 9) := known_step (ms := m23) (hi := 33) (n := 8) (k := 33) (np := 0) (x := "_law_ends_right") (ps := []) k23 rfl (by decide) rfl rfl c_t23_0
  have a25 : AllOk TT P w K mg base (faOf TT K) (caOf TT K) 178 (callF tab glbs (tfast 10 34 m24) 13) := all_up M a24 k24 13
  have k25 : Known TT (tfast 10 35 m25) (callF tab glbs (tfast 10 34 m24) 13) := known_step (ms := m24) (hi := 34) (n := 12) (k := 34) (np := 0) (x := "_law_refused_right") (ps := []) k24 rfl (by decide) rfl rfl c_t24_0
  exact all_up M a25 k25 3
end
end L_k66
open PySem PySem.W PySem.Calls PyProof.Rows
theorem PySem.Challenge.cw_keepcompany_k66_spots_by_hand_and_refuse_holds : PySem.Challenge.rw_keepcompany_k66_spots_by_hand_and_refuse.Holds := by
  w_on; o_law
  refine HandSHeadRun.head_imp (r := OpenLaw.row PySem.Challenge.rw_keepcompany_k66_spots_by_hand_and_refuse) (q := L_k66.qv) (H := Mi.hookM L_k66.as L_k66.asT L_k66.TT L_k66.glbs L_k66.ts L_k66.hn) (ob := fun s => Mi.obM L_k66.as L_k66.asT L_k66.TT L_k66.glbs L_k66.ts (HandSHeadRun.getT s)) (M := 40000) (loose := L_k66.nm) (d := HandSHeadRun.topDef (OpenLaw.row PySem.Challenge.rw_keepcompany_k66_spots_by_hand_and_refuse).prog 175) (kwd := []) (fun s => Mi.obM_eq s) L_k66.runH
    (by kernel_rfl) (by kernel_rfl) (by kernel_rfl) (by rfl) (by first | assumption | decide +kernel) (by decide +kernel) ⟨rfl, rfl, rfl, rfl, rfl, by decide +kernel⟩ ?hw ?hc
  case hw => w_witness2
  case hc =>
    refine L2.walk_ofE (l := PySem.Challenge.rw_keepcompany_k66_spots_by_hand_and_refuse) (n := 63) (k := 181) (x := "script") (CX := L2.CX0) rfl (by decide) (by kernel_rfl) ⟨rfl, by decide, by decide⟩ ?F (fun _ _ _ _ z => z)
    intro w mg fa h Y G hmg0
    obtain ⟨K, KX, c⟩ := Y
    have hmg : mg ("law" : PySem.Str) = some (.ref fa) := by
      have e : (HandSHeadRun.topDef (OpenLaw.row PySem.Challenge.rw_keepcompany_k66_spots_by_hand_and_refuse).prog 175).name = ("law" : PySem.Str) := by kernel_rfl
      rw [← e]
      exact hmg0
    have M := Mi.modOk (T := L_k66.TT) (ts := L_k66.ts) (tab := L_k66.tab) (G := L_k66.glbs) L_k66.nd L_k66.exnd L_k66.hB L_k66.kpOk KX G c
    obtain ⟨fd, sp, hb, hs, hF⟩ := Mi.law_facts (P := (PySem.Challenge.rw_keepcompany_k66_spots_by_hand_and_refuse).prog) (w := w) M (fun base => L_k66.chain (base := base) M) (k := 140) rfl L_k66.lawT hmg
    exact ⟨K, fd, sp, KX, hb, fun H a ns hl _ hS => hs H a, fun base _ _ => hF base⟩
