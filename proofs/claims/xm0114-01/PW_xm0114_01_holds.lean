import PyProof.Rows.All
import Wide.All
import OpenK.AllK
import Wide.FinOn
import PySem.Challenge.RW_xm0114_01
open PySem PySem.W PyProof.Rows
set_option Elab.async false
section
open PySem
/-! A small language of ints, lists and tuples; its runner by fuel. -/
namespace Mine
noncomputable section
inductive MV where
  | undef
  | int (i : Int)
  | bool (b : Bool)
  | ref (i : Nat)
inductive MO where
  | lst (l : List MV)
  | tup (l : List MV)
  | cell (v : MV)
  | junk
inductive BOp where
  | add | sub | mul | fdiv | mod | pow
inductive COp where
  | lt | gt | eq | ne
inductive Blt where
  | len | max | abs | list | sum
mutual
inductive ME where
  | loc (x : Nat)
  | cel (x : Nat)
  | cvr
  | int (i : Int)
  | bool (b : Bool)
  | neg (i : Int)
  | bin (op : BOp) (l r : ME)
  | cmp (op : COp) (l r : ME)
  | ite (t a b : ME)
  | conj (es : List ME)
  | disj (es : List ME)
  | sub (e i : ME)
  | slc (e : ME) (lo hi : Option ME)
  | rev (e : ME)
  | tup (es : List ME)
  | lst (es : List ME)
  | call (f : Nat) (es : List ME)
  | blt (b : Blt) (es : List ME)
  | comp (elt : ME) (it : MI)
inductive MI where
  | lst (e : ME)
  | range1 (e : ME)
  | range2 (a b : ME)
  | rev (e : ME)
end
inductive MS where
  | asg (x : Nat) (e : ME)
  | tasg (xs : List (Bool × Nat)) (es : List ME)
  | aug (x : Nat) (op : BOp) (e : ME)
  | augsub (o i : ME) (op : BOp) (e : ME)
  | app (x : Nat) (e : ME)
  | ifs (t : ME) (a b : List MS)
  | whl (t : ME) (b : List MS)
  | for1 (x : Nat) (it : MI) (b : List MS)
  | for2 (x y : Nat) (e : ME) (b : List MS)
  | ret (e : ME)
  | opq
inductive Fl where
  | next
  | ret (v : MV)
/-- a def: the number of its parameters and of its slots, the slots that are cells, its body -/
structure FD where
  np : Nat
  ns : Nat
  cells : List Nat
  body : List MS
/-! ## Forcing -/
noncomputable def frcN {α : Type} (n : Nat) (k : Nat → α) : α := match n with
  | 0 => k 0
  | m + 1 => k (m + 1)
noncomputable def frc {α : Type} (z : Int) (k : Int → α) : α := match z with
  | .ofNat n => frcN n fun n => k (.ofNat n)
  | .negSucc n => frcN n fun n => k (.negSucc n)
noncomputable def frcL {α β : Type} (l : List β) : (List β → α) → α := List.rec (motive := fun _ => (List β → α) → α) (fun k => k []) (fun x _ ih k => ih fun ys => k (x :: ys)) l
theorem frcN_eq {α : Type} (n : Nat) (k : Nat → α) : frcN n k = k n := by cases n <;> rfl
theorem frc_eq {α : Type} (z : Int) (k : Int → α) : frc z k = k z := by
  cases z with
  | ofNat n => exact frcN_eq n fun n => k (.ofNat n)
  | negSucc n => exact frcN_eq n fun n => k (.negSucc n)
theorem frcL_eq {α β : Type} : ∀ (l : List β) (k : List β → α), frcL l k = k l
  | [], _ => rfl
  | x :: xs, k => frcL_eq xs fun ys => k (x :: ys)
noncomputable def getM {α : Type} (l : List α) : Nat → Option α := List.rec (motive := fun _ => Nat → Option α) (fun _ => none) (fun x _ ih i => Nat.rec (motive := fun _ => Option α) (some x) (fun m _ => ih m) i) l
theorem getM_eq {α : Type} : ∀ (l : List α) (i : Nat), getM l i = l[i]?
  | [], _ => rfl
  | _ :: _, 0 => rfl
  | _ :: xs, i + 1 => by show getM xs i = _; rw [getM_eq xs i]; rfl
noncomputable def setM {α : Type} : List α → Nat → α → List α
  | [], _, _ => []
  | _ :: xs, 0, v => v :: xs
  | x :: xs, i + 1, v => x :: setM xs i v
theorem setM_eq {α : Type} : ∀ (l : List α) (i : Nat) (v : α), setM l i v = l.set i v
  | [], _, _ => rfl
  | _ :: _, 0, _ => rfl
  | x :: xs, i + 1, v => by rw [setM, setM_eq xs i v]; rfl
/-- the list with one item set, laid out as far as the item -/
noncomputable def setK {α β : Type} (l : List α) : Nat → α → (List α → β) → β := List.rec (motive := fun _ => Nat → α → (List α → β) → β) (fun _ _ k => k []) (fun x xs ih i v k => Nat.rec (motive := fun _ => β) (k (v :: xs)) (fun m _ => ih m v fun ys => k (x :: ys)) i) l
theorem setK_eq {α β : Type} : ∀ (l : List α) (i : Nat) (v : α) (k : List α → β), setK l i v k = k (l.set i v)
  | [], _, _, _ => rfl
  | _ :: _, 0, _, _ => rfl
  | x :: xs, i + 1, v, k => setK_eq xs i v fun ys => k (x :: ys)
noncomputable def appM {α : Type} (l r : List α) : List α := List.rec (motive := fun _ => List α) r (fun x _ ih => x :: ih) l
theorem appM_eq {α : Type} : ∀ (l r : List α), appM l r = l ++ r
  | [], _ => rfl
  | x :: xs, r => congrArg (x :: ·) (appM_eq xs r)
/-- one more item, the list laid out -/
noncomputable def sncK {α β : Type} (l : List α) (v : α) : (List α → β) → β := List.rec (motive := fun _ => (List α → β) → β) (fun k => k [v]) (fun x _ ih k => ih fun ys => k (x :: ys)) l
theorem sncK_eq {α β : Type} : ∀ (l : List α) (v : α) (k : List α → β), sncK l v k = k (l ++ [v])
  | [], _, _ => rfl
  | x :: xs, v, k => sncK_eq xs v fun ys => k (x :: ys)
noncomputable def lenM {α : Type} (l : List α) : Nat → Nat := List.rec (motive := fun _ => Nat → Nat) (fun n => n) (fun _ _ ih n => ih (Nat.succ n)) l
theorem lenM_eq {α : Type} : ∀ (l : List α) (n : Nat), lenM l n = l.length + n
  | [], n => (Nat.zero_add n).symm
  | _ :: xs, n => by show lenM xs (Nat.succ n) = _; rw [lenM_eq xs, List.length_cons]; omega
abbrev Res (α : Type) := Option (α × List MO)
/-- a new object -/
noncomputable def alc (o : MO) (σ : List MO) : Res MV := frcN (lenM σ 0) fun n => sncK σ o fun σ' => some (.ref n, σ')
noncomputable def szLine : Nat := 1048576
noncomputable def small (z : Int) : Bool := Nat.blt z.natAbs 1073741824
noncomputable def smallS (z : Int) : Bool := Nat.ble z.natAbs szLine
noncomputable def nonneg : Int → Bool
  | .ofNat _ => true
  | .negSucc _ => false
/-- the place of an index in a list of that length -/
noncomputable def placeIn (k : Int) (n : Nat) : Option Nat := match k with
  | .ofNat j => match Nat.blt j n with
    | true => some j
    | false => none
  | .negSucc j => match Nat.blt j n with
    | true => some (n - (j + 1))
    | false => none
noncomputable def place (k : Int) (n : Nat) : Option Nat := match Nat.ble n szLine with
  | true => placeIn k n
  | false => none
noncomputable def repM {α : Type} (l : List α) (n : Nat) : List α := Nat.rec (motive := fun _ => List α) [] (fun _ ih => appM l ih) n
noncomputable def addM (a b : MV) (σ : List MO) : Res MV := match a with
  | .int x => match b with
    | .int y => frc (x + y) fun z => some (.int z, σ)
    | _ => none
  | .ref i => match b with
    | .ref j => match getM σ i with
      | some (.lst l) => match getM σ j with
        | some (.lst r) => match Nat.ble (lenM l 0 + lenM r 0) szLine with
          | true => frcL (appM l r) fun l' => alc (.lst l') σ
          | false => none
        | _ => none
      | _ => none
    | _ => none
  | _ => none
noncomputable def subtM (a b : MV) (σ : List MO) : Res MV := match a with
  | .int x => match b with
    | .int y => frc (x - y) fun z => some (.int z, σ)
    | _ => none
  | _ => none
noncomputable def mulM (a b : MV) (σ : List MO) : Res MV := match a with
  | .int x => match b with
    | .int y => match small x with
      | true => frc (x * y) fun z => some (.int z, σ)
      | false => none
    | _ => none
  | .ref i => match b with
    | .int (.ofNat n) => match getM σ i with
      | some (.lst l) => match Nat.ble n szLine with
        | true => match Nat.ble (lenM l 0 * n) szLine with
          | true => frcL (repM l n) fun l' => alc (.lst l') σ
          | false => none
        | false => none
      | _ => none
    | _ => none
  | _ => none
noncomputable def fdivM (a b : MV) (σ : List MO) : Res MV := match a with
  | .int x => match b with
    | .int (.ofNat (n + 1)) => match Nat.blt n 1073741823 with
      | true => frc (x.fdiv (.ofNat (n + 1))) fun z => some (.int z, σ)
      | false => none
    | _ => none
  | _ => none
noncomputable def modM (a b : MV) (σ : List MO) : Res MV := match a with
  | .int x => match b with
    | .int (.ofNat (n + 1)) => frc (x.fmod (.ofNat (n + 1))) fun z => some (.int z, σ)
    | _ => none
  | _ => none
noncomputable def powM (a b : MV) (σ : List MO) : Res MV := match a with
  | .int x => match b with
    | .int (.ofNat n) => match small x with
      | true => match Nat.ble n 1000 with
        | true => frc (x ^ n) fun z => some (.int z, σ)
        | false => none
      | false => none
    | _ => none
  | _ => none
noncomputable def binM (op : BOp) (a b : MV) (σ : List MO) : Res MV := match op with
  | .add => addM a b σ
  | .sub => subtM a b σ
  | .mul => mulM a b σ
  | .fdiv => fdivM a b σ
  | .mod => modM a b σ
  | .pow => powM a b σ
noncomputable def mapO {α β : Type} (f : α → Option β) (l : List α) : Option (List β) := List.rec (motive := fun _ => Option (List β)) (some []) (fun v _ ih => match f v with
    | some d => match ih with
      | some ds => some (d :: ds)
      | none => none
    | none => none) l
/-- what a value holds, as plain data: ints, and lists and tuples of them, to a depth -/
noncomputable def deepV (σ : List MO) : Nat → MV → Option PyData
  | 0, _ => none
  | n + 1, v => match v with
    | .int i => some (.int i)
    | .ref j => match getM σ j with
      | some (.lst l) => match mapO (deepV σ n) l with
        | some ds => some (.list ds)
        | none => none
      | some (.tup l) => match mapO (deepV σ n) l with
        | some ds => some (.tuple ds)
        | none => none
      | _ => none
    | _ => none
noncomputable def neR (i j : Nat) (σ : List MO) : Option Bool := match deepV σ 4 (.ref i) with
  | some d => match deepV σ 4 (.ref j) with
    | some e => some (!(PyData.eqv d e))
    | none => none
  | none => none
noncomputable def cmpI (op : COp) (x y : Int) : Bool := match op with
  | .lt => W.Z.ltB x y
  | .gt => W.Z.ltB y x
  | .eq => W.Z.eqB x y
  | .ne => !(W.Z.eqB x y)
noncomputable def cmpM (op : COp) (a b : MV) (σ : List MO) : Option Bool := match a with
  | .int x => match b with
    | .int y => some (cmpI op x y)
    | _ => none
  | .ref i => match b with
    | .ref j => match op with
      | .ne => neR i j σ
      | _ => none
    | _ => none
  | _ => none
noncomputable def subM (a i : MV) (σ : List MO) : Option MV := match a, i with
  | .ref j, .int k => match getM σ j with
    | some (.lst l) => match place k (lenM l 0) with
      | some p => getM l p
      | none => none
    | some (.tup l) => match place k (lenM l 0) with
      | some p => getM l p
      | none => none
    | _ => none
  | _, _ => none
noncomputable def takM {α : Type} (l : List α) : Nat → List α := List.rec (motive := fun _ => Nat → List α) (fun _ => []) (fun x _ ih n => Nat.rec (motive := fun _ => List α) [] (fun m _ => x :: ih m) n) l
noncomputable def drpM {α : Type} (l : List α) : Nat → List α := List.rec (motive := fun _ => Nat → List α) (fun _ => []) (fun x xs ih n => Nat.rec (motive := fun _ => List α) (x :: xs) (fun m _ => ih m) n) l
/-- a slice with whole bounds that lie in the list -/
noncomputable def slcM (a : MV) (lo hi : Option MV) (σ : List MO) : Res MV := match a with
  | .ref j => match getM σ j with
    | some (.lst l) => match lo, hi with
      | none, some (.int (.ofNat y)) => match Nat.ble y (lenM l 0), Nat.ble (lenM l 0) szLine with
        | true, true => frcL (takM l y) fun l' => alc (.lst l') σ
        | _, _ => none
      | some (.int (.ofNat x)), some (.int (.ofNat y)) => match Nat.ble x y, Nat.ble y (lenM l 0), Nat.ble (lenM l 0) szLine with
        | true, true, true => frcL (takM (drpM l x) (y - x)) fun l' => alc (.lst l') σ
        | _, _, _ => none
      | _, _ => none
    | _ => none
  | _ => none
noncomputable def revL {α : Type} (l : List α) : List α → List α := List.rec (motive := fun _ => List α → List α) (fun r => r) (fun x _ ih r => ih (x :: r)) l
noncomputable def revM (a : MV) (σ : List MO) : Res MV := match a with
  | .ref j => match getM σ j with
    | some (.lst l) => match Nat.ble (lenM l 0) szLine with
      | true => frcL (revL l []) fun l' => alc (.lst l') σ
      | false => none
    | _ => none
  | _ => none
noncomputable def sumI : List MV → Int → Option Int
  | [], z => some z
  | .int x :: r, z => match small x with
    | true => frc (z + x) fun z' => match small z' with
      | true => sumI r z'
      | false => none
    | false => none
  | _ :: _, _ => none
noncomputable def lenB (vs : List MV) (σ : List MO) : Res MV := match vs with
  | [.ref j] => match getM σ j with
    | some (.lst l) => match Nat.ble (lenM l 0) szLine with
      | true => frcN (lenM l 0) fun n => some (.int (.ofNat n), σ)
      | false => none
    | _ => none
  | _ => none
noncomputable def maxB (vs : List MV) (σ : List MO) : Res MV := match vs with
  | [.int x, .int y] => match W.Z.ltB x y with
    | true => some (.int y, σ)
    | false => some (.int x, σ)
  | _ => none
noncomputable def absB (vs : List MV) (σ : List MO) : Res MV := match vs with
  | [.int x] => match x with
    | .ofNat _ => some (.int x, σ)
    | .negSucc n => frcN (n + 1) fun m => some (.int (.ofNat m), σ)
  | _ => none
noncomputable def listB (vs : List MV) (σ : List MO) : Res MV := match vs with
  | [.ref j] => match getM σ j with
    | some (.lst l) => match Nat.ble (lenM l 0) szLine with
      | true => alc (.lst l) σ
      | false => none
    | _ => none
  | _ => none
noncomputable def sumB (vs : List MV) (σ : List MO) : Res MV := match vs with
  | [.ref j] => match getM σ j with
    | some (.lst l) => match Nat.ble (lenM l 0) szLine with
      | true => match sumI l 0 with
        | some z => some (.int z, σ)
        | none => none
      | false => none
    | _ => none
  | _ => none
noncomputable def bltM (b : Blt) (vs : List MV) (σ : List MO) : Res MV := match b with
  | .len => lenB vs σ
  | .max => maxB vs σ
  | .abs => absB vs σ
  | .list => listB vs σ
  | .sum => sumB vs σ
noncomputable def undefs : Nat → List MV
  | 0 => []
  | n + 1 => .undef :: undefs n
noncomputable def flat : List MV → Bool
  | [] => true
  | .int _ :: r => flat r
  | .bool _ :: r => flat r
  | _ :: _ => false
/-- what a call hands back, over the caller's store -/
noncomputable def gcM (n0 : Nat) (v : MV) (σ σ2 : List MO) : Res MV := match v with
  | .int i => some (.int i, σ)
  | .bool b => some (.bool b, σ)
  | .ref i => match Nat.blt i n0 with
    | true => some (.ref i, σ)
    | false => match getM σ2 i with
      | some (.lst l) => match flat l with
        | true => alc (.lst l) σ
        | false => none
      | some (.tup l) => match flat l with
        | true => alc (.tup l) σ
        | false => none
      | _ => none
  | .undef => none
/-- the cells of a def: the slots' values move into the store -/
noncomputable def cellsM : List Nat → List MV → List MO → List MV × List MO
  | [], ε, σ => (ε, σ)
  | x :: r, ε, σ => match getM ε x with
    | some v => cellsM r (setM ε x (.ref (lenM σ 0))) (σ ++ [.cell v])
    | none => cellsM r ε σ
abbrev SRes := Option (Fl × List MV × List MO)
structure R where
  ex : ME → MV → List MV → List MO → Res MV
  exs : List ME → MV → List MV → List MO → Res (List MV)
  tst : ME → MV → List MV → List MO → Res Bool
  conj : List ME → MV → List MV → List MO → Res Bool
  disj : List ME → MV → List MV → List MO → Res Bool
  cal : Nat → List MV → List MO → Res MV
  cl : ME → List MV → Nat → Nat → List MO → Res (List MV)
  cr : ME → List MV → Int → Int → List MO → Res (List MV)
  st : Nat → MS → List MV → List MO → SRes
  sts : Nat → List MS → List MV → List MO → SRes
  whl : Nat → ME → List MS → List MV → List MO → SRes
  fl : Nat → Nat → List MS → Nat → Nat → List MV → List MO → SRes
  fr : Nat → Nat → List MS → Int → Int → List MV → List MO → SRes
  fb : Nat → Nat → List MS → Nat → Nat → List MV → List MO → SRes
  fe : Nat → Nat → Nat → List MS → Nat → Nat → List MV → List MO → SRes
section
variable (r : R)
noncomputable def locM (x : Nat) (ε : List MV) (σ : List MO) : Res MV := match getM ε x with
  | some v => match v with
    | .undef => none
    | v => some (v, σ)
  | none => none
noncomputable def celM (x : Nat) (ε : List MV) (σ : List MO) : Res MV := match getM ε x with
  | some (.ref c) => match getM σ c with
    | some (.cell v) => match v with
      | .undef => none
      | v => some (v, σ)
    | _ => none
  | _ => none
noncomputable def cvM (cv : MV) (σ : List MO) : Res MV := match cv with
  | .undef => none
  | v => some (v, σ)
noncomputable def sBin (op : BOp) (l q : ME) (cv : MV) (ε : List MV) (σ : List MO) : Res MV := match r.ex l cv ε σ with
  | some (a, σ) => match r.ex q cv ε σ with
    | some (b, σ) => binM op a b σ
    | none => none
  | none => none
noncomputable def sCmp (op : COp) (l q : ME) (cv : MV) (ε : List MV) (σ : List MO) : Res Bool := match r.ex l cv ε σ with
  | some (a, σ) => match r.ex q cv ε σ with
    | some (b, σ) => match cmpM op a b σ with
      | some z => some (z, σ)
      | none => none
    | none => none
  | none => none
noncomputable def sIte (t a b : ME) (cv : MV) (ε : List MV) (σ : List MO) : Res MV := match r.tst t cv ε σ with
  | some (z, σ) => match z with
    | true => r.ex a cv ε σ
    | false => r.ex b cv ε σ
  | none => none
noncomputable def sSub (e i : ME) (cv : MV) (ε : List MV) (σ : List MO) : Res MV := match r.ex e cv ε σ with
  | some (a, σ) => match r.ex i cv ε σ with
    | some (b, σ) => match subM a b σ with
      | some v => cvM v σ
      | none => none
    | none => none
  | none => none
noncomputable def sSlc (e : ME) (lo hi : Option ME) (cv : MV) (ε : List MV) (σ : List MO) : Res MV := match r.ex e cv ε σ with
  | some (a, σ) => match lo with
    | none => match hi with
      | some h => match r.ex h cv ε σ with
        | some (y, σ) => slcM a none (some y) σ
        | none => none
      | none => none
    | some l => match r.ex l cv ε σ with
      | some (x, σ) => match hi with
        | some h => match r.ex h cv ε σ with
          | some (y, σ) => slcM a (some x) (some y) σ
          | none => none
        | none => none
      | none => none
  | none => none
noncomputable def sRev (e : ME) (cv : MV) (ε : List MV) (σ : List MO) : Res MV := match r.ex e cv ε σ with
  | some (a, σ) => revM a σ
  | none => none
noncomputable def sTup (es : List ME) (cv : MV) (ε : List MV) (σ : List MO) : Res MV := match r.exs es cv ε σ with
  | some (vs, σ) => match Nat.ble (lenM vs 0) szLine with
    | true => alc (.tup vs) σ
    | false => none
  | none => none
noncomputable def sLst (es : List ME) (cv : MV) (ε : List MV) (σ : List MO) : Res MV := match r.exs es cv ε σ with
  | some (vs, σ) => match Nat.ble (lenM vs 0) szLine with
    | true => alc (.lst vs) σ
    | false => none
  | none => none
noncomputable def sCll (f : Nat) (es : List ME) (cv : MV) (ε : List MV) (σ : List MO) : Res MV := match r.exs es cv ε σ with
  | some (vs, σ) => r.cal f vs σ
  | none => none
noncomputable def sBlt (b : Blt) (es : List ME) (cv : MV) (ε : List MV) (σ : List MO) : Res MV := match r.exs es cv ε σ with
  | some (vs, σ) => bltM b vs σ
  | none => none
noncomputable def sComp (elt : ME) (it : MI) (ε : List MV) (σ : List MO) : Res MV := match it with
  | .lst e => match r.ex e .undef ε σ with
    | some (.ref j, σ) => match getM σ j with
      | some (.lst l) => match Nat.ble (lenM l 0) szLine with
        | true => match r.cl elt ε j 0 σ with
          | some (ys, σ) => match Nat.ble (lenM ys 0) szLine with
            | true => alc (.lst ys) σ
            | false => none
          | none => none
        | false => none
      | _ => none
    | _ => none
  | .range1 e => match r.ex e .undef ε σ with
    | some (.int h, σ) => match smallS h with
      | true => match r.cr elt ε 0 h σ with
        | some (ys, σ) => match Nat.ble (lenM ys 0) szLine with
          | true => alc (.lst ys) σ
          | false => none
        | none => none
      | false => none
    | _ => none
  | _ => none
noncomputable def cmpV (x : Res Bool) : Res MV := match x with
  | some (z, σ) => some (.bool z, σ)
  | none => none
noncomputable def sEx (e : ME) (cv : MV) (ε : List MV) (σ : List MO) : Res MV := match e with
  | .loc x => locM x ε σ
  | .cel x => celM x ε σ
  | .cvr => cvM cv σ
  | .int i => some (.int i, σ)
  | .bool b => some (.bool b, σ)
  | .neg i => frc (-i) fun z => some (.int z, σ)
  | .bin op l q => sBin r op l q cv ε σ
  | .cmp op l q => cmpV (sCmp r op l q cv ε σ)
  | .ite t a b => sIte r t a b cv ε σ
  | .conj _ => none
  | .disj _ => none
  | .sub e i => sSub r e i cv ε σ
  | .slc e lo hi => sSlc r e lo hi cv ε σ
  | .rev e => sRev r e cv ε σ
  | .tup es => sTup r es cv ε σ
  | .lst es => sLst r es cv ε σ
  | .call f es => sCll r f es cv ε σ
  | .blt b es => sBlt r b es cv ε σ
  | .comp elt it => sComp r elt it ε σ
noncomputable def sExs (es : List ME) (cv : MV) (ε : List MV) (σ : List MO) : Res (List MV) := match es with
  | [] => some ([], σ)
  | e :: es => match r.ex e cv ε σ with
    | some (v, σ) => match r.exs es cv ε σ with
      | some (vs, σ) => some (v :: vs, σ)
      | none => none
    | none => none
noncomputable def sTst (e : ME) (cv : MV) (ε : List MV) (σ : List MO) : Res Bool := match e with
  | .cmp op l q => sCmp r op l q cv ε σ
  | .bool b => some (b, σ)
  | .conj es => r.conj es cv ε σ
  | .disj es => r.disj es cv ε σ
  | _ => none
noncomputable def sConj (es : List ME) (cv : MV) (ε : List MV) (σ : List MO) : Res Bool := match es with
  | [] => some (true, σ)
  | e :: es => match r.tst e cv ε σ with
    | some (true, σ) => r.conj es cv ε σ
    | some (false, σ) => some (false, σ)
    | none => none
noncomputable def sDisj (es : List ME) (cv : MV) (ε : List MV) (σ : List MO) : Res Bool := match es with
  | [] => some (false, σ)
  | e :: es => match r.tst e cv ε σ with
    | some (false, σ) => r.disj es cv ε σ
    | some (true, σ) => some (true, σ)
    | none => none
noncomputable def sCal (F : List FD) (f : Nat) (vs : List MV) (σ : List MO) : Res MV := match getM F f with
  | some fd => match Nat.beq (lenM vs 0) fd.np with
    | true => frcN (lenM σ 0) fun n0 => frcL (vs ++ undefs (fd.ns - fd.np)) fun ε => match cellsM fd.cells ε σ with
      | (ε, σ1) => match r.sts n0 fd.body ε σ1 with
        | some (.ret v, _, σ2) => gcM n0 v σ σ2
        | _ => none
    | false => none
  | none => none
noncomputable def sCl (elt : ME) (ε : List MV) (j i : Nat) (σ : List MO) : Res (List MV) := match getM σ j with
  | some (.lst l) => match getM l i with
    | none => some ([], σ)
    | some v => match r.ex elt v ε σ with
      | some (y, σ) => match frcN (i + 1) fun i' => r.cl elt ε j i' σ with
        | some (ys, σ) => some (y :: ys, σ)
        | none => none
      | none => none
  | _ => none
noncomputable def sCr (elt : ME) (ε : List MV) (k h : Int) (σ : List MO) : Res (List MV) := match W.Z.ltB k h with
  | false => some ([], σ)
  | true => match r.ex elt (.int k) ε σ with
    | some (y, σ) => frc (k + 1) fun k' => match r.cr elt ε k' h σ with
      | some (ys, σ) => some (y :: ys, σ)
      | none => none
    | none => none
noncomputable def put (ε : List MV) (x : Nat) (v : MV) (σ : List MO) : SRes := setK ε x v fun ε' => some (.next, ε', σ)
noncomputable def putAll (lo : Nat) : List (Bool × Nat) → List MV → List MV → List MO → SRes
  | [], [], ε, σ => some (.next, ε, σ)
  | (false, x) :: xs, v :: vs, ε, σ => setK ε x v fun ε' => putAll lo xs vs ε' σ
  | (true, x) :: xs, v :: vs, ε, σ => match getM ε x with
    | some (.ref c) => match Nat.ble lo c with
      | true => match getM σ c with
        | some (.cell _) => setK σ c (.cell v) fun σ' => putAll lo xs vs ε σ'
        | _ => none
      | false => none
    | _ => none
  | _, _, _, _ => none
noncomputable def augM (op : BOp) (a b : MV) : Option MV := match a, b with
  | .int x, .int y => match op with
    | .add => frc (x + y) fun z => some (.int z)
    | .sub => frc (x - y) fun z => some (.int z)
    | _ => none
  | _, _ => none
noncomputable def sAsg (x : Nat) (e : ME) (ε : List MV) (σ : List MO) : SRes := match r.ex e .undef ε σ with
  | some (v, σ) => put ε x v σ
  | none => none
noncomputable def sTasg (lo : Nat) (xs : List (Bool × Nat)) (es : List ME) (ε : List MV) (σ : List MO) : SRes := match r.exs es .undef ε σ with
  | some (vs, σ) => match Nat.ble (lenM vs 0) szLine with
    | true => putAll lo xs vs ε σ
    | false => none
  | none => none
noncomputable def sAug (x : Nat) (op : BOp) (e : ME) (ε : List MV) (σ : List MO) : SRes := match getM ε x with
  | some a => match r.ex e .undef ε σ with
    | some (b, σ) => match augM op a b with
      | some v => put ε x v σ
      | none => none
    | none => none
  | none => none
noncomputable def augAt (l : List MV) (j p : Nat) (op : BOp) (a : MV) (ε : List MV) (x : Res MV) : SRes := match x with
  | some (b, σ) => match augM op a b with
    | some v => setK l p v fun l' => setK σ j (.lst l') fun σ' => some (.next, ε, σ')
    | none => none
  | none => none
noncomputable def sAugs (lo : Nat) (o i : ME) (op : BOp) (e : ME) (ε : List MV) (σ : List MO) : SRes := match r.ex o .undef ε σ with
  | some (.ref j, σ) => match r.ex i .undef ε σ with
    | some (.int (.ofNat p), σ) => match Nat.ble lo j with
      | true => match getM σ j with
        | some (.lst l) => match Nat.blt p szLine with
          | true => match getM l p with
            | some a => augAt l j p op a ε (r.ex e .undef ε σ)
            | none => none
          | false => none
        | _ => none
      | false => none
    | _ => none
  | _ => none
noncomputable def appAt (j : Nat) (l : List MV) (v : MV) (ε : List MV) (σ : List MO) : SRes := match Nat.ble (lenM l 0) szLine with
  | true => sncK l v fun l' => setK σ j (.lst l') fun σ' => some (.next, ε, σ')
  | false => none
noncomputable def sApp (lo x : Nat) (e : ME) (ε : List MV) (σ : List MO) : SRes := match getM ε x with
  | some (.ref j) => match r.ex e .undef ε σ with
    | some (v, σ) => match Nat.ble lo j with
      | true => match getM σ j with
        | some (.lst l) => appAt j l v ε σ
        | _ => none
      | false => none
    | none => none
  | _ => none
noncomputable def sIfs (lo : Nat) (t : ME) (a b : List MS) (ε : List MV) (σ : List MO) : SRes := match r.tst t .undef ε σ with
  | some (z, σ) => match z with
    | true => r.sts lo a ε σ
    | false => r.sts lo b ε σ
  | none => none
noncomputable def sFor1 (lo x : Nat) (it : MI) (b : List MS) (ε : List MV) (σ : List MO) : SRes := match it with
  | .lst e => match r.ex e .undef ε σ with
    | some (.ref j, σ) => match getM σ j with
      | some (.lst _) => r.fl lo x b j 0 ε σ
      | _ => none
    | _ => none
  | .range1 e => match r.ex e .undef ε σ with
    | some (.int h, σ) => match small h with
      | true => r.fr lo x b 0 h ε σ
      | false => none
    | _ => none
  | .range2 a e => match r.ex a .undef ε σ with
    | some (.int k, σ) => match r.ex e .undef ε σ with
      | some (.int h, σ) => match small k with
        | true => match small h with
          | true => r.fr lo x b k h ε σ
          | false => none
        | false => none
      | _ => none
    | _ => none
  | .rev e => match r.ex e .undef ε σ with
    | some (.ref j, σ) => match getM σ j with
      | some (.lst l) => frcN (lenM l 0) fun n => r.fb lo x b j n ε σ
      | _ => none
    | _ => none
noncomputable def sFor2 (lo x y : Nat) (e : ME) (b : List MS) (ε : List MV) (σ : List MO) : SRes := match r.ex e .undef ε σ with
  | some (.ref j, σ) => match getM σ j with
    | some (.lst _) => r.fe lo x y b j 0 ε σ
    | _ => none
  | _ => none
noncomputable def sRet (e : ME) (ε : List MV) (σ : List MO) : SRes := match r.ex e .undef ε σ with
  | some (v, σ) => some (.ret v, ε, σ)
  | none => none
noncomputable def sSt (lo : Nat) (s : MS) (ε : List MV) (σ : List MO) : SRes := match s with
  | .asg x e => sAsg r x e ε σ
  | .tasg xs es => sTasg r lo xs es ε σ
  | .aug x op e => sAug r x op e ε σ
  | .augsub o i op e => sAugs r lo o i op e ε σ
  | .app x e => sApp r lo x e ε σ
  | .ifs t a b => sIfs r lo t a b ε σ
  | .whl t b => r.whl lo t b ε σ
  | .for1 x it b => sFor1 r lo x it b ε σ
  | .for2 x y e b => sFor2 r lo x y e b ε σ
  | .ret e => sRet r e ε σ
  | .opq => none
noncomputable def sSts (lo : Nat) (l : List MS) (ε : List MV) (σ : List MO) : SRes := match l with
  | [] => some (.next, ε, σ)
  | s :: l => match r.st lo s ε σ with
    | some (.next, ε, σ) => r.sts lo l ε σ
    | some (.ret v, ε, σ) => some (.ret v, ε, σ)
    | none => none
noncomputable def sWhl (lo : Nat) (t : ME) (b : List MS) (ε : List MV) (σ : List MO) : SRes := match r.tst t .undef ε σ with
  | some (false, σ) => some (.next, ε, σ)
  | some (true, σ) => match r.sts lo b ε σ with
    | some (.next, ε, σ) => r.whl lo t b ε σ
    | some (.ret v, ε, σ) => some (.ret v, ε, σ)
    | none => none
  | none => none
noncomputable def sFl (lo x : Nat) (b : List MS) (j i : Nat) (ε : List MV) (σ : List MO) : SRes := match getM σ j with
  | some (.lst l) => match getM l i with
    | none => some (.next, ε, σ)
    | some v => setK ε x v fun ε => match r.sts lo b ε σ with
      | some (.next, ε, σ) => frcN (i + 1) fun i' => r.fl lo x b j i' ε σ
      | some (.ret v, ε, σ) => some (.ret v, ε, σ)
      | none => none
  | _ => none
noncomputable def sFr (lo x : Nat) (b : List MS) (k h : Int) (ε : List MV) (σ : List MO) : SRes := match W.Z.ltB k h with
  | false => some (.next, ε, σ)
  | true => setK ε x (.int k) fun ε => match r.sts lo b ε σ with
    | some (.next, ε, σ) => frc (k + 1) fun k' => r.fr lo x b k' h ε σ
    | some (.ret v, ε, σ) => some (.ret v, ε, σ)
    | none => none
noncomputable def sFb (lo x : Nat) (b : List MS) (j c : Nat) (ε : List MV) (σ : List MO) : SRes := match c with
  | 0 => some (.next, ε, σ)
  | c + 1 => match getM σ j with
    | some (.lst l) => match getM l c with
      | some v => setK ε x v fun ε => match r.sts lo b ε σ with
        | some (.next, ε, σ) => r.fb lo x b j c ε σ
        | some (.ret v, ε, σ) => some (.ret v, ε, σ)
        | none => none
      | none => none
    | _ => none
noncomputable def sFe (lo x y : Nat) (b : List MS) (j i : Nat) (ε : List MV) (σ : List MO) : SRes := match getM σ j with
  | some (.lst l) => match getM l i with
    | none => some (.next, ε, σ)
    | some v => setK ε x (.int (.ofNat i)) fun ε => setK ε y v fun ε => match r.sts lo b ε σ with
      | some (.next, ε, σ) => frcN (i + 1) fun i' => r.fe lo x y b j i' ε σ
      | some (.ret v, ε, σ) => some (.ret v, ε, σ)
      | none => none
  | _ => none
end
noncomputable def step (F : List FD) (r : R) : R := { ex := sEx r, exs := sExs r, tst := sTst r, conj := sConj r, disj := sDisj r, cal := sCal r F, cl := sCl r, cr := sCr r, st := sSt r, sts := sSts r, whl := sWhl r, fl := sFl r, fr := sFr r, fb := sFb r, fe := sFe r }
noncomputable def r0 : R := { ex := fun _ _ _ _ => none, exs := fun _ _ _ _ => none, tst := fun _ _ _ _ => none, conj := fun _ _ _ _ => none, disj := fun _ _ _ _ => none, cal := fun _ _ _ => none, cl := fun _ _ _ _ _ => none, cr := fun _ _ _ _ _ => none, st := fun _ _ _ _ => none, sts := fun _ _ _ _ => none, whl := fun _ _ _ _ _ => none, fl := fun _ _ _ _ _ _ _ => none, fr := fun _ _ _ _ _ _ _ => none, fb := fun _ _ _ _ _ _ _ => none, fe := fun _ _ _ _ _ _ _ _ => none }
noncomputable def run (F : List FD) (n : Nat) : R := Nat.rec r0 (fun _ r => step F r) n
end
end Mine
end
section
open PySem
namespace Mine
noncomputable section
-- ztrim: slots row size
noncomputable def bztrim : List MS := [.asg 1 (.blt .len [(.loc 0)]), .whl (.conj [(.cmp .gt (.loc 1) (.int 0)), (.cmp .eq (.sub (.loc 0) (.bin .sub (.loc 1) (.int 1))) (.int 0))]) [.aug 1 .sub (.int 1)], .ret (.blt .list [(.slc (.loc 0) none (some (.loc 1)))])]
noncomputable def fztrim : FD := ⟨1, 2, [], bztrim⟩
-- zadd: slots a b size
noncomputable def bzadd : List MS := [.asg 2 (.blt .max [(.blt .len [(.cel 0)]), (.blt .len [(.cel 1)])]), .ret (.call 0 [(.comp (.bin .add (.ite (.cmp .lt .cvr (.blt .len [(.cel 0)])) (.sub (.cel 0) .cvr) (.int 0)) (.ite (.cmp .lt .cvr (.blt .len [(.cel 1)])) (.sub (.cel 1) .cvr) (.int 0))) (.range1 (.loc 2)))])]
noncomputable def fzadd : FD := ⟨2, 3, [1, 0], bzadd⟩
-- zmul: slots a b found one left other right
noncomputable def bzmul : List MS := [.ifs (.disj [(.cmp .eq (.blt .len [(.loc 0)]) (.int 0)), (.cmp .eq (.blt .len [(.loc 1)]) (.int 0))]) [.ret (.lst [])] [], .asg 2 (.bin .mul (.lst [(.int 0)]) (.bin .sub (.bin .add (.blt .len [(.loc 0)]) (.blt .len [(.loc 1)])) (.int 1))), .for2 3 4 (.loc 0) [.ifs (.cmp .ne (.loc 4) (.int 0)) [.for2 5 6 (.loc 1) [.augsub (.loc 2) (.bin .add (.loc 3) (.loc 5)) .add (.bin .mul (.loc 4) (.loc 6))]] []], .ret (.loc 2)]
noncomputable def fzmul : FD := ⟨2, 7, [], bzmul⟩
-- zpower: slots p many found factor
noncomputable def bzpower : List MS := [.tasg [(false, 2), (false, 3)] [(.lst [(.int 1)]), (.blt .list [(.loc 0)])], .whl (.cmp .gt (.loc 1) (.int 0)) [.ifs (.cmp .eq (.bin .mod (.loc 1) (.int 2)) (.int 1)) [.asg 2 (.call 2 [(.loc 2), (.loc 3)])] [], .asg 3 (.ite (.cmp .gt (.loc 1) (.int 1)) (.call 2 [(.loc 3), (.loc 3)]) (.loc 3)), .asg 1 (.bin .fdiv (.loc 1) (.int 2))], .ret (.loc 2)]
noncomputable def fzpower : FD := ⟨2, 4, [], bzpower⟩
-- zcompose: slots a b found number
noncomputable def bzcompose : List MS := [.asg 2 (.lst []), .for1 3 (.rev (.loc 0)) [.asg 2 (.call 1 [(.call 2 [(.loc 2), (.loc 1)]), (.call 0 [(.lst [(.loc 3)])])])], .ret (.loc 2)]
noncomputable def fzcompose : FD := ⟨2, 4, [], bzcompose⟩
-- gcd: slots a b
noncomputable def bgcd : List MS := [.tasg [(false, 0), (false, 1)] [(.blt .abs [(.loc 0)]), (.blt .abs [(.loc 1)])], .whl (.cmp .ne (.loc 1) (.int 0)) [.tasg [(false, 0), (false, 1)] [(.loc 1), (.bin .mod (.loc 0) (.loc 1))]], .ret (.loc 0)]
noncomputable def fgcd : FD := ⟨2, 2, [], bgcd⟩
-- rat: slots top bottom g
noncomputable def brat : List MS := [.ifs (.cmp .eq (.loc 1) (.int 0)) [.opq] [], .asg 2 (.ite (.cmp .gt (.loc 1) (.int 0)) (.call 5 [(.loc 0), (.loc 1)]) (.bin .sub (.int 0) (.call 5 [(.loc 0), (.loc 1)]))), .ret (.tup [(.bin .fdiv (.loc 0) (.loc 2)), (.bin .fdiv (.loc 1) (.loc 2))])]
noncomputable def frat : FD := ⟨2, 3, [], brat⟩
-- radd: slots a b
noncomputable def bradd : List MS := [.ret (.call 6 [(.bin .add (.bin .mul (.sub (.loc 0) (.int 0)) (.sub (.loc 1) (.int 1))) (.bin .mul (.sub (.loc 1) (.int 0)) (.sub (.loc 0) (.int 1)))), (.bin .mul (.sub (.loc 0) (.int 1)) (.sub (.loc 1) (.int 1)))])]
noncomputable def fradd : FD := ⟨2, 2, [], bradd⟩
-- rsub: slots a b
noncomputable def brsub : List MS := [.ret (.call 6 [(.bin .sub (.bin .mul (.sub (.loc 0) (.int 0)) (.sub (.loc 1) (.int 1))) (.bin .mul (.sub (.loc 1) (.int 0)) (.sub (.loc 0) (.int 1)))), (.bin .mul (.sub (.loc 0) (.int 1)) (.sub (.loc 1) (.int 1)))])]
noncomputable def frsub : FD := ⟨2, 2, [], brsub⟩
-- rinv: slots a
noncomputable def brinv : List MS := [.ret (.call 6 [(.sub (.loc 0) (.int 1)), (.sub (.loc 0) (.int 0))])]
noncomputable def frinv : FD := ⟨1, 1, [], brinv⟩
-- rfloor: slots a
noncomputable def brfloor : List MS := [.ret (.bin .fdiv (.sub (.loc 0) (.int 0)) (.sub (.loc 0) (.int 1)))]
noncomputable def frfloor : FD := ⟨1, 1, [], brfloor⟩
-- fraction_row: slots r found whole
noncomputable def bfraction_row : List MS := [.asg 1 (.lst []), .whl (.bool true) [.asg 2 (.call 10 [(.loc 0)]), .app 1 (.loc 2), .asg 0 (.call 8 [(.loc 0), (.tup [(.loc 2), (.int 1)])]), .ifs (.cmp .eq (.sub (.loc 0) (.int 0)) (.int 0)) [.ret (.loc 1)] [], .asg 0 (.call 9 [(.loc 0)])]]
noncomputable def ffraction_row : FD := ⟨1, 3, [], bfraction_row⟩
-- _law_product: slots t many found turn gap
noncomputable def blaw_product : List MS := [.asg 2 (.lst [(.int 1)]), .for1 3 (.range1 (.loc 1)) [.asg 4 (.bin .mul (.lst [(.int 0)]) (.bin .sub (.bin .pow (.int 2) (.loc 3)) (.int 1))), .asg 2 (.call 2 [(.bin .add (.bin .add (.bin .add (.bin .add (.lst [(.int 1)]) (.loc 4)) (.lst [(.loc 0)])) (.loc 4)) (.lst [(.int 1)])), (.loc 2)])], .ret (.loc 2)]
noncomputable def flaw_product : FD := ⟨2, 5, [], blaw_product⟩
-- _law_ways: slots t many found n
noncomputable def blaw_ways : List MS := [.asg 2 (.lst [(.int 1)]), .for1 3 (.range2 (.int 1) (.loc 1)) [.app 2 (.ite (.cmp .eq (.bin .mod (.loc 3) (.int 2)) (.int 1)) (.bin .mul (.loc 0) (.sub (.loc 2) (.bin .fdiv (.loc 3) (.int 2)))) (.bin .add (.sub (.loc 2) (.bin .fdiv (.loc 3) (.int 2))) (.sub (.loc 2) (.bin .sub (.bin .fdiv (.loc 3) (.int 2)) (.int 1)))))], .ret (.loc 2)]
noncomputable def flaw_ways : FD := ⟨2, 4, [], blaw_ways⟩
-- _law_lowest: slots top bottom one other
noncomputable def blaw_lowest : List MS := [.tasg [(false, 2), (false, 3)] [(.loc 0), (.loc 1)], .whl (.cmp .ne (.loc 3) (.int 0)) [.tasg [(false, 2), (false, 3)] [(.loc 3), (.bin .mod (.loc 2) (.loc 3))]], .ret (.tup [(.bin .fdiv (.loc 0) (.loc 2)), (.bin .fdiv (.loc 1) (.loc 2))])]
noncomputable def flaw_lowest : FD := ⟨2, 4, [], blaw_lowest⟩
-- _law_place: slots top bottom found step
noncomputable def blaw_place : List MS := [.tasg [(false, 2), (false, 3)] [(.int 0), (.int 1)], .whl (.cmp .ne (.loc 0) (.loc 1)) [.ifs (.cmp .gt (.loc 0) (.loc 1)) [.tasg [(false, 0), (false, 2)] [(.bin .sub (.loc 0) (.loc 1)), (.bin .add (.loc 2) (.loc 3))]] [.asg 1 (.bin .sub (.loc 1) (.loc 0))], .asg 3 (.bin .mul (.int 2) (.loc 3))], .ret (.bin .add (.loc 2) (.loc 3))]
noncomputable def flaw_place : FD := ⟨2, 4, [], blaw_place⟩
-- _law_figures: slots n found
noncomputable def blaw_figures : List MS := [.asg 1 (.int 0), .whl (.cmp .gt (.loc 0) (.int 0)) [.tasg [(false, 0), (false, 1)] [(.bin .fdiv (.loc 0) (.int 2)), (.bin .add (.loc 1) (.int 1))]], .ret (.loc 1)]
noncomputable def flaw_figures : FD := ⟨1, 2, [], blaw_figures⟩
-- _law_behind: slots x
noncomputable def blaw_behind : List MS := [.ret (.call 9 [(.call 8 [(.tup [(.bin .add (.bin .mul (.int 2) (.call 10 [(.loc 0)])) (.int 1)), (.int 1)]), (.loc 0)])])]
noncomputable def flaw_behind : FD := ⟨1, 1, [], blaw_behind⟩
-- _law_sum: slots some found one
noncomputable def blaw_sum : List MS := [.asg 1 (.tup [(.int 0), (.int 1)]), .for1 2 (.lst (.loc 0)) [.asg 1 (.call 7 [(.loc 1), (.loc 2)])], .ret (.loc 1)]
noncomputable def flaw_sum : FD := ⟨1, 3, [], blaw_sum⟩
noncomputable def fns : List FD := [fztrim, fzadd, fzmul, fzpower, fzcompose, fgcd, frat, fradd, frsub, frinv, frfloor, ffraction_row, flaw_product, flaw_ways, flaw_lowest, flaw_place, flaw_figures, flaw_behind, flaw_sum]
-- law: slots script pool t bottom top r told n row turn level ; cells ['told']
noncomputable def s0 : MS := .asg 5 (.call 14 [(.loc 4), (.loc 3)])
noncomputable def s1 : MS := .ifs (.cmp .ne (.slc (.call 12 [(.loc 2), (.int 5)]) none (some (.int 32))) (.call 13 [(.loc 2), (.int 32)])) [.ret (.bool false)] []
noncomputable def s2 : MS := .ifs (.disj [(.cmp .ne (.call 12 [(.int 2), (.int 3)]) (.call 3 [(.bin .mul (.lst [(.int 1)]) (.int 8)), (.int 2)])), (.cmp .ne (.call 2 [(.call 12 [(.neg 1), (.int 3)]), (.bin .mul (.lst [(.int 1)]) (.int 8))]) (.bin .add (.bin .mul (.lst [(.int 1), (.int 0), (.int 0)]) (.int 7)) (.lst [(.int 1)])))]) [.ret (.bool false)] []
noncomputable def s3 : MS := .ifs (.cmp .ne (.call 2 [(.call 12 [(.loc 2), (.int 3)]), (.call 12 [(.bin .sub (.int 0) (.loc 2)), (.int 3)])]) (.call 4 [(.call 12 [(.bin .sub (.int 2) (.bin .mul (.loc 2) (.loc 2))), (.int 3)]), (.lst [(.int 0), (.int 0), (.int 1)])])) [.ret (.bool false)] []
noncomputable def s4 : MS := .tasg [(true, 6), (false, 7)] [(.call 12 [(.int 1), (.int 6)]), (.call 15 [(.sub (.loc 5) (.int 0)), (.sub (.loc 5) (.int 1))])]
noncomputable def s5 : MS := .ifs (.disj [(.cmp .ne (.tup [(.sub (.cel 6) (.bin .sub (.loc 7) (.int 1))), (.sub (.cel 6) (.loc 7))]) (.loc 5)), (.cmp .ne (.call 17 [(.loc 5)]) (.tup [(.sub (.cel 6) (.loc 7)), (.sub (.cel 6) (.bin .add (.loc 7) (.int 1)))]))]) [.ret (.bool false)] []
noncomputable def s6 : MS := .ifs (.cmp .ne (.blt .sum [(.call 11 [(.loc 5)])]) (.call 16 [(.loc 7)])) [.ret (.bool false)] []
noncomputable def s7 : MS := .asg 8 (.lst [(.tup [(.int 1), (.int 1)])])
noncomputable def s8 : MS := .for1 9 (.range1 (.int 14)) [.app 8 (.call 17 [(.sub (.loc 8) (.neg 1))])]
noncomputable def s9 : MS := .ifs (.cmp .ne (.loc 8) (.comp (.tup [(.sub (.cel 6) .cvr), (.sub (.cel 6) (.bin .add .cvr (.int 1)))]) (.range1 (.int 15)))) [.ret (.bool false)] []
noncomputable def s10 : MS := .for1 9 (.range1 (.int 4)) [.asg 10 (.slc (.loc 8) (some (.bin .sub (.bin .pow (.int 2) (.loc 9)) (.int 1))) (some (.bin .sub (.bin .pow (.int 2) (.bin .add (.loc 9) (.int 1))) (.int 1)))), .ifs (.disj [(.cmp .ne (.rev (.loc 10)) (.comp (.call 9 [.cvr]) (.lst (.loc 10)))), (.cmp .ne (.call 18 [(.comp (.tup [(.int 1), (.bin .mul (.sub .cvr (.int 0)) (.sub .cvr (.int 1)))]) (.lst (.loc 10)))]) (.tup [(.int 1), (.int 1)]))]) [.ret (.bool false)] [], .ifs (.cmp .ne (.call 18 [(.loc 10)]) (.ite (.cmp .eq (.loc 9) (.int 0)) (.tup [(.int 1), (.int 1)]) (.tup [(.bin .sub (.bin .mul (.int 3) (.bin .pow (.int 2) (.loc 9))) (.int 1)), (.int 2)]))) [.ret (.bool false)] []]
noncomputable def s11 : MS := .ret (.bool true)
noncomputable def rest : List MS := [s0, s1, s2, s3, s4, s5, s6, s7, s8, s9, s10, s11]
end
end Mine
end
section
open PySem PySem.W PySem.Calls PyProof.Rows
namespace Mine
/-! ## What a small value is in the machine's heap -/
noncomputable def VR (as : List Addr) : MV → Value → Prop
  | .undef, _ => False
  | .int i, v => ∃ t, v = .int i t
  | .bool b, v => v = .bool b
  | .ref j, v => ∃ a, as[j]? = some a ∧ v = .ref a
inductive VRs (as : List Addr) : List MV → List Value → Prop
  | nil : VRs as [] []
  | cons {v : MV} {w : Value} {l : List MV} {ws : List Value} : VR as v w → VRs as l ws → VRs as (v :: l) (w :: ws)
noncomputable abbrev lobj (vs : List Value) (n : Nat) : Obj := { cls := .type "list", data := .seq vs.toArray n }
noncomputable abbrev tobj (vs : List Value) (n : Nat) : Obj := { cls := .type "tuple", data := .seq vs.toArray n }
noncomputable def OR (as : List Addr) : MO → Obj → Prop
  | .lst l, o => ∃ vs n, o = lobj vs n ∧ VRs as l vs
  | .tup l, o => ∃ vs n, o = tobj vs n ∧ VRs as l vs
  | .cell v, o => (v = .undef ∧ ∃ w, o.data = .cell w) ∨ ∃ w, o.data = .cell (some w) ∧ VR as v w
  | .junk, _ => True
theorem pre_get {α : Type} {l l' : List α} (h : l <+: l') {i : Nat} {x : α} (e : l[i]? = some x) : l'[i]? = some x := by
  obtain ⟨t, rfl⟩ := h
  rw [List.getElem?_append_left (List.getElem?_eq_some_iff.mp e).1]
  exact e
theorem VR.mono {as as' : List Addr} (h : as <+: as') {v : MV} {w : Value} (x : VR as v w) : VR as' v w := by
  cases v with
  | undef => exact x
  | int i => exact x
  | bool b => exact x
  | ref j => obtain ⟨a, e, r⟩ := x; exact ⟨a, pre_get h e, r⟩
theorem VRs.mono {as as' : List Addr} (h : as <+: as') {l : List MV} {ws : List Value} (x : VRs as l ws) : VRs as' l ws := by
  induction x with
  | nil => exact .nil
  | cons h1 _ ih => exact .cons (h1.mono h) ih
theorem OR.mono {as as' : List Addr} (h : as <+: as') {m : MO} {o : Obj} (x : OR as m o) : OR as' m o := by
  cases m with
  | lst l => obtain ⟨vs, n, e, r⟩ := x; exact ⟨vs, n, e, r.mono h⟩
  | tup l => obtain ⟨vs, n, e, r⟩ := x; exact ⟨vs, n, e, r.mono h⟩
  | cell v =>
    rcases x with x | ⟨w, e, r⟩
    · exact .inl x
    · exact .inr ⟨w, e, r.mono h⟩
  | junk => trivial
theorem VRs.length {as : List Addr} {l : List MV} {ws : List Value} (x : VRs as l ws) : ws.length = l.length := by
  induction x with
  | nil => rfl
  | cons _ _ ih => rw [List.length_cons, List.length_cons, ih]
theorem VRs.get {as : List Addr} {l : List MV} {ws : List Value} (x : VRs as l ws) : ∀ {i : Nat} {v : MV}, l[i]? = some v → ∃ w, ws[i]? = some w ∧ VR as v w := by
  induction x with
  | nil => intro i v e; cases e
  | cons h _ ih =>
    intro i v e
    cases i with
    | zero => cases e; exact ⟨_, rfl, h⟩
    | succ i => exact ih e
theorem VRs.set {as : List Addr} {l : List MV} {ws : List Value} (x : VRs as l ws) {v : MV} {w : Value} (h : VR as v w) : ∀ i : Nat, VRs as (l.set i v) (ws.set i w) := by
  induction x with
  | nil => intro i; exact .nil
  | cons h1 h2 ih =>
    intro i
    cases i with
    | zero => exact .cons h h2
    | succ i => exact .cons h1 (ih i)
theorem VRs.append {as : List Addr} {l l2 : List MV} {ws ws2 : List Value} (x : VRs as l ws) (y : VRs as l2 ws2) : VRs as (l ++ l2) (ws ++ ws2) := by
  induction x with
  | nil => exact y
  | cons h _ ih => exact .cons h ih
theorem VRs.take {as : List Addr} {l : List MV} {ws : List Value} (x : VRs as l ws) : ∀ n : Nat, VRs as (l.take n) (ws.take n) := by
  induction x with
  | nil => intro n; cases n <;> exact .nil
  | cons h _ ih =>
    intro n
    cases n with
    | zero => exact .nil
    | succ n => exact .cons h (ih n)
theorem VRs.drop {as : List Addr} {l : List MV} {ws : List Value} (x : VRs as l ws) : ∀ n : Nat, VRs as (l.drop n) (ws.drop n) := by
  induction x with
  | nil => intro n; cases n <;> exact .nil
  | cons h h2 ih =>
    intro n
    cases n with
    | zero => exact .cons h h2
    | succ n => exact ih n
theorem VRs.reverse {as : List Addr} {l : List MV} {ws : List Value} (x : VRs as l ws) : VRs as l.reverse ws.reverse := by
  induction x with
  | nil => exact .nil
  | cons h _ ih =>
    rw [List.reverse_cons, List.reverse_cons]
    exact ih.append (.cons h .nil)
/-! ## The state -/
structure Iv (h₀ : Heap) (L : Addr) (m : Str → Option Value) (ext : List (Addr × Obj)) (h : Heap) (as : List Addr) (σ : List MO) : Prop where
  F : Fr h₀ L h m
  N : ∀ p ∈ ext, h.get? p.1 = some p.2 ∧ p.1 ≠ L ∧ h₀.get? p.1 = none
  len : as.length = σ.length
  obj : ∀ (i : Nat) (a : Addr) (mo : MO), as[i]? = some a → σ[i]? = some mo → ∃ o, h.get? a = some o ∧ OR as mo o
  fr : ∀ a ∈ as, a ≠ L ∧ h₀.get? a = none ∧ ∀ p ∈ ext, p.1 ≠ a
  nd : as.Nodup
section
variable {h₀ h h' : Heap} {L : Addr} {m m' : Str → Option Value} {ext : List (Addr × Obj)} {as : List Addr} {σ : List MO}
theorem Iv.grow (I : Iv h₀ L m ext h as σ) (k : ∀ b o, h.get? b = some o → h'.get? b = some o) : Iv h₀ L m ext h' as σ where
  F := I.F.grownK k
  N := fun p hp => ⟨k _ _ (I.N p hp).1, (I.N p hp).2⟩
  len := I.len
  obj := fun i a mo e1 e2 => let ⟨o, e, r⟩ := I.obj i a mo e1 e2; ⟨o, k _ _ e, r⟩
  fr := I.fr
  nd := I.nd
theorem Iv.lt (I : Iv h₀ L m ext h as σ) {a : Addr} (ha : a ∈ as) : a < h.objs.size := by
  obtain ⟨i, hi, e⟩ := List.mem_iff_getElem.mp ha
  have e1 : as[i]? = some a := by rw [List.getElem?_eq_getElem hi, e]
  have hs : i < σ.length := I.len ▸ hi
  obtain ⟨o, ho, _⟩ := I.obj i a σ[i] e1 (List.getElem?_eq_getElem hs)
  exact Heap.lt_size ho
theorem snoc_get {α : Type} {l : List α} {x y : α} {i : Nat} (e : (l ++ [x])[i]? = some y) : l[i]? = some y ∨ (i = l.length ∧ y = x) := by
  by_cases hi : i < l.length
  · rw [List.getElem?_append_left hi] at e; exact .inl e
  · rw [List.getElem?_append_right (Nat.not_lt.mp hi)] at e
    have : i - l.length = 0 := by
      cases q : i - l.length with
      | zero => rfl
      | succ n => rw [q] at e; cases e
    rw [this] at e
    exact .inr ⟨by omega, (Option.some.inj e).symm⟩
theorem Iv.alloc (I : Iv h₀ L m ext h as σ) {o : Obj} {mo : MO} (hf : o.isFreed = false) (r : OR (as ++ [h.objs.size]) mo o) : Iv h₀ L m ext (h.push o) (as ++ [h.objs.size]) (σ ++ [mo]) := by
  have J := I.grow (h' := h.push o) fun b o' e => Heap.get?_push_of_some _ e
  have pre : as <+: as ++ [h.objs.size] := List.prefix_append _ _
  refine ⟨J.F, J.N, by simp [I.len], fun i a mo' e1 e2 => ?_, fun a ha => ?_, ?_⟩
  · rcases snoc_get e1 with e1 | ⟨hi, rfl⟩
    · rcases snoc_get e2 with e2 | ⟨hj, rfl⟩
      · obtain ⟨o', e, r'⟩ := J.obj i a mo' e1 e2
        exact ⟨o', e, r'.mono pre⟩
      · rw [← I.len] at hj
        rw [hj, List.getElem?_eq_none (Nat.le_refl _)] at e1; cases e1
    · rcases snoc_get e2 with e2 | ⟨hj, rfl⟩
      · rw [hi, I.len, List.getElem?_eq_none (Nat.le_refl _)] at e2; cases e2
      · exact ⟨o, Heap.get?_push_size _ hf, r⟩
  · rcases List.mem_append.mp ha with ha | ha
    · exact I.fr a ha
    · rw [List.mem_singleton.mp ha]
      refine ⟨Ne.symm (Nat.ne_of_lt I.F.ns.lt), ?_, fun p hp => Nat.ne_of_lt (Heap.lt_size (I.N p hp).1)⟩
      cases q : h₀.get? h.objs.size with
      | none => rfl
      | some o' => exact absurd (Heap.lt_size (I.F.keep _ _ q)) (Nat.lt_irrefl _)
  · refine List.nodup_append.mpr ⟨I.nd, by simp, fun a ha b hb => ?_⟩
    rw [List.mem_singleton.mp hb]
    exact Nat.ne_of_lt (I.lt ha)
theorem get_mem {α : Type} {l : List α} {i : Nat} {x : α} (e : l[i]? = some x) : x ∈ l := List.mem_of_getElem? e
theorem nodup_get {α : Type} {l : List α} (hn : l.Nodup) {i j : Nat} {x : α} (e1 : l[i]? = some x) (e2 : l[j]? = some x) : i = j := by
  obtain ⟨h1, q1⟩ := List.getElem?_eq_some_iff.mp e1
  obtain ⟨h2, q2⟩ := List.getElem?_eq_some_iff.mp e2
  exact (List.getElem_inj hn).mp (q1.trans q2.symm)
theorem Iv.change (I : Iv h₀ L m ext h as σ) {j : Nat} {a : Addr} {o : Obj} {mo : MO} (ha : as[j]? = some a) (hs : Heap.SameBut a h h') (ho : h'.get? a = some o) (r : OR as mo o) :
    Iv h₀ L m ext h' as (σ.set j mo) := by
  have f := I.fr a (get_mem ha)
  refine ⟨⟨I.F.ns.sameBut hs (Ne.symm f.1), fun b o' e => (hs.2 b fun q => ?_).trans (I.F.keep b o' e), I.F.above⟩, fun p hp => ⟨(hs.2 _ (f.2.2 p hp)).trans (I.N p hp).1, (I.N p hp).2⟩, by rw [List.length_set]; exact I.len, fun i b mo' e1 e2 => ?_, I.fr, I.nd⟩
  · rw [q, f.2.1] at e; cases e
  · by_cases hij : i = j
    · subst hij
      rw [ha] at e1; cases e1
      have hl : i < σ.length := by
        have := (List.getElem?_eq_some_iff.mp e2).1
        rwa [List.length_set] at this
      rw [List.getElem?_set_self hl] at e2; cases e2
      exact ⟨o, ho, r⟩
    · rw [List.getElem?_set_ne (Ne.symm hij)] at e2
      obtain ⟨o', e, r'⟩ := I.obj i b mo' e1 e2
      have hb : b ≠ a := fun q => hij (nodup_get I.nd e1 (q ▸ ha))
      exact ⟨o', (hs.2 b hb).trans e, r'⟩
theorem Iv.store (I : Iv h₀ L m ext h as σ) (hn : h'.Ns L m') (hs : Heap.SameBut L h h') : Iv h₀ L m' ext h' as σ where
  F := I.F.set hn hs
  N := fun p hp => ⟨(hs.2 _ (I.N p hp).2.1).trans (I.N p hp).1, (I.N p hp).2⟩
  len := I.len
  obj := fun i a mo e1 e2 => let ⟨o, e, r⟩ := I.obj i a mo e1 e2; ⟨o, (hs.2 a (I.fr a (get_mem e1)).1).trans e, r⟩
  fr := I.fr
  nd := I.nd
/-- the part of the heap that is told -/
noncomputable def newsOf (ext : List (Addr × Obj)) (as : List Addr) (h : Heap) : List (Addr × Obj) := ext ++ as.filterMap fun a => (h.get? a).map fun o => (a, o)
theorem Iv.news (I : Iv h₀ L m ext h as σ) : News h₀ L h (newsOf ext as h) := fun p hp => by
  rcases List.mem_append.mp hp with hp | hp
  · exact I.N p hp
  · obtain ⟨a, ha, e⟩ := List.mem_filterMap.mp hp
    cases q : h.get? a with
    | none => rw [q] at e; cases e
    | some o =>
      rw [q] at e; cases e
      exact ⟨q, (I.fr a ha).1, (I.fr a ha).2.1⟩
theorem Iv.back (I : Iv h₀ L m ext h as σ) (F : Fr h₀ L h' m') (N : News h₀ L h' (newsOf ext as h)) : Iv h₀ L m' ext h' as σ where
  F := F
  N := fun p hp => N p (List.mem_append_left _ hp)
  len := I.len
  obj := fun i a mo e1 e2 => by
    obtain ⟨o, e, r⟩ := I.obj i a mo e1 e2
    exact ⟨o, (N (a, o) (List.mem_append_right _ (List.mem_filterMap.mpr ⟨a, get_mem e1, by rw [e]; rfl⟩))).1, r⟩
  fr := I.fr
  nd := I.nd
end
/-- a list or a tuple at hand -/
theorem Iv.lst {h₀ h : Heap} {L : Addr} {m : Str → Option Value} {ext : List (Addr × Obj)} {as : List Addr} {σ : List MO} (I : Iv h₀ L m ext h as σ) {j : Nat} {l : List MV} (e : σ[j]? = some (.lst l)) :
    ∃ a vs n, as[j]? = some a ∧ h.get? a = some (lobj vs n) ∧ VRs as l vs := by
  have hj : j < as.length := I.len ▸ (List.getElem?_eq_some_iff.mp e).1
  obtain ⟨o, ho, vs, n, rfl, r⟩ := I.obj j as[j] _ (List.getElem?_eq_getElem hj) e
  exact ⟨as[j], vs, n, List.getElem?_eq_getElem hj, ho, r⟩
theorem Iv.tup {h₀ h : Heap} {L : Addr} {m : Str → Option Value} {ext : List (Addr × Obj)} {as : List Addr} {σ : List MO} (I : Iv h₀ L m ext h as σ) {j : Nat} {l : List MV} (e : σ[j]? = some (.tup l)) :
    ∃ a vs n, as[j]? = some a ∧ h.get? a = some (tobj vs n) ∧ VRs as l vs := by
  have hj : j < as.length := I.len ▸ (List.getElem?_eq_some_iff.mp e).1
  obtain ⟨o, ho, vs, n, rfl, r⟩ := I.obj j as[j] _ (List.getElem?_eq_getElem hj) e
  exact ⟨as[j], vs, n, List.getElem?_eq_getElem hj, ho, r⟩
theorem lobj_isList {h : Heap} {a : Addr} {vs : List Value} {n : Nat} (e : h.get? a = some (lobj vs n)) : h.IsList a vs.toArray := ⟨_, e, rfl, n, rfl⟩
theorem tobj_isTuple {h : Heap} {a : Addr} {vs : List Value} {n : Nat} (e : h.get? a = some (tobj vs n)) : h.IsTuple a vs.toArray := ⟨_, e, rfl, n, rfl⟩
/-! ## What a step leaves behind -/
noncomputable def PostV (h₀ : Heap) (L : Addr) (m : Str → Option Value) (ext : List (Addr × Obj)) (s : Shared) (as : List Addr) (σ' : List MO) (v : MV) : Value → Shared → Prop := fun w s' =>
  ∃ h' tk as', s' = { s with heap := h', toks := tk } ∧ Iv h₀ L m ext h' as' σ' ∧ as <+: as' ∧ VR as' v w
noncomputable def PostVs (h₀ : Heap) (L : Addr) (m : Str → Option Value) (ext : List (Addr × Obj)) (s : Shared) (as : List Addr) (σ' : List MO) (vs : List MV) : List Value → Shared → Prop := fun ws s' =>
  ∃ h' tk as', s' = { s with heap := h', toks := tk } ∧ Iv h₀ L m ext h' as' σ' ∧ as <+: as' ∧ VRs as' vs ws
noncomputable def PostB (h₀ : Heap) (L : Addr) (m : Str → Option Value) (ext : List (Addr × Obj)) (s : Shared) (as : List Addr) (σ' : List MO) (b : Bool) : Bool → Shared → Prop := fun c s' =>
  ∃ h' tk as', s' = { s with heap := h', toks := tk } ∧ Iv h₀ L m ext h' as' σ' ∧ as <+: as' ∧ c = b
end Mine
end
section
open PySem PySem.W PySem.Calls PyProof.Rows
namespace Mine
/-! ## The small language's terms and the program's -/
structure Cx where
  sc : Scope
  nms : List Str
abbrev Lv := Option (Scope × Str)
noncomputable def scOf (C : Cx) : Lv → Scope
  | none => C.sc
  | some (c, _) => c
noncomputable def Dbg (nm : Str) : Prop := (nm == ("__debug__" : Str)) = false
noncomputable def bop : BOp → Operator
  | .add => .Add
  | .sub => .Sub
  | .mul => .Mult
  | .fdiv => .FloorDiv
  | .mod => .Mod
  | .pow => .Pow
noncomputable def cop : COp → CmpOp
  | .lt => .Lt
  | .gt => .Gt
  | .eq => .Eq
  | .ne => .NotEq
noncomputable def bnm : Blt → Str
  | .len => "len"
  | .max => "max"
  | .abs => "abs"
  | .list => "list"
  | .sum => "sum"
noncomputable def bval : Blt → Value
  | .len => .builtin "len"
  | .max => .builtin "max"
  | .abs => .builtin "abs"
  | .list => .type "list"
  | .sum => .builtin "sum"
/-- the kind of a target's name -/
noncomputable def kd : Bool → NameKind
  | false => .local
  | true => .cell
/-! ## The text printed from the small language, and compared -/
noncomputable def kindIs (sc : Scope) (x : Str) (k : NameKind) : Bool := sc.names.lookup x == some k
theorem kindIs_ok {sc : Scope} {x : Str} {k : NameKind} (h : kindIs sc x k = true) : sc.names.lookup x = some k := by simpa [kindIs] using h
noncomputable def dbgOk (x : Str) : Bool := !(x == ("__debug__" : Str))
theorem dbg_ok {x : Str} (h : dbgOk x = true) : Dbg x := by
  unfold dbgOk at h
  unfold Dbg
  cases q : (x == ("__debug__" : Str)) with
  | false => rfl
  | true => rw [q] at h; cases h
/-- what a tree of the text bears beside its form -/
inductive PT where
  | nd (p : Pos) (k : Nat) (sc : Scope) (x : Str) (st : List Stmt) (ch : List PT)
noncomputable def dp : Pos := ⟨0, 0, 0, 0⟩
noncomputable def dsc : Scope := { kind := .function, names := [], isGenerator := false, isCoroutine := false }
noncomputable def dT : PT := .nd dp 0 dsc "" [] []
noncomputable def PT.p : PT → Pos | .nd p _ _ _ _ _ => p
noncomputable def PT.k : PT → Nat | .nd _ k _ _ _ _ => k
noncomputable def PT.sc : PT → Scope | .nd _ _ s _ _ _ => s
noncomputable def PT.x : PT → Str | .nd _ _ _ x _ _ => x
noncomputable def PT.st : PT → List Stmt | .nd _ _ _ _ s _ => s
noncomputable def PT.ch : PT → List PT | .nd _ _ _ _ _ c => c
noncomputable def PT.c (t : PT) (i : Nat) : PT := (t.ch[i]?).getD dT
noncomputable def nl (p : Pos) (ch : List PT) : PT := .nd p 0 dsc "" [] ch
noncomputable def pt : Nat → Expr → PT
  | 0, _ => dT
  | n + 1, e => match e with
    | .Name x p => .nd p 0 dsc x [] []
    | .Constant _ k p => .nd p k dsc "" [] []
    | .UnaryOp _ x p => nl p [pt n x]
    | .BinOp l _ r p => nl p [pt n l, pt n r]
    | .Compare l _ rs p => nl p (pt n l :: rs.map (pt n))
    | .IfExp t a b p => nl p [pt n t, pt n a, pt n b]
    | .BoolOp _ es p => nl p (es.map (pt n))
    | .Subscript e i p => nl p [pt n e, pt n i]
    | .Slice a b c p => nl p [(a.map (pt n)).getD dT, (b.map (pt n)).getD dT, (c.map (pt n)).getD dT]
    | .Tuple es k p => .nd p k dsc "" [] (es.map (pt n))
    | .List es p => nl p (es.map (pt n))
    | .Call f es _ p => nl p (pt n f :: es.map (pt n))
    | .ListComp elt gens sc p => match gens with
      | [⟨t, it, _, _⟩] => .nd p 0 sc (pt n t).x [] [pt n elt, pt n it, pt n t]
      | _ => dT
    | .Attribute o _ p => nl p [pt n o]
    | _ => dT
noncomputable def ptS : Nat → Stmt → PT
  | 0, _ => dT
  | n + 1, s => match s with
    | .Assign ts v p => nl p [nl dp (ts.map (pt n)), pt n v]
    | .AugAssign t _ v p => nl p [pt n t, pt n v]
    | .Expr e p => nl p [pt n e]
    | .If t a b p => nl p [pt n t, nl dp (a.map (ptS n)), nl dp (b.map (ptS n))]
    | .While t b _ p => nl p [pt n t, nl dp (b.map (ptS n))]
    | .For t it b _ p => nl p [pt n t, pt n it, nl dp (b.map (ptS n))]
    | .Return v p => nl p [(v.map (pt n)).getD dT]
    | s => .nd dp 0 dsc "" [s] []
noncomputable def nmAt (C : Cx) (i : Nat) : Str := (C.nms[i]?).getD ""
noncomputable def nmOk (C : Cx) (i : Nat) (k : NameKind) : Bool := (C.nms[i]?).isSome && kindIs C.sc (nmAt C i) k
theorem nmOk_ok {C : Cx} {i : Nat} {k : NameKind} (h : nmOk C i k = true) : C.nms[i]? = some (nmAt C i) ∧ C.sc.names.lookup (nmAt C i) = some k := by
  obtain ⟨h1, h2⟩ := Bool.and_eq_true_iff.mp h
  refine ⟨?_, kindIs_ok h2⟩
  obtain ⟨x, hx⟩ := Option.isSome_iff_exists.mp h1
  unfold nmAt
  rw [hx]; rfl
noncomputable def toL (f : ME → PT → Expr) : List ME → List PT → List Expr
  | [], _ => []
  | m :: ms, ts => f m (ts.headD dT) :: toL f ms ts.tail
noncomputable def okL (f : ME → PT → Bool) : List ME → List PT → Bool
  | [], _ => true
  | m :: ms, ts => f m (ts.headD dT) && okL f ms ts.tail
noncomputable def toI (f : ME → PT → Expr) (it : MI) (t : PT) : Expr := match it with
  | .lst e => f e t
  | .range1 e => .Call (.Name ("range" : Str) (t.c 0).p) [f e (t.c 1)] [] t.p
  | .range2 a b => .Call (.Name ("range" : Str) (t.c 0).p) [f a (t.c 1), f b (t.c 2)] [] t.p
  | .rev e => .Call (.Name ("reversed" : Str) (t.c 0).p) [f e (t.c 1)] [] t.p
noncomputable def okI (C : Cx) (f : ME → PT → Bool) (it : MI) (t : PT) : Bool := match it with
  | .lst e => f e t
  | .range1 e => kindIs C.sc ("range" : Str) .globalImplicit && f e (t.c 1)
  | .range2 a b => kindIs C.sc ("range" : Str) .globalImplicit && f a (t.c 1) && f b (t.c 2)
  | .rev e => kindIs C.sc ("reversed" : Str) .globalImplicit && f e (t.c 1)
noncomputable def compOk (C : Cx) (csc : Scope) (xn : Str) : Bool :=
  csc.kind == .function && csc.names.all (fun y => y.2 != .cell) && csc.names.all (fun y => y.2 != .local || kindIs csc y.1 .local) && kindIs csc xn .local && csc.names.all (fun y => y.2 != .free || kindIs C.sc y.1 .cell)
noncomputable def xOf : Lv → Str
  | none => ""
  | some (_, x) => x
noncomputable def toE (G : List Str) (C : Cx) : Nat → Lv → ME → PT → Expr
  | 0, _, _, t => .Name "" t.p
  | n + 1, k, m, t => match m with
    | .loc i => .Name (nmAt C i) t.p
    | .cel i => .Name (nmAt C i) t.p
    | .cvr => .Name (xOf k) t.p
    | .int i => .Constant (.int i) t.k t.p
    | .bool b => .Constant (.bool b) t.k t.p
    | .neg i => .UnaryOp .USub (.Constant (.int i) (t.c 0).k (t.c 0).p) t.p
    | .bin op l r => .BinOp (toE G C n k l (t.c 0)) (bop op) (toE G C n k r (t.c 1)) t.p
    | .cmp op l r => .Compare (toE G C n k l (t.c 0)) [cop op] [toE G C n k r (t.c 1)] t.p
    | .ite a b c => .IfExp (toE G C n k a (t.c 0)) (toE G C n k b (t.c 1)) (toE G C n k c (t.c 2)) t.p
    | .conj es => .BoolOp .And (toL (toE G C n k) es t.ch) t.p
    | .disj es => .BoolOp .Or (toL (toE G C n k) es t.ch) t.p
    | .sub e i => .Subscript (toE G C n k e (t.c 0)) (toE G C n k i (t.c 1)) t.p
    | .slc e lo hi => .Subscript (toE G C n k e (t.c 0)) (.Slice (lo.map fun l => toE G C n k l ((t.c 1).c 0)) (hi.map fun h => toE G C n k h ((t.c 1).c 1)) none (t.c 1).p) t.p
    | .rev e => .Subscript (toE G C n k e (t.c 0)) (.Slice none none (some (.UnaryOp .USub (.Constant (.int 1) (((t.c 1).c 2).c 0).k (((t.c 1).c 2).c 0).p) ((t.c 1).c 2).p)) (t.c 1).p) t.p
    | .tup es => .Tuple (toL (toE G C n k) es t.ch) t.k t.p
    | .lst es => .List (toL (toE G C n k) es t.ch) t.p
    | .call f es => .Call (.Name ((G[f]?).getD "") (t.c 0).p) (toL (toE G C n k) es t.ch.tail) [] t.p
    | .blt b es => .Call (.Name (bnm b) (t.c 0).p) (toL (toE G C n k) es t.ch.tail) [] t.p
    | .comp elt it => .ListComp (toE G C n (some (t.sc, t.x)) elt (t.c 0)) [⟨.Name t.x (t.c 2).p, toI (toE G C n none) it (t.c 1), [], 0⟩] t.sc t.p
noncomputable def okE (G : List Str) (C : Cx) : Nat → Lv → ME → PT → Bool
  | 0, _, _, _ => false
  | n + 1, k, m, t => match m with
    | .loc i => k.isNone && nmOk C i .local && dbgOk (nmAt C i)
    | .cel i => nmOk C i .cell && dbgOk (nmAt C i) && (match k with
      | none => true
      | some (csc, _) => kindIs csc (nmAt C i) .free)
    | .cvr => k.isSome && dbgOk (xOf k)
    | .int _ => true
    | .bool _ => true
    | .neg _ => true
    | .bin _ l r => okE G C n k l (t.c 0) && okE G C n k r (t.c 1)
    | .cmp _ l r => okE G C n k l (t.c 0) && okE G C n k r (t.c 1)
    | .ite a b c => okE G C n k a (t.c 0) && okE G C n k b (t.c 1) && okE G C n k c (t.c 2)
    | .conj es => okL (okE G C n k) es t.ch
    | .disj es => okL (okE G C n k) es t.ch
    | .sub e i => okE G C n k e (t.c 0) && okE G C n k i (t.c 1)
    | .slc e lo hi => okE G C n k e (t.c 0) && (match hi with
      | none => false
      | some h => okE G C n k h ((t.c 1).c 1)) && (match lo with
      | none => true
      | some l => okE G C n k l ((t.c 1).c 0))
    | .rev e => okE G C n k e (t.c 0)
    | .tup es => okL (okE G C n k) es t.ch
    | .lst es => okL (okE G C n k) es t.ch
    | .call f es => (G[f]?).isSome && kindIs (scOf C k) ((G[f]?).getD "") .globalImplicit && dbgOk ((G[f]?).getD "") && !es.isEmpty && okL (okE G C n k) es t.ch.tail
    | .blt b es => kindIs (scOf C k) (bnm b) .globalImplicit && !es.isEmpty && okL (okE G C n k) es t.ch.tail
    | .comp elt it => k.isNone && compOk C t.sc t.x && okE G C n (some (t.sc, t.x)) elt (t.c 0) && okI C (okE G C n none) it (t.c 1)
theorem marks_op (op : COp) (e : Expr) : behindInMarks (cop op) e = false := by
  unfold behindInMarks
  split
  · cases op <;> simp [cop]
  · rfl
theorem gAt {G : List Str} {f : Nat} (h : (G[f]?).isSome = true) : G[f]? = some ((G[f]?).getD "") := by
  obtain ⟨x, hx⟩ := Option.isSome_iff_exists.mp h
  rw [hx]; rfl
/-! ## The relation: the text is what the term prints -/
noncomputable def Py (G : List Str) (C : Cx) (k : Lv) (m : ME) (e : Expr) : Prop := ∃ n t, okE G C n k m t = true ∧ e = toE G C n k m t
noncomputable def PyL (G : List Str) (C : Cx) (k : Lv) (ms : List ME) (es : List Expr) : Prop := ∃ n t, okL (okE G C n k) ms t = true ∧ es = toL (toE G C n k) ms t
noncomputable def PyI (G : List Str) (C : Cx) (m : MI) (e : Expr) : Prop := ∃ n t, okI C (okE G C n none) m t = true ∧ e = toI (toE G C n none) m t
inductive PyF (G : List Str) (C : Cx) : Lv → ME → Expr → Prop
  | loc {x : Nat} {nm : Str} {p : Pos} : C.nms[x]? = some nm → C.sc.names.lookup nm = some .local → Dbg nm → PyF G C none (.loc x) (.Name nm p)
  | cel {x : Nat} {nm : Str} {p : Pos} : C.nms[x]? = some nm → C.sc.names.lookup nm = some .cell → Dbg nm → PyF G C none (.cel x) (.Name nm p)
  | fre {csc : Scope} {xn : Str} {x : Nat} {nm : Str} {p : Pos} : C.nms[x]? = some nm → C.sc.names.lookup nm = some .cell → csc.names.lookup nm = some .free → Dbg nm → PyF G C (some (csc, xn)) (.cel x) (.Name nm p)
  | cvr {csc : Scope} {xn : Str} {p : Pos} : Dbg xn → PyF G C (some (csc, xn)) .cvr (.Name xn p)
  | int {k : Lv} {i : Int} {kk : Nat} {p : Pos} : PyF G C k (.int i) (.Constant (.int i) kk p)
  | bool {k : Lv} {b : Bool} {kk : Nat} {p : Pos} : PyF G C k (.bool b) (.Constant (.bool b) kk p)
  | neg {k : Lv} {i : Int} {kk : Nat} {p p' : Pos} : PyF G C k (.neg i) (.UnaryOp .USub (.Constant (.int i) kk p) p')
  | bin {k : Lv} {op : BOp} {l r : ME} {l' r' : Expr} {p : Pos} : Py G C k l l' → Py G C k r r' → PyF G C k (.bin op l r) (.BinOp l' (bop op) r' p)
  | cmp {k : Lv} {op : COp} {l r : ME} {l' r' : Expr} {p : Pos} : Py G C k l l' → Py G C k r r' → PyF G C k (.cmp op l r) (.Compare l' [cop op] [r'] p)
  | ite {k : Lv} {t a b : ME} {t' a' b' : Expr} {p : Pos} : Py G C k t t' → Py G C k a a' → Py G C k b b' → PyF G C k (.ite t a b) (.IfExp t' a' b' p)
  | conj {k : Lv} {es : List ME} {es' : List Expr} {p : Pos} : PyL G C k es es' → PyF G C k (.conj es) (.BoolOp .And es' p)
  | disj {k : Lv} {es : List ME} {es' : List Expr} {p : Pos} : PyL G C k es es' → PyF G C k (.disj es) (.BoolOp .Or es' p)
  | sub {k : Lv} {e i : ME} {e' i' : Expr} {p : Pos} : Py G C k e e' → Py G C k i i' → PyF G C k (.sub e i) (.Subscript e' i' p)
  | slcU {k : Lv} {e h : ME} {e' h' : Expr} {p p' : Pos} : Py G C k e e' → Py G C k h h' → PyF G C k (.slc e none (some h)) (.Subscript e' (.Slice none (some h') none p) p')
  | slcB {k : Lv} {e l h : ME} {e' l' h' : Expr} {p p' : Pos} : Py G C k e e' → Py G C k l l' → Py G C k h h' → PyF G C k (.slc e (some l) (some h)) (.Subscript e' (.Slice (some l') (some h') none p) p')
  | rev {k : Lv} {e : ME} {e' : Expr} {kk : Nat} {p p1 p2 p' : Pos} : Py G C k e e' → PyF G C k (.rev e) (.Subscript e' (.Slice none none (some (.UnaryOp .USub (.Constant (.int 1) kk p1) p2)) p) p')
  | tup {k : Lv} {es : List ME} {es' : List Expr} {kk : Nat} {p : Pos} : PyL G C k es es' → PyF G C k (.tup es) (.Tuple es' kk p)
  | lst {k : Lv} {es : List ME} {es' : List Expr} {p : Pos} : PyL G C k es es' → PyF G C k (.lst es) (.List es' p)
  | call {k : Lv} {f : Nat} {nm : Str} {e : ME} {es : List ME} {e' : Expr} {es' : List Expr} {p p' : Pos} : G[f]? = some nm → (scOf C k).names.lookup nm = some .globalImplicit → Dbg nm → PyL G C k (e :: es) (e' :: es') → PyF G C k (.call f (e :: es)) (.Call (.Name nm p) (e' :: es') [] p')
  | blt {k : Lv} {b : Blt} {e : ME} {es : List ME} {e' : Expr} {es' : List Expr} {p p' : Pos} : (scOf C k).names.lookup (bnm b) = some .globalImplicit → PyL G C k (e :: es) (e' :: es') → PyF G C k (.blt b (e :: es)) (.Call (.Name (bnm b) p) (e' :: es') [] p')
  | comp {elt : ME} {it : MI} {elt' it' : Expr} {xn : Str} {px p : Pos} {csc : Scope} : PyI G C it it' → Py G C (some (csc, xn)) elt elt' → csc.kind = .function → (∀ y ∈ csc.names, y.2 ≠ .cell) → (∀ y ∈ csc.names, y.2 = .local → csc.names.lookup y.1 = some .local) → csc.names.lookup xn = some .local →
      (∀ y ∈ csc.names, y.2 = .free → C.sc.names.lookup y.1 = some .cell) → PyF G C none (.comp elt it) (.ListComp elt' [⟨.Name xn px, it', [], 0⟩] csc p)
inductive PyLF (G : List Str) (C : Cx) (k : Lv) : List ME → List Expr → Prop
  | nil : PyLF G C k [] []
  | cons {e : ME} {es : List ME} {e' : Expr} {es' : List Expr} : Py G C k e e' → PyL G C k es es' → PyLF G C k (e :: es) (e' :: es')
inductive PyIF (G : List Str) (C : Cx) : MI → Expr → Prop
  | lst {e : ME} {e' : Expr} : Py G C none e e' → PyIF G C (.lst e) e'
  | range1 {e : ME} {e' : Expr} {p p' : Pos} : C.sc.names.lookup ("range" : Str) = some .globalImplicit → Py G C none e e' → PyIF G C (.range1 e) (.Call (.Name ("range" : Str) p) [e'] [] p')
  | range2 {a b : ME} {a' b' : Expr} {p p' : Pos} : C.sc.names.lookup ("range" : Str) = some .globalImplicit → Py G C none a a' → Py G C none b b' → PyIF G C (.range2 a b) (.Call (.Name ("range" : Str) p) [a', b'] [] p')
  | rev {e : ME} {e' : Expr} {p p' : Pos} : C.sc.names.lookup ("reversed" : Str) = some .globalImplicit → Py G C none e e' → PyIF G C (.rev e) (.Call (.Name ("reversed" : Str) p) [e'] [] p')
theorem PyL.inv {G : List Str} {C : Cx} {k : Lv} {ms : List ME} {es : List Expr} (h : PyL G C k ms es) : PyLF G C k ms es := by
  obtain ⟨n, t, h, rfl⟩ := h
  cases ms with
  | nil => exact .nil
  | cons m ms =>
    obtain ⟨h1, h2⟩ := Bool.and_eq_true_iff.mp h
    exact .cons ⟨n, _, h1, rfl⟩ ⟨n, _, h2, rfl⟩
theorem PyI.inv {G : List Str} {C : Cx} {m : MI} {e : Expr} (h : PyI G C m e) : PyIF G C m e := by
  obtain ⟨n, t, h, rfl⟩ := h
  cases m with
  | lst e => exact .lst ⟨n, _, h, rfl⟩
  | range1 e =>
    obtain ⟨h1, h2⟩ := Bool.and_eq_true_iff.mp h
    exact .range1 (kindIs_ok h1) ⟨n, _, h2, rfl⟩
  | range2 a b =>
    obtain ⟨h12, h3⟩ := Bool.and_eq_true_iff.mp h
    obtain ⟨h1, h2⟩ := Bool.and_eq_true_iff.mp h12
    exact .range2 (kindIs_ok h1) ⟨n, _, h2, rfl⟩ ⟨n, _, h3, rfl⟩
  | rev e =>
    obtain ⟨h1, h2⟩ := Bool.and_eq_true_iff.mp h
    exact .rev (kindIs_ok h1) ⟨n, _, h2, rfl⟩
theorem Py.inv {G : List Str} {C : Cx} {k : Lv} {m : ME} {e : Expr} (h : Py G C k m e) : PyF G C k m e := by
  obtain ⟨n, t, h, rfl⟩ := h
  cases n with
  | zero => cases h
  | succ n =>
    cases m with
    | loc i =>
      obtain ⟨h12, h3⟩ := Bool.and_eq_true_iff.mp h
      obtain ⟨h1, h2⟩ := Bool.and_eq_true_iff.mp h12
      obtain ⟨a, b⟩ := nmOk_ok h2
      cases k with
      | none => exact .loc a b (dbg_ok h3)
      | some k => cases h1
    | cel i =>
      obtain ⟨h12, h3⟩ := Bool.and_eq_true_iff.mp h
      obtain ⟨h1, h2⟩ := Bool.and_eq_true_iff.mp h12
      obtain ⟨a, b⟩ := nmOk_ok h1
      cases k with
      | none => exact .cel a b (dbg_ok h2)
      | some k => exact .fre (csc := k.1) (xn := k.2) a b (kindIs_ok h3) (dbg_ok h2)
    | cvr =>
      obtain ⟨h1, h2⟩ := Bool.and_eq_true_iff.mp h
      cases k with
      | none => cases h1
      | some k => exact .cvr (dbg_ok h2)
    | int i => exact .int
    | bool b => exact .bool
    | neg i => exact .neg
    | bin op l r =>
      obtain ⟨h1, h2⟩ := Bool.and_eq_true_iff.mp h
      exact .bin ⟨n, _, h1, rfl⟩ ⟨n, _, h2, rfl⟩
    | cmp op l r =>
      obtain ⟨h1, h2⟩ := Bool.and_eq_true_iff.mp h
      exact .cmp ⟨n, _, h1, rfl⟩ ⟨n, _, h2, rfl⟩
    | ite a b c =>
      obtain ⟨h12, h3⟩ := Bool.and_eq_true_iff.mp h
      obtain ⟨h1, h2⟩ := Bool.and_eq_true_iff.mp h12
      exact .ite ⟨n, _, h1, rfl⟩ ⟨n, _, h2, rfl⟩ ⟨n, _, h3, rfl⟩
    | conj es => exact .conj ⟨n, _, h, rfl⟩
    | disj es => exact .disj ⟨n, _, h, rfl⟩
    | sub e i =>
      obtain ⟨h1, h2⟩ := Bool.and_eq_true_iff.mp h
      exact .sub ⟨n, _, h1, rfl⟩ ⟨n, _, h2, rfl⟩
    | slc e lo hi =>
      obtain ⟨h12, h3⟩ := Bool.and_eq_true_iff.mp h
      obtain ⟨h1, h2⟩ := Bool.and_eq_true_iff.mp h12
      cases hi with
      | none => cases h2
      | some hi =>
        cases lo with
        | none => exact .slcU ⟨n, _, h1, rfl⟩ ⟨n, _, h2, rfl⟩
        | some lo => exact .slcB ⟨n, _, h1, rfl⟩ ⟨n, _, h3, rfl⟩ ⟨n, _, h2, rfl⟩
    | rev e => exact .rev ⟨n, _, h, rfl⟩
    | tup es => exact .tup ⟨n, _, h, rfl⟩
    | lst es => exact .lst ⟨n, _, h, rfl⟩
    | call f es =>
      obtain ⟨h1234, h5⟩ := Bool.and_eq_true_iff.mp h
      obtain ⟨h123, h4⟩ := Bool.and_eq_true_iff.mp h1234
      obtain ⟨h12, h3⟩ := Bool.and_eq_true_iff.mp h123
      obtain ⟨h1, h2⟩ := Bool.and_eq_true_iff.mp h12
      cases es with
      | nil => cases h4
      | cons e es => exact .call (gAt h1) (kindIs_ok h2) (dbg_ok h3) ⟨n, _, h5, rfl⟩
    | blt b es =>
      obtain ⟨h12, h3⟩ := Bool.and_eq_true_iff.mp h
      obtain ⟨h1, h2⟩ := Bool.and_eq_true_iff.mp h12
      cases es with
      | nil => cases h2
      | cons e es => exact .blt (kindIs_ok h1) ⟨n, _, h3, rfl⟩
    | comp elt it =>
      obtain ⟨h123, h4⟩ := Bool.and_eq_true_iff.mp h
      obtain ⟨h12, h3⟩ := Bool.and_eq_true_iff.mp h123
      obtain ⟨h1, q⟩ := Bool.and_eq_true_iff.mp h12
      cases k with
      | some k => cases h1
      | none =>
        unfold compOk at q
        simp only [Bool.and_eq_true, List.all_eq_true, Bool.or_eq_true, bne_iff_ne, beq_iff_eq] at q
        obtain ⟨⟨⟨⟨q1, q2⟩, q3⟩, q4⟩, q5⟩ := q
        exact .comp ⟨n, _, h4, rfl⟩ ⟨n, _, h3, rfl⟩ q1 q2 (fun y hy e => kindIs_ok ((q3 y hy).resolve_left fun z => z e)) (kindIs_ok q4) (fun y hy e => kindIs_ok ((q5 y hy).resolve_left fun z => z e))
noncomputable def notComp : ME → Bool
  | .comp _ _ => false
  | _ => true
theorem Py.safe {G : List Str} {C : Cx} {k : Lv} {m : ME} {e : Expr} (h : Py G C k m e) : (∀ rest env, starEach (e :: rest) env = (false, eval e env) :: starEach rest env) ∧ (∀ o v, subscripted e false o v = operate [o, v] (getItem o v)) ∧ (∀ env x, foldedSetIterable e env x = pure x) ∧
    (∀ ov iv nv, augStore e ov iv nv = (do holding [nv, ov, iv] (setItem ov iv nv); release [nv, ov, iv] []; pure .next)) ∧ (notComp m = true → ∀ q l env, swapsWith e q l env = pure false) := by
  obtain ⟨n, t, h, rfl⟩ := h
  cases n with
  | zero => cases h
  | succ n => cases m <;> first | exact ⟨fun _ _ => rfl, fun _ _ => rfl, fun _ _ => rfl, fun _ _ _ => rfl, fun _ _ _ _ => rfl⟩ | exact ⟨fun _ _ => rfl, fun _ _ => rfl, fun _ _ => rfl, fun _ _ _ => rfl, fun q => by cases q⟩
theorem Py.star {G : List Str} {C : Cx} {k : Lv} {m : ME} {e : Expr} (h : Py G C k m e) (rest : List Expr) (env : Env) : starEach (e :: rest) env = (false, eval e env) :: starEach rest env := h.safe.1 rest env
/-! ## Statements -/
noncomputable def notStar : Expr → Bool
  | .Starred .. => false
  | _ => true
noncomputable def sw2 (C : Cx) (nx ny : Str) (px py : Pos) (es' : List Expr) : Bool :=
  C.sc.kind == .function && kindIs C.sc nx .local && kindIs C.sc ny .local && px.line == py.line && !(nx == ny) && es'.length == 2 && es'.all notStar && !(es'.all (foldedForSure 8)) && !(es'.all (constantsAlone 8))
theorem sw2_ok {C : Cx} {nx ny : Str} {px py p p' : Pos} {kk kk' : Nat} {es' : List Expr} (h : sw2 C nx ny px py es' = true) : ∀ env : Env, env.scope = C.sc → swappedStores [.Tuple [.Name nx px, .Name ny py] kk p] (.Tuple es' kk' p') env = pure (some [nx, ny]) := by
  intro env he
  unfold sw2 at h
  simp only [Bool.and_eq_true, Bool.not_eq_true', beq_iff_eq] at h
  obtain ⟨⟨⟨⟨⟨⟨⟨⟨h1, h2⟩, h3⟩, h4⟩, h5⟩, h6⟩, h7⟩, h8⟩, h9⟩ := h
  have k1 : env.kindOf nx = some .local := by unfold Env.kindOf; rw [he]; exact kindIs_ok h2
  have k2 : env.kindOf ny = some .local := by unfold Env.kindOf; rw [he]; exact kindIs_ok h3
  have k3 : env.blockKind = .function := by unfold Env.blockKind; rw [he, h1]; rfl
  have hy : (nx == ny) = false := h5
  unfold swappedStores
  simp only [List.length_cons, List.length_nil, h6, k3, h8, h9, List.head?_cons, Option.map_some, Option.getD_some, show (Expr.Name nx px).pos = px from rfl, List.filterMap_cons, List.filterMap_nil, k1, k2, h4]
  have hd : ([nx, ny] : List Str).eraseDups.length = 2 := by
    rw [List.eraseDups_cons]
    have : List.filter (fun b => !b == nx) [ny] = [ny] := by
      have hy' : (ny == nx) = false := by
        cases q : (ny == nx) with
        | false => rfl
        | true => rw [eq_of_beq q] at hy; simp at hy
      simp [hy']
    rw [this, List.eraseDups_cons]
    rfl
  simp [hd]
  intro x hx hs
  have := List.all_eq_true.mp h7 x hx
  cases x <;> first | (cases hs; done) | (cases this; done)
theorem swF_ok {nx ny : Str} {px py p p' : Pos} {kk kk' : Nat} {es' : List Expr} (h : es'.all (foldedForSure 8) = true) : ∀ env : Env, swappedStores [.Tuple [.Name nx px, .Name ny py] kk p] (.Tuple es' kk' p') env = pure none := by
  intro env
  unfold swappedStores
  simp only [h, if_true, ite_self]
theorem swC_ok {C : Cx} {nx ny : Str} {px py p p' : Pos} {kk kk' : Nat} {es' : List Expr} (h : kindIs C.sc nx .cell = true) : ∀ env : Env, env.scope = C.sc → swappedStores [.Tuple [.Name nx px, .Name ny py] kk p] (.Tuple es' kk' p') env = pure none := by
  intro env he
  have k1 : env.kindOf nx = some .cell := by unfold Env.kindOf; rw [he]; exact kindIs_ok h
  have k1' : (env.kindOf nx == some .local) = false := by rw [k1]; rfl
  unfold swappedStores
  simp only [List.length_cons, List.length_nil, List.filterMap_cons, List.filterMap_nil, k1', Bool.false_and, Bool.false_eq_true, if_false, List.head?_cons, Option.map_some, Option.getD_some, show (Expr.Name nx px).pos = px from rfl]
  cases (env.kindOf ny == some NameKind.local && py.line == px.line : Bool) <;> simp only [Bool.false_eq_true, if_true, if_false, List.length_cons, List.length_nil, show ((0 : Nat) != 0 + 1 + 1) = true from rfl, show ((0 + 1 : Nat) != 0 + 1 + 1) = true from rfl, Bool.true_or, ite_self]
noncomputable def toSs (f : MS → PT → Stmt) : List MS → List PT → List Stmt
  | [], _ => []
  | m :: ms, ts => f m (ts.headD dT) :: toSs f ms ts.tail
noncomputable def okSs (f : MS → PT → Bool) : List MS → List PT → Bool
  | [], _ => true
  | m :: ms, ts => f m (ts.headD dT) && okSs f ms ts.tail
noncomputable def toS (G : List Str) (C : Cx) : Nat → MS → PT → Stmt
  | 0, _, t => .Pass t.p
  | n + 1, s, t => match s with
    | .asg x e => .Assign [.Name (nmAt C x) ((t.c 0).c 0).p] (toE G C n none e (t.c 1)) t.p
    | .tasg xs es => match xs with
      | [(_, x), (_, y)] => .Assign [.Tuple [.Name (nmAt C x) (((t.c 0).c 0).c 0).p, .Name (nmAt C y) (((t.c 0).c 0).c 1).p] ((t.c 0).c 0).k ((t.c 0).c 0).p] (.Tuple (toL (toE G C n none) es (t.c 1).ch) (t.c 1).k (t.c 1).p) t.p
      | _ => .Pass t.p
    | .aug x op e => .AugAssign (.Name (nmAt C x) (t.c 0).p) (bop op) (toE G C n none e (t.c 1)) t.p
    | .augsub o i op e => .AugAssign (.Subscript (toE G C n none o ((t.c 0).c 0)) (toE G C n none i ((t.c 0).c 1)) (t.c 0).p) (bop op) (toE G C n none e (t.c 1)) t.p
    | .app x e => .Expr (.Call (.Attribute (.Name (nmAt C x) (((t.c 0).c 0).c 0).p) "append" ((t.c 0).c 0).p) [toE G C n none e ((t.c 0).c 1)] [] (t.c 0).p) t.p
    | .ifs q a b => .If (toE G C n none q (t.c 0)) (toSs (toS G C n) a (t.c 1).ch) (toSs (toS G C n) b (t.c 2).ch) t.p
    | .whl q b => .While (toE G C n none q (t.c 0)) (toSs (toS G C n) b (t.c 1).ch) [] t.p
    | .for1 x it b => .For (.Name (nmAt C x) (t.c 0).p) (toI (toE G C n none) it (t.c 1)) (toSs (toS G C n) b (t.c 2).ch) [] t.p
    | .for2 x y e b => .For (.Tuple [.Name (nmAt C x) ((t.c 0).c 0).p, .Name (nmAt C y) ((t.c 0).c 1).p] (t.c 0).k (t.c 0).p) (.Call (.Name ("enumerate" : Str) ((t.c 1).c 0).p) [toE G C n none e ((t.c 1).c 1)] [] (t.c 1).p) (toSs (toS G C n) b (t.c 2).ch) [] t.p
    | .ret e => .Return (some (toE G C n none e (t.c 0))) t.p
    | .opq => (t.st.head?).getD (.Pass t.p)
noncomputable def okT (G : List Str) (C : Cx) (n : Nat) (xs : List (Bool × Nat)) (es : List ME) (t : PT) : Bool := match xs with
  | [(bx, x), (cy, y)] => okL (okE G C n none) es (t.c 1).ch && nmOk C x (kd bx) && nmOk C y (kd cy) &&
    (if sw2 C (nmAt C x) (nmAt C y) (((t.c 0).c 0).c 0).p (((t.c 0).c 0).c 1).p (toL (toE G C n none) es (t.c 1).ch) then !bx && !cy && !(x == y)
     else (toL (toE G C n none) es (t.c 1).ch).all (foldedForSure 8) || kindIs C.sc (nmAt C x) .cell)
  | _ => false
noncomputable def okS (G : List Str) (C : Cx) : Nat → MS → PT → Bool
  | 0, _, _ => false
  | n + 1, s, t => match s with
    | .asg x e => nmOk C x .local && notComp e && okE G C n none e (t.c 1)
    | .tasg xs es => okT G C n xs es t
    | .aug x _ e => nmOk C x .local && okE G C n none e (t.c 1)
    | .augsub o i _ e => okE G C n none o ((t.c 0).c 0) && okE G C n none i ((t.c 0).c 1) && okE G C n none e (t.c 1)
    | .app x e => nmOk C x .local && dbgOk (nmAt C x) && !(nmAt C x == ("super" : Str)) && ((t.c 0).c 0).p.endLine == (t.c 0).p.line && okE G C n none e ((t.c 0).c 1)
    | .ifs q a b => okE G C n none q (t.c 0) && okSs (okS G C n) a (t.c 1).ch && okSs (okS G C n) b (t.c 2).ch
    | .whl q b => okE G C n none q (t.c 0) && okSs (okS G C n) b (t.c 1).ch
    | .for1 x it b => nmOk C x .local && okI C (okE G C n none) it (t.c 1) && okSs (okS G C n) b (t.c 2).ch
    | .for2 x y e b => nmOk C x .local && nmOk C y .local && kindIs C.sc ("enumerate" : Str) .globalImplicit && okE G C n none e ((t.c 1).c 1) && okSs (okS G C n) b (t.c 2).ch
    | .ret e => okE G C n none e (t.c 0)
    | .opq => true
noncomputable def PyS (G : List Str) (C : Cx) (m : MS) (s : Stmt) : Prop := ∃ n t, okS G C n m t = true ∧ s = toS G C n m t
noncomputable def PySs (G : List Str) (C : Cx) (ms : List MS) (ss : List Stmt) : Prop := ∃ n t, okSs (okS G C n) ms t = true ∧ ss = toSs (toS G C n) ms t
inductive PySF (G : List Str) (C : Cx) : MS → Stmt → Prop
  | asg {x : Nat} {nm : Str} {e : ME} {e' : Expr} {p p' : Pos} : C.nms[x]? = some nm → C.sc.names.lookup nm = some .local → Py G C none e e' → (∀ env, swapsWith e' (some (.Name nm p)) p'.line env = pure false) → PySF G C (.asg x e) (.Assign [.Name nm p] e' p')
  | tas2 {x y : Nat} {nx ny : Str} {es : List ME} {es' : List Expr} {kk kk' : Nat} {px py p p' p2 : Pos} : C.nms[x]? = some nx → C.nms[y]? = some ny → C.sc.names.lookup nx = some .local → C.sc.names.lookup ny = some .local → x ≠ y → PyL G C none es es' →
      (∀ env : Env, env.scope = C.sc → swappedStores [.Tuple [.Name nx px, .Name ny py] kk p] (.Tuple es' kk' p') env = pure (some [nx, ny])) → PySF G C (.tasg [(false, x), (false, y)] es) (.Assign [.Tuple [.Name nx px, .Name ny py] kk p] (.Tuple es' kk' p') p2)
  | tasg {bx cy : Bool} {x y : Nat} {nx ny : Str} {es : List ME} {es' : List Expr} {kk kk' : Nat} {px py p p' p2 : Pos} : C.nms[x]? = some nx → C.nms[y]? = some ny → C.sc.names.lookup nx = some (kd bx) → C.sc.names.lookup ny = some (kd cy) → PyL G C none es es' →
      (∀ env : Env, env.scope = C.sc → swappedStores [.Tuple [.Name nx px, .Name ny py] kk p] (.Tuple es' kk' p') env = pure none) → PySF G C (.tasg [(bx, x), (cy, y)] es) (.Assign [.Tuple [.Name nx px, .Name ny py] kk p] (.Tuple es' kk' p') p2)
  | aug {x : Nat} {nm : Str} {op : BOp} {e : ME} {e' : Expr} {p p' : Pos} : C.nms[x]? = some nm → C.sc.names.lookup nm = some .local → Py G C none e e' → PySF G C (.aug x op e) (.AugAssign (.Name nm p) (bop op) e' p')
  | augsub {o i e : ME} {op : BOp} {o' i' e' : Expr} {p p' : Pos} : Py G C none o o' → Py G C none i i' → Py G C none e e' → PySF G C (.augsub o i op e) (.AugAssign (.Subscript o' i' p) (bop op) e' p')
  | app {x : Nat} {nm : Str} {e : ME} {e' : Expr} {p pa pc pe : Pos} : C.nms[x]? = some nm → C.sc.names.lookup nm = some .local → Dbg nm → nm ≠ ("super" : Str) → pa.endLine = pc.line → Py G C none e e' → PySF G C (.app x e) (.Expr (.Call (.Attribute (.Name nm p) "append" pa) [e'] [] pc) pe)
  | ifs {t : ME} {a b : List MS} {t' : Expr} {a' b' : List Stmt} {p : Pos} : Py G C none t t' → PySs G C a a' → PySs G C b b' → PySF G C (.ifs t a b) (.If t' a' b' p)
  | whl {t : ME} {b : List MS} {t' : Expr} {b' : List Stmt} {p : Pos} : Py G C none t t' → PySs G C b b' → PySF G C (.whl t b) (.While t' b' [] p)
  | for1 {x : Nat} {nm : Str} {it : MI} {b : List MS} {it' : Expr} {b' : List Stmt} {p p' : Pos} : C.nms[x]? = some nm → C.sc.names.lookup nm = some .local → PyI G C it it' → PySs G C b b' → PySF G C (.for1 x it b) (.For (.Name nm p) it' b' [] p')
  | for2 {x y : Nat} {nx ny : Str} {e : ME} {b : List MS} {e' : Expr} {b' : List Stmt} {kk : Nat} {px py pt pn pc p' : Pos} : C.nms[x]? = some nx → C.nms[y]? = some ny → C.sc.names.lookup nx = some .local → C.sc.names.lookup ny = some .local → C.sc.names.lookup ("enumerate" : Str) = some .globalImplicit → Py G C none e e' → PySs G C b b' →
      PySF G C (.for2 x y e b) (.For (.Tuple [.Name nx px, .Name ny py] kk pt) (.Call (.Name ("enumerate" : Str) pn) [e'] [] pc) b' [] p')
  | ret {e : ME} {e' : Expr} {p : Pos} : Py G C none e e' → PySF G C (.ret e) (.Return (some e') p)
  | opq {s : Stmt} : PySF G C .opq s
inductive PySsF (G : List Str) (C : Cx) : List MS → List Stmt → Prop
  | nil : PySsF G C [] []
  | cons {s : MS} {ss : List MS} {s' : Stmt} {ss' : List Stmt} : PyS G C s s' → PySs G C ss ss' → PySsF G C (s :: ss) (s' :: ss')
theorem PySs.invF {G : List Str} {C : Cx} {ms : List MS} {ss : List Stmt} (h : PySs G C ms ss) : PySsF G C ms ss := by
  obtain ⟨n, t, h, rfl⟩ := h
  cases ms with
  | nil => exact .nil
  | cons m ms =>
    obtain ⟨h1, h2⟩ := Bool.and_eq_true_iff.mp h
    exact .cons ⟨n, _, h1, rfl⟩ ⟨n, _, h2, rfl⟩
theorem PySs.inv {G : List Str} {C : Cx} {s : MS} {ss : List MS} {x : Stmt} {xs : List Stmt} (h : PySs G C (s :: ss) (x :: xs)) : PyS G C s x ∧ PySs G C ss xs := by
  cases h.invF with
  | cons a b => exact ⟨a, b⟩
theorem okT_ok {G : List Str} {C : Cx} {n : Nat} {xs : List (Bool × Nat)} {es : List ME} {t : PT} (h : okT G C n xs es t = true) : PySF G C (.tasg xs es) (toS G C (n + 1) (.tasg xs es) t) := by
  unfold okT at h
  split at h
  · rename_i bx x cy y
    obtain ⟨h123, h4⟩ := Bool.and_eq_true_iff.mp h
    obtain ⟨h12, h3⟩ := Bool.and_eq_true_iff.mp h123
    obtain ⟨h1, h2⟩ := Bool.and_eq_true_iff.mp h12
    have pl : PyL G C none es _ := ⟨n, _, h1, rfl⟩
    obtain ⟨a1, a2⟩ := nmOk_ok h2
    obtain ⟨b1, b2⟩ := nmOk_ok h3
    split at h4
    · rename_i hs
      obtain ⟨q12, q3⟩ := Bool.and_eq_true_iff.mp h4
      obtain ⟨q1, q2⟩ := Bool.and_eq_true_iff.mp q12
      cases bx with
      | true => cases q1
      | false =>
        cases cy with
        | true => cases q2
        | false => exact .tas2 a1 b1 a2 b2 (fun z => by rw [z, beq_self_eq_true] at q3; cases q3) pl (sw2_ok hs)
    · refine .tasg a1 b1 a2 b2 pl ?_
      rcases Bool.or_eq_true_iff.mp h4 with q | q
      · exact fun env _ => swF_ok q env
      · exact swC_ok q
  · cases h
theorem PyS.inv {G : List Str} {C : Cx} {m : MS} {s : Stmt} (h : PyS G C m s) : PySF G C m s := by
  obtain ⟨n, t, h, rfl⟩ := h
  cases n with
  | zero => cases h
  | succ n =>
    cases m with
    | asg x e =>
      obtain ⟨h12, h3⟩ := Bool.and_eq_true_iff.mp h
      obtain ⟨h1, h2⟩ := Bool.and_eq_true_iff.mp h12
      obtain ⟨a1, a2⟩ := nmOk_ok h1
      exact .asg a1 a2 ⟨n, _, h3, rfl⟩ ((Py.safe (k := none) ⟨n, _, h3, rfl⟩).2.2.2.2 h2 _ _)
    | tasg xs es => exact okT_ok h
    | aug x op e =>
      obtain ⟨h1, h2⟩ := Bool.and_eq_true_iff.mp h
      obtain ⟨a1, a2⟩ := nmOk_ok h1
      exact .aug a1 a2 ⟨n, _, h2, rfl⟩
    | augsub o i op e =>
      obtain ⟨h12, h3⟩ := Bool.and_eq_true_iff.mp h
      obtain ⟨h1, h2⟩ := Bool.and_eq_true_iff.mp h12
      exact .augsub ⟨n, _, h1, rfl⟩ ⟨n, _, h2, rfl⟩ ⟨n, _, h3, rfl⟩
    | app x e =>
      obtain ⟨h1234, h5⟩ := Bool.and_eq_true_iff.mp h
      obtain ⟨h123, h4⟩ := Bool.and_eq_true_iff.mp h1234
      obtain ⟨h12, h3⟩ := Bool.and_eq_true_iff.mp h123
      obtain ⟨h1, h2⟩ := Bool.and_eq_true_iff.mp h12
      obtain ⟨a1, a2⟩ := nmOk_ok h1
      exact .app a1 a2 (dbg_ok h2) (fun z => by rw [z, beq_self_eq_true] at h3; cases h3) (eq_of_beq h4) ⟨n, _, h5, rfl⟩
    | ifs q a b =>
      obtain ⟨h12, h3⟩ := Bool.and_eq_true_iff.mp h
      obtain ⟨h1, h2⟩ := Bool.and_eq_true_iff.mp h12
      exact .ifs ⟨n, _, h1, rfl⟩ ⟨n, _, h2, rfl⟩ ⟨n, _, h3, rfl⟩
    | whl q b =>
      obtain ⟨h1, h2⟩ := Bool.and_eq_true_iff.mp h
      exact .whl ⟨n, _, h1, rfl⟩ ⟨n, _, h2, rfl⟩
    | for1 x it b =>
      obtain ⟨h12, h3⟩ := Bool.and_eq_true_iff.mp h
      obtain ⟨h1, h2⟩ := Bool.and_eq_true_iff.mp h12
      obtain ⟨a1, a2⟩ := nmOk_ok h1
      exact .for1 a1 a2 ⟨n, _, h2, rfl⟩ ⟨n, _, h3, rfl⟩
    | for2 x y e b =>
      obtain ⟨h1234, h5⟩ := Bool.and_eq_true_iff.mp h
      obtain ⟨h123, h4⟩ := Bool.and_eq_true_iff.mp h1234
      obtain ⟨h12, h3⟩ := Bool.and_eq_true_iff.mp h123
      obtain ⟨h1, h2⟩ := Bool.and_eq_true_iff.mp h12
      obtain ⟨a1, a2⟩ := nmOk_ok h1
      obtain ⟨b1, b2⟩ := nmOk_ok h2
      exact .for2 a1 b1 a2 b2 (kindIs_ok h3) ⟨n, _, h4, rfl⟩ ⟨n, _, h5, rfl⟩
    | ret e => exact .ret ⟨n, _, h, rfl⟩
    | opq => exact .opq
theorem isText_ok {G : List Str} {C : Cx} {ms : List MS} {ss : List Stmt} (h1 : okSs (okS G C 40) ms (ss.map (ptS 40)) = true) (h2 : toSs (toS G C 40) ms (ss.map (ptS 40)) = ss) : PySs G C ms ss := ⟨40, _, h1, h2.symm⟩
end Mine
end
section
open PySem PySem.W PySem.Calls PyProof.Rows
namespace Mine
/-! ## What is known of the world and of the environment -/
noncomputable def bltAll : List (Str × Value) := [("len", .builtin "len"), ("max", .builtin "max"), ("abs", .builtin "abs"), ("list", .type "list"), ("sum", .builtin "sum"), ("range", .type "range"), ("reversed", .type "reversed"), ("enumerate", .type "enumerate")]
/-- a def's text and its small form -/
structure FnS (G : List Str) (nm : Str) (params : Arguments) (body : List Stmt) (scope : Scope) (fd : FD) : Prop where
  ex : ∃ nms : List Str, nms.Nodup ∧ nms.length = fd.ns ∧ fd.np ≤ fd.ns ∧ PySs G ⟨scope, nms⟩ fd.body body ∧
    (∀ (pm cd doc : Value) (vals : List Value), vals.length = fd.np → bindArgs (docDef nm params body scope pm cd doc) ⟨vals, []⟩ = pure ((nms.take fd.np).zip vals)) ∧
    (∀ x ∈ nms, scope.names.lookup x = some .local ∨ (scope.names.lookup x = some .cell ∧ x ∈ fd.cells.filterMap (nms[·]?))) ∧
    (cellsFrom 0 scope.names []).map (·.1) = fd.cells.filterMap (nms[·]?) ∧ fd.cells.Nodup ∧ (∀ x ∈ fd.cells, x < fd.np) ∧ (∀ x ∈ fd.cells.filterMap (nms[·]?), scope.names.lookup x = some .cell)
  kf : scope.kind = .function
  co : scope.isCoroutine = false
  ge : scope.isGenerator = false
structure Base (mg mb : Str → Option Value) (G : List Str) (Fn : List FD) (h₀ : Heap) : Prop where
  g : h₀.Ns mainGlobals mg
  b : h₀.Ns builtinsNs mb
  nl : h₀.NoLimit
  blt : ∀ nm v, (nm, v) ∈ bltAll → mg nm = none ∧ mb nm = some v
  fn : ∀ (f : Nat) (nm : Str) (fd : FD), G[f]? = some nm → Fn[f]? = some fd → ∃ a o params body scope pm cd doc, mg nm = some (.ref a) ∧ h₀.get? a = some o ∧ o.data = .func (docDef nm params body scope pm cd doc) ∧ h₀.CodeRec cd nm ∧ FnS G nm params body scope fd
theorem Base.keeps {mg mb : Str → Option Value} {G : List Str} {Fn : List FD} {h₀ h : Heap} (B : Base mg mb G Fn h₀) (k : ∀ b o, h₀.get? b = some o → h.get? b = some o) : Base mg mb G Fn h where
  g := B.g.keeps k
  b := B.b.keeps k
  nl := B.nl.keeps k
  blt := B.blt
  fn := fun f nm fd e1 e2 => by
    obtain ⟨a, o, params, body, scope, pm, cd, doc, h1, h2, h3, h4, h5⟩ := B.fn f nm fd e1 e2
    exact ⟨a, o, params, body, scope, pm, cd, doc, h1, k _ _ h2, h3, h4.keeps k, h5⟩
structure AOk (A : Around) (n : Nat) : Prop where
  hd : A.handled = none
  dp : A.depth + n < recursionLimit
  un : A.units + 8 * n + 64 < cLine
theorem AOk.less {A : Around} {n : Nat} (h : AOk A (n + 1)) : AOk A n := ⟨h.hd, by have := h.dp; omega, by have := h.un; omega⟩
structure Ev (C : Cx) (k : Lv) (L : Addr) (ext : List (Addr × Obj)) (cells : List (Str × Addr)) (as : List Addr) (cv : MV) (env : Env) : Prop where
  kf : env.scope.kind = .function
  gl : env.globals = mainGlobals
  bl : env.builtins = builtinsNs
  glob : ∀ nm, (scOf C k).names.lookup nm = some .globalImplicit → env.kindOf nm = some .globalImplicit
  cel : ∀ nm, C.sc.names.lookup nm = some .cell → ∃ c, cells.lookup nm = some c
  fn : k = none → env.scope = C.sc ∧ env.locals = L ∧ env.cells = cells
  co : ∀ csc xn, k = some (csc, xn) → (∃ Ca oC m₂ w, (Ca, oC) ∈ ext ∧ LCg.NsObj oC m₂ ∧ m₂ xn = some w ∧ VR as cv w ∧ env.locals = Ca ∧ env.kindOf xn = some .local) ∧
    ∀ nm c, C.sc.names.lookup nm = some .cell → csc.names.lookup nm = some .free → cells.lookup nm = some c → env.kindOf nm = some .cell ∧ env.cells.lookup nm = some c
theorem Ev.mono {C : Cx} {k : Lv} {L : Addr} {ext : List (Addr × Obj)} {cells : List (Str × Addr)} {as as' : List Addr} {cv : MV} {env : Env} (h : Ev C k L ext cells as cv env) (p : as <+: as') : Ev C k L ext cells as' cv env where
  kf := h.kf
  gl := h.gl
  bl := h.bl
  glob := h.glob
  cel := h.cel
  fn := h.fn
  co := fun csc xn e => by
    obtain ⟨⟨Ca, oC, m₂, w, h1, h2, h3, h4, h5⟩, q⟩ := h.co csc xn e
    exact ⟨⟨Ca, oC, m₂, w, h1, h2, h3, h4.mono p, h5⟩, q⟩
noncomputable def EnvR (C : Cx) (cells : List (Str × Addr)) (as : List Addr) (m : Str → Option Value) (ε : List MV) : Prop :=
  ∀ (x : Nat) (v : MV) (nm : Str), ε[x]? = some v → v ≠ .undef → C.nms[x]? = some nm →
    (C.sc.names.lookup nm = some .local → ∃ w, m nm = some w ∧ VR as v w) ∧ (C.sc.names.lookup nm = some .cell → ∃ j a, v = .ref j ∧ as[j]? = some a ∧ cells.lookup nm = some a)
theorem EnvR.mono {C : Cx} {cells : List (Str × Addr)} {as as' : List Addr} {m : Str → Option Value} {ε : List MV} (h : EnvR C cells as m ε) (p : as <+: as') : EnvR C cells as' m ε := fun x v nm e1 e2 e3 =>
  ⟨fun q => let ⟨w, a, b⟩ := (h x v nm e1 e2 e3).1 q; ⟨w, a, b.mono p⟩, fun q => let ⟨j, a, h1, h2, h3⟩ := (h x v nm e1 e2 e3).2 q; ⟨j, a, h1, pre_get p h2, h3⟩⟩
/-- one slot is stored anew -/
theorem EnvR.put {C : Cx} {cells : List (Str × Addr)} {as : List Addr} {m : Str → Option Value} {ε : List MV} (h : EnvR C cells as m ε) (nd : C.nms.Nodup) {x : Nat} {nm : Str} {v : MV} {w : Value} (hx : C.nms[x]? = some nm) (hl : C.sc.names.lookup nm = some .local) (r : VR as v w) :
    EnvR C cells as (fun y => if y = nm then some w else m y) (ε.set x v) := fun y v' nm' e1 e2 e3 => by
  by_cases hxy : y = x
  · subst hxy
    rw [hx] at e3; cases e3
    have hlen : y < ε.length := by
      have := (List.getElem?_eq_some_iff.mp e1).1
      rwa [List.length_set] at this
    rw [List.getElem?_set_self hlen] at e1; cases e1
    exact ⟨fun _ => ⟨w, by simp, r⟩, fun q => by rw [hl] at q; cases q⟩
  · rw [List.getElem?_set_ne (Ne.symm hxy)] at e1
    have hne : nm' ≠ nm := fun q => hxy (nodup_get nd e3 (q ▸ hx))
    have z := h y v' nm' e1 e2 e3
    refine ⟨fun q => ?_, z.2⟩
    obtain ⟨w', a, b⟩ := z.1 q
    exact ⟨w', (if_neg hne).trans a, b⟩
section
variable (prog : Program) (w : World) (mg mb : Str → Option Value) (G : List Str) (Fn : List FD)
noncomputable def OkEx (n : Nat) (r : R) : Prop := ∀ {C : Cx} {k : Lv} {e : ME} {e' : Expr} {A : Around} {env : Env} {L : Addr} {cells : List (Str × Addr)} {ext : List (Addr × Obj)} {h₀ : Heap} {m : Str → Option Value} {s : Shared} {as : List Addr} {σ σ' : List MO} {ε : List MV} {cv v : MV},
  Py G C k e e' → AOk A n → Base mg mb G Fn h₀ → Iv h₀ L m ext s.heap as σ → Ev C k L ext cells as cv env → EnvR C cells as m ε → r.ex e cv ε σ = some (v, σ') →
  wpAny (model prog w) A (eval e' env) (PostV h₀ L m ext s as σ' v) (fun _ _ => False) s
noncomputable def OkExs (n : Nat) (r : R) : Prop := ∀ {C : Cx} {k : Lv} {es : List ME} {es' : List Expr} {A : Around} {env : Env} {L : Addr} {cells : List (Str × Addr)} {ext : List (Addr × Obj)} {h₀ : Heap} {m : Str → Option Value} {s : Shared} {as : List Addr} {σ σ' : List MO} {ε : List MV} {cv : MV} {vs : List MV},
  PyL G C k es es' → AOk A n → Base mg mb G Fn h₀ → Iv h₀ L m ext s.heap as σ → Ev C k L ext cells as cv env → EnvR C cells as m ε → r.exs es cv ε σ = some (vs, σ') →
  ∀ pos, wpAny (model prog w) A (spliced (backTo pos (starEach es' env))) (PostVs h₀ L m ext s as σ' vs) (fun _ _ => False) s
noncomputable def OkTst (n : Nat) (r : R) : Prop := ∀ {C : Cx} {k : Lv} {e : ME} {e' : Expr} {A : Around} {env : Env} {L : Addr} {cells : List (Str × Addr)} {ext : List (Addr × Obj)} {h₀ : Heap} {m : Str → Option Value} {s : Shared} {as : List Addr} {σ σ' : List MO} {ε : List MV} {cv : MV} {b : Bool},
  Py G C k e e' → AOk A n → Base mg mb G Fn h₀ → Iv h₀ L m ext s.heap as σ → Ev C k L ext cells as cv env → EnvR C cells as m ε → r.tst e cv ε σ = some (b, σ') →
  wpAny (model prog w) A (isTrue e' env (eval e' env)) (PostB h₀ L m ext s as σ' b) (fun _ _ => False) s
noncomputable def OkAll (op : BoolOp) (n : Nat) (rc : List ME → MV → List MV → List MO → Res Bool) : Prop := ∀ {C : Cx} {k : Lv} {es : List ME} {es' : List Expr} {A : Around} {env : Env} {L : Addr} {cells : List (Str × Addr)} {ext : List (Addr × Obj)} {h₀ : Heap} {m : Str → Option Value} {s : Shared} {as : List Addr} {σ σ' : List MO} {ε : List MV} {cv : MV} {b : Bool},
  PyL G C k es es' → AOk A n → Base mg mb G Fn h₀ → Iv h₀ L m ext s.heap as σ → Ev C k L ext cells as cv env → EnvR C cells as m ε → rc es cv ε σ = some (b, σ') →
  wpAny (model prog w) A (allTrue op es' env) (PostB h₀ L m ext s as σ' b) (fun _ _ => False) s
/-- a call of the text's own def, from a frame at L -/
noncomputable def OkCal (n : Nat) (r : R) : Prop := ∀ {A : Around} {L : Addr} {ext : List (Addr × Obj)} {h₀ : Heap} {m : Str → Option Value} {s : Shared} {as : List Addr} {σ σ' : List MO} {f : Nat} {nm : Str} {a : Addr} {vs : List MV} {ws : List Value} {v : MV},
  AOk A n → Base mg mb G Fn h₀ → Iv h₀ L m ext s.heap as σ → G[f]? = some nm → mg nm = some (.ref a) → VRs as vs ws → r.cal f vs σ = some (v, σ') →
  wpAny (model prog w) A (call (.ref a) ws) (PostV h₀ L m ext s as σ' v) (fun _ _ => False) s
end
end Mine
end
section
open PySem PySem.W PySem.Calls PyProof.Rows
namespace Mine
theorem Iv.backAlloc {h₀ h h' : Heap} {L : Addr} {m : Str → Option Value} {ext : List (Addr × Obj)} {as : List Addr} {σ : List MO} (I : Iv h₀ L m ext h as σ) {o : Obj} {mo : MO} {D : Addr} (hD : h.objs.size ≤ D) (F : Fr h₀ L h' m) (N : News h₀ L h' ((D, o) :: newsOf ext as h)) (r : OR (as ++ [D]) mo o) :
    Iv h₀ L m ext h' (as ++ [D]) (σ ++ [mo]) := by
  have J := I.back F (fun p hp => N p (List.mem_cons_of_mem _ hp))
  have z := N (D, o) List.mem_cons_self
  have pre : as <+: as ++ [D] := List.prefix_append _ _
  have off : ∀ a, a < h.objs.size → a ≠ D := fun a ha => Nat.ne_of_lt (Nat.lt_of_lt_of_le ha hD)
  refine ⟨J.F, J.N, by simp [I.len], fun i a mo' e1 e2 => ?_, fun a ha => ?_, ?_⟩
  · rcases snoc_get e1 with e1 | ⟨hi, rfl⟩
    · rcases snoc_get e2 with e2 | ⟨hj, rfl⟩
      · obtain ⟨o', e, r'⟩ := J.obj i a mo' e1 e2
        exact ⟨o', e, r'.mono pre⟩
      · rw [← I.len] at hj
        rw [hj, List.getElem?_eq_none (Nat.le_refl _)] at e1; cases e1
    · rcases snoc_get e2 with e2 | ⟨hj, rfl⟩
      · rw [hi, I.len, List.getElem?_eq_none (Nat.le_refl _)] at e2; cases e2
      · exact ⟨o, z.1, r⟩
  · rcases List.mem_append.mp ha with ha | ha
    · exact I.fr a ha
    · rw [List.mem_singleton.mp ha]
      exact ⟨z.2.1, z.2.2, fun p hp => off _ (Heap.lt_size (I.N p hp).1)⟩
  · refine List.nodup_append.mpr ⟨I.nd, by simp, fun a ha b hb => ?_⟩
    rw [List.mem_singleton.mp hb]
    exact off a (I.lt ha)
theorem alc_eq (o : MO) (σ : List MO) : alc o σ = some (.ref σ.length, σ ++ [o]) := by
  unfold alc
  rw [frcN_eq, sncK_eq, lenM_eq, Nat.add_zero]
section
variable {h₀ : Heap} {L : Addr} {m : Str → Option Value} {ext : List (Addr × Obj)} {s : Shared} {as : List Addr} {σ σ' : List MO} {v : MV} {w : Value}
theorem PostV.refl (I : Iv h₀ L m ext s.heap as σ) (r : VR as v w) : PostV h₀ L m ext s as σ v w s := ⟨s.heap, s.toks, as, rfl, I, List.prefix_refl _, r⟩
theorem PostV.tok (I : Iv h₀ L m ext s.heap as σ) (r : VR as v w) (tk : Nat) : PostV h₀ L m ext s as σ v w { s with toks := tk } := ⟨s.heap, tk, as, rfl, I, List.prefix_refl _, r⟩
theorem vr_int {i : Int} {t : Tok} : VR as (.int i) (.int i t) := ⟨t, rfl⟩
theorem post_int (I : Iv h₀ L m ext s.heap as σ) {i : Int} {t : Tok} (tk : Nat) : PostV h₀ L m ext s as σ (.int i) (.int i t) { s with toks := tk } := PostV.tok I vr_int tk
theorem PostV.trans {s₁ s₂ : Shared} {as₁ : List Addr} {h : Heap} {tk : Nat} (e : s₁ = { s with heap := h, toks := tk }) (p : as <+: as₁) (x : PostV h₀ L m ext s₁ as₁ σ' v w s₂) : PostV h₀ L m ext s as σ' v w s₂ := by
  obtain ⟨h', tk', as', e', I, p', r⟩ := x
  subst e
  exact ⟨h', tk', as', e', I, p.trans p', r⟩
theorem PostVs.trans {s₁ s₂ : Shared} {as₁ : List Addr} {h : Heap} {tk : Nat} {vs : List MV} {ws : List Value} (e : s₁ = { s with heap := h, toks := tk }) (p : as <+: as₁) (x : PostVs h₀ L m ext s₁ as₁ σ' vs ws s₂) : PostVs h₀ L m ext s as σ' vs ws s₂ := by
  obtain ⟨h', tk', as', e', I, p', r⟩ := x
  subst e
  exact ⟨h', tk', as', e', I, p.trans p', r⟩
theorem PostB.trans {s₁ s₂ : Shared} {as₁ : List Addr} {h : Heap} {tk : Nat} {b c : Bool} (e : s₁ = { s with heap := h, toks := tk }) (p : as <+: as₁) (x : PostB h₀ L m ext s₁ as₁ σ' b c s₂) : PostB h₀ L m ext s as σ' b c s₂ := by
  obtain ⟨h', tk', as', e', I, p', r⟩ := x
  subst e
  exact ⟨h', tk', as', e', I, p.trans p', r⟩
theorem PostV.out {P : Shared → Prop} {s' : Shared} (x : PostV h₀ L m ext s as σ' v w s') (H : ∀ h' tk as', Iv h₀ L m ext h' as' σ' → as <+: as' → VR as' v w → P { s with heap := h', toks := tk }) : P s' := by
  obtain ⟨h', tk, as', rfl, I, p, r⟩ := x
  exact H h' tk as' I p r
theorem PostVs.out {P : Shared → Prop} {s' : Shared} {vs : List MV} {ws : List Value} (x : PostVs h₀ L m ext s as σ' vs ws s') (H : ∀ h' tk as', Iv h₀ L m ext h' as' σ' → as <+: as' → VRs as' vs ws → P { s with heap := h', toks := tk }) : P s' := by
  obtain ⟨h', tk, as', rfl, I, p, r⟩ := x
  exact H h' tk as' I p r
theorem PostB.out {P : Bool → Shared → Prop} {s' : Shared} {b c : Bool} (x : PostB h₀ L m ext s as σ' b c s') (H : ∀ h' tk as', Iv h₀ L m ext h' as' σ' → as <+: as' → P b { s with heap := h', toks := tk }) : P c s' := by
  obtain ⟨h', tk, as', rfl, I, p, rfl⟩ := x
  exact H h' tk as' I p
theorem post_new (I : Iv h₀ L m ext s.heap as σ) {mo : MO} {o : Obj} {D : Addr} {h' : Heap} {tk : Nat} (hD : s.heap.objs.size ≤ D) (F : Fr h₀ L h' m) (N : News h₀ L h' ((D, o) :: newsOf ext as s.heap)) (r : OR (as ++ [D]) mo o) :
    PostV h₀ L m ext s as (σ ++ [mo]) (.ref σ.length) (.ref D) { s with heap := h', toks := tk } :=
  ⟨h', tk, as ++ [D], rfl, I.backAlloc hD F N r, List.prefix_append _ _, D, by rw [← I.len]; simp, rfl⟩
theorem post_push (I : Iv h₀ L m ext s.heap as σ) {mo : MO} {o : Obj} {tk : Nat} (hf : o.isFreed = false) (r : OR (as ++ [s.heap.objs.size]) mo o) :
    PostV h₀ L m ext s as (σ ++ [mo]) (.ref σ.length) (.ref s.heap.objs.size) { s with heap := s.heap.push o, toks := tk } :=
  ⟨_, tk, as ++ [s.heap.objs.size], rfl, I.alloc hf r, List.prefix_append _ _, s.heap.objs.size, by rw [← I.len]; simp, rfl⟩
theorem or_lst {D : Addr} {l : List MV} {vs : List Value} {n : Nat} (r : VRs as l vs) : OR (as ++ [D]) (.lst l) (lobj vs n) := ⟨vs, n, rfl, r.mono (List.prefix_append _ _)⟩
theorem or_tup {D : Addr} {l : List MV} {vs : List Value} {n : Nat} (r : VRs as l vs) : OR (as ++ [D]) (.tup l) (tobj vs n) := ⟨vs, n, rfl, r.mono (List.prefix_append _ _)⟩
end
theorem small_iff {z : Int} (h : small z = true) : z.natAbs < 1073741824 := Nat.le_of_ble_eq_true h
theorem bits_small {z : Int} (h : small z = true) : Builtin.Int.intBits z ≤ 64 := by
  have := small_iff h
  exact intBits_le_64 (by omega) (by omega)
theorem repM_eq {α : Type} (l : List α) : ∀ (n : Nat) (acc : Array α), (List.replicate n l.toArray).foldl (fun x1 x2 => x1 ++ x2) acc = acc ++ (repM l n).toArray
  | 0, acc => by show acc = acc ++ #[]; simp
  | n + 1, acc => by
    rw [List.replicate_succ, List.foldl_cons, repM_eq l n]
    have e : repM l (n + 1) = l ++ repM l n := appM_eq l (repM l n)
    rw [e, Array.append_assoc]
    simp
theorem repM_nil {α : Type} : ∀ n : Nat, repM ([] : List α) n = []
  | 0 => rfl
  | n + 1 => by
    have e : repM ([] : List α) (n + 1) = [] ++ repM [] n := appM_eq [] (repM [] n)
    rw [e, repM_nil n]; rfl
theorem VRs.rep {as : List Addr} {l : List MV} {vs : List Value} (x : VRs as l vs) : ∀ n : Nat, VRs as (repM l n) (repM vs n)
  | 0 => .nil
  | n + 1 => by
    have e : repM l (n + 1) = l ++ repM l n := appM_eq l (repM l n)
    have e' : repM vs (n + 1) = vs ++ repM vs n := appM_eq vs (repM vs n)
    rw [e, e']
    exact x.append (VRs.rep x n)
section
variable {prog : Program} {w : World} {A : Around} {h₀ : Heap} {L : Addr} {m : Str → Option Value} {ext : List (Addr × Obj)} {s : Shared} {as : List Addr} {σ σ' : List MO} {a b v : MV} {wa wb : Value}
theorem ok_add (I : Iv h₀ L m ext s.heap as σ) (ra : VR as a wa) (rb : VR as b wb) (h : addM a b σ = some (v, σ')) :
    σ <+: σ' ∧ wpAny (model prog w) A (binaryOp .Add wa wb) (PostV h₀ L m ext s as σ' v) (fun _ _ => False) s := by
  unfold addM at h
  split at h
  · split at h
    · rw [frc_eq] at h; cases h
      obtain ⟨t, rfl⟩ := ra
      obtain ⟨u, rfl⟩ := rb
      exact ⟨List.prefix_refl _, PyProof.Rows.add_int (post_int I _)⟩
    · cases h
  · split at h
    · rename_i i _ j
      rw [getM_eq] at h
      split at h
      · rename_i l e1
        rw [getM_eq] at h
        split at h
        · rename_i r e2
          split at h
          · rename_i hsz
            rw [frcL_eq, appM_eq, alc_eq] at h
            cases h
            obtain ⟨a₁, ea, rfl⟩ := ra
            obtain ⟨b₁, eb, rfl⟩ := rb
            obtain ⟨a₂, vs, n, ea', ho, rv⟩ := I.lst e1
            obtain ⟨b₂, ws, n', eb', ho', rw'⟩ := I.lst e2
            rw [ea] at ea'; cases ea'
            rw [eb] at eb'; cases eb'
            have hs := Nat.le_of_ble_eq_true hsz
            rw [lenM_eq, lenM_eq, Nat.add_zero, Nat.add_zero] at hs
            refine ⟨List.prefix_append _ _, add_lists (news := newsOf ext as s.heap) I.F I.news (lobj_isList ho) (lobj_isList ho') (fun h' F' N' => ?_) (by rw [rv.length, rw'.length]; exact Nat.le_trans hs (by decide))⟩
            exact post_new (tk := s.toks) I (Nat.le_refl _) F' N' (or_lst (rv.append rw'))
          · cases h
        · cases h
      · cases h
    · cases h
  · cases h
theorem ok_sub (I : Iv h₀ L m ext s.heap as σ) (ra : VR as a wa) (rb : VR as b wb) (h : subtM a b σ = some (v, σ')) :
    σ <+: σ' ∧ wpAny (model prog w) A (binaryOp .Sub wa wb) (PostV h₀ L m ext s as σ' v) (fun _ _ => False) s := by
  unfold subtM at h
  split at h
  · split at h
    · rw [frc_eq] at h; cases h
      obtain ⟨t, rfl⟩ := ra
      obtain ⟨u, rfl⟩ := rb
      exact ⟨List.prefix_refl _, PyProof.Rows.sub_int' (post_int I _)⟩
    · cases h
  · cases h
theorem ok_mul (I : Iv h₀ L m ext s.heap as σ) (ra : VR as a wa) (rb : VR as b wb) (h : mulM a b σ = some (v, σ')) :
    σ <+: σ' ∧ wpAny (model prog w) A (binaryOp .Mult wa wb) (PostV h₀ L m ext s as σ' v) (fun _ _ => False) s := by
  unfold mulM at h
  split at h
  · split at h
    · split at h
      · rename_i hs
        rw [frc_eq] at h; cases h
        obtain ⟨t, rfl⟩ := ra
        obtain ⟨u, rfl⟩ := rb
        exact ⟨List.prefix_refl _, PyProof.Rows.mul_int (post_int I _) (IntMulOk.of_left (bits_small hs))⟩
      · cases h
    · cases h
  · split at h
    · rename_i i _ n
      rw [getM_eq] at h
      split at h
      · rename_i l e1
        split at h
        · rename_i hn
          split at h
          · rename_i hsz
            rw [frcL_eq, alc_eq] at h
            cases h
            obtain ⟨a₁, ea, rfl⟩ := ra
            obtain ⟨u, rfl⟩ := rb
            obtain ⟨a₂, vs, c, ea', ho, rv⟩ := I.lst e1
            rw [ea] at ea'; cases ea'
            have hn' := Nat.le_of_ble_eq_true hn
            have hs := Nat.le_of_ble_eq_true hsz
            rw [lenM_eq, Nat.add_zero] at hs
            have hn2 : n ≤ 1048576 := hn'
            refine ⟨List.prefix_append _ _, PyProof.Rows.mul_list (news := newsOf ext as s.heap) I.F I.news ho (by show (-(2 ^ 63) : Int) ≤ (n : Int); omega) (by show (n : Int) < 2 ^ 63; omega) ?_ (fun h' F' N' => ?_)⟩
            · show vs.toArray.size * (n : Int).toNat ≤ 2 ^ 24
              rw [List.size_toArray, rv.length, Int.toNat_natCast]
              exact Nat.le_trans hs (by decide)
            · have e : (List.foldl (fun x1 x2 => x1 ++ x2) #[] (List.replicate (if vs.toArray.isEmpty = true then 0 else (Int.ofNat n).toNat) vs.toArray)) = (repM vs n).toArray := by
                by_cases hv : vs = []
                · subst hv
                  rw [repM_nil]
                  rfl
                · rw [if_neg (by simp [hv]), repM_eq]
                  simp
              rw [e] at N'
              exact post_new (tk := s.toks) I (Nat.le_refl _) F' N' (or_lst (rv.rep n))
          · cases h
        · cases h
      · cases h
    · cases h
  · cases h
theorem ok_fdiv (I : Iv h₀ L m ext s.heap as σ) (ra : VR as a wa) (rb : VR as b wb) (h : fdivM a b σ = some (v, σ')) :
    σ <+: σ' ∧ wpAny (model prog w) A (binaryOp .FloorDiv wa wb) (PostV h₀ L m ext s as σ' v) (fun _ _ => False) s := by
  unfold fdivM at h
  split at h
  · split at h
    · rename_i n
      split at h
      · rename_i hs
        rw [frc_eq] at h; cases h
        obtain ⟨t, rfl⟩ := ra
        obtain ⟨u, rfl⟩ := rb
        have hs' : n < 1073741823 := Nat.le_of_ble_eq_true hs
        exact ⟨List.prefix_refl _, PyProof.Rows.floordiv_int (by intro q; cases q) (post_int I _) (.inl (PyProof.noPylong_small (by show n + 1 < _; omega)))⟩
      · cases h
    · cases h
  · cases h
theorem ok_mod (I : Iv h₀ L m ext s.heap as σ) (ra : VR as a wa) (rb : VR as b wb) (h : modM a b σ = some (v, σ')) :
    σ <+: σ' ∧ wpAny (model prog w) A (binaryOp .Mod wa wb) (PostV h₀ L m ext s as σ' v) (fun _ _ => False) s := by
  unfold modM at h
  split at h
  · split at h
    · rw [frc_eq] at h; cases h
      obtain ⟨t, rfl⟩ := ra
      obtain ⟨u, rfl⟩ := rb
      exact ⟨List.prefix_refl _, PyProof.Rows.mod_int' (by intro q; cases q) (post_int I _)⟩
    · cases h
  · cases h
theorem ok_pow (I : Iv h₀ L m ext s.heap as σ) (ra : VR as a wa) (rb : VR as b wb) (h : powM a b σ = some (v, σ')) :
    σ <+: σ' ∧ wpAny (model prog w) A (binaryOp .Pow wa wb) (PostV h₀ L m ext s as σ' v) (fun _ _ => False) s := by
  unfold powM at h
  split at h
  · split at h
    · rename_i n
      split at h
      · rename_i hs
        split at h
        · rename_i hn
          rw [frc_eq] at h; cases h
          obtain ⟨t, rfl⟩ := ra
          obtain ⟨u, rfl⟩ := rb
          have hn' := Nat.le_of_ble_eq_true hn
          have hs' := small_iff hs
          refine ⟨List.prefix_refl _, PyProof.Rows.pow_int_small (by show (0 : Int) ≤ (n : Int); omega) (by show (n : Int) ≤ 1000000; omega) (by omega) (post_int I _)⟩
        · cases h
      · cases h
    · cases h
  · cases h
theorem ok_bin {op : BOp} (I : Iv h₀ L m ext s.heap as σ) (ra : VR as a wa) (rb : VR as b wb) (h : binM op a b σ = some (v, σ')) :
    σ <+: σ' ∧ wpAny (model prog w) A (binaryOp (bop op) wa wb) (PostV h₀ L m ext s as σ' v) (fun _ _ => False) s := by
  cases op with
  | add => exact ok_add I ra rb h
  | sub => exact ok_sub I ra rb h
  | mul => exact ok_mul I ra rb h
  | fdiv => exact ok_fdiv I ra rb h
  | mod => exact ok_mod I ra rb h
  | pow => exact ok_pow I ra rb h
end
end Mine
end
section
open PySem PySem.W PySem.Calls PyProof.Rows
namespace Mine
theorem mapO_cons {α β : Type} (f : α → Option β) (x : α) (xs : List α) (ds : List β) (h : mapO f (x :: xs) = some ds) : ∃ d es, f x = some d ∧ mapO f xs = some es ∧ ds = d :: es := by
  replace h : (match f x with
    | some d => match mapO f xs with
      | some ds => some (d :: ds)
      | none => none
    | none => none) = some ds := h
  split at h
  · rename_i h1
    split at h
    · rename_i h2; cases h; exact ⟨_, _, h1, h2, rfl⟩
    · cases h
  · cases h
section
variable {h₀ h : Heap} {L : Addr} {m : Str → Option Value} {ext : List (Addr × Obj)} {as : List Addr} {σ : List MO}
noncomputable def DeepOk (h : Heap) (as : List Addr) (n : Nat) (v : MV) (d : PyData) : Prop := (∀ w, VR as v w → ∃ bs, Reads h w d bs) ∧ d.canLay0 = true ∧ d.depth ≤ n
theorem deep_all {n : Nat} {f : MV → Option PyData} (H : ∀ v d, f v = some d → DeepOk h as n v d) : ∀ (l : List MV) (ws : List Value) (ds : List PyData), mapO f l = some ds → VRs as l ws → (∃ bs, ReadsAll h ws ds bs) ∧ PyData.canLayAll0 ds = true ∧ PyData.depthAll ds ≤ n
  | [], ws, ds, e, r => by
    cases e; cases r
    exact ⟨⟨[], .nil⟩, by rw [PyData.canLayAll0], by rw [PyData.depthAll]; exact Nat.zero_le _⟩
  | x :: xs, ws, ds, e, r => by
    obtain ⟨d, es, h1, h2, rfl⟩ := mapO_cons f x xs ds e
    cases r with
    | cons r1 r2 =>
      obtain ⟨q1, q2, q3⟩ := H _ _ h1
      obtain ⟨bs, b⟩ := q1 _ r1
      obtain ⟨⟨cs, c⟩, c2, c3⟩ := deep_all H xs _ _ h2 r2
      exact ⟨⟨bs ++ cs, .cons b c⟩, by rw [PyData.canLayAll0, q2, c2]; rfl, by rw [PyData.depthAll]; exact Nat.max_le.mpr ⟨q3, c3⟩⟩
theorem deep_ok (I : Iv h₀ L m ext h as σ) : ∀ (n : Nat) (v : MV) (d : PyData), deepV σ n v = some d → DeepOk h as n v d
  | 0, _, _, e => by cases e
  | n + 1, v, d, e => by
    unfold deepV at e
    split at e
    · cases e
      exact ⟨fun w r => by obtain ⟨t, rfl⟩ := r; exact ⟨[], .int _ _⟩, by rw [PyData.canLay0], by rw [PyData.depth]; exact Nat.zero_le _⟩
    · rename_i j
      rw [getM_eq] at e
      split at e
      · rename_i l e1
        split at e
        · rename_i ds e2
          cases e
          obtain ⟨a, vs, c, ea, ho, rv⟩ := I.lst e1
          obtain ⟨⟨bs, q1⟩, q2, q3⟩ := deep_all (deep_ok I n) l vs ds e2 rv
          exact ⟨fun w r => by obtain ⟨a', ea', rfl⟩ := r; rw [ea] at ea'; cases ea'; exact ⟨_, .list ho rfl rfl (by simpa using q1)⟩, by rw [PyData.canLay0]; exact q2, by rw [PyData.depth]; omega⟩
        · cases e
      · rename_i l e1
        split at e
        · rename_i ds e2
          cases e
          obtain ⟨a, vs, c, ea, ho, rv⟩ := I.tup e1
          obtain ⟨⟨bs, q1⟩, q2, q3⟩ := deep_all (deep_ok I n) l vs ds e2 rv
          exact ⟨fun w r => by obtain ⟨a', ea', rfl⟩ := r; rw [ea] at ea'; cases ea'; exact ⟨_, .tuple ho rfl rfl (by simpa using q1)⟩, by rw [PyData.canLay0]; exact q2, by rw [PyData.depth]; omega⟩
        · cases e
      · cases e
    · cases e
end
section
variable {prog : Program} {w : World} {A : Around} {h₀ : Heap} {L : Addr} {m : Str → Option Value} {ext : List (Addr × Obj)} {s : Shared} {as : List Addr} {σ σ' : List MO} {a b v : MV} {wa wb : Value}
theorem ltB_eq (x y : Int) : W.Z.ltB x y = decide (x < y) := by
  by_cases c : x < y
  · rw [decide_eq_true c, (W.Z.ltB_iff x y).mpr c]
  · rw [decide_eq_false c]
    cases q : W.Z.ltB x y with
    | false => rfl
    | true => exact absurd ((W.Z.ltB_iff x y).mp q) c
theorem eqB_eq (x y : Int) : W.Z.eqB x y = (x == y) := by
  by_cases c : x = y
  · rw [(W.Z.eqB_iff x y).mpr c, c]; simp
  · cases q : W.Z.eqB x y with
    | false => simp [c]
    | true => exact absurd ((W.Z.eqB_iff x y).mp q) c
theorem ok_cmp {op : COp} {z : Bool} (I : Iv h₀ L m ext s.heap as σ) (hu : A.units + 64 < cLine) (ra : VR as a wa) (rb : VR as b wb) (h : cmpM op a b σ = some z) {Q : Value → Shared → Prop} (hQ : Q (.bool z) s) :
    wpAny (model prog w) A (compareOp (cop op) wa wb) Q (fun _ _ => False) s := by
  unfold cmpM at h
  split at h
  · split at h
    · rename_i x _ y
      cases h
      obtain ⟨t, rfl⟩ := ra
      obtain ⟨u, rfl⟩ := rb
      cases op with
      | lt => exact PyProof.Rows.lt_int (by rw [← ltB_eq]; exact hQ)
      | gt => exact PyProof.Rows.gt_int (by rw [← ltB_eq]; exact hQ)
      | eq => exact PyProof.Rows.eq_int (by rw [← eqB_eq]; exact hQ)
      | ne => exact PyProof.Rows.ne_int (by show Q (.bool (!(x == y))) s; rw [← eqB_eq]; exact hQ)
    · cases h
  · split at h
    · split at h
      · unfold neR at h
        split at h
        · rename_i d e1
          split at h
          · rename_i e e2
            cases h
            obtain ⟨p1, p2, p3⟩ := deep_ok I _ _ _ e1
            obtain ⟨q1, q2, q3⟩ := deep_ok I _ _ _ e2
            obtain ⟨bs, p1⟩ := p1 _ ra
            obtain ⟨cs, q1⟩ := q1 _ rb
            have sh : ∀ {d : PyData}, d.canLay0 = true → d.depth ≤ 4 → PySem.SeqAt.shaped d = true := fun {d} x y => by
              unfold PySem.SeqAt.shaped
              rw [x, decide_eq_true (by omega : d.depth ≤ 64)]; rfl
            exact ne_dataH p1 q1 (sh p2 p3) (sh q2 q3) hu hQ
          · cases h
        · cases h
      · cases h
    · cases h
  · cases h
theorem place_of {k : Int} {n p : Nat} (h : place k n = some p) : n ≤ szLine ∧ p < n ∧ ((0 ≤ k ∧ k = p) ∨ (k < 0 ∧ -(n : Int) ≤ k ∧ (k + n).toNat = p)) := by
  unfold place at h
  split at h
  · rename_i hn
    unfold placeIn at h
    refine ⟨Nat.le_of_ble_eq_true hn, ?_⟩
    split at h
    · rename_i j
      split at h
      · rename_i hj
        cases h
        have hj' : p < n := Nat.le_of_ble_eq_true hj
        exact ⟨hj', .inl ⟨by show (0 : Int) ≤ (p : Int); omega, rfl⟩⟩
      · cases h
    · rename_i j
      split at h
      · rename_i hj
        cases h
        have hj' : j < n := Nat.le_of_ble_eq_true hj
        refine ⟨by omega, .inr ⟨Int.negSucc_lt_zero j, by omega, by omega⟩⟩
      · cases h
  · cases h
theorem VRs.at {l : List MV} {ws : List Value} (x : VRs as l ws) {i : Nat} {v : MV} (e : l[i]? = some v) : ∃ w, ws.toArray[i]? = some w ∧ VR as v w := by
  obtain ⟨w, h1, h2⟩ := x.get e
  exact ⟨w, by simpa using h1, h2⟩
theorem subTail {value slice : Expr} {o i : Value} {T id : String} {ops : List Value} {Q : Value → Shared → Prop} (hT : s.TypeIs o T)
    (hl : typeLookup (.type T) "__getitem__" = pure (some (.builtin id))) (h : wpAny (model prog w) A (getItem o i) Q (fun _ _ => False) s)
    (hs : subscripted slice false o i = operate ops (getItem o i)) :
    wpAny (model prog w) A (subscriptTail value slice o i) Q (fun _ _ => False) s := by
  unfold subscriptTail
  refine wpAny_bind ?_
  rw [getitemInPython_of_ne hT.not_modules]
  refine wpAny_bind (wpAny_specialOf hT hl ?_)
  have fin : wpAny (model prog w) A (subscripted slice false o i) (fun r s₃ => wpAny (model prog w) A (letTemporaryGo value o r >>= fun _ => pure r) Q (fun _ _ => False) s₃) (fun _ _ => False) s := by
    rw [hs]
    exact wpAny_operating (wpAny_mono h (fun r s₃ h₃ => wpAny_bind (wpAny_letTemporaryGo (wpAny_pure h₃))) fun _ _ x => x)
  first
    | exact wpAny_pure (wpAny_bind fin)
    | exact wpAny_bind (wpAny_pure (wpAny_bind fin))
    | exact wpAny_bind fin
theorem ok_item (I : Iv h₀ L m ext s.heap as σ) (ra : VR as a wa) (rb : VR as b wb) (h : subM a b σ = some v) {value slice : Expr} (hs : subscripted slice false wa wb = operate [wa, wb] (getItem wa wb)) {Q : Value → Shared → Prop} (hQ : ∀ w, VR as v w → Q w s) :
    wpAny (model prog w) A (subscriptTail value slice wa wb) Q (fun _ _ => False) s := by
  unfold subM at h
  split at h
  · rename_i j k
    obtain ⟨u, rfl⟩ := rb
    rw [getM_eq] at h
    split at h
    · rename_i l e1
      obtain ⟨a₁, ea, rfl⟩ := ra
      obtain ⟨a₂, vs, c, ea', ho, rv⟩ := I.lst e1
      rw [ea] at ea'; cases ea'
      rw [lenM_eq, Nat.add_zero] at h
      split at h
      · rename_i p e2
        rw [getM_eq] at h
        obtain ⟨z1, z2, z3⟩ := place_of e2
        obtain ⟨x, hx, rx⟩ := rv.at h
        have hl : vs.toArray.size = l.length := by rw [List.size_toArray, rv.length]
        have z1' : l.length ≤ 1048576 := z1
        refine subTail (lobj_isList ho).typeIs slot_list_getitem.lookup ?_ hs
        rcases z3 with ⟨h0, rfl⟩ | ⟨h0, h1, h2⟩
        · exact wpAny_getItem_list (lobj_isList ho) h0 (by omega) (by simpa using hx) (hQ _ rx)
        · exact wpAny_getItem_list_neg (lobj_isList ho) h0 (by rw [hl]; exact h1) (by omega) (by rw [hl, h2]; exact hx) (hQ _ rx)
      · cases h
    · rename_i l e1
      obtain ⟨a₁, ea, rfl⟩ := ra
      obtain ⟨a₂, vs, c, ea', ho, rv⟩ := I.tup e1
      rw [ea] at ea'; cases ea'
      rw [lenM_eq, Nat.add_zero] at h
      split at h
      · rename_i p e2
        rw [getM_eq] at h
        obtain ⟨z1, z2, z3⟩ := place_of e2
        obtain ⟨x, hx, rx⟩ := rv.at h
        have hl : vs.toArray.size = l.length := by rw [List.size_toArray, rv.length]
        have z1' : l.length ≤ 1048576 := z1
        refine subTail (s := s) (T := "tuple") ⟨_, ho, rfl⟩ F.slot_tuple_getitem.lookup ?_ hs
        have e : seqIndex? k vs.toArray.size = some p := by
          rw [hl]
          rcases z3 with ⟨h0, rfl⟩ | ⟨h0, h1, h2⟩
          · unfold seqIndex?
            simp only [if_neg (show ¬ ((p : Int) < 0) by omega)]
            rw [if_pos (by simp only [Bool.and_eq_true, decide_eq_true_eq]; omega)]
            simp
          · rw [seqIndex_neg h0 h1, h2]
        exact P.getItem_tuple ho (by omega) (by omega) e hx (hQ _ rx)
      · cases h
    · cases h
  · cases h
end
end Mine
end
section
open PySem PySem.W PySem.Calls PyProof.Rows
namespace Mine
theorem Iv.allocK {h₀ h h' : Heap} {L : Addr} {m : Str → Option Value} {ext : List (Addr × Obj)} {as : List Addr} {σ : List MO} (I : Iv h₀ L m ext h as σ) {o : Obj} {mo : MO} {D : Addr} (hD : h.objs.size ≤ D) (hk : ∀ b o', h.get? b = some o' → h'.get? b = some o') (ho : h'.get? D = some o) (r : OR (as ++ [D]) mo o) :
    Iv h₀ L m ext h' (as ++ [D]) (σ ++ [mo]) :=
  I.backAlloc hD (I.F.grownK hk) (fun p hp => by
    rcases List.mem_cons.mp hp with rfl | hp
    · refine ⟨ho, Ne.symm (Nat.ne_of_lt (Nat.lt_of_lt_of_le I.F.ns.lt hD)), ?_⟩
      cases q : h₀.get? D with
      | none => rfl
      | some o' => exact absurd (Heap.lt_size (I.F.keep _ _ q)) (Nat.not_lt_of_le hD)
    · exact ⟨hk _ _ (I.news p hp).1, (I.news p hp).2⟩) r
section
variable {prog : Program} {w : World} {A : Around} {h₀ : Heap} {L : Addr} {m : Str → Option Value} {ext : List (Addr × Obj)} {s : Shared} {as : List Addr} {σ σ' : List MO} {a b v : MV} {wa wb : Value}
theorem post_keep (I : Iv h₀ L m ext s.heap as σ) {h' : Heap} {tk : Nat} {w : Value} (hk : ∀ b o, s.heap.get? b = some o → h'.get? b = some o) (r : VR as v w) : PostV h₀ L m ext s as σ v w { s with heap := h', toks := tk } :=
  ⟨h', tk, as, rfl, I.grow hk, List.prefix_refl _, r⟩
theorem post_allocK (I : Iv h₀ L m ext s.heap as σ) {mo : MO} {o : Obj} {h' : Heap} {tk : Nat} {D : Addr} (hD : s.heap.objs.size ≤ D) (hk : ∀ b o', s.heap.get? b = some o' → h'.get? b = some o') (ho : h'.get? D = some o) (r : OR (as ++ [D]) mo o) :
    PostV h₀ L m ext s as (σ ++ [mo]) (.ref σ.length) (.ref D) { s with heap := h', toks := tk } :=
  ⟨_, tk, as ++ [D], rfl, I.allocK hD hk ho r, List.prefix_append _ _, D, by rw [← I.len]; simp, rfl⟩
/-! ## The built-in functions -/
theorem sumI_ints {as : List Addr} : ∀ (l : List MV) (vs : List Value) (z z' : Int), sumI l z = some z' → VRs as l vs → ∃ ps : List (Int × Tok), vs = ps.map (fun p => .int p.1 p.2) ∧ z + (ps.map (·.1)).sum = z'
  | [], vs, z, z', e, r => by
    cases r
    cases e
    exact ⟨[], rfl, by simp⟩
  | .int x :: l, vs, z, z', e, r => by
    cases r with
    | cons r1 r2 =>
      obtain ⟨t, rfl⟩ := r1
      unfold sumI at e
      split at e
      · rw [frc_eq] at e
        split at e
        · obtain ⟨ps, h1, h2⟩ := sumI_ints l _ _ _ e r2
          exact ⟨(x, t) :: ps, by rw [h1]; rfl, by rw [List.map_cons, List.sum_cons, ← h2]; omega⟩
        · cases e
      · cases e
  | .undef :: l, vs, z, z', e, r => by cases e
  | .bool _ :: l, vs, z, z', e, r => by cases e
  | .ref _ :: l, vs, z, z', e, r => by cases e
theorem ok_len {vs : List MV} {ws : List Value} (I : Iv h₀ L m ext s.heap as σ) (r : VRs as vs ws) (h : lenB vs σ = some (v, σ')) :
    σ <+: σ' ∧ wpAny (model prog w) A (call (.builtin "len") ws) (PostV h₀ L m ext s as σ' v) (fun _ _ => False) s := by
  unfold lenB at h
  split at h
  · rename_i j
    rw [getM_eq] at h
    split at h
    · rename_i l e1
      split at h
      · rename_i hsz
        rw [frcN_eq, lenM_eq, Nat.add_zero] at h
        cases h
        cases r with
        | cons r1 r2 =>
          cases r2
          obtain ⟨a₁, ea, rfl⟩ := r1
          obtain ⟨a₂, vs, c, ea', ho, rv⟩ := I.lst e1
          rw [ea] at ea'; cases ea'
          have hs := Nat.le_of_ble_eq_true hsz
          rw [lenM_eq, Nat.add_zero] at hs
          have hs' : l.length ≤ 1048576 := hs
          have hl : vs.toArray.size = l.length := by rw [List.size_toArray, rv.length]
          refine ⟨List.prefix_refl _, PyProof.Rows.len_list (lobj_isList ho) (by omega) ?_⟩
          rw [hl]
          exact post_int I _
      · cases h
    · cases h
  · cases h
theorem ok_max {vs : List MV} {ws : List Value} (I : Iv h₀ L m ext s.heap as σ) (hh : A.handled = none) (r : VRs as vs ws) (h : maxB vs σ = some (v, σ')) :
    σ <+: σ' ∧ wpAny (model prog w) A (call (.builtin "max") ws) (PostV h₀ L m ext s as σ' v) (fun _ _ => False) s := by
  unfold maxB at h
  split at h
  · rename_i x y
    cases r with
    | cons r1 r2 =>
      cases r2 with
      | cons r2 r3 =>
        cases r3
        obtain ⟨t, rfl⟩ := r1
        obtain ⟨u, rfl⟩ := r2
        rw [ltB_eq] at h
        split at h
        · rename_i c
          have c := of_decide_eq_true c
          cases h
          refine ⟨List.prefix_refl _, max_two_ints hh fun h' tk hk => ?_⟩
          rw [if_pos c]
          exact post_keep I hk ⟨_, rfl⟩
        · rename_i c
          have c := of_decide_eq_false c
          cases h
          refine ⟨List.prefix_refl _, max_two_ints hh fun h' tk hk => ?_⟩
          rw [if_neg c]
          exact post_keep I hk ⟨_, rfl⟩
  · cases h
theorem ok_abs {vs : List MV} {ws : List Value} (I : Iv h₀ L m ext s.heap as σ) (r : VRs as vs ws) (h : absB vs σ = some (v, σ')) :
    σ <+: σ' ∧ wpAny (model prog w) A (call (.builtin "abs") ws) (PostV h₀ L m ext s as σ' v) (fun _ _ => False) s := by
  unfold absB at h
  split at h
  · rename_i x
    cases r with
    | cons r1 r2 =>
      cases r2
      obtain ⟨t, rfl⟩ := r1
      split at h
      · rename_i n
        cases h
        refine ⟨List.prefix_refl _, call_abs_int fun u tk => ?_⟩
        rw [if_neg (by show ¬ ((n : Int) < 0); omega)]
        exact post_int I _
      · rename_i n
        rw [frcN_eq] at h
        cases h
        refine ⟨List.prefix_refl _, call_abs_int fun u tk => ?_⟩
        rw [if_pos (Int.negSucc_lt_zero n)]
        exact post_int I _
  · cases h
theorem ok_list {vs : List MV} {ws : List Value} (I : Iv h₀ L m ext s.heap as σ) (r : VRs as vs ws) (h : listB vs σ = some (v, σ')) :
    σ <+: σ' ∧ wpAny (model prog w) A (call (.type "list") ws) (PostV h₀ L m ext s as σ' v) (fun _ _ => False) s := by
  unfold listB at h
  split at h
  · rename_i j
    rw [getM_eq] at h
    split at h
    · rename_i l e1
      split at h
      · rename_i hsz
        rw [alc_eq] at h
        cases h
        cases r with
        | cons r1 r2 =>
          cases r2
          obtain ⟨a₁, ea, rfl⟩ := r1
          obtain ⟨a₂, vs, c, ea', ho, rv⟩ := I.lst e1
          rw [ea] at ea'; cases ea'
          have hs := Nat.le_of_ble_eq_true hsz
          rw [lenM_eq, Nat.add_zero] at hs
          have hl : vs.toArray.size = l.length := by rw [List.size_toArray, rv.length]
          refine ⟨List.prefix_append _ _, call_list_seq a₁ (.inl rfl) ho rfl rfl (fun h' c' hk hg => ?_) (by rw [hl]; exact Nat.le_trans hs (by decide))⟩
          exact post_allocK (tk := s.toks) I (Nat.le_refl _) hk hg (or_lst rv)
      · cases h
    · cases h
  · cases h
theorem ok_sum {vs : List MV} {ws : List Value} (I : Iv h₀ L m ext s.heap as σ) (hh : A.handled = none) (r : VRs as vs ws) (h : sumB vs σ = some (v, σ')) :
    σ <+: σ' ∧ wpAny (model prog w) A (call (.builtin "sum") ws) (PostV h₀ L m ext s as σ' v) (fun _ _ => False) s := by
  unfold sumB at h
  split at h
  · rename_i j
    rw [getM_eq] at h
    split at h
    · rename_i l e1
      split at h
      · rename_i hsz
        split at h
        · rename_i z e2
          cases h
          cases r with
          | cons r1 r2 =>
            cases r2
            obtain ⟨a₁, ea, rfl⟩ := r1
            obtain ⟨a₂, vs, c, ea', ho, rv⟩ := I.lst e1
            rw [ea] at ea'; cases ea'
            obtain ⟨ps, rfl, hz⟩ := sumI_ints l vs 0 z e2 rv
            have e3 : (ps.map (fun p => Value.int p.1 p.2)).toArray = intItems ps.toArray := by
              unfold intItems
              simp
            refine ⟨List.prefix_refl _, sum_intListG (xs := ps.toArray) hh (by rw [← e3]; exact lobj_isList ho) fun h' tk t' hk => ?_⟩
            rw [preSum_eq]
            have e4 : (List.take ps.toArray.size (List.map (fun x => x.fst) ps.toArray.toList)).sum = z := by
              rw [List.take_of_length_le (by simp)]
              simpa using hz
            rw [e4]
            exact post_keep I hk ⟨_, rfl⟩
        · cases h
      · cases h
    · cases h
  · cases h
theorem ok_blt {bl : Blt} {vs : List MV} {ws : List Value} (I : Iv h₀ L m ext s.heap as σ) (hh : A.handled = none) (r : VRs as vs ws) (h : bltM bl vs σ = some (v, σ')) :
    σ <+: σ' ∧ wpAny (model prog w) A (call (bval bl) ws) (PostV h₀ L m ext s as σ' v) (fun _ _ => False) s := by
  cases bl with
  | len => exact ok_len I r h
  | max => exact ok_max I hh r h
  | abs => exact ok_abs I r h
  | list => exact ok_list I r h
  | sum => exact ok_sum I hh r h
/-! ## Slices -/
theorem takM_eq {α : Type} : ∀ (l : List α) (n : Nat), takM l n = l.take n
  | [], n => by cases n <;> rfl
  | x :: xs, 0 => rfl
  | x :: xs, n + 1 => by show x :: takM xs n = _; rw [takM_eq xs n]; rfl
theorem drpM_eq {α : Type} : ∀ (l : List α) (n : Nat), drpM l n = l.drop n
  | [], n => by cases n <;> rfl
  | x :: xs, 0 => rfl
  | x :: xs, n + 1 => by show drpM xs n = _; rw [drpM_eq xs n]; rfl
theorem revL_eq {α : Type} : ∀ (l r : List α), revL l r = l.reverse ++ r
  | [], r => rfl
  | x :: xs, r => by show revL xs (x :: r) = _; rw [revL_eq xs (x :: r)]; simp
noncomputable abbrev slObj (l u st : Value) : Obj := { cls := .type "slice", data := .fields #[l, u, st] }
theorem post_slice (I : Iv h₀ L m ext s.heap as σ) {l : List MV} {vs : List Value} (rv : VRs as l vs) (x y z : Value) :
    PostV h₀ L m ext s as (σ ++ [.lst l]) (.ref σ.length) (.ref (s.heap.push (slObj x y z)).objs.size) { s with heap := (s.heap.push (slObj x y z)).push (lobj vs 0) } := by
  have J : Iv h₀ L m ext (s.heap.push (slObj x y z)) as σ := I.grow fun b o e => Heap.get?_push_of_some _ e
  exact ⟨_, s.toks, _, rfl, J.alloc (o := lobj vs 0) rfl (or_lst rv), List.prefix_append _ _, _, by rw [← I.len]; simp, rfl⟩
theorem ok_slc {value upper : Expr} {ol : Option Expr} {p : Pos} {lo hi : Option MV} {wl wh : Value} (I : Iv h₀ L m ext s.heap as σ) (ra : VR as a wa)
    (rl : ∀ x, lo = some x → VR as x wl) (rl' : lo = none → wl = .none) (rh : ∀ x, hi = some x → VR as x wh) (h : slcM a lo hi σ = some (v, σ')) :
    σ <+: σ' ∧ wpAny (model prog w) A (subscriptTail value (.Slice ol (some upper) none p) wa (.ref s.heap.objs.size)) (PostV h₀ L m ext s as σ' v) (fun _ _ => False) { s with heap := s.heap.push (slObj wl wh .none) } := by
  unfold slcM at h
  split at h
  · rename_i j
    rw [getM_eq] at h
    split at h
    · rename_i l e1
      obtain ⟨a₁, ea, rfl⟩ := ra
      obtain ⟨a₂, vs, c, ea', ho, rv⟩ := I.lst e1
      rw [ea] at ea'; cases ea'
      have hl : vs.toArray.size = l.length := by rw [List.size_toArray, rv.length]
      have ho' : (s.heap.push (slObj wl wh .none)).get? a₁ = some (lobj vs c) := Heap.get?_push_of_some _ ho
      split at h
      · rename_i y
        split at h
        · rename_i h1 h2
          have h1 := Nat.le_of_ble_eq_true h1
          have h2 := Nat.le_of_ble_eq_true h2
          rw [lenM_eq, Nat.add_zero] at h1 h2
          rw [frcL_eq, takM_eq, alc_eq] at h
          cases h
          obtain ⟨t, rfl⟩ := rh _ rfl
          rw [rl' rfl] at ho' ⊢
          refine ⟨List.prefix_append _ _, subTail (s := { s with heap := s.heap.push (slObj _ _ _) }) (lobj_isList ho').typeIs slot_list_getitem.lookup (ops := [.ref s.heap.objs.size, .ref a₁]) ?_ rfl⟩
          refine wpAny_getItem_list_slice (lobj_isList ho') (Heap.IsSliceOf.new ..) .none (.int _ _) .none (by simp) ?_ (by rw [hl]; exact Nat.le_trans h2 (by decide))
          have e : slicePick vs.toArray none (some (Int.ofNat y)) none = (vs.take y).toArray := by
            rw [show Int.ofNat y = (y : Int) from rfl, slicePick_upto vs.toArray y (by rw [hl]; exact h1)]
          rw [e]
          exact post_slice I (rv.take y) _ _ _
        · cases h
      · rename_i x y
        split at h
        · rename_i h0 h1 h2
          have h0 := Nat.le_of_ble_eq_true h0
          have h1 := Nat.le_of_ble_eq_true h1
          have h2 := Nat.le_of_ble_eq_true h2
          rw [lenM_eq, Nat.add_zero] at h1 h2
          rw [frcL_eq, takM_eq, drpM_eq, alc_eq] at h
          cases h
          obtain ⟨t, rfl⟩ := rh _ rfl
          obtain ⟨u, rfl⟩ := rl _ rfl
          refine ⟨List.prefix_append _ _, subTail (s := { s with heap := s.heap.push (slObj _ _ _) }) (lobj_isList ho').typeIs slot_list_getitem.lookup (ops := [.ref s.heap.objs.size, .ref a₁]) ?_ rfl⟩
          refine wpAny_getItem_list_slice (lobj_isList ho') (Heap.IsSliceOf.new ..) (.int _ _) (.int _ _) .none (by simp) ?_ (by rw [hl]; exact Nat.le_trans h2 (by decide))
          have e : slicePick vs.toArray (some (Int.ofNat x)) (some (Int.ofNat y)) none = ((vs.drop x).take (y - x)).toArray := by
            rw [show Int.ofNat y = (y : Int) from rfl, show Int.ofNat x = (x : Int) from rfl, slicePick_run vs.toArray x y (by rw [hl]; exact h1) h0]
          rw [e]
          exact post_slice I ((rv.drop x).take (y - x)) _ _ _
        · cases h
      · cases h
    · cases h
  · cases h
theorem ok_rev {value slice : Expr} {t : Tok} {p : Pos} (I : Iv h₀ L m ext s.heap as σ) (ra : VR as a wa) (h : revM a σ = some (v, σ')) :
    σ <+: σ' ∧ wpAny (model prog w) A (subscriptTail value (.Slice none none (some slice) p) wa (.ref s.heap.objs.size)) (PostV h₀ L m ext s as σ' v) (fun _ _ => False) { s with heap := s.heap.push (slObj .none .none (.int (-1) t)) } := by
  unfold revM at h
  split at h
  · rename_i j
    rw [getM_eq] at h
    split at h
    · rename_i l e1
      obtain ⟨a₁, ea, rfl⟩ := ra
      obtain ⟨a₂, vs, c, ea', ho, rv⟩ := I.lst e1
      rw [ea] at ea'; cases ea'
      have hl : vs.toArray.size = l.length := by rw [List.size_toArray, rv.length]
      have ho' : (s.heap.push (slObj .none .none (.int (-1) t))).get? a₁ = some (lobj vs c) := Heap.get?_push_of_some _ ho
      split at h
      · rename_i h2
        have h2 := Nat.le_of_ble_eq_true h2
        rw [lenM_eq, Nat.add_zero] at h2
        rw [frcL_eq, revL_eq, List.append_nil, alc_eq] at h
        cases h
        refine ⟨List.prefix_append _ _, subTail (s := { s with heap := s.heap.push (slObj _ _ _) }) (lobj_isList ho').typeIs slot_list_getitem.lookup (ops := [.ref a₁, .ref s.heap.objs.size]) ?_ (by with_unfolding_all rfl)⟩
        refine wpAny_getItem_list_slice (lobj_isList ho') (Heap.IsSliceOf.new ..) .none .none (.int _ _) (by decide) ?_ (by rw [hl]; exact Nat.le_trans h2 (by decide))
        rw [krv_pick]
        exact post_slice I rv.reverse _ _ _
      · cases h
    · cases h
  · cases h
end
end Mine
end
section
open PySem PySem.W PySem.Calls PyProof.Rows
namespace Mine
/-- the store grows -/
structure Gr (r : R) : Prop where
  ex : ∀ {e : ME} {cv : MV} {ε : List MV} {σ σ' : List MO} {v : MV}, r.ex e cv ε σ = some (v, σ') → σ <+: σ'
  exs : ∀ {es : List ME} {cv : MV} {ε : List MV} {σ σ' : List MO} {v : List MV}, r.exs es cv ε σ = some (v, σ') → σ <+: σ'
  tst : ∀ {e : ME} {cv : MV} {ε : List MV} {σ σ' : List MO} {v : Bool}, r.tst e cv ε σ = some (v, σ') → σ <+: σ'
  conj : ∀ {es : List ME} {cv : MV} {ε : List MV} {σ σ' : List MO} {v : Bool}, r.conj es cv ε σ = some (v, σ') → σ <+: σ'
  disj : ∀ {es : List ME} {cv : MV} {ε : List MV} {σ σ' : List MO} {v : Bool}, r.disj es cv ε σ = some (v, σ') → σ <+: σ'
  cal : ∀ {f : Nat} {vs : List MV} {σ σ' : List MO} {v : MV}, r.cal f vs σ = some (v, σ') → σ <+: σ'
  cl : ∀ {e : ME} {ε : List MV} {j i : Nat} {σ σ' : List MO} {v : List MV}, r.cl e ε j i σ = some (v, σ') → σ <+: σ'
  cr : ∀ {e : ME} {ε : List MV} {k h : Int} {σ σ' : List MO} {v : List MV}, r.cr e ε k h σ = some (v, σ') → σ <+: σ'
theorem alc_gr {o : MO} {σ σ' : List MO} {v : MV} (h : alc o σ = some (v, σ')) : σ <+: σ' := by
  rw [alc_eq] at h; cases h; exact List.prefix_append _ _
theorem bin_gr {op : BOp} {a b v : MV} {σ σ' : List MO} (h : binM op a b σ = some (v, σ')) : σ <+: σ' := by
  cases op with
  | add =>
    replace h : addM a b σ = _ := h
    unfold addM at h
    (repeat' (split at h)) <;> first | (cases h; done) | (rw [frc_eq] at h; cases h; exact List.prefix_refl _) | (rw [frcL_eq] at h; exact alc_gr h)
  | sub =>
    replace h : subtM a b σ = _ := h
    unfold subtM at h
    (repeat' (split at h)) <;> first | (cases h; done) | (rw [frc_eq] at h; cases h; exact List.prefix_refl _)
  | mul =>
    replace h : mulM a b σ = _ := h
    unfold mulM at h
    (repeat' (split at h)) <;> first | (cases h; done) | (rw [frc_eq] at h; cases h; exact List.prefix_refl _) | (rw [frcL_eq] at h; exact alc_gr h)
  | fdiv =>
    replace h : fdivM a b σ = _ := h
    unfold fdivM at h
    (repeat' (split at h)) <;> first | (cases h; done) | (rw [frc_eq] at h; cases h; exact List.prefix_refl _)
  | mod =>
    replace h : modM a b σ = _ := h
    unfold modM at h
    (repeat' (split at h)) <;> first | (cases h; done) | (rw [frc_eq] at h; cases h; exact List.prefix_refl _)
  | pow =>
    replace h : powM a b σ = _ := h
    unfold powM at h
    (repeat' (split at h)) <;> first | (cases h; done) | (rw [frc_eq] at h; cases h; exact List.prefix_refl _)
theorem slc_gr {a v : MV} {lo hi : Option MV} {σ σ' : List MO} (h : slcM a lo hi σ = some (v, σ')) : σ <+: σ' := by
  unfold slcM at h
  (repeat' (split at h)) <;> first | (cases h; done) | (rw [frcL_eq] at h; exact alc_gr h)
theorem rev_gr {a v : MV} {σ σ' : List MO} (h : revM a σ = some (v, σ')) : σ <+: σ' := by
  unfold revM at h
  (repeat' (split at h)) <;> first | (cases h; done) | (rw [frcL_eq] at h; exact alc_gr h)
theorem blt_gr {b : Blt} {vs : List MV} {v : MV} {σ σ' : List MO} (h : bltM b vs σ = some (v, σ')) : σ <+: σ' := by
  cases b with
  | len =>
    replace h : lenB vs σ = _ := h
    unfold lenB at h
    (repeat' (split at h)) <;> first | (cases h; done) | (rw [frcN_eq] at h; cases h; exact List.prefix_refl _)
  | max =>
    replace h : maxB vs σ = _ := h
    unfold maxB at h
    (repeat' (split at h)) <;> first | (cases h; done) | (cases h; exact List.prefix_refl _)
  | abs =>
    replace h : absB vs σ = _ := h
    unfold absB at h
    (repeat' (split at h)) <;> first | (cases h; done) | (rw [frcN_eq] at h; cases h; exact List.prefix_refl _) | (cases h; exact List.prefix_refl _)
  | list =>
    replace h : listB vs σ = _ := h
    unfold listB at h
    (repeat' (split at h)) <;> first | (cases h; done) | exact alc_gr h
  | sum =>
    replace h : sumB vs σ = _ := h
    unfold sumB at h
    (repeat' (split at h)) <;> first | (cases h; done) | (cases h; exact List.prefix_refl _)
theorem gc_gr {n0 : Nat} {v u : MV} {σ σ2 σ' : List MO} (h : gcM n0 u σ σ2 = some (v, σ')) : σ <+: σ' := by
  unfold gcM at h
  (repeat' (split at h)) <;> first | (cases h; done) | exact alc_gr h | (cases h; exact List.prefix_refl _)
theorem cv_gr {a v : MV} {σ σ' : List MO} (h : cvM a σ = some (v, σ')) : σ' = σ ∧ v = a ∧ a ≠ .undef := by
  cases a <;> cases h <;> exact ⟨rfl, rfl, by intro q; cases q⟩
section
variable {r : R} (g : Gr r)
include g
theorem cmp_gr {op : COp} {l q : ME} {cv : MV} {ε : List MV} {σ σ' : List MO} {v : Bool} (h : sCmp r op l q cv ε σ = some (v, σ')) : σ <+: σ' := by
  unfold sCmp at h
  split at h
  · rename_i e1
    split at h
    · rename_i e2
      split at h
      · cases h; exact (g.ex e1).trans (g.ex e2)
      · cases h
    · cases h
  · cases h
theorem Gr.ex' {e : ME} {cv : MV} {ε : List MV} {σ σ' : List MO} {v : MV} (h : sEx r e cv ε σ = some (v, σ')) : σ <+: σ' := by
  unfold sEx at h
  split at h
  · unfold locM at h
    (repeat' (split at h)) <;> cases h <;> exact List.prefix_refl _
  · unfold celM at h
    (repeat' (split at h)) <;> cases h <;> exact List.prefix_refl _
  · rw [(cv_gr h).1]; exact List.prefix_refl _
  · cases h; exact List.prefix_refl _
  · cases h; exact List.prefix_refl _
  · rw [frc_eq] at h; cases h; exact List.prefix_refl _
  · unfold sBin at h
    split at h
    · rename_i e1
      split at h
      · rename_i e2
        exact ((g.ex e1).trans (g.ex e2)).trans (bin_gr h)
      · cases h
    · cases h
  · unfold cmpV at h
    split at h
    · rename_i e1
      cases h
      exact cmp_gr g e1
    · cases h
  · unfold sIte at h
    split at h
    · rename_i e1
      split at h
      · exact (g.tst e1).trans (g.ex h)
      · exact (g.tst e1).trans (g.ex h)
    · cases h
  · cases h
  · cases h
  · unfold sSub at h
    split at h
    · rename_i e1
      split at h
      · rename_i e2
        split at h
        · rw [(cv_gr h).1]; exact (g.ex e1).trans (g.ex e2)
        · cases h
      · cases h
    · cases h
  · unfold sSlc at h
    split at h
    · rename_i e1
      split at h
      · split at h
        · split at h
          · rename_i e2
            exact ((g.ex e1).trans (g.ex e2)).trans (slc_gr h)
          · cases h
        · cases h
      · split at h
        · rename_i e2
          split at h
          · split at h
            · rename_i e3
              exact (((g.ex e1).trans (g.ex e2)).trans (g.ex e3)).trans (slc_gr h)
            · cases h
          · cases h
        · cases h
    · cases h
  · unfold sRev at h
    split at h
    · rename_i e1
      exact (g.ex e1).trans (rev_gr h)
    · cases h
  · unfold sTup at h
    split at h
    · rename_i e1
      split at h
      · exact (g.exs e1).trans (alc_gr h)
      · cases h
    · cases h
  · unfold sLst at h
    split at h
    · rename_i e1
      split at h
      · exact (g.exs e1).trans (alc_gr h)
      · cases h
    · cases h
  · unfold sCll at h
    split at h
    · rename_i e1
      exact (g.exs e1).trans (g.cal h)
    · cases h
  · unfold sBlt at h
    split at h
    · rename_i e1
      exact (g.exs e1).trans (blt_gr h)
    · cases h
  · unfold sComp at h
    split at h
    · split at h
      · rename_i e1
        split at h
        · split at h
          · split at h
            · rename_i e2
              split at h
              · exact ((g.ex e1).trans (g.cl e2)).trans (alc_gr h)
              · cases h
            · cases h
          · cases h
        · cases h
      · cases h
    · split at h
      · rename_i e1
        split at h
        · split at h
          · rename_i e2
            split at h
            · exact ((g.ex e1).trans (g.cr e2)).trans (alc_gr h)
            · cases h
          · cases h
        · cases h
      · cases h
    · cases h
theorem Gr.step (F : List FD) : Gr (step F r) where
  ex := g.ex'
  exs := fun {es _ _ _ _ _} h => by
    replace h : sExs r es _ _ _ = _ := h
    unfold sExs at h
    split at h
    · cases h; exact List.prefix_refl _
    · split at h
      · rename_i e1
        split at h
        · rename_i e2; cases h; exact (g.ex e1).trans (g.exs e2)
        · cases h
      · cases h
  tst := fun {e _ _ _ _ _} h => by
    replace h : sTst r e _ _ _ = _ := h
    unfold sTst at h
    split at h
    · exact cmp_gr g h
    · cases h; exact List.prefix_refl _
    · exact g.conj h
    · exact g.disj h
    · cases h
  conj := fun {es _ _ _ _ _} h => by
    replace h : sConj r es _ _ _ = _ := h
    unfold sConj at h
    split at h
    · cases h; exact List.prefix_refl _
    · split at h
      · rename_i e1; exact (g.tst e1).trans (g.conj h)
      · rename_i e1; cases h; exact g.tst e1
      · cases h
  disj := fun {es _ _ _ _ _} h => by
    replace h : sDisj r es _ _ _ = _ := h
    unfold sDisj at h
    split at h
    · cases h; exact List.prefix_refl _
    · split at h
      · rename_i e1; exact (g.tst e1).trans (g.disj h)
      · rename_i e1; cases h; exact g.tst e1
      · cases h
  cal := fun {f vs _ _ _} h => by
    replace h : sCal r F f vs _ = _ := h
    unfold sCal at h
    split at h
    · split at h
      · rw [frcN_eq, frcL_eq] at h
        split at h
        split at h
        · exact gc_gr h
        · cases h
      · cases h
    · cases h
  cl := fun {e ε j i _ _ _} h => by
    replace h : sCl r e ε j i _ = _ := h
    unfold sCl at h
    split at h
    · split at h
      · cases h; exact List.prefix_refl _
      · split at h
        · rename_i e1
          rw [frcN_eq] at h
          split at h
          · rename_i e2; cases h; exact (g.ex e1).trans (g.cl e2)
          · cases h
        · cases h
    · cases h
  cr := fun {e ε j i _ _ _} h => by
    replace h : sCr r e ε j i _ = _ := h
    unfold sCr at h
    split at h
    · cases h; exact List.prefix_refl _
    · split at h
      · rename_i e1
        rw [frc_eq] at h
        split at h
        · rename_i e2; cases h; exact (g.ex e1).trans (g.cr e2)
        · cases h
      · cases h
end
theorem gr_r0 : Gr r0 := ⟨(fun h => by cases h), (fun h => by cases h), (fun h => by cases h), (fun h => by cases h), (fun h => by cases h), (fun h => by cases h), (fun h => by cases h), (fun h => by cases h)⟩
theorem gr_run (F : List FD) : ∀ n : Nat, Gr (run F n)
  | 0 => gr_r0
  | n + 1 => (gr_run F n).step F
/-- the store keeps what lies below a mark -/
noncomputable def Kp (lo : Nat) (σ σ' : List MO) : Prop := σ.length ≤ σ'.length ∧ ∀ i, i < lo → i < σ.length → σ'[i]? = σ[i]?
theorem Kp.refl {lo : Nat} {σ : List MO} : Kp lo σ σ := ⟨Nat.le_refl _, fun _ _ _ => rfl⟩
theorem Kp.trans {lo : Nat} {σ σ₁ σ₂ : List MO} (x : Kp lo σ σ₁) (y : Kp lo σ₁ σ₂) : Kp lo σ σ₂ := ⟨Nat.le_trans x.1 y.1, fun i h1 h2 => (y.2 i h1 (Nat.lt_of_lt_of_le h2 x.1)).trans (x.2 i h1 h2)⟩
theorem Kp.pre {lo : Nat} {σ σ₁ : List MO} (x : σ <+: σ₁) : Kp lo σ σ₁ := by
  obtain ⟨t, rfl⟩ := x
  exact ⟨by simp, fun i _ h2 => List.getElem?_append_left h2⟩
theorem Kp.set {lo j : Nat} {σ : List MO} {mo : MO} (hj : lo ≤ j) : Kp lo σ (σ.set j mo) := ⟨by simp, fun i h1 _ => List.getElem?_set_ne (by omega)⟩
structure Ks (r : R) : Prop where
  st : ∀ {lo : Nat} {s : MS} {ε ε' : List MV} {σ σ' : List MO} {f : Fl}, r.st lo s ε σ = some (f, ε', σ') → Kp lo σ σ'
  sts : ∀ {lo : Nat} {s : List MS} {ε ε' : List MV} {σ σ' : List MO} {f : Fl}, r.sts lo s ε σ = some (f, ε', σ') → Kp lo σ σ'
  whl : ∀ {lo : Nat} {t : ME} {b : List MS} {ε ε' : List MV} {σ σ' : List MO} {f : Fl}, r.whl lo t b ε σ = some (f, ε', σ') → Kp lo σ σ'
  fl : ∀ {lo x : Nat} {b : List MS} {j i : Nat} {ε ε' : List MV} {σ σ' : List MO} {f : Fl}, r.fl lo x b j i ε σ = some (f, ε', σ') → Kp lo σ σ'
  fr : ∀ {lo x : Nat} {b : List MS} {j i : Int} {ε ε' : List MV} {σ σ' : List MO} {f : Fl}, r.fr lo x b j i ε σ = some (f, ε', σ') → Kp lo σ σ'
  fb : ∀ {lo x : Nat} {b : List MS} {j i : Nat} {ε ε' : List MV} {σ σ' : List MO} {f : Fl}, r.fb lo x b j i ε σ = some (f, ε', σ') → Kp lo σ σ'
  fe : ∀ {lo x y : Nat} {b : List MS} {j i : Nat} {ε ε' : List MV} {σ σ' : List MO} {f : Fl}, r.fe lo x y b j i ε σ = some (f, ε', σ') → Kp lo σ σ'
theorem putAll_kp {lo : Nat} : ∀ (xs : List (Bool × Nat)) (vs ε ε' : List MV) (σ σ' : List MO) (f : Fl), putAll lo xs vs ε σ = some (f, ε', σ') → Kp lo σ σ'
  | [], [], ε, ε', σ, σ', f, h => by cases h; exact .refl
  | [], _ :: _, ε, ε', σ, σ', f, h => by cases h
  | (false, x) :: xs, v :: vs, ε, ε', σ, σ', f, h => by
    unfold putAll at h
    rw [setK_eq] at h
    exact putAll_kp xs vs _ _ _ _ _ h
  | (true, x) :: xs, v :: vs, ε, ε', σ, σ', f, h => by
    unfold putAll at h
    split at h
    · split at h
      · rename_i hlo
        split at h
        · rw [setK_eq] at h
          exact (Kp.set (Nat.le_of_ble_eq_true hlo)).trans (putAll_kp xs vs _ _ _ _ _ h)
        · cases h
      · cases h
    · cases h
  | (false, x) :: xs, [], ε, ε', σ, σ', f, h => by unfold putAll at h; cases h
  | (true, x) :: xs, [], ε, ε', σ, σ', f, h => by unfold putAll at h; cases h
section
variable {r : R} (g : Gr r) (k : Ks r)
include g k
theorem Ks.st' {lo : Nat} {s : MS} {ε ε' : List MV} {σ σ' : List MO} {f : Fl} (h : sSt r lo s ε σ = some (f, ε', σ')) : Kp lo σ σ' := by
  unfold sSt at h
  split at h
  · unfold sAsg put at h
    split at h
    · rename_i e1; rw [setK_eq] at h; cases h; exact .pre (g.ex e1)
    · cases h
  · unfold sTasg at h
    split at h
    · rename_i e1
      split at h
      · exact (Kp.pre (g.exs e1)).trans (putAll_kp _ _ _ _ _ _ _ h)
      · cases h
    · cases h
  · unfold sAug put at h
    split at h
    · split at h
      · rename_i e1
        split at h
        · rw [setK_eq] at h; cases h; exact .pre (g.ex e1)
        · cases h
      · cases h
    · cases h
  · unfold sAugs at h
    split at h
    · rename_i e1
      split at h
      · rename_i e2
        split at h
        · rename_i hlo
          split at h
          · split at h
            · split at h
              · unfold augAt at h
                split at h
                · rename_i e3
                  split at h
                  · rw [setK_eq, setK_eq] at h
                    cases h
                    exact (Kp.pre (((g.ex e1).trans (g.ex e2)).trans (g.ex e3))).trans (.set (Nat.le_of_ble_eq_true hlo))
                  · cases h
                · cases h
              · cases h
            · cases h
          · cases h
        · cases h
      · cases h
    · cases h
  · unfold sApp at h
    split at h
    · split at h
      · rename_i e1
        split at h
        · rename_i hlo
          split at h
          · unfold appAt at h
            split at h
            · rw [sncK_eq, setK_eq] at h
              cases h
              exact (Kp.pre (g.ex e1)).trans (.set (Nat.le_of_ble_eq_true hlo))
            · cases h
          · cases h
        · cases h
      · cases h
    · cases h
  · unfold sIfs at h
    split at h
    · rename_i e1
      split at h
      · exact (Kp.pre (g.tst e1)).trans (k.sts h)
      · exact (Kp.pre (g.tst e1)).trans (k.sts h)
    · cases h
  · exact k.whl h
  · unfold sFor1 at h
    split at h
    · split at h
      · rename_i e1
        split at h
        · exact (Kp.pre (g.ex e1)).trans (k.fl h)
        · cases h
      · cases h
    · split at h
      · rename_i e1
        split at h
        · exact (Kp.pre (g.ex e1)).trans (k.fr h)
        · cases h
      · cases h
    · split at h
      · rename_i e1
        split at h
        · rename_i e2
          split at h
          · split at h
            · exact (Kp.pre ((g.ex e1).trans (g.ex e2))).trans (k.fr h)
            · cases h
          · cases h
        · cases h
      · cases h
    · split at h
      · rename_i e1
        split at h
        · rw [frcN_eq] at h
          exact (Kp.pre (g.ex e1)).trans (k.fb h)
        · cases h
      · cases h
  · unfold sFor2 at h
    split at h
    · rename_i e1
      split at h
      · exact (Kp.pre (g.ex e1)).trans (k.fe h)
      · cases h
    · cases h
  · unfold sRet at h
    split at h
    · rename_i e1; cases h; exact .pre (g.ex e1)
    · cases h
  · cases h
theorem Ks.step (F : List FD) : Ks (step F r) where
  st := fun h => k.st' g h
  sts := fun {lo s ε ε' σ σ' f} h => by
    replace h : sSts r lo s ε σ = _ := h
    unfold sSts at h
    split at h
    · cases h; exact .refl
    · split at h
      · rename_i e1; exact (k.st e1).trans (k.sts h)
      · rename_i e1; cases h; exact k.st e1
      · cases h
  whl := fun {lo t b ε ε' σ σ' f} h => by
    replace h : sWhl r lo t b ε σ = _ := h
    unfold sWhl at h
    split at h
    · rename_i e1; cases h; exact .pre (g.tst e1)
    · rename_i e1
      split at h
      · rename_i e2; exact ((Kp.pre (g.tst e1)).trans (k.sts e2)).trans (k.whl h)
      · rename_i e2; cases h; exact (Kp.pre (g.tst e1)).trans (k.sts e2)
      · cases h
    · cases h
  fl := fun {lo x b j i ε ε' σ σ' f} h => by
    replace h : sFl r lo x b j i ε σ = _ := h
    unfold sFl at h
    split at h
    · split at h
      · cases h; exact .refl
      · rw [setK_eq] at h
        split at h
        · rename_i e1; rw [frcN_eq] at h; exact (k.sts e1).trans (k.fl h)
        · rename_i e1; cases h; exact k.sts e1
        · cases h
    · cases h
  fr := fun {lo x b j i ε ε' σ σ' f} h => by
    replace h : sFr r lo x b j i ε σ = _ := h
    unfold sFr at h
    split at h
    · cases h; exact .refl
    · rw [setK_eq] at h
      split at h
      · rename_i e1; rw [frc_eq] at h; exact (k.sts e1).trans (k.fr h)
      · rename_i e1; cases h; exact k.sts e1
      · cases h
  fb := fun {lo x b j i ε ε' σ σ' f} h => by
    replace h : sFb r lo x b j i ε σ = _ := h
    unfold sFb at h
    split at h
    · cases h; exact .refl
    · split at h
      · split at h
        · rw [setK_eq] at h
          split at h
          · rename_i e1; exact (k.sts e1).trans (k.fb h)
          · rename_i e1; cases h; exact k.sts e1
          · cases h
        · cases h
      · cases h
  fe := fun {lo x y b j i ε ε' σ σ' f} h => by
    replace h : sFe r lo x y b j i ε σ = _ := h
    unfold sFe at h
    split at h
    · split at h
      · cases h; exact .refl
      · rw [setK_eq, setK_eq] at h
        split at h
        · rename_i e1; rw [frcN_eq] at h; exact (k.sts e1).trans (k.fe h)
        · rename_i e1; cases h; exact k.sts e1
        · cases h
    · cases h
end
theorem ks_r0 : Ks r0 := ⟨(fun h => by cases h), (fun h => by cases h), (fun h => by cases h), (fun h => by cases h), (fun h => by cases h), (fun h => by cases h), (fun h => by cases h)⟩
theorem ks_run (F : List FD) : ∀ n : Nat, Ks (run F n)
  | 0 => ks_r0
  | n + 1 => (ks_run F n).step (gr_run F n) F
end Mine
end
section
open PySem PySem.W PySem.Calls PyProof.Rows
namespace Mine
section
variable {prog : Program} {w : World} {mg mb : Str → Option Value} {G : List Str} {Fn : List FD} {n : Nat} {r : R}
variable {C : Cx} {k : Lv} {A : Around} {env : Env} {L : Addr} {cells : List (Str × Addr)} {ext : List (Addr × Obj)} {h₀ : Heap} {m : Str → Option Value} {s : Shared} {as : List Addr} {σ σ' : List MO} {ε : List MV} {cv v : MV}
theorem PyL.stars {es : List ME} {es' : List Expr} (h : PyL G C k es es') (pos : Pos) (env : Env) : (backTo pos (starEach es' env)).any (·.1) = false := by
  induction es generalizing es' with
  | nil => cases h.inv; rfl
  | cons e es ih =>
    cases h.inv with
    | cons h1 h2 =>
      rw [h1.star]
      show (false || (backTo pos (starEach _ env)).any (·.1)) = false
      rw [ih h2]; rfl
theorem Ev.kind {nm : Str} (V : Ev C none L ext cells as cv env) : env.kindOf nm = C.sc.names.lookup nm := by
  show env.scope.names.lookup nm = _
  rw [(V.fn rfl).1]
theorem ex_loc {x : Nat} {nm : Str} {p : Pos} (hx : C.nms[x]? = some nm) (hl : C.sc.names.lookup nm = some .local) (hd : Dbg nm)
    (I : Iv h₀ L m ext s.heap as σ) (V : Ev C none L ext cells as cv env) (Rn : EnvR C cells as m ε) (h : locM x ε σ = some (v, σ')) :
    wpAny (model prog w) A (eval (.Name nm p) env) (PostV h₀ L m ext s as σ' v) (fun _ _ => False) s := by
  unfold locM at h
  rw [getM_eq] at h
  split at h
  · rename_i u e1
    have hu : u ≠ .undef ∧ v = u ∧ σ' = σ := by
      cases u <;> cases h <;> exact ⟨(by intro q; cases q), rfl, rfl⟩
    obtain ⟨hu, rfl, rfl⟩ := hu
    obtain ⟨w', q1, q2⟩ := (Rn x v nm e1 hu hx).1 hl
    exact wpAny_Name (wpAny_loadName_local V.kf ((V.kind).trans hl) (by rw [(V.fn rfl).2.1]; exact I.F.ns) q1 (PostV.refl I q2)) hd
  · cases h
theorem cel_at {x : Nat} {nm : Str} (hx : C.nms[x]? = some nm) (hl : C.sc.names.lookup nm = some .cell) (I : Iv h₀ L m ext s.heap as σ) (Rn : EnvR C cells as m ε) (h : celM x ε σ = some (v, σ')) :
    σ' = σ ∧ ∃ c u, cells.lookup nm = some c ∧ s.heap.IsCell c (some u) ∧ VR as v u := by
  unfold celM at h
  rw [getM_eq] at h
  split at h
  · rename_i j e1
    rw [getM_eq] at h
    split at h
    · rename_i u e2
      have hu : u ≠ .undef ∧ v = u ∧ σ' = σ := by
        cases u <;> cases h <;> exact ⟨(by intro q; cases q), rfl, rfl⟩
      obtain ⟨hu, rfl, rfl⟩ := hu
      obtain ⟨j', a, q1, q2, q3⟩ := (Rn x _ nm e1 (by intro q; cases q) hx).2 hl
      cases q1
      obtain ⟨o, ho, hr⟩ := I.obj _ a _ q2 e2
      rcases hr with ⟨hr, _⟩ | ⟨u, hd, hr⟩
      · exact absurd hr hu
      · exact ⟨rfl, a, u, q3, ⟨o, ho, hd⟩, hr⟩
    · cases h
  · cases h
theorem ex_cel {x : Nat} {nm : Str} {p : Pos} (hx : C.nms[x]? = some nm) (hl : C.sc.names.lookup nm = some .cell) (hd : Dbg nm)
    (I : Iv h₀ L m ext s.heap as σ) (V : Ev C none L ext cells as cv env) (Rn : EnvR C cells as m ε) (h : celM x ε σ = some (v, σ')) :
    wpAny (model prog w) A (eval (.Name nm p) env) (PostV h₀ L m ext s as σ' v) (fun _ _ => False) s := by
  obtain ⟨rfl, c, u, h1, h2, h3⟩ := cel_at hx hl I Rn h
  exact wpAny_Name (wpAny_loadName_cell V.kf ((V.kind).trans hl) (by rw [(V.fn rfl).2.2]; exact h1) h2 (PostV.refl I h3)) hd
theorem ex_fre {csc : Scope} {xn : Str} {x : Nat} {nm : Str} {p : Pos} (hx : C.nms[x]? = some nm) (hl : C.sc.names.lookup nm = some .cell) (hf : csc.names.lookup nm = some .free) (hd : Dbg nm)
    (I : Iv h₀ L m ext s.heap as σ) (V : Ev C (some (csc, xn)) L ext cells as cv env) (Rn : EnvR C cells as m ε) (h : celM x ε σ = some (v, σ')) :
    wpAny (model prog w) A (eval (.Name nm p) env) (PostV h₀ L m ext s as σ' v) (fun _ _ => False) s := by
  obtain ⟨rfl, c, u, h1, h2, h3⟩ := cel_at hx hl I Rn h
  obtain ⟨q1, q2⟩ := (V.co csc xn rfl).2 nm c hl hf h1
  exact wpAny_Name (wpAny_loadName_cell V.kf q1 q2 h2 (PostV.refl I h3)) hd
theorem ex_cvr {csc : Scope} {xn : Str} {p : Pos} (hd : Dbg xn)
    (I : Iv h₀ L m ext s.heap as σ) (V : Ev C (some (csc, xn)) L ext cells as cv env) (h : cvM cv σ = some (v, σ')) :
    wpAny (model prog w) A (eval (.Name xn p) env) (PostV h₀ L m ext s as σ' v) (fun _ _ => False) s := by
  obtain ⟨rfl, rfl, _⟩ := cv_gr h
  obtain ⟨⟨Ca, oC, m₂, u, h1, h2, h3, h4, h5, h6⟩, _⟩ := V.co csc xn rfl
  exact wpAny_Name (wpAny_loadName_local V.kf h6 (by rw [h5]; exact h2.ns (I.N _ h1).1) h3 (PostV.refl I h4)) hd
theorem ex_int {i : Int} {kk : Nat} {p : Pos} (I : Iv h₀ L m ext s.heap as σ) : wpAny (model prog w) A (eval (.Constant (.int i) kk p) env) (PostV h₀ L m ext s as σ (.int i)) (fun _ _ => False) s :=
  wpAny_Constant_int (post_int I _)
theorem ex_bool {b : Bool} {kk : Nat} {p : Pos} (I : Iv h₀ L m ext s.heap as σ) : wpAny (model prog w) A (eval (.Constant (.bool b) kk p) env) (PostV h₀ L m ext s as σ (.bool b)) (fun _ _ => False) s :=
  wpAny_Constant_bool (PostV.refl I rfl)
theorem ex_neg {i : Int} {kk : Nat} {p p' : Pos} (I : Iv h₀ L m ext s.heap as σ) : wpAny (model prog w) A (eval (.UnaryOp .USub (.Constant (.int i) kk p) p') env) (PostV h₀ L m ext s as σ (.int (-i))) (fun _ _ => False) s :=
  wpAny_UnaryOp (wpAny_Constant_int (PySem.P.neg_int (post_int I _)))
theorem ex_bin (hE : OkEx prog w mg mb G Fn n r) {op : BOp} {l q : ME} {l' q' : Expr} {p : Pos} (pl : Py G C k l l') (pq : Py G C k q q') (hA : AOk A n) (B : Base mg mb G Fn h₀)
    (I : Iv h₀ L m ext s.heap as σ) (V : Ev C k L ext cells as cv env) (Rn : EnvR C cells as m ε) (h : sBin r op l q cv ε σ = some (v, σ')) :
    wpAny (model prog w) A (eval (.BinOp l' (bop op) q' p) env) (PostV h₀ L m ext s as σ' v) (fun _ _ => False) s := by
  unfold sBin at h
  split at h
  · rename_i e1
    split at h
    · rename_i e2
      refine wpAny_BinOp (wpAny_mono (hE pl hA B I V Rn e1) (fun wa s₁ h₁ => ?_) fun _ _ x => x)
      refine h₁.out fun h₁ tk₁ as₁ I₁ p₁ ra => ?_
      refine wpAny_mono (hE pq hA B (s := { s with heap := h₁, toks := tk₁ }) I₁ (V.mono p₁) (Rn.mono p₁) e2) (fun wb s₂ h₂ => ?_) fun _ _ x => x
      refine h₂.out fun h₂ tk₂ as₂ I₂ p₂ rb => ?_
      exact wpAny_mono (ok_bin (s := { s with heap := h₂, toks := tk₂ }) I₂ (ra.mono p₂) rb h).2 (fun _ _ x => PostV.trans rfl (p₁.trans p₂) x) fun _ _ x => x
    · cases h
  · cases h
theorem ex_cmp2 (hE : OkEx prog w mg mb G Fn n r) {op : COp} {l q : ME} {l' q' : Expr} {b : Bool} (pl : Py G C k l l') (pq : Py G C k q q') (hA : AOk A n) (B : Base mg mb G Fn h₀)
    (I : Iv h₀ L m ext s.heap as σ) (V : Ev C k L ext cells as cv env) (Rn : EnvR C cells as m ε) (h : sCmp r op l q cv ε σ = some (b, σ')) {Q : Value → Shared → Prop}
    (hQ : ∀ h' tk as', Iv h₀ L m ext h' as' σ' → as <+: as' → Q (.bool b) { s with heap := h', toks := tk }) :
    wpAny (model prog w) A (eval l' env) (fun a s₁ => wpAny (model prog w) A (eval q' env) (fun b s₂ => wpAny (model prog w) A (compareOp (cop op) a b) Q (fun _ _ => False) s₂) (fun _ _ => False) s₁) (fun _ _ => False) s := by
  unfold sCmp at h
  split at h
  · rename_i e1
    split at h
    · rename_i e2
      split at h
      · rename_i e3
        cases h
        refine wpAny_mono (hE pl hA B I V Rn e1) (fun wa s₁ h₁ => ?_) fun _ _ x => x
        refine h₁.out fun h₁ tk₁ as₁ I₁ p₁ ra => ?_
        refine wpAny_mono (hE pq hA B (s := { s with heap := h₁, toks := tk₁ }) I₁ (V.mono p₁) (Rn.mono p₁) e2) (fun wb s₂ h₂ => ?_) fun _ _ x => x
        refine h₂.out fun h₂ tk₂ as₂ I₂ p₂ rb => ?_
        exact ok_cmp (s := { s with heap := h₂, toks := tk₂ }) I₂ (by have := hA.un; omega) (ra.mono p₂) rb e3 (hQ _ _ _ I₂ (p₁.trans p₂))
      · cases h
    · cases h
  · cases h
theorem ex_cmp (hE : OkEx prog w mg mb G Fn n r) {op : COp} {l q : ME} {l' q' : Expr} {p : Pos} (pl : Py G C k l l') (pq : Py G C k q q') (hm : behindInMarks (cop op) q' = false) (hA : AOk A n) (B : Base mg mb G Fn h₀)
    (I : Iv h₀ L m ext s.heap as σ) (V : Ev C k L ext cells as cv env) (Rn : EnvR C cells as m ε) (h : cmpV (sCmp r op l q cv ε σ) = some (v, σ')) :
    wpAny (model prog w) A (eval (.Compare l' [cop op] [q'] p) env) (PostV h₀ L m ext s as σ' v) (fun _ _ => False) s := by
  unfold cmpV at h
  split at h
  · rename_i e1
    cases h
    exact wpAny_Compare1 (ex_cmp2 hE pl pq hA B I V Rn e1 fun h' tk as' I' p' => ⟨h', tk, as', rfl, I', p', rfl⟩) hm
  · cases h
theorem ex_ite (hE : OkEx prog w mg mb G Fn n r) (hT : OkTst prog w mg mb G Fn n r) {t a b : ME} {t' a' b' : Expr} {p : Pos} (pt : Py G C k t t') (pa : Py G C k a a') (pb : Py G C k b b') (hA : AOk A n) (B : Base mg mb G Fn h₀)
    (I : Iv h₀ L m ext s.heap as σ) (V : Ev C k L ext cells as cv env) (Rn : EnvR C cells as m ε) (h : sIte r t a b cv ε σ = some (v, σ')) :
    wpAny (model prog w) A (eval (.IfExp t' a' b' p) env) (PostV h₀ L m ext s as σ' v) (fun _ _ => False) s := by
  unfold sIte at h
  split at h
  · rename_i e1
    refine IfExp_ (wpAny_mono (hT pt hA B I V Rn e1) (fun c s₁ h₁ => ?_) fun _ _ x => x)
    obtain ⟨h₁, tk₁, as₁, rfl, I₁, p₁, rfl⟩ := h₁
    split at h
    · exact wpAny_mono (hE pa hA B (s := { s with heap := h₁, toks := tk₁ }) I₁ (V.mono p₁) (Rn.mono p₁) h) (fun _ _ x => PostV.trans rfl p₁ x) fun _ _ x => x
    · exact wpAny_mono (hE pb hA B (s := { s with heap := h₁, toks := tk₁ }) I₁ (V.mono p₁) (Rn.mono p₁) h) (fun _ _ x => PostV.trans rfl p₁ x) fun _ _ x => x
  · cases h
theorem ex_sub (hE : OkEx prog w mg mb G Fn n r) {e i : ME} {e' i' : Expr} {p : Pos} (pe : Py G C k e e') (pi : Py G C k i i') (hs : ∀ o v, subscripted i' false o v = operate [o, v] (getItem o v)) (hA : AOk A n) (B : Base mg mb G Fn h₀)
    (I : Iv h₀ L m ext s.heap as σ) (V : Ev C k L ext cells as cv env) (Rn : EnvR C cells as m ε) (h : sSub r e i cv ε σ = some (v, σ')) :
    wpAny (model prog w) A (eval (.Subscript e' i' p) env) (PostV h₀ L m ext s as σ' v) (fun _ _ => False) s := by
  unfold sSub at h
  split at h
  · rename_i e1
    split at h
    · rename_i e2
      split at h
      · rename_i e3
        obtain ⟨rfl, rfl, _⟩ := cv_gr h
        refine Subscript_ (wpAny_mono (hE pe hA B I V Rn e1) (fun wa s₁ h₁ => ?_) fun _ _ x => x)
        refine h₁.out fun h₁ tk₁ as₁ I₁ p₁ ra => ?_
        refine wpAny_mono (hE pi hA B (s := { s with heap := h₁, toks := tk₁ }) I₁ (V.mono p₁) (Rn.mono p₁) e2) (fun wb s₂ h₂ => ?_) fun _ _ x => x
        refine h₂.out fun h₂ tk₂ as₂ I₂ p₂ rb => ?_
        exact ok_item (s := { s with heap := h₂, toks := tk₂ }) I₂ (ra.mono p₂) rb e3 (hs _ _) fun u ru => ⟨h₂, tk₂, as₂, rfl, I₂, p₁.trans p₂, ru⟩
      · cases h
    · cases h
  · cases h
theorem ex_slcU (hE : OkEx prog w mg mb G Fn n r) {e hi : ME} {e' hi' : Expr} {p p' : Pos} (pe : Py G C k e e') (ph : Py G C k hi hi') (hA : AOk A n) (B : Base mg mb G Fn h₀)
    (I : Iv h₀ L m ext s.heap as σ) (V : Ev C k L ext cells as cv env) (Rn : EnvR C cells as m ε) (h : sSlc r e none (some hi) cv ε σ = some (v, σ')) :
    wpAny (model prog w) A (eval (.Subscript e' (.Slice none (some hi') none p) p') env) (PostV h₀ L m ext s as σ' v) (fun _ _ => False) s := by
  unfold sSlc at h
  split at h
  · rename_i e1
    dsimp only at h
    split at h
    · rename_i e2
      refine Subscript_ (wpAny_mono (hE pe hA B I V Rn e1) (fun wa s₁ h₁ => ?_) fun _ _ x => x)
      refine h₁.out fun h₁ tk₁ as₁ I₁ p₁ ra => ?_
      refine wpAny_Slice (wpAny_of_eq (evalPart_none env) ?_)
      refine wpAny_mono (hE ph hA B (s := { s with heap := h₁, toks := tk₁ }) I₁ (V.mono p₁) (Rn.mono p₁) e2) (fun wb s₂ h₂ => ?_) fun _ _ x => x
      refine h₂.out fun h₂ tk₂ as₂ I₂ p₂ rb => ?_
      refine wpAny_of_eq (evalPart_none env) ?_
      exact wpAny_mono (ok_slc (s := { s with heap := h₂, toks := tk₂ }) I₂ (ra.mono p₂) (fun x q => by cases q) (fun _ => rfl) (fun x q => by cases q; exact rb) h).2 (fun _ _ x => PostV.trans rfl (p₁.trans p₂) x) fun _ _ x => x
    · cases h
  · cases h
theorem ex_slcB (hE : OkEx prog w mg mb G Fn n r) {e lo hi : ME} {e' lo' hi' : Expr} {p p' : Pos} (pe : Py G C k e e') (pl : Py G C k lo lo') (ph : Py G C k hi hi') (hA : AOk A n) (B : Base mg mb G Fn h₀)
    (I : Iv h₀ L m ext s.heap as σ) (V : Ev C k L ext cells as cv env) (Rn : EnvR C cells as m ε) (h : sSlc r e (some lo) (some hi) cv ε σ = some (v, σ')) :
    wpAny (model prog w) A (eval (.Subscript e' (.Slice (some lo') (some hi') none p) p') env) (PostV h₀ L m ext s as σ' v) (fun _ _ => False) s := by
  unfold sSlc at h
  split at h
  · rename_i e1
    dsimp only at h
    split at h
    · rename_i e2
      split at h
      · rename_i e3
        refine Subscript_ (wpAny_mono (hE pe hA B I V Rn e1) (fun wa s₁ h₁ => ?_) fun _ _ x => x)
        refine h₁.out fun h₁ tk₁ as₁ I₁ p₁ ra => ?_
        refine wpAny_Slice ?_
        refine wpAny_mono (hE pl hA B (s := { s with heap := h₁, toks := tk₁ }) I₁ (V.mono p₁) (Rn.mono p₁) e2) (fun wl s₂ h₂ => ?_) fun _ _ x => x
        refine h₂.out fun h₂ tk₂ as₂ I₂ p₂ rl => ?_
        refine wpAny_mono (hE ph hA B (s := { s with heap := h₂, toks := tk₂ }) I₂ (V.mono (p₁.trans p₂)) (Rn.mono (p₁.trans p₂)) e3) (fun wb s₃ h₃ => ?_) fun _ _ x => x
        refine h₃.out fun h₃ tk₃ as₃ I₃ p₃ rb => ?_
        refine wpAny_of_eq (evalPart_none env) ?_
        exact wpAny_mono (ok_slc (s := { s with heap := h₃, toks := tk₃ }) I₃ (ra.mono (p₂.trans p₃)) (fun x q => by cases q; exact rl.mono p₃) (fun q => by cases q) (fun x q => by cases q; exact rb) h).2 (fun _ _ x => PostV.trans rfl ((p₁.trans p₂).trans p₃) x) fun _ _ x => x
      · cases h
    · cases h
  · cases h
theorem ex_rev (hE : OkEx prog w mg mb G Fn n r) {e : ME} {e' : Expr} {kk : Nat} {p p1 p2 p' : Pos} (pe : Py G C k e e') (hA : AOk A n) (B : Base mg mb G Fn h₀)
    (I : Iv h₀ L m ext s.heap as σ) (V : Ev C k L ext cells as cv env) (Rn : EnvR C cells as m ε) (h : sRev r e cv ε σ = some (v, σ')) :
    wpAny (model prog w) A (eval (.Subscript e' (.Slice none none (some (.UnaryOp .USub (.Constant (.int 1) kk p1) p2)) p) p') env) (PostV h₀ L m ext s as σ' v) (fun _ _ => False) s := by
  unfold sRev at h
  split at h
  · rename_i e1
    refine Subscript_ (wpAny_mono (hE pe hA B I V Rn e1) (fun wa s₁ h₁ => ?_) fun _ _ x => x)
    refine h₁.out fun h₁ tk₁ as₁ I₁ p₁ ra => ?_
    refine wpAny_Slice (wpAny_of_eq (evalPart_none env) (wpAny_of_eq (evalPart_none env) ?_))
    refine wpAny_UnaryOp (wpAny_Constant_int (PySem.P.neg_int ?_))
    exact wpAny_mono (ok_rev (s := { s with heap := h₁, toks := tk₁ + 1 + 1 }) I₁ ra h).2 (fun _ _ x => PostV.trans rfl p₁ x) fun _ _ x => x
  · cases h
theorem ex_tup (hX : OkExs prog w mg mb G Fn n r) {es : List ME} {es' : List Expr} {kk : Nat} {p : Pos} (pe : PyL G C k es es') (hA : AOk A n) (B : Base mg mb G Fn h₀)
    (I : Iv h₀ L m ext s.heap as σ) (V : Ev C k L ext cells as cv env) (Rn : EnvR C cells as m ε) (h : sTup r es cv ε σ = some (v, σ')) :
    wpAny (model prog w) A (eval (.Tuple es' kk p) env) (PostV h₀ L m ext s as σ' v) (fun _ _ => False) s := by
  unfold sTup at h
  split at h
  · rename_i e1
    split at h
    · rename_i hsz
      have hs := Nat.le_of_ble_eq_true hsz
      rw [lenM_eq, Nat.add_zero] at hs
      rw [alc_eq] at h
      cases h
      refine Tuple_ (wpAny_mono (hX pe hA B I V Rn e1 p) (fun ws s₁ h₁ => ?_) fun _ _ x => x)
      refine h₁.out fun h₁ tk₁ as₁ I₁ p₁ ra => ?_
      exact wpAny_newTuple (PostV.trans rfl p₁ (post_push (s := { s with heap := h₁, toks := tk₁ }) (tk := tk₁) I₁ rfl (or_tup ra))) (by rw [ra.length]; exact Nat.le_trans hs (by decide))
    · cases h
  · cases h
theorem ex_lst (hX : OkExs prog w mg mb G Fn n r) {es : List ME} {es' : List Expr} {p : Pos} (pe : PyL G C k es es') (hA : AOk A n) (B : Base mg mb G Fn h₀)
    (I : Iv h₀ L m ext s.heap as σ) (V : Ev C k L ext cells as cv env) (Rn : EnvR C cells as m ε) (h : sLst r es cv ε σ = some (v, σ')) :
    wpAny (model prog w) A (eval (.List es' p) env) (PostV h₀ L m ext s as σ' v) (fun _ _ => False) s := by
  unfold sLst at h
  split at h
  · rename_i e1
    split at h
    · rename_i hsz
      have hs := Nat.le_of_ble_eq_true hsz
      rw [lenM_eq, Nat.add_zero] at hs
      rw [alc_eq] at h
      cases h
      refine List_ (wpAny_mono (hX pe hA B I V Rn e1 p) (fun ws s₁ h₁ => ?_) fun _ _ x => x)
      refine h₁.out fun h₁ tk₁ as₁ I₁ p₁ ra => ?_
      exact wpAny_newList (PostV.trans rfl p₁ (post_push (s := { s with heap := h₁, toks := tk₁ }) (tk := tk₁) I₁ rfl (or_lst ra))) (by rw [ra.length]; exact Nat.le_trans hs (by decide))
    · cases h
  · cases h
theorem ex_call (hX : OkExs prog w mg mb G Fn n r) (hC : OkCal prog w mg mb G Fn n r) {f : Nat} {nm : Str} {e : ME} {es : List ME} {e' : Expr} {es' : List Expr} {p p' : Pos} (hf : G[f]? = some nm) (hl : (scOf C k).names.lookup nm = some .globalImplicit) (hd : Dbg nm)
    (pe : PyL G C k (e :: es) (e' :: es')) (hA : AOk A n) (B : Base mg mb G Fn h₀) (hfd : ∃ fd, Fn[f]? = some fd)
    (I : Iv h₀ L m ext s.heap as σ) (V : Ev C k L ext cells as cv env) (Rn : EnvR C cells as m ε) (h : sCll r f (e :: es) cv ε σ = some (v, σ')) :
    wpAny (model prog w) A (eval (.Call (.Name nm p) (e' :: es') [] p') env) (PostV h₀ L m ext s as σ' v) (fun _ _ => False) s := by
  unfold sCll at h
  split at h
  · rename_i e1
    obtain ⟨fd, hfd⟩ := hfd
    obtain ⟨a, o, params, body, scope, pm, cd, doc, h1, h2, h3, h4, h5⟩ := B.fn f nm fd hf hfd
    refine Call_ (Name_function_global V.kf (V.glob nm hl) (loadGlobal_global (mg := mg) (by rw [V.gl]; exact B.g.keeps I.F.keep) h1 ?_) hd)
    have pe' := pe
    cases pe.inv with
    | cons q1 q2 =>
      refine callWith_def h3 (wpAny_mono (hX pe' hA B I V Rn e1 p') (fun ws s₁ h₁ => ?_) fun _ _ x => x) (q1.star _ _)
      obtain ⟨h₁, tk₁, as₁, rfl, I₁, p₁, ra⟩ := h₁
      exact ⟨I₁.F.keep _ _ h2, wpAny_mono (hC (s := { s with heap := h₁, toks := tk₁ }) hA B I₁ hf h1 ra h) (fun _ _ x => PostV.trans rfl p₁ x) fun _ _ x => x⟩
  · cases h
theorem bnm_dbg (b : Blt) : Dbg (bnm b) := by unfold Dbg; cases b <;> decide
theorem bval_mem (b : Blt) : (bnm b, bval b) ∈ bltAll := by
  cases b with
  | len => exact .head _
  | max => exact .tail _ (.head _)
  | abs => exact .tail _ (.tail _ (.head _))
  | list => exact .tail _ (.tail _ (.tail _ (.head _)))
  | sum => exact .tail _ (.tail _ (.tail _ (.tail _ (.head _))))
theorem ex_blt (hX : OkExs prog w mg mb G Fn n r) {b : Blt} {e : ME} {es : List ME} {e' : Expr} {es' : List Expr} {p p' : Pos} (hl : (scOf C k).names.lookup (bnm b) = some .globalImplicit)
    (pe : PyL G C k (e :: es) (e' :: es')) (hA : AOk A n) (B : Base mg mb G Fn h₀)
    (I : Iv h₀ L m ext s.heap as σ) (V : Ev C k L ext cells as cv env) (Rn : EnvR C cells as m ε) (h : sBlt r b (e :: es) cv ε σ = some (v, σ')) :
    wpAny (model prog w) A (eval (.Call (.Name (bnm b) p) (e' :: es') [] p') env) (PostV h₀ L m ext s as σ' v) (fun _ _ => False) s := by
  unfold sBlt at h
  split at h
  · rename_i e1
    obtain ⟨hm, hb⟩ := B.blt _ _ (bval_mem b)
    refine Call_ (Name_function_global V.kf (V.glob _ hl) (loadGlobal_builtin (mg := mg) (mb := mb) (by rw [V.gl]; exact B.g.keeps I.F.keep) hm (by rw [V.bl]; exact B.b.keeps I.F.keep) hb ?_) (bnm_dbg b))
    have pe' := pe
    cases pe.inv with
    | cons q1 q2 =>
      have fin : wpAny (model prog w) A (spliced (backTo p' (starEach (e' :: es') env))) (fun ws s₁ => wpAny (model prog w) A (call (bval b) ws) (PostV h₀ L m ext s as σ' v) (fun _ _ => False) s₁) (fun _ _ => False) s := by
        refine wpAny_mono (hX pe' hA B I V Rn e1 p') (fun ws s₁ h₁ => ?_) fun _ _ x => x
        refine h₁.out fun h₁ tk₁ as₁ I₁ p₁ ra => ?_
        exact wpAny_mono (ok_blt (s := { s with heap := h₁, toks := tk₁ }) I₁ hA.hd ra h).2 (fun _ _ x => PostV.trans rfl p₁ x) fun _ _ x => x
      cases b with
      | len => exact PyProof.Rows.callWith_builtin1 fin (q1.star _ _) (q2.stars _ _)
      | max => exact PyProof.Rows.callWith_builtin1 fin (q1.star _ _) (q2.stars _ _)
      | abs => exact PyProof.Rows.callWith_builtin1 fin (q1.star _ _) (q2.stars _ _)
      | sum => exact PyProof.Rows.callWith_builtin1 fin (q1.star _ _) (q2.stars _ _)
      | list => exact PySem.Pv.callWith_type1 fin (q1.star _ _) (q2.stars _ _)
  · cases h
theorem step_exs (hE : OkEx prog w mg mb G Fn n r) (hX : OkExs prog w mg mb G Fn n r) {es : List ME} {es' : List Expr} {vs : List MV} (pe : PyL G C k es es') (hA : AOk A n) (B : Base mg mb G Fn h₀)
    (I : Iv h₀ L m ext s.heap as σ) (V : Ev C k L ext cells as cv env) (Rn : EnvR C cells as m ε) (h : sExs r es cv ε σ = some (vs, σ')) (pos : Pos) :
    wpAny (model prog w) A (spliced (backTo pos (starEach es' env))) (PostVs h₀ L m ext s as σ' vs) (fun _ _ => False) s := by
  unfold sExs at h
  split at h
  · cases h
    cases pe.inv
    exact spliced_nil ⟨s.heap, s.toks, as, rfl, I, List.prefix_refl _, .nil⟩
  · split at h
    · rename_i e1
      split at h
      · rename_i e2
        cases h
        cases pe.inv with
        | cons q1 q2 =>
          rw [q1.star]
          refine spliced_cons (wpAny_mono (hE q1 hA B I V Rn e1) (fun wa s₁ h₁ => ?_) fun _ _ x => x)
          refine h₁.out fun h₁ tk₁ as₁ I₁ p₁ ra => ?_
          refine wpAny_mono (hX q2 hA B (s := { s with heap := h₁, toks := tk₁ }) I₁ (V.mono p₁) (Rn.mono p₁) e2 pos) (fun wb s₂ h₂ => ?_) fun _ _ x => x
          refine h₂.out fun h₂ tk₂ as₂ I₂ p₂ rb => ?_
          exact ⟨h₂, tk₂, as₂, rfl, I₂, p₁.trans p₂, .cons (ra.mono p₂) rb⟩
      · cases h
    · cases h
theorem step_tst (hE : OkEx prog w mg mb G Fn n r) (hc : OkAll prog w mg mb G Fn .And n r.conj) (hd : OkAll prog w mg mb G Fn .Or n r.disj) {e : ME} {e' : Expr} {b : Bool} (pe : Py G C k e e') (hA : AOk A n) (B : Base mg mb G Fn h₀)
    (I : Iv h₀ L m ext s.heap as σ) (V : Ev C k L ext cells as cv env) (Rn : EnvR C cells as m ε) (h : sTst r e cv ε σ = some (b, σ')) :
    wpAny (model prog w) A (isTrue e' env (eval e' env)) (PostB h₀ L m ext s as σ' b) (fun _ _ => False) s := by
  cases pe.inv with
  | cmp q1 q2 =>
    replace h : sCmp r _ _ _ cv ε σ = some (b, σ') := h
    refine wpAny_isTrue_Compare1 (ex_cmp2 hE q1 q2 hA B I V Rn h fun h' tk as' I' p' => ?_) (marks_op _ _)
    exact wpAny_truthy_bool ⟨h', tk, as', rfl, I', p', rfl⟩
  | bool =>
    cases h
    exact isTrue_plain (wpAny_Constant_bool (wpAny_truthy_bool ⟨s.heap, s.toks, as, rfl, I, List.prefix_refl _, rfl⟩))
  | conj q => exact hc q hA B I V Rn h
  | disj q => exact hd q hA B I V Rn h
  | _ => cases h
theorem step_conj (hT : OkTst prog w mg mb G Fn n r) (hc : OkAll prog w mg mb G Fn .And n r.conj) {es : List ME} {es' : List Expr} {b : Bool} (pe : PyL G C k es es') (hA : AOk A n) (B : Base mg mb G Fn h₀)
    (I : Iv h₀ L m ext s.heap as σ) (V : Ev C k L ext cells as cv env) (Rn : EnvR C cells as m ε) (h : sConj r es cv ε σ = some (b, σ')) :
    wpAny (model prog w) A (allTrue .And es' env) (PostB h₀ L m ext s as σ' b) (fun _ _ => False) s := by
  unfold sConj at h
  split at h
  · cases h
    cases pe.inv
    exact wpAny_pure (a := true) ⟨s.heap, s.toks, as, rfl, I, List.prefix_refl _, rfl⟩
  · cases pe.inv with
    | cons q1 q2 =>
      rw [allTrue]
      split at h
      · rename_i e1
        refine wpAny_bind (wpAny_mono (hT q1 hA B I V Rn e1) (fun c s₁ h₁ => ?_) fun _ _ x => x)
        obtain ⟨h₁, tk₁, as₁, rfl, I₁, p₁, rfl⟩ := h₁
        exact wpAny_mono (hc q2 hA B (s := { s with heap := h₁, toks := tk₁ }) I₁ (V.mono p₁) (Rn.mono p₁) h) (fun _ _ x => PostB.trans rfl p₁ x) fun _ _ x => x
      · rename_i e1
        cases h
        refine wpAny_bind (wpAny_mono (hT q1 hA B I V Rn e1) (fun c s₁ h₁ => ?_) fun _ _ x => x)
        obtain ⟨h₁, tk₁, as₁, rfl, I₁, p₁, rfl⟩ := h₁
        exact wpAny_pure (a := false) ⟨h₁, tk₁, as₁, rfl, I₁, p₁, rfl⟩
      · cases h
theorem step_disj (hT : OkTst prog w mg mb G Fn n r) (hc : OkAll prog w mg mb G Fn .Or n r.disj) {es : List ME} {es' : List Expr} {b : Bool} (pe : PyL G C k es es') (hA : AOk A n) (B : Base mg mb G Fn h₀)
    (I : Iv h₀ L m ext s.heap as σ) (V : Ev C k L ext cells as cv env) (Rn : EnvR C cells as m ε) (h : sDisj r es cv ε σ = some (b, σ')) :
    wpAny (model prog w) A (allTrue .Or es' env) (PostB h₀ L m ext s as σ' b) (fun _ _ => False) s := by
  unfold sDisj at h
  split at h
  · cases h
    cases pe.inv
    exact wpAny_pure (a := false) ⟨s.heap, s.toks, as, rfl, I, List.prefix_refl _, rfl⟩
  · cases pe.inv with
    | cons q1 q2 =>
      rw [allTrue]
      split at h
      · rename_i e1
        refine wpAny_bind (wpAny_mono (hT q1 hA B I V Rn e1) (fun c s₁ h₁ => ?_) fun _ _ x => x)
        obtain ⟨h₁, tk₁, as₁, rfl, I₁, p₁, rfl⟩ := h₁
        exact wpAny_mono (hc q2 hA B (s := { s with heap := h₁, toks := tk₁ }) I₁ (V.mono p₁) (Rn.mono p₁) h) (fun _ _ x => PostB.trans rfl p₁ x) fun _ _ x => x
      · rename_i e1
        cases h
        refine wpAny_bind (wpAny_mono (hT q1 hA B I V Rn e1) (fun c s₁ h₁ => ?_) fun _ _ x => x)
        obtain ⟨h₁, tk₁, as₁, rfl, I₁, p₁, rfl⟩ := h₁
        exact wpAny_pure (a := true) ⟨h₁, tk₁, as₁, rfl, I₁, p₁, rfl⟩
      · cases h
end
end Mine
end
section
open PySem PySem.W PySem.Calls PyProof.Rows PyProof.Rows.LCg
namespace Mine
theorem Ev.cvN {C : Cx} {L : Addr} {ext : List (Addr × Obj)} {cells : List (Str × Addr)} {as : List Addr} {cv cv' : MV} {env : Env} (h : Ev C none L ext cells as cv env) : Ev C none L ext cells as cv' env where
  kf := h.kf
  gl := h.gl
  bl := h.bl
  glob := h.glob
  cel := h.cel
  fn := h.fn
  co := fun _ _ e => by cases e
theorem Ev.extN {C : Cx} {L : Addr} {ext ext' : List (Addr × Obj)} {cells : List (Str × Addr)} {as : List Addr} {cv : MV} {env : Env} (h : Ev C none L ext cells as cv env) : Ev C none L ext' cells as cv env where
  kf := h.kf
  gl := h.gl
  bl := h.bl
  glob := h.glob
  cel := h.cel
  fn := h.fn
  co := fun _ _ e => by cases e
/-! ## The names of a comprehension -/
noncomputable def rl (env : Env) (p : Str × NameKind) : Str × NameKind := if (p.2 == NameKind.free && env.scope.kind == .function && env.kindOf p.1 == some .cell) then (p.1, .cell) else (p.1, p.2)
theorem rl_fst (env : Env) (p : Str × NameKind) : (rl env p).1 = p.1 := by unfold rl; split <;> rfl
theorem lookup_rl (env : Env) : ∀ (names : List (Str × NameKind)) (x : Str) (k : NameKind), names.lookup x = some k → (names.map (rl env)).lookup x = some (rl env (x, k)).2
  | [], x, k, h => by cases h
  | (nm, k') :: r, x, k, h => by
    have e : (rl env (nm, k')) = (nm, (rl env (nm, k')).2) := Prod.ext (rl_fst env (nm, k')) rfl
    rw [List.map_cons, e]
    cases hx : x == nm with
    | true =>
      rw [List.lookup_cons, hx] at h ⊢
      cases h
      have : x = nm := by simpa using hx
      rw [this]
    | false =>
      rw [List.lookup_cons, hx] at h ⊢
      exact lookup_rl env r x k h
theorem relabel_kind {scope : Scope} {env : Env} {x : Str} {k : NameKind} (h : scope.names.lookup x = some k) : (relabel scope env).names.lookup x = some (rl env (x, k)).2 := lookup_rl env scope.names x k h
noncomputable def clStep (env : Env) (cs : List (Str × Addr)) (y : Str × NameKind) : List (Str × Addr) := if y.2 == .free then (y.1, (env.cells.lookup y.1).getD 0) :: cs else cs
theorem clos_go (env : Env) : ∀ (names : List (Str × NameKind)) (acc : List (Str × Addr)), (∀ y ∈ names, y.2 = .free → ∃ c, env.cells.lookup y.1 = some c) →
    (forIn names acc (fun (x : Str × NameKind) (r : List (Str × Addr)) => (if (x.2 == NameKind.free) = true then (do let __do_lift ← cellOf env x.1; pure (ForInStep.yield ((x.1, __do_lift) :: r))) else pure (ForInStep.yield r) : Sem (ForInStep (List (Str × Addr)))))) = pure (names.foldl (clStep env) acc)
  | [], acc, _ => rfl
  | (nm, k) :: r, acc, h => by
    rw [List.forIn_cons, List.foldl_cons]
    have ih := fun acc => clos_go env r acc fun y hy => h y (List.mem_cons_of_mem _ hy)
    by_cases hk : k = .free
    · subst hk
      obtain ⟨c, hc⟩ := h _ List.mem_cons_self rfl
      have hc' : env.cells.lookup nm = some c := hc
      have e : cellOf env nm = pure c := by unfold cellOf; rw [hc']
      have e2 : clStep env acc (nm, .free) = (nm, c) :: acc := by show (nm, (env.cells.lookup nm).getD 0) :: acc = _; rw [hc']; rfl
      rw [e2, ← ih]
      show ((do let __do_lift ← cellOf env nm; pure (ForInStep.yield ((nm, __do_lift) :: acc))) >>= _ : Sem _) = _
      rw [e]; rfl
    · have hk' : (k == NameKind.free) = false := by simpa using hk
      have e2 : clStep env acc (nm, k) = acc := by unfold clStep; simp only [hk']; rfl
      rw [e2, ← ih]
      simp only [hk', Bool.false_eq_true, if_false]
      rfl
theorem clos_eq {scope : Scope} {env : Env} (h : ∀ y ∈ scope.names, y.2 = .free → ∃ c, env.cells.lookup y.1 = some c) : closureFor scope env = pure (scope.names.foldl (clStep env) []) := by
  have := clos_go env scope.names [] h
  show ((forIn scope.names ([] : List (Str × Addr)) (fun (x : Str × NameKind) (r : List (Str × Addr)) => (if (x.2 == NameKind.free) = true then (do let __do_lift ← cellOf env x.1; pure (ForInStep.yield ((x.1, __do_lift) :: r))) else pure (ForInStep.yield r) : Sem (ForInStep (List (Str × Addr)))))) >>= fun cs => pure cs : Sem (List (Str × Addr))) = _
  rw [this]
  rfl
theorem clos_lookup (env : Env) : ∀ (names : List (Str × NameKind)) (acc : List (Str × Addr)) (nm : Str) (c : Addr), env.cells.lookup nm = some c → (acc.lookup nm = some c ∨ names.lookup nm = some .free) → (names.foldl (clStep env) acc).lookup nm = some c
  | [], acc, nm, c, hc, h => by
    rcases h with h | h
    · exact h
    · cases h
  | (n2, k) :: r, acc, nm, c, hc, h => by
    rw [List.foldl_cons]
    refine clos_lookup env r _ nm c hc ?_
    by_cases hn : nm = n2
    · subst hn
      rcases h with h | h
      · left
        by_cases hk : k = .free
        · subst hk
          show List.lookup nm ((nm, (env.cells.lookup nm).getD 0) :: acc) = _
          rw [List.lookup_cons, beq_self_eq_true, hc]; rfl
        · have hk' : (k == NameKind.free) = false := by simpa using hk
          have e2 : clStep env acc (nm, k) = acc := by unfold clStep; simp only [hk']; rfl
          rw [e2]; exact h
      · rw [List.lookup_cons, beq_self_eq_true] at h
        cases h
        left
        show List.lookup nm ((nm, (env.cells.lookup nm).getD 0) :: acc) = _
        rw [List.lookup_cons, beq_self_eq_true, hc]; rfl
    · have hn' : (nm == n2) = false := by simpa using hn
      rcases h with h | h
      · left
        by_cases hk : k = .free
        · subst hk
          show List.lookup nm ((n2, (env.cells.lookup n2).getD 0) :: acc) = _
          rw [List.lookup_cons, hn']; exact h
        · have hk' : (k == NameKind.free) = false := by simpa using hk
          have e2 : clStep env acc (n2, k) = acc := by unfold clStep; simp only [hk']; rfl
          rw [e2]; exact h
      · rw [List.lookup_cons, hn'] at h
        exact .inr h
structure CompOk (C : Cx) (csc : Scope) (xn : Str) (L : Addr) (cells : List (Str × Addr)) (env : Env) (cl : List (Str × Addr)) : Prop where
  kind : csc.kind = .function
  loc : csc.names.lookup xn = some .local
  kf : env.scope.kind = .function
  gl : env.globals = mainGlobals
  bl : env.builtins = builtinsNs
  kd : ∀ nm, env.kindOf nm = C.sc.names.lookup nm
  cel : ∀ nm, C.sc.names.lookup nm = some .cell → ∃ c, cells.lookup nm = some c
  cl : ∀ nm c, C.sc.names.lookup nm = some .cell → csc.names.lookup nm = some .free → cells.lookup nm = some c → cl.lookup nm = some c
theorem CompOk.ev {C : Cx} {csc : Scope} {xn : Str} {L : Addr} {cells : List (Str × Addr)} {env : Env} {cl : List (Str × Addr)} (K : CompOk C csc xn L cells env cl) {ext : List (Addr × Obj)} {Ca : Addr} {oC : Obj} {m₂ : Str → Option Value} {w : Value} {as : List Addr} {v : MV}
    (h1 : (Ca, oC) ∈ ext) (h2 : NsObj oC m₂) (h3 : m₂ xn = some w) (h4 : VR as v w) : Ev C (some (csc, xn)) L ext cells as v (compEnvC csc cl Ca env) where
  kf := K.kind
  gl := K.gl
  bl := K.bl
  glob := fun nm h => by
    have := relabel_kind (env := env) (show csc.names.lookup nm = some .globalImplicit from h)
    exact this
  cel := K.cel
  fn := fun e => by cases e
  co := fun csc' xn' e => by
    cases e
    refine ⟨⟨Ca, oC, m₂, w, h1, h2, h3, h4, rfl, ?_⟩, fun nm c e1 e2 e3 => ⟨?_, K.cl nm c e1 e2 e3⟩⟩
    · have := relabel_kind (env := env) K.loc
      exact this
    · have := relabel_kind (env := env) e2
      have e : (rl env (nm, .free)).2 = .cell := by
        unfold rl
        rw [if_pos (by rw [K.kf, K.kd nm, e1]; rfl)]
      rw [e] at this
      exact this
/-! ## The state within a walk -/
section
variable {h₀ h h' : Heap} {L : Addr} {m : Str → Option Value} {ext : List (Addr × Obj)} {as : List Addr} {σ : List MO}
theorem mem_news {p : Addr × Obj} (hp : p ∈ newsOf ext as h) : p ∈ ext ∨ (p.1 ∈ as ∧ h.get? p.1 = some p.2) := by
  rcases List.mem_append.mp hp with hp | hp
  · exact .inl hp
  · obtain ⟨a, ha, e⟩ := List.mem_filterMap.mp hp
    cases q : h.get? a with
    | none => rw [q] at e; cases e
    | some o => rw [q] at e; cases e; exact .inr ⟨ha, q⟩
theorem Iv.mem_as (I : Iv h₀ L m ext h as σ) {a : Addr} (ha : a ∈ as) : ∃ o, (a, o) ∈ newsOf ext as h := by
  obtain ⟨i, hi, e⟩ := List.mem_iff_getElem.mp ha
  have e1 : as[i]? = some a := by rw [List.getElem?_eq_getElem hi, e]
  have hs : i < σ.length := I.len ▸ hi
  obtain ⟨o, ho, _⟩ := I.obj i a σ[i] e1 (List.getElem?_eq_getElem hs)
  exact ⟨o, List.mem_append_right _ (List.mem_filterMap.mpr ⟨a, ha, by rw [ho]; rfl⟩)⟩
theorem Iv.more (I : Iv h₀ L m ext h as σ) {X : List (Addr × Obj)} (F : Fr h₀ L h' m) (N : News h₀ L h' (X ++ newsOf ext as h)) (off : ∀ p ∈ newsOf ext as h, ∀ q ∈ X, q.1 ≠ p.1) : Iv h₀ L m (X ++ ext) h' as σ := by
  have J := I.back F (fun p hp => N p (List.mem_append_right _ hp))
  refine ⟨J.F, fun p hp => ?_, J.len, J.obj, fun a ha => ⟨(J.fr a ha).1, (J.fr a ha).2.1, fun p hp => ?_⟩, J.nd⟩
  · rcases List.mem_append.mp hp with hp | hp
    · exact N p (List.mem_append_left _ hp)
    · exact J.N p hp
  · rcases List.mem_append.mp hp with hp | hp
    · obtain ⟨o, ho⟩ := I.mem_as ha
      exact off _ ho p hp
    · exact (J.fr a ha).2.2 p hp
theorem Iv.less {X : List (Addr × Obj)} (I : Iv h₀ L m (X ++ ext) h as σ) : Iv h₀ L m ext h as σ :=
  ⟨I.F, fun p hp => I.N p (List.mem_append_right _ hp), I.len, I.obj, fun a ha => ⟨(I.fr a ha).1, (I.fr a ha).2.1, fun p hp => (I.fr a ha).2.2 p (List.mem_append_right _ hp)⟩, I.nd⟩
theorem Iv.backD (I : Iv h₀ L m ext h as σ) {o : Obj} {mo : MO} {D : Addr} (off : ∀ p ∈ newsOf ext as h, p.1 ≠ D) (F : Fr h₀ L h' m) (N : News h₀ L h' ((D, o) :: newsOf ext as h)) (r : OR (as ++ [D]) mo o) :
    Iv h₀ L m ext h' (as ++ [D]) (σ ++ [mo]) := by
  have J := I.back F (fun p hp => N p (List.mem_cons_of_mem _ hp))
  have z := N (D, o) List.mem_cons_self
  have pre : as <+: as ++ [D] := List.prefix_append _ _
  refine ⟨J.F, J.N, by simp [I.len], fun i a mo' e1 e2 => ?_, fun a ha => ?_, ?_⟩
  · rcases snoc_get e1 with e1 | ⟨hi, rfl⟩
    · rcases snoc_get e2 with e2 | ⟨hj, rfl⟩
      · obtain ⟨o', e, r'⟩ := J.obj i a mo' e1 e2
        exact ⟨o', e, r'.mono pre⟩
      · rw [← I.len] at hj
        rw [hj, List.getElem?_eq_none (Nat.le_refl _)] at e1; cases e1
    · rcases snoc_get e2 with e2 | ⟨hj, rfl⟩
      · rw [hi, I.len, List.getElem?_eq_none (Nat.le_refl _)] at e2; cases e2
      · exact ⟨o, z.1, r⟩
  · rcases List.mem_append.mp ha with ha | ha
    · exact J.fr a ha
    · rw [List.mem_singleton.mp ha]
      exact ⟨z.2.1, z.2.2, fun p hp => off p (List.mem_append_left _ hp)⟩
  · refine List.nodup_append.mpr ⟨I.nd, by simp, fun a ha b hb => ?_⟩
    rw [List.mem_singleton.mp hb]
    obtain ⟨o', ho'⟩ := I.mem_as ha
    exact off _ ho'
end
theorem VR.back {as as' : List Addr} (p : as <+: as') {v : MV} {w u : Value} (x : VR as v u) (y : VR as' v w) : VR as v w := by
  cases v with
  | undef => exact x
  | int i => exact y
  | bool b => exact y
  | ref j =>
    obtain ⟨a, e, rfl⟩ := x
    obtain ⟨a', e', rfl⟩ := y
    have := pre_get p e
    rw [e'] at this; cases this
    exact ⟨a, e, rfl⟩
theorem VRs.back {as as' : List Addr} (p : as <+: as') {l : List MV} {us : List Value} (x : VRs as l us) : ∀ {ws : List Value}, VRs as' l ws → VRs as l ws := by
  induction x with
  | nil => intro ws y; cases y; exact .nil
  | cons h _ ih =>
    intro ws y
    cases y with
    | cons h1 h2 => exact .cons (h.back p h1) (ih h2)
/-- the walk over a list of the store -/
theorem walk_lst {prog : Program} {w : World} {A : Around} (hh : A.handled = none) (I ax : Addr) (hne : ax ≠ I) (as : List Addr) (l : List MV) :
    Walks prog w A I [I, ax] [I] l.length (fun i v => ∃ u, l[i]? = some u ∧ VR as u v) (fun i h => h.IsListIter I ax i ∧ ∃ vs c, h.get? ax = some (lobj vs c) ∧ VRs as l vs) where
  sub := fun b hb => by rw [List.mem_singleton.mp hb]; exact List.mem_cons_self
  frame := fun _ _ _ st hk => ⟨st.1.at fun o e => hk I List.mem_cons_self o e, by
    obtain ⟨vs, c, e, r⟩ := st.2
    exact ⟨vs, c, hk ax (List.mem_cons_of_mem _ List.mem_cons_self) _ e, r⟩⟩
  item := fun i s Q E hi st hQ => by
    obtain ⟨h1, vs, c, e, rv⟩ := st
    obtain ⟨x, hx, rx⟩ := rv.at (List.getElem?_eq_getElem hi)
    refine wpAny_pyNext_list_item h1 (lobj_isList e) hx fun h' hit' hs' => ?_
    exact hQ _ h' s.toks ⟨_, List.getElem?_eq_getElem hi, rx⟩ ⟨hit', vs, c, (hs'.2 _ hne).trans e, rv⟩ fun b o hb q => hs'.extBut b o (fun z => hb (by rw [z]; exact List.mem_singleton.mpr rfl)) q
  done := fun s Q E st hQ => by
    obtain ⟨h1, vs, c, e, rv⟩ := st
    exact wpAny_pyNext_list_end hh h1 (lobj_isList e) (by simp [rv.length]) fun h' he' => hQ h' s.toks fun b o hb q => he' b o (fun z => hb (by rw [z]; exact List.mem_singleton.mpr rfl)) q
  self := fun _ _ _ _ st hQ => wpAny_pyIter_listiter st.1 hQ
section
variable (prog : Program) (w : World) (mg mb : Str → Option Value) (G : List Str) (Fn : List FD)
noncomputable def OkCl (n : Nat) (r : R) : Prop := ∀ {C : Cx} {csc : Scope} {xn : Str} {elt : ME} {elt' : Expr} {A : Around} {env : Env} {L ax : Addr} {cells cl : List (Str × Addr)} {ext : List (Addr × Obj)} {h₀ hp : Heap} {m : Str → Option Value} {s : Shared} {as₀ as : List Addr} {σ σ' : List MO} {ε : List MV} {j i k : Nat} {l zs : List MV} {vs₀ : List Value} {Fin : List Value → List (Addr × Obj) → Prop},
  Py G C (some (csc, xn)) elt elt' → CompOk C csc xn L cells env cl → AOk A n → Base mg mb G Fn h₀ → Iv h₀ L m ext hp as σ → EnvR C cells as m ε → σ[j]? = some (.lst l) → as[j]? = some ax → as₀ <+: as → VRs as₀ l vs₀ → i + k = l.length → r.cl elt ε j i σ = some (zs, σ') → ∀ ys : List Value,
  (∀ as' h' ws, Iv h₀ L m ext h' as' σ' → as <+: as' → VRs as' zs ws → Fin (ys ++ ws) (newsOf ext as' h')) →
  CompRest prog w A h₀ L m env elt' xn csc cl s (fun nw => ∃ vs c, (ax, lobj vs c) ∈ nw ∧ VRs as₀ l vs) (fun i v => ∃ u, l[i]? = some u ∧ VR as₀ u v) Fin k i ys (newsOf ext as hp)
noncomputable def OkCr (n : Nat) (r : R) : Prop := ∀ {C : Cx} {csc : Scope} {xn : Str} {elt : ME} {elt' : Expr} {A : Around} {env : Env} {L : Addr} {cells cl : List (Str × Addr)} {ext : List (Addr × Obj)} {h₀ hp : Heap} {m : Str → Option Value} {s : Shared} {as : List Addr} {σ σ' : List MO} {ε : List MV} {i k : Nat} {hi : Int} {zs : List MV} {Fin : List Value → List (Addr × Obj) → Prop},
  Py G C (some (csc, xn)) elt elt' → CompOk C csc xn L cells env cl → AOk A n → Base mg mb G Fn h₀ → Iv h₀ L m ext hp as σ → EnvR C cells as m ε → i + k = hi.toNat → r.cr elt ε (i : Int) hi σ = some (zs, σ') → ∀ ys : List Value,
  (∀ as' h' ws, Iv h₀ L m ext h' as' σ' → as <+: as' → VRs as' zs ws → Fin (ys ++ ws) (newsOf ext as' h')) →
  CompRest prog w A h₀ L m env elt' xn csc cl s (fun _ => True) (fun i v => ∃ t, v = .int ((0 : Int) + (i : Int)) t) Fin k i ys (newsOf ext as hp)
end
section
variable {prog : Program} {w : World} {mg mb : Str → Option Value} {G : List Str} {Fn : List FD} {n : Nat} {r : R}
variable {C : Cx} {A : Around} {env : Env} {L : Addr} {cells cl : List (Str × Addr)} {ext : List (Addr × Obj)} {h₀ hp : Heap} {m : Str → Option Value} {s : Shared} {as : List Addr} {σ σ' : List MO} {ε : List MV} {cv v : MV}
theorem comp_turn (hE : OkEx prog w mg mb G Fn n r) {csc : Scope} {xn : Str} {elt : ME} {elt' : Expr} {σ₁ : List MO} {u y : MV} (pe : Py G C (some (csc, xn)) elt elt') (K : CompOk C csc xn L cells env cl) (hA : AOk A n) (B : Base mg mb G Fn h₀) (I : Iv h₀ L m ext hp as σ) (Rn : EnvR C cells as m ε) (e1 : r.ex elt u ε σ = some (y, σ₁))
    {x : Value} {Ia Ca D : Addr} {oI oC : Obj} {m₂ : Str → Option Value} {h : Heap} {tk : Nat} {ys : List Value} (hu : VR as u x) (hoC : NsObj oC m₂) (hm : m₂ xn = some x) (F : Fr h₀ L h m) (N : News h₀ L h ((Ia, oI) :: (Ca, oC) :: (D, LCg.lst ys) :: newsOf ext as hp)) (off : Off3 Ia Ca D (newsOf ext as hp)) :
    wpAny (model prog w) A (eval elt' (compEnvC csc cl Ca env)) (fun z s₂ => ∃ h' tk' as', s₂ = { s with heap := h', toks := tk' } ∧ Iv h₀ L m ext h' as' σ₁ ∧ as <+: as' ∧ VR as' y z ∧ News h₀ L h' ((Ia, oI) :: (Ca, oC) :: (D, LCg.lst ys) :: newsOf ext as' h') ∧ Off3 Ia Ca D (newsOf ext as' h')) (fun _ _ => False) { s with heap := h, toks := tk } := by
  have J : Iv h₀ L m ([(Ia, oI), (Ca, oC), (D, LCg.lst ys)] ++ ext) h as σ := I.more F N fun p hp q hq => by
    have z := off.mem p hp
    rcases List.mem_cons.mp hq with rfl | hq
    · exact Ne.symm z.1
    · rcases List.mem_cons.mp hq with rfl | hq
      · exact Ne.symm z.2.1
      · rw [List.mem_singleton.mp hq]; exact Ne.symm z.2.2
  have V := K.ev (ext := [(Ia, oI), (Ca, oC), (D, LCg.lst ys)] ++ ext) (Ca := Ca) (oC := oC) (by simp) hoC hm hu
  refine wpAny_mono (hE pe hA B (s := { s with heap := h, toks := tk }) J V Rn e1) (fun z s₂ h₂ => ?_) fun _ _ x => x
  obtain ⟨h', tk', as', rfl, J', p', ry⟩ := h₂
  refine ⟨h', tk', as', rfl, J'.less, p', ry, fun p hp => ?_, Off3.of fun p hp => ?_⟩
  · have hp' : p ∈ [(Ia, oI), (Ca, oC), (D, LCg.lst ys)] ++ newsOf ext as' h' := hp
    rcases List.mem_append.mp hp' with hp' | hp'
    · exact J'.N p (List.mem_append_left _ hp')
    · exact J'.less.news p hp'
  · rcases mem_news hp with hp | ⟨hp, _⟩
    · exact off.mem p (List.mem_append_left _ hp)
    · have z := (J'.fr _ hp).2.2
      exact ⟨Ne.symm (z (Ia, oI) (by simp)), Ne.symm (z (Ca, oC) (by simp)), Ne.symm (z (D, LCg.lst ys) (by simp))⟩
theorem step_cl (hE : OkEx prog w mg mb G Fn n r) (hg : Gr r) (hC : OkCl prog w mg mb G Fn n r) {csc : Scope} {xn : Str} {elt : ME} {elt' : Expr} {ax : Addr} {as₀ : List Addr} {j i k : Nat} {l zs : List MV} {vs₀ : List Value} {Fin : List Value → List (Addr × Obj) → Prop}
    (pe : Py G C (some (csc, xn)) elt elt') (K : CompOk C csc xn L cells env cl) (hA : AOk A n) (B : Base mg mb G Fn h₀) (I : Iv h₀ L m ext hp as σ) (Rn : EnvR C cells as m ε) (hj : σ[j]? = some (.lst l)) (hax : as[j]? = some ax) (p₀ : as₀ <+: as) (r₀ : VRs as₀ l vs₀) (hk : i + k = l.length) (h : sCl r elt ε j i σ = some (zs, σ')) (ys : List Value)
    (fin : ∀ as' h' ws, Iv h₀ L m ext h' as' σ' → as <+: as' → VRs as' zs ws → Fin (ys ++ ws) (newsOf ext as' h')) :
    CompRest prog w A h₀ L m env elt' xn csc cl s (fun nw => ∃ vs c, (ax, lobj vs c) ∈ nw ∧ VRs as₀ l vs) (fun i v => ∃ u, l[i]? = some u ∧ VR as₀ u v) Fin k i ys (newsOf ext as hp) := by
  unfold sCl at h
  rw [getM_eq, hj] at h
  dsimp only at h
  rw [getM_eq] at h
  split at h
  · rename_i e1
    cases h
    have : k = 0 := by have := List.getElem?_eq_none_iff.mp e1; omega
    subst this
    have := fin as hp [] I (List.prefix_refl _) .nil
    rw [List.append_nil] at this
    exact CompRest.zero this
  · rename_i u e1
    have hi : i < l.length := (List.getElem?_eq_some_iff.mp e1).1
    obtain ⟨k, rfl⟩ : ∃ k', k = k' + 1 := ⟨k - 1, by omega⟩
    split at h
    · rename_i e2
      rw [frcN_eq] at h
      split at h
      · rename_i e3
        cases h
        refine CompRest.succ fun x Ia oI Ca oC D m₂ hh tk E' hP hoC hm F N off ne => ?_
        obtain ⟨u', e1', hu⟩ := hP
        rw [e1] at e1'; cases e1'
        refine wpAny_mono (comp_turn (s := s) hE pe K hA B I Rn e2 (hu.mono p₀) hoC hm F N off) (fun z s₂ h₂ => ?_) fun _ _ x => x.elim
        obtain ⟨h', tk', as', rfl, J, p', ry, N', off'⟩ := h₂
        have hj' := pre_get (hg.ex e2) hj
        have hax' := pre_get p' hax
        obtain ⟨a, vs, c, ea, ho, rv⟩ := J.lst hj'
        rw [hax'] at ea; cases ea
        refine ⟨h', tk', _, rfl, J.F, N', off', ⟨vs, c, List.mem_append_right _ (List.mem_filterMap.mpr ⟨ax, get_mem hax', by rw [ho]; rfl⟩), r₀.back (p₀.trans p') rv⟩, ?_⟩
        refine hC pe K hA B J (Rn.mono p') hj' hax' (p₀.trans p') r₀ (by omega) e3 (ys ++ [z]) fun as'' h'' ws I'' p'' rws => ?_
        rw [List.append_assoc]
        exact fin as'' h'' (z :: ws) I'' (p'.trans p'') (.cons (ry.mono p'') rws)
      · cases h
    · cases h
theorem step_cr (hE : OkEx prog w mg mb G Fn n r) (hC : OkCr prog w mg mb G Fn n r) {csc : Scope} {xn : Str} {elt : ME} {elt' : Expr} {i k : Nat} {hi : Int} {zs : List MV} {Fin : List Value → List (Addr × Obj) → Prop}
    (pe : Py G C (some (csc, xn)) elt elt') (K : CompOk C csc xn L cells env cl) (hA : AOk A n) (B : Base mg mb G Fn h₀) (I : Iv h₀ L m ext hp as σ) (Rn : EnvR C cells as m ε) (hk : i + k = hi.toNat) (h : sCr r elt ε (i : Int) hi σ = some (zs, σ')) (ys : List Value)
    (fin : ∀ as' h' ws, Iv h₀ L m ext h' as' σ' → as <+: as' → VRs as' zs ws → Fin (ys ++ ws) (newsOf ext as' h')) :
    CompRest prog w A h₀ L m env elt' xn csc cl s (fun _ => True) (fun i v => ∃ t, v = .int ((0 : Int) + (i : Int)) t) Fin k i ys (newsOf ext as hp) := by
  unfold sCr at h
  rw [ltB_eq] at h
  split at h
  · rename_i e1
    have e1 := of_decide_eq_false e1
    cases h
    have : k = 0 := by omega
    subst this
    have := fin as hp [] I (List.prefix_refl _) .nil
    rw [List.append_nil] at this
    exact CompRest.zero this
  · rename_i e1
    have e1 := of_decide_eq_true e1
    obtain ⟨k, rfl⟩ : ∃ k', k = k' + 1 := ⟨k - 1, by omega⟩
    split at h
    · rename_i e2
      rw [frc_eq] at h
      split at h
      · rename_i e3
        cases h
        refine CompRest.succ fun x Ia oI Ca oC D m₂ hh tk E' hP hoC hm F N off ne => ?_
        obtain ⟨t, rfl⟩ := hP
        rw [Int.zero_add] at hm
        refine wpAny_mono (comp_turn (s := s) hE pe K hA B I Rn e2 ⟨t, rfl⟩ hoC hm F N off) (fun z s₂ h₂ => ?_) fun _ _ x => x.elim
        obtain ⟨h', tk', as', rfl, J, p', ry, N', off'⟩ := h₂
        refine ⟨h', tk', _, rfl, J.F, N', off', trivial, ?_⟩
        have e3' : r.cr elt ε ((i + 1 : Nat) : Int) hi _ = _ := e3
        refine hC pe K hA B J (Rn.mono p') (by omega) e3' (ys ++ [z]) fun as'' h'' ws I'' p'' rws => ?_
        rw [List.append_assoc]
        exact fin as'' h'' (z :: ws) I'' (p'.trans p'') (.cons (ry.mono p'') rws)
      · cases h
    · cases h
end
end Mine
end
section
open PySem PySem.W PySem.Calls PyProof.Rows PyProof.Rows.LCg
namespace Mine
theorem off1_mem {D : Addr} : ∀ {l : List (Addr × Obj)}, Off1 D l → ∀ p ∈ l, p.1 ≠ D
  | [], _, _, h => nomatch h
  | _ :: _, x, p, h => by
    rcases List.mem_cons.mp h with rfl | h
    · exact x.1
    · exact off1_mem x.2 p h
section
variable {prog : Program} {w : World} {mg mb : Str → Option Value} {G : List Str} {Fn : List FD} {n : Nat} {r : R}
variable {C : Cx} {A : Around} {env : Env} {L : Addr} {cells cl : List (Str × Addr)} {ext : List (Addr × Obj)} {h₀ hp : Heap} {m : Str → Option Value} {s : Shared} {as : List Addr} {σ σ' : List MO} {ε : List MV} {cv v : MV}
/-- the end of a list comprehension -/
theorem comp_end {as₁ : List Addr} {σ₂ : List MO} {zs : List MV} {s₂ : Shared} (hs₂ : ∃ h tk, s₂ = { s with heap := h, toks := tk }) (p₁ : as <+: as₁) {D Ca : Addr} {h : Heap} {tk : Nat} {m' : Str → Option Value} {ys : List Value} {news' : List (Addr × Obj)}
    (F' : Fr h₀ L h m) (N' : News h₀ L h ((D, LCg.lst ys) :: news')) (o1 : Off1 D news') (hn : h.Ns Ca m') (hC₀ : h₀.get? Ca = none) (hCL : Ca ≠ L) (hCD : Ca ≠ D) (offC : ∀ p ∈ news', p.1 ≠ Ca)
    (fin : ∃ as' h', Iv h₀ L m ext h' as' σ₂ ∧ as₁ <+: as' ∧ VRs as' zs ys ∧ news' = newsOf ext as' h') :
    compPost (model prog w) A (fun _ _ => False) none (PostV h₀ L m ext s as (σ₂ ++ [.lst zs]) (.ref σ₂.length)) (.ref D) Ca (.ok .next) { s₂ with heap := h, toks := tk } := by
  refine ⟨m', hn, fun h'' hs'' => ?_⟩
  obtain ⟨as', h', I, p', rv, rfl⟩ := fin
  obtain ⟨h₃, tk₃, rfl⟩ := hs₂
  have J := I.backD (mo := .lst zs) (o := LCg.lst ys) (off1_mem o1) (F'.change hs'' hCL hC₀) (fun p hp => by
    refine ⟨hs''.extBut _ _ ?_ (N' p hp).1, (N' p hp).2⟩
    rcases List.mem_cons.mp hp with rfl | hp
    · exact Ne.symm hCD
    · exact offC p hp) (or_lst rv)
  exact ⟨h'', tk, as' ++ [D], rfl, J, (p₁.trans p').trans (List.prefix_append _ _), D, by rw [← I.len]; simp, rfl⟩
theorem it_range1 (hE : OkEx prog w mg mb G Fn n r) {e : ME} {e' : Expr} {p p' : Pos} {hi : Int} {σ₁ : List MO} (hl : C.sc.names.lookup ("range" : Str) = some .globalImplicit) (pe : Py G C none e e') (hA : AOk A n) (B : Base mg mb G Fn h₀)
    (I : Iv h₀ L m ext s.heap as σ) (V : Ev C none L ext cells as cv env) (Rn : EnvR C cells as m ε) (e1 : r.ex e cv ε σ = some (.int hi, σ₁)) {Q : Value → Shared → Prop}
    (hQ : ∀ h' tk as' rr t u v', Iv h₀ L m ext h' as' σ₁ → as <+: as' → IsRange h' rr 0 hi 1 t u v' → Q (.ref rr) { s with heap := h', toks := tk }) :
    wpAny (model prog w) A (eval (.Call (.Name ("range" : Str) p) [e'] [] p') env) Q (fun _ _ => False) s := by
  obtain ⟨hm, hb⟩ := B.blt _ _ (show (("range" : Str), Value.type "range") ∈ bltAll from .tail _ (.tail _ (.tail _ (.tail _ (.tail _ (.head _))))))
  refine Call_ (Name_function_global V.kf (V.glob _ hl) (loadGlobal_builtin (mg := mg) (mb := mb) (by rw [V.gl]; exact B.g.keeps I.F.keep) hm (by rw [V.bl]; exact B.b.keeps I.F.keep) hb ?_))
  refine PySem.Pv.callWith_type1 ?_ (pe.star _ _)
  rw [pe.star]
  refine spliced_cons (wpAny_mono (hE pe hA B I V Rn e1) (fun wa s₁ h₁ => spliced_nil ?_) fun _ _ x => x)
  obtain ⟨h₁, tk₁, as₁, rfl, I₁, p₁, t, rfl⟩ := h₁
  refine call_range_1 ?_
  exact hQ _ _ as₁ _ _ _ _ (I₁.grow fun b o q => Heap.get?_push_of_some _ q) p₁ (IsRange.new ..)
theorem it_range2 (hE : OkEx prog w mg mb G Fn n r) {a b : ME} {a' b' : Expr} {p p' : Pos} {lo hi : Int} {σ₁ σ₂ : List MO} (hl : C.sc.names.lookup ("range" : Str) = some .globalImplicit) (pa : Py G C none a a') (pb : Py G C none b b') (hA : AOk A n) (B : Base mg mb G Fn h₀)
    (I : Iv h₀ L m ext s.heap as σ) (V : Ev C none L ext cells as cv env) (Rn : EnvR C cells as m ε) (e1 : r.ex a cv ε σ = some (.int lo, σ₁)) (e2 : r.ex b cv ε σ₁ = some (.int hi, σ₂)) {Q : Value → Shared → Prop}
    (hQ : ∀ h' tk as' rr t u v', Iv h₀ L m ext h' as' σ₂ → as <+: as' → IsRange h' rr lo hi 1 t u v' → Q (.ref rr) { s with heap := h', toks := tk }) :
    wpAny (model prog w) A (eval (.Call (.Name ("range" : Str) p) [a', b'] [] p') env) Q (fun _ _ => False) s := by
  obtain ⟨hm, hb⟩ := B.blt _ _ (show (("range" : Str), Value.type "range") ∈ bltAll from .tail _ (.tail _ (.tail _ (.tail _ (.tail _ (.head _))))))
  refine Call_ (Name_function_global V.kf (V.glob _ hl) (loadGlobal_builtin (mg := mg) (mb := mb) (by rw [V.gl]; exact B.g.keeps I.F.keep) hm (by rw [V.bl]; exact B.b.keeps I.F.keep) hb ?_))
  refine PySem.Pv.callWith_type1 ?_ (pa.star _ _) (by rw [pb.star]; rfl)
  rw [pa.star, pb.star]
  refine spliced_cons (wpAny_mono (hE pa hA B I V Rn e1) (fun wa s₁ h₁ => ?_) fun _ _ x => x)
  obtain ⟨h₁, tk₁, as₁, rfl, I₁, p₁, t, rfl⟩ := h₁
  refine spliced_cons (wpAny_mono (hE pb hA B (s := { s with heap := h₁, toks := tk₁ }) I₁ (V.mono p₁) (Rn.mono p₁) e2) (fun wa s₁ h₁ => spliced_nil ?_) fun _ _ x => x)
  obtain ⟨h₂, tk₂, as₂, rfl, I₂, p₂, u, rfl⟩ := h₁
  refine call_range_2 ?_
  exact hQ _ _ as₂ _ _ _ _ (I₂.grow fun b o q => Heap.get?_push_of_some _ q) (p₁.trans p₂) (IsRange.new ..)
theorem ex_comp (hE : OkEx prog w mg mb G Fn n r) (hL : OkCl prog w mg mb G Fn n r) (hR : OkCr prog w mg mb G Fn n r) {elt : ME} {it : MI} {elt' it' : Expr} {xn : Str} {px p : Pos} {csc : Scope}
    (pi : PyI G C it it') (pe : Py G C (some (csc, xn)) elt elt') (hkind : csc.kind = .function) (hcell : ∀ y ∈ csc.names, y.2 ≠ .cell) (hnames : ∀ y ∈ csc.names, y.2 = .local → csc.names.lookup y.1 = some .local) (hx : csc.names.lookup xn = some .local)
    (hfree : ∀ y ∈ csc.names, y.2 = .free → C.sc.names.lookup y.1 = some .cell) (hA : AOk A n) (B : Base mg mb G Fn h₀)
    (I : Iv h₀ L m ext s.heap as σ) (V₀ : Ev C none L ext cells as cv env) (Rn : EnvR C cells as m ε) (h : sComp r elt it ε σ = some (v, σ')) :
    wpAny (model prog w) A (eval (.ListComp elt' [⟨.Name xn px, it', [], 0⟩] csc p) env) (PostV h₀ L m ext s as σ' v) (fun _ _ => False) s := by
  have V : Ev C none L ext cells as .undef env := V₀.cvN
  have hcells : env.cells = cells := (V.fn rfl).2.2
  have hclos := clos_eq (scope := csc) (env := env) fun y hy e => by rw [hcells]; exact V.cel _ (hfree y hy e)
  have K : CompOk C csc xn L cells env (csc.names.foldl (clStep env) []) := ⟨hkind, hx, V.kf, V.gl, V.bl, fun nm => V.kind, V.cel, fun nm c _ e2 e3 => clos_lookup env csc.names [] nm c (by rw [hcells]; exact e3) (.inr e2)⟩
  rw [eval_ListComp]
  unfold sComp at h
  split at h
  · rename_i e
    split at h
    · rename_i j σ₁ e1
      split at h
      · rename_i l hj
        rw [getM_eq] at hj
        split at h
        · rename_i hls
          have hls := Nat.le_of_ble_eq_true hls
          rw [lenM_eq, Nat.add_zero] at hls
          split at h
          · rename_i ys σ₂ e2
            split at h
            · rw [alc_eq] at h
              cases h
              cases pi.inv with
              | lst pe' =>
                refine wpAny_comprehension_free (use := none) rfl (pe'.safe.2.2.1 env) hclos hkind hnames (wpAny_mono (hE pe' hA B I V Rn e1) (fun xv s₁ h₁ => ?_) fun _ _ x => x)
                obtain ⟨h₁, tk₁, as₁, rfl, I₁, p₁, ax, hax, rfl⟩ := h₁
                obtain ⟨ax', vs, c, hax', ho, rv⟩ := I₁.lst hj
                rw [hax] at hax'; cases hax'
                have hlt : ax < h₁.objs.size := Heap.lt_size ho
                refine wpAny_pyIter_list (lobj_isList ho) ?_
                have up : ∀ {it : Obj} b o, h₁.get? b = some o → (h₁.push it).get? b = some o := fun {it} b o e => Heap.get?_push_of_some _ e
                refine block_U (I := h₁.objs.size) (S := fun nw => ∃ vs c, (ax, lobj vs c) ∈ nw ∧ VRs as₁ l vs) (news := newsOf ext as₁ h₁) (Fin := fun ys' news' => ∃ as' h', Iv h₀ L m ext h' as' σ₂ ∧ as₁ <+: as' ∧ VRs as' ys ys' ∧ news' = newsOf ext as' h')
                  (walk_lst hA.hd h₁.objs.size ax (Nat.ne_of_lt hlt) as₁ l) (Nat.le_trans hls (by decide)) (fun i h st => by obtain ⟨o, e, _⟩ := st.1; exact ⟨o, e⟩) (fun i h h' o nw st e e' _ N S => ?_) hcell hkind hx ⟨⟨_, Heap.get?_push_size _ rfl, rfl, rfl⟩, vs, c, up _ _ ho, rv⟩ (fun b hb => ?_)
                  (I₁.F.grownK up) (I₁.news.grown up) (Nat.ne_of_lt I₁.F.ns.lt) (next_is_new I₁.F) (fun p hp => Nat.ne_of_lt (Heap.lt_size (I₁.news p hp).1)) ⟨vs, c, List.mem_append_right _ (List.mem_filterMap.mpr ⟨ax, get_mem hax, by rw [ho]; rfl⟩), rv⟩
                  (hL pe K hA B I₁ (Rn.mono p₁) hj hax (List.prefix_refl _) rv (Nat.zero_add _) e2 [] fun as' h' ws J p' rw' => ⟨as', h', J, p', rw', rfl⟩) ?_
                · refine ⟨by obtain ⟨o', q, r⟩ := st.1; rw [e] at q; cases q; exact ⟨o, e', r⟩, ?_⟩
                  obtain ⟨vs', c', hm, rv'⟩ := S
                  exact ⟨vs', c', (N _ hm).1, rv'⟩
                · show b < (h₁.push _).objs.size
                  rw [Heap.size_push]
                  rcases List.mem_cons.mp hb with rfl | hb
                  · exact Nat.lt_succ_self _
                  · rw [List.mem_singleton.mp hb]; exact Nat.lt_succ_of_lt hlt
                · intro D Ca hh tk m' ys' news' F' N' o1 hn' hC₀ hD₀ hCL hDL hCD offC fin
                  exact comp_end (s := s) ⟨_, tk₁, rfl⟩ p₁ F' N' o1 hn' hC₀ hCL hCD offC fin
            · cases h
          · cases h
        · cases h
      · cases h
    · cases h
  · rename_i e
    split at h
    · rename_i hi σ₁ e1
      split at h
      · rename_i hsm
        split at h
        · rename_i ys σ₂ e2
          split at h
          · rename_i hsz
            have hs := Nat.le_of_ble_eq_true hsz
            rw [lenM_eq, Nat.add_zero] at hs
            have hb : hi.natAbs ≤ szLine := Nat.le_of_ble_eq_true hsm
            have hb' : hi.natAbs ≤ 1048576 := hb
            rw [alc_eq] at h
            cases h
            cases pi.inv with
            | range1 hl pe' =>
              refine wpAny_comprehension_free (use := none) rfl (fun _ => rfl) hclos hkind hnames (it_range1 hE hl pe' hA B I V Rn e1 fun h₁ tk₁ as₁ rr t u v' I₁ p₁ hr => ?_)
              refine wpAny_pyIter_range hr (small_one (by omega) (by omega) (by omega) (by omega)) ?_
              have hn : Builtin.Range.rangeSize 0 hi 1 = ((hi.toNat : Nat) : Int) := by rw [rangeSize_one]; split <;> omega
              have up : ∀ {it : Obj} b o, h₁.get? b = some o → (h₁.push it).get? b = some o := fun {it} b o e => Heap.get?_push_of_some _ e
              refine block_U (S := fun _ => True) (news := newsOf ext as₁ h₁) (Fin := fun ys' news' => ∃ as' h', Iv h₀ L m ext h' as' σ₂ ∧ as₁ <+: as' ∧ VRs as' ys ys' ∧ news' = newsOf ext as' h')
                (range_walks hA.hd 0 hi.toNat) (Nat.le_trans (show hi.toNat ≤ szLine by omega) (by decide)) (fun i h st => ⟨_, st⟩) range_st hcell hkind hx (by show IsRangeIter _ _ _ _ _; rw [hn]; simpa using Heap.get?_push_size _ rfl) (fun b hb => ?_)
                (I₁.F.grownK up) (I₁.news.grown up) (Nat.ne_of_lt I₁.F.ns.lt) (next_is_new I₁.F) (fun p hp => Nat.ne_of_lt (Heap.lt_size (I₁.news p hp).1)) trivial
                (hR pe K hA B I₁ (Rn.mono p₁) (Nat.zero_add _) e2 [] fun as' h' ws J p' rw' => ⟨as', h', J, p', rw', rfl⟩) ?_
              · rw [List.mem_singleton.mp hb]
                show h₁.objs.size < (h₁.push _).objs.size
                rw [Heap.size_push]; exact Nat.lt_succ_self _
              · intro D Ca hh tk m' ys' news' F' N' o1 hn' hC₀ hD₀ hCL hDL hCD offC fin
                exact comp_end (s := s) ⟨_, tk₁, rfl⟩ p₁ F' N' o1 hn' hC₀ hCL hCD offC fin
          · cases h
        · cases h
      · cases h
    · cases h
  · cases h
theorem step_ex (hE : OkEx prog w mg mb G Fn n r) (hX : OkExs prog w mg mb G Fn n r) (hT : OkTst prog w mg mb G Fn n r) (hC : OkCal prog w mg mb G Fn n r) (hL : OkCl prog w mg mb G Fn n r) (hR : OkCr prog w mg mb G Fn n r) (hfn : ∀ (f : Nat) (nm : Str), G[f]? = some nm → ∃ fd, Fn[f]? = some fd)
    {k : Lv} {e : ME} {e' : Expr} (pe : Py G C k e e') (hA : AOk A n) (B : Base mg mb G Fn h₀)
    (I : Iv h₀ L m ext s.heap as σ) (V : Ev C k L ext cells as cv env) (Rn : EnvR C cells as m ε) (h : sEx r e cv ε σ = some (v, σ')) :
    wpAny (model prog w) A (eval e' env) (PostV h₀ L m ext s as σ' v) (fun _ _ => False) s := by
  cases pe.inv with
  | loc hx hl hd => exact ex_loc hx hl hd I V Rn h
  | cel hx hl hd => exact ex_cel hx hl hd I V Rn h
  | fre hx hl hf hd => exact ex_fre hx hl hf hd I V Rn h
  | cvr hd => exact ex_cvr hd I V h
  | int => cases h; exact ex_int I
  | bool => cases h; exact ex_bool I
  | neg =>
    simp only [sEx, frc_eq] at h
    cases h; exact ex_neg I
  | bin q1 q2 => exact ex_bin hE q1 q2 hA B I V Rn h
  | cmp q1 q2 => exact ex_cmp hE q1 q2 (marks_op _ _) hA B I V Rn h
  | ite q1 q2 q3 => exact ex_ite hE hT q1 q2 q3 hA B I V Rn h
  | conj q => cases h
  | disj q => cases h
  | sub q1 q2 => exact ex_sub hE q1 q2 q2.safe.2.1 hA B I V Rn h
  | slcU q1 q2 => exact ex_slcU hE q1 q2 hA B I V Rn h
  | slcB q1 q2 q3 => exact ex_slcB hE q1 q2 q3 hA B I V Rn h
  | rev q => exact ex_rev hE q hA B I V Rn h
  | tup q => exact ex_tup hX q hA B I V Rn h
  | lst q => exact ex_lst hX q hA B I V Rn h
  | call hf hl hd q => exact ex_call hX hC hf hl hd q hA B (hfn _ _ hf) I V Rn h
  | blt hl q => exact ex_blt hX hl q hA B I V Rn h
  | comp pi q1 q2 q3 q4 q5 q6 => exact ex_comp hE hL hR pi q1 q2 q3 q4 q5 q6 hA B I V Rn h
end
end Mine
end
section
open PySem PySem.W PySem.Calls PyProof.Rows
namespace Mine
/-! ## Statements -/
noncomputable def FlR (as : List Addr) : Fl → Flow → Prop
  | .next, fl => fl = .next
  | .ret v, fl => ∃ w, fl = .ret w ∧ VR as v w
noncomputable def PostS (C : Cx) (cells : List (Str × Addr)) (h₀ : Heap) (L : Addr) (ext : List (Addr × Obj)) (s : Shared) (as : List Addr) (σ' : List MO) (ε' : List MV) (f : Fl) : Flow → Shared → Prop := fun fl s' =>
  ∃ h' tk as' m', s' = { s with heap := h', toks := tk } ∧ Iv h₀ L m' ext h' as' σ' ∧ as <+: as' ∧ EnvR C cells as' m' ε' ∧ FlR as' f fl
theorem PostS.trans {C : Cx} {cells : List (Str × Addr)} {h₀ : Heap} {L : Addr} {ext : List (Addr × Obj)} {s s₁ s₂ : Shared} {as as₁ : List Addr} {σ' : List MO} {ε' : List MV} {f : Fl} {fl : Flow} {h : Heap} {tk : Nat}
    (e : s₁ = { s with heap := h, toks := tk }) (p : as <+: as₁) (x : PostS C cells h₀ L ext s₁ as₁ σ' ε' f fl s₂) : PostS C cells h₀ L ext s as σ' ε' f fl s₂ := by
  obtain ⟨h', tk', as', m', e', I, p', r, q⟩ := x
  subst e
  exact ⟨h', tk', as', m', e', I, p.trans p', r, q⟩
section
variable (prog : Program) (w : World) (mg mb : Str → Option Value) (G : List Str) (Fn : List FD)
noncomputable def OkSt (n : Nat) (r : R) : Prop := ∀ {C : Cx} {ms : MS} {st : Stmt} {A : Around} {env : Env} {L : Addr} {cells : List (Str × Addr)} {ext : List (Addr × Obj)} {h₀ : Heap} {m : Str → Option Value} {s : Shared} {as : List Addr} {σ σ' : List MO} {ε ε' : List MV} {lo : Nat} {f : Fl},
  PyS G C ms st → C.nms.Nodup → AOk A n → Base mg mb G Fn h₀ → Iv h₀ L m ext s.heap as σ → Ev C none L ext cells as .undef env → EnvR C cells as m ε → r.st lo ms ε σ = some (f, ε', σ') →
  wpAny (model prog w) A (exec st env) (PostS C cells h₀ L ext s as σ' ε' f) (fun _ _ => False) s
noncomputable def OkSts (n : Nat) (r : R) : Prop := ∀ {C : Cx} {ms : List MS} {st : List Stmt} {A : Around} {env : Env} {L : Addr} {cells : List (Str × Addr)} {ext : List (Addr × Obj)} {h₀ : Heap} {m : Str → Option Value} {s : Shared} {as : List Addr} {σ σ' : List MO} {ε ε' : List MV} {lo : Nat} {f : Fl},
  PySs G C ms st → C.nms.Nodup → AOk A n → Base mg mb G Fn h₀ → Iv h₀ L m ext s.heap as σ → Ev C none L ext cells as .undef env → EnvR C cells as m ε → r.sts lo ms ε σ = some (f, ε', σ') →
  wpAny (model prog w) A (execs st env) (PostS C cells h₀ L ext s as σ' ε' f) (fun _ _ => False) s
noncomputable def OkWhl (n : Nat) (r : R) : Prop := ∀ {C : Cx} {t : ME} {b : List MS} {t' : Expr} {b' : List Stmt} {A : Around} {env : Env} {L : Addr} {cells : List (Str × Addr)} {ext : List (Addr × Obj)} {h₀ : Heap} {m : Str → Option Value} {s : Shared} {as : List Addr} {σ σ' : List MO} {ε ε' : List MV} {lo : Nat} {f : Fl} {R : Result → Shared → Prop},
  Py G C none t t' → PySs G C b b' → C.nms.Nodup → AOk A n → Base mg mb G Fn h₀ → Iv h₀ L m ext s.heap as σ → Ev C none L ext cells as .undef env → EnvR C cells as m ε → r.whl lo t b ε σ = some (f, ε', σ') →
  (∀ fl s', PostS C cells h₀ L ext s as σ' ε' f fl s' → R (.ok fl) s') → codeAny (model prog w) A (.whileLoop t' b' [] env) R s
noncomputable def itL (ax : Addr) (i : Nat) (o : Obj) : Prop := o.cls = .type "list_iterator" ∧ o.data = .fields #[.ref ax, .int i 0]
noncomputable def OkFl (n : Nat) (r : R) : Prop := ∀ {C : Cx} {x : Nat} {nm : Str} {p : Pos} {b : List MS} {b' : List Stmt} {A : Around} {env : Env} {L Ia ax : Addr} {oI : Obj} {cells : List (Str × Addr)} {ext : List (Addr × Obj)} {h₀ : Heap} {m : Str → Option Value} {s : Shared} {as : List Addr} {σ σ' : List MO} {ε ε' : List MV} {lo j i : Nat} {f : Fl} {R : Result → Shared → Prop},
  C.nms[x]? = some nm → C.sc.names.lookup nm = some .local → PySs G C b b' → C.nms.Nodup → AOk A n → Base mg mb G Fn h₀ → Iv h₀ L m ((Ia, oI) :: ext) s.heap as σ → (∀ p ∈ ext, p.1 ≠ Ia) → itL ax i oI → as[j]? = some ax → Ev C none L ext cells as .undef env → EnvR C cells as m ε → r.fl lo x b j i ε σ = some (f, ε', σ') →
  (∀ fl s', PostS C cells h₀ L ext s as σ' ε' f fl s' → R (.ok fl) s') → codeAny (model prog w) A (.forLoop (.Name nm p) (.ref Ia) b' [] env) R s
noncomputable def itR (k h : Int) (o : Obj) : Prop := o = { cls := .type "range_iterator", data := .fields #[rawInt k, rawInt (if k < h then h - k else 0), rawInt 1] }
noncomputable def OkFr (n : Nat) (r : R) : Prop := ∀ {C : Cx} {x : Nat} {nm : Str} {p : Pos} {b : List MS} {b' : List Stmt} {A : Around} {env : Env} {L Ia : Addr} {oI : Obj} {cells : List (Str × Addr)} {ext : List (Addr × Obj)} {h₀ : Heap} {m : Str → Option Value} {s : Shared} {as : List Addr} {σ σ' : List MO} {ε ε' : List MV} {lo : Nat} {k h : Int} {f : Fl} {R : Result → Shared → Prop},
  C.nms[x]? = some nm → C.sc.names.lookup nm = some .local → PySs G C b b' → C.nms.Nodup → AOk A n → Base mg mb G Fn h₀ → Iv h₀ L m ((Ia, oI) :: ext) s.heap as σ → (∀ p ∈ ext, p.1 ≠ Ia) → itR k h oI → Ev C none L ext cells as .undef env → EnvR C cells as m ε → r.fr lo x b k h ε σ = some (f, ε', σ') →
  (∀ fl s', PostS C cells h₀ L ext s as σ' ε' f fl s' → R (.ok fl) s') → codeAny (model prog w) A (.forLoop (.Name nm p) (.ref Ia) b' [] env) R s
noncomputable def itB (ax : Addr) (c : Nat) (o : Obj) : Prop := o.cls = .type "list_reverseiterator" ∧ o.data = .fields #[.ref ax, rawInt ((c : Int) - 1)]
noncomputable def OkFb (n : Nat) (r : R) : Prop := ∀ {C : Cx} {x : Nat} {nm : Str} {p : Pos} {b : List MS} {b' : List Stmt} {A : Around} {env : Env} {L Ia ax : Addr} {oI : Obj} {cells : List (Str × Addr)} {ext : List (Addr × Obj)} {h₀ : Heap} {m : Str → Option Value} {s : Shared} {as : List Addr} {σ σ' : List MO} {ε ε' : List MV} {lo j c : Nat} {f : Fl} {R : Result → Shared → Prop},
  C.nms[x]? = some nm → C.sc.names.lookup nm = some .local → PySs G C b b' → C.nms.Nodup → AOk A n → Base mg mb G Fn h₀ → Iv h₀ L m ((Ia, oI) :: ext) s.heap as σ → (∀ p ∈ ext, p.1 ≠ Ia) → itB ax c oI → as[j]? = some ax → Ev C none L ext cells as .undef env → EnvR C cells as m ε → r.fb lo x b j c ε σ = some (f, ε', σ') →
  (∀ fl s', PostS C cells h₀ L ext s as σ' ε' f fl s' → R (.ok fl) s') → codeAny (model prog w) A (.forLoop (.Name nm p) (.ref Ia) b' [] env) R s
noncomputable def itE (it : Addr) (i : Nat) (o : Obj) : Prop := ∃ old, o = { cls := .type "enumerate", dict := none, data := .fields #[.none, .bool false, .ref it, rawInt i, .none, old], slots := #[] }
noncomputable def OkFe (n : Nat) (r : R) : Prop := ∀ {C : Cx} {x y : Nat} {nx ny : Str} {px py pt : Pos} {kk : Nat} {b : List MS} {b' : List Stmt} {A : Around} {env : Env} {L ea Ia ax : Addr} {oe oI : Obj} {cells : List (Str × Addr)} {ext : List (Addr × Obj)} {h₀ : Heap} {m : Str → Option Value} {s : Shared} {as : List Addr} {σ σ' : List MO} {ε ε' : List MV} {lo j i : Nat} {f : Fl} {R : Result → Shared → Prop},
  C.nms[x]? = some nx → C.nms[y]? = some ny → C.sc.names.lookup nx = some .local → C.sc.names.lookup ny = some .local → PySs G C b b' → C.nms.Nodup → AOk A n → Base mg mb G Fn h₀ → Iv h₀ L m ((ea, oe) :: (Ia, oI) :: ext) s.heap as σ → (∀ p ∈ ext, p.1 ≠ ea ∧ p.1 ≠ Ia) → ea ≠ Ia → itE Ia i oe → itL ax i oI → as[j]? = some ax → Ev C none L ext cells as .undef env → EnvR C cells as m ε → r.fe lo x y b j i ε σ = some (f, ε', σ') →
  (∀ fl s', PostS C cells h₀ L ext s as σ' ε' f fl s' → R (.ok fl) s') → codeAny (model prog w) A (.forLoop (.Tuple [.Name nx px, .Name ny py] kk pt) (.ref ea) b' [] env) R s
end
/-! ## The state, the iterators beside it -/
section
variable {h₀ h h' : Heap} {L : Addr} {m : Str → Option Value} {ext X X' : List (Addr × Obj)} {as : List Addr} {σ : List MO}
theorem Iv.swap (I : Iv h₀ L m (X ++ ext) h as σ) (hk : ∀ b o, (∀ p ∈ X, p.1 ≠ b) → h.get? b = some o → h'.get? b = some o) (hX : ∀ p ∈ X', h'.get? p.1 = some p.2 ∧ ∃ q ∈ X, q.1 = p.1) (off : ∀ p ∈ ext, ∀ q ∈ X, q.1 ≠ p.1) : Iv h₀ L m (X' ++ ext) h' as σ where
  F := ⟨I.F.ns.at' fun o e => hk L o (fun p hp => (I.N p (List.mem_append_left _ hp)).2.1) e, fun b o e => hk b o (fun p hp q => by
    have := (I.N p (List.mem_append_left _ hp)).2.2
    rw [q, e] at this; cases this) (I.F.keep b o e), I.F.above⟩
  N := fun p hp => by
    rcases List.mem_append.mp hp with hp | hp
    · obtain ⟨e, q, hq, he⟩ := hX p hp
      exact ⟨e, he ▸ (I.N q (List.mem_append_left _ hq)).2⟩
    · have z := I.N p (List.mem_append_right _ hp)
      exact ⟨hk _ _ (off p hp) z.1, z.2⟩
  len := I.len
  obj := fun i a mo e1 e2 => let ⟨o, e, r⟩ := I.obj i a mo e1 e2; ⟨o, hk _ _ (fun p hp => (I.fr a (get_mem e1)).2.2 p (List.mem_append_left _ hp)) e, r⟩
  fr := fun a ha => ⟨(I.fr a ha).1, (I.fr a ha).2.1, fun p hp => by
    rcases List.mem_append.mp hp with hp | hp
    · obtain ⟨_, q, hq, he⟩ := hX p hp
      exact he ▸ (I.fr a ha).2.2 q (List.mem_append_left _ hq)
    · exact (I.fr a ha).2.2 p (List.mem_append_right _ hp)⟩
  nd := I.nd
theorem Iv.addX (I : Iv h₀ L m ext h as σ) (hk : ∀ b o, h.get? b = some o → h'.get? b = some o) (hX : ∀ p ∈ X, h'.get? p.1 = some p.2 ∧ h.objs.size ≤ p.1) : Iv h₀ L m (X ++ ext) h' as σ := by
  have J := I.grow hk
  refine ⟨J.F, fun p hp => ?_, J.len, J.obj, fun a ha => ⟨(J.fr a ha).1, (J.fr a ha).2.1, fun p hp => ?_⟩, J.nd⟩
  · rcases List.mem_append.mp hp with hp | hp
    · obtain ⟨e, hs⟩ := hX p hp
      refine ⟨e, Ne.symm (Nat.ne_of_lt (Nat.lt_of_lt_of_le I.F.ns.lt hs)), ?_⟩
      cases q : h₀.get? p.1 with
      | none => rfl
      | some o' => exact absurd (Heap.lt_size (I.F.keep _ _ q)) (Nat.not_lt_of_le hs)
    · exact J.N p hp
  · rcases List.mem_append.mp hp with hp | hp
    · exact Ne.symm (Nat.ne_of_lt (Nat.lt_of_lt_of_le (I.lt ha) (hX p hp).2))
    · exact (J.fr a ha).2.2 p hp
theorem Iv.off (I : Iv h₀ L m ext h as σ) {a : Addr} (ha : h.objs.size ≤ a) : ∀ p ∈ ext, p.1 ≠ a := fun p hp => Nat.ne_of_lt (Nat.lt_of_lt_of_le (Heap.lt_size (I.N p hp).1) ha)
theorem Iv.fresh (I : Iv h₀ L m ext h as σ) {h' : Heap} (he : Heap.ExtBut h.objs.size h h') : Iv h₀ L m ext h' as σ := I.grow fun b o e => he b o (Nat.ne_of_lt (Heap.lt_size e)) e
end
section
variable {prog : Program} {w : World} {mg mb : Str → Option Value} {G : List Str} {Fn : List FD} {n : Nat} {r : R}
variable {C : Cx} {A : Around} {env : Env} {L : Addr} {cells : List (Str × Addr)} {ext : List (Addr × Obj)} {h₀ : Heap} {m : Str → Option Value} {s : Shared} {as : List Addr} {σ σ' : List MO} {ε ε' : List MV} {v : MV} {lo : Nat} {f : Fl}
theorem Ev.plain {cv : MV} (V : Ev C none L ext cells as cv env) : (env.scope.kind == .class || (env.scope.kind == .module && env.locals != env.globals)) = false := by rw [V.kf]; rfl
theorem st_loc {x : Nat} {nm : Str} {u : Value} {cv : MV} (hx : C.nms[x]? = some nm) (hl : C.sc.names.lookup nm = some .local) (nd : C.nms.Nodup) (I : Iv h₀ L m ext s.heap as σ) (V : Ev C none L ext cells as cv env) (Rn : EnvR C cells as m ε) (ru : VR as v u) {Q : Unit → Shared → Prop}
    (hQ : ∀ h' tk m', Iv h₀ L m' ext h' as σ → EnvR C cells as m' (ε.set x v) → Q () { s with heap := h', toks := tk }) : wpAny (model prog w) A (storeName env nm u) Q (fun _ _ => False) s :=
  wpAny_storeName_local ((V.kind).trans hl) (by rw [(V.fn rfl).2.1]; exact I.F.ns) (fun h' hn hs => hQ h' _ _ (I.store (by rw [(V.fn rfl).2.1] at hn; exact hn) (by rw [(V.fn rfl).2.1] at hs; exact hs)) (Rn.put nd hx hl ru)) V.plain
theorem st_cel {x c : Nat} {nm : Str} {u : Value} {cv u0 : MV} (hx : C.nms[x]? = some nm) (hl : C.sc.names.lookup nm = some .cell) (I : Iv h₀ L m ext s.heap as σ) (V : Ev C none L ext cells as cv env) (Rn : EnvR C cells as m ε) (ru : VR as v u)
    (e1 : ε[x]? = some (.ref c)) (e2 : σ[c]? = some (.cell u0)) {Q : Unit → Shared → Prop}
    (hQ : ∀ h', Iv h₀ L m ext h' as (σ.set c (.cell v)) → Q () { s with heap := h' }) : wpAny (model prog w) A (storeName env nm u) Q (fun _ _ => False) s := by
  obtain ⟨j, a, q1, q2, q3⟩ := (Rn x _ nm e1 (by intro q; cases q) hx).2 hl
  cases q1
  obtain ⟨o, ho, hr⟩ := I.obj _ a _ q2 e2
  have hc : ∃ v₀, s.heap.IsCell a v₀ := by
    rcases hr with ⟨_, w', hd⟩ | ⟨w', hd, _⟩
    · exact ⟨_, o, ho, hd⟩
    · exact ⟨_, o, ho, hd⟩
  obtain ⟨v₀, hv⟩ := hc
  refine wpAny_storeName_cell V.kf ((V.kind).trans hl) (by rw [(V.fn rfl).2.2]; exact q3) hv fun h' hv' hs => hQ h' ?_
  obtain ⟨o', ho', hd'⟩ := hv'
  exact I.change q2 hs ho' (.inr ⟨u, hd', ru⟩)
theorem s_asg (hE : OkEx prog w mg mb G Fn n r) {x : Nat} {nm : Str} {e : ME} {e' : Expr} {p p' : Pos} (hx : C.nms[x]? = some nm) (hl : C.sc.names.lookup nm = some .local) (pe : Py G C none e e') (hs : ∀ env, swapsWith e' (some (.Name nm p)) p'.line env = pure false) (nd : C.nms.Nodup) (hA : AOk A n) (B : Base mg mb G Fn h₀)
    (I : Iv h₀ L m ext s.heap as σ) (V : Ev C none L ext cells as .undef env) (Rn : EnvR C cells as m ε) (h : sAsg r x e ε σ = some (f, ε', σ')) :
    wpAny (model prog w) A (exec (.Assign [.Name nm p] e' p') env) (PostS C cells h₀ L ext s as σ' ε' f) (fun _ _ => False) s := by
  unfold sAsg put at h
  split at h
  · rename_i e1
    rw [setK_eq] at h
    cases h
    refine wpAny_Assign_Name (wpAny_mono (hE pe hA B I V Rn e1) (fun u s₁ h₁ => ?_) fun _ _ x => x) (hs env)
    refine h₁.out fun h₁ tk₁ as₁ I₁ p₁ ru => ?_
    exact st_loc (s := { s with heap := h₁, toks := tk₁ }) hx hl nd I₁ (V.mono p₁) (Rn.mono p₁) ru fun h' tk m' J Rn' => ⟨h', tk, as₁, m', rfl, J, p₁, Rn', rfl⟩
  · cases h
theorem s_aug (hE : OkEx prog w mg mb G Fn n r) {x : Nat} {nm : Str} {op : BOp} {e : ME} {e' : Expr} {p p' : Pos} (hx : C.nms[x]? = some nm) (hl : C.sc.names.lookup nm = some .local) (pe : Py G C none e e') (nd : C.nms.Nodup) (hA : AOk A n) (B : Base mg mb G Fn h₀)
    (I : Iv h₀ L m ext s.heap as σ) (V : Ev C none L ext cells as .undef env) (Rn : EnvR C cells as m ε) (h : sAug r x op e ε σ = some (f, ε', σ')) :
    wpAny (model prog w) A (exec (.AugAssign (.Name nm p) (bop op) e' p') env) (PostS C cells h₀ L ext s as σ' ε' f) (fun _ _ => False) s := by
  unfold sAug put at h
  rw [getM_eq] at h
  split at h
  · rename_i a e0
    split at h
    · rename_i b σ₁ e1
      split at h
      · rename_i z e2
        rw [setK_eq] at h
        cases h
        unfold augM at e2
        split at e2
        · rename_i ia ib
          obtain ⟨w', q1, t, rfl⟩ := (Rn x _ nm e0 (by intro q; cases q) hx).1 hl
          refine wpAny_AugAssign_Name (wpAny_loadName_local V.kf ((V.kind).trans hl) (by rw [(V.fn rfl).2.1]; exact I.F.ns) q1 ?_)
          refine wpAny_mono (hE pe hA B I V Rn e1) (fun u s₁ h₁ => ?_) fun _ _ x => x
          obtain ⟨h₁, tk₁, as₁, rfl, I₁, p₁, tb, rfl⟩ := h₁
          split at e2
          · rw [frc_eq] at e2; cases e2
            refine PyProof.Rows.iadd_int ?_
            exact st_loc (s := { s with heap := h₁, toks := tk₁ + 1 }) hx hl nd I₁ (V.mono p₁) (Rn.mono p₁) vr_int fun h' tk m' J Rn' => ⟨h', tk, as₁, m', rfl, J, p₁, Rn', rfl⟩
          · rw [frc_eq] at e2; cases e2
            refine PyProof.Rows.isub_int ?_
            exact st_loc (s := { s with heap := h₁, toks := tk₁ + 1 }) hx hl nd I₁ (V.mono p₁) (Rn.mono p₁) vr_int fun h' tk m' J Rn' => ⟨h', tk, as₁, m', rfl, J, p₁, Rn', rfl⟩
          · cases e2
        · cases e2
      · cases h
    · cases h
  · cases h
theorem set_at {a : Addr} {vs : List Value} {c p : Nat} {t : Tok} {x : Value} {Q : Unit → Shared → Prop} (ho : s.heap.get? a = some (lobj vs c)) (hp : p < vs.length) (hfit : p < 1048576)
    (hQ : ∀ h', Heap.SameBut a s.heap h' → h'.get? a = some (lobj (vs.set p x) c) → Q () { s with heap := h' }) : wpAny (model prog w) A (setItem (.ref a) (.int (Int.ofNat p) t) x) Q (fun _ _ => False) s := by
  refine ki_setAt (items := vs.toArray) (n := c) ho (by show (0 : Int) ≤ (p : Int); omega) (by show (p : Int) < 2 ^ 63; omega) (by show (p : Int) < ((vs.toArray.size : Nat) : Int); rw [List.size_toArray]; omega) (hQ _ (Heap.SameBut.update ..) ?_)
  have q := PySem.IsL.update (items := vs.toArray) (n := c) ho (fun xs => xs.setIfInBounds p x)
  have e : (vs.toArray.setIfInBounds p x) = (vs.set p x).toArray := by apply Array.toList_inj.mp; simp
  have e2 : (if ((fun xs : Array Value => xs.setIfInBounds p x) vs.toArray).size == vs.toArray.size then c else c + 1) = c := by
    rw [if_pos (by simp)]
  rw [e2] at q
  replace q : (s.heap.update a (Obj.mapSeq (fun xs => xs.setIfInBounds p x))).get? a = some { cls := .type "list", data := .seq (vs.toArray.setIfInBounds p x) c } := q
  rw [e] at q
  exact q
theorem s_augs (hE : OkEx prog w mg mb G Fn n r) (hg : Gr r) {o i e : ME} {op : BOp} {o' i' e' : Expr} {p p' : Pos} (po : Py G C none o o') (pi : Py G C none i i') (pe : Py G C none e e') (ha : ∀ ov iv nv, augStore i' ov iv nv = (do holding [nv, ov, iv] (setItem ov iv nv); release [nv, ov, iv] []; pure .next)) (hA : AOk A n) (B : Base mg mb G Fn h₀)
    (I : Iv h₀ L m ext s.heap as σ) (V : Ev C none L ext cells as .undef env) (Rn : EnvR C cells as m ε) (h : sAugs r lo o i op e ε σ = some (f, ε', σ')) :
    wpAny (model prog w) A (exec (.AugAssign (.Subscript o' i' p) (bop op) e' p') env) (PostS C cells h₀ L ext s as σ' ε' f) (fun _ _ => False) s := by
  unfold sAugs at h
  split at h
  · rename_i j σ₁ e1
    split at h
    · rename_i q σ₂ e2
      split at h
      · split at h
        · rename_i l hj
          rw [getM_eq] at hj
          split at h
          · rename_i hsz
            have hsz : q < 1048576 := Nat.le_of_ble_eq_true hsz
            rw [getM_eq] at h
            split at h
            · rename_i a e3
              unfold augAt at h
              split at h
              · rename_i b σ₃ e4
                split at h
                · rename_i z e5
                  rw [setK_eq, setK_eq] at h
                  cases h
                  refine wpAny_AugAssign_Subscript_any ?_ ha
                  refine wpAny_mono (hE po hA B I V Rn e1) (fun wo s₁ h₁ => ?_) fun _ _ x => x
                  obtain ⟨h₁, tk₁, as₁, rfl, I₁, p₁, ax, hax, rfl⟩ := h₁
                  refine wpAny_mono (hE pi hA B (s := { s with heap := h₁, toks := tk₁ }) I₁ (V.mono p₁) (Rn.mono p₁) e2) (fun wi s₂ h₂ => ?_) fun _ _ x => x
                  obtain ⟨h₂, tk₂, as₂, rfl, I₂, p₂, t, rfl⟩ := h₂
                  have hax₂ := pre_get p₂ hax
                  obtain ⟨ax', vs, c, hax', ho, rv⟩ := I₂.lst hj
                  rw [hax₂] at hax'; cases hax'
                  obtain ⟨x, hx, rx⟩ := rv.at e3
                  refine wpAny_getItem_list (lobj_isList ho) (by show (0 : Int) ≤ (q : Int); omega) (by show (q : Int) < 2 ^ 63; omega) (by simpa using hx) ?_
                  refine wpAny_mono (hE pe hA B (s := { s with heap := h₂, toks := tk₂ }) I₂ (V.mono (p₁.trans p₂)) (Rn.mono (p₁.trans p₂)) e4) (fun we s₃ h₃ => ?_) fun _ _ x => x
                  refine h₃.out fun h₃ tk₃ as₃ I₃ p₃ re => ?_
                  have hax₃ := pre_get p₃ hax₂
                  have hj₃ := pre_get (hg.ex e4) hj
                  obtain ⟨ax', vs', c', hax', ho', rv'⟩ := I₃.lst hj₃
                  rw [hax₃] at hax'; cases hax'
                  have hlen : q < vs'.length := by rw [rv'.length]; exact (List.getElem?_eq_some_iff.mp e3).1
                  have fin : ∀ (tk : Nat) (y : Value), VR as₃ z y → wpAny (model prog w) A (setItem (.ref ax) (.int (Int.ofNat q) t) y) (fun _ => PostS C cells h₀ L ext s as (σ₃.set j (.lst (l.set q z))) ε .next .next) (fun _ _ => False) { s with heap := h₃, toks := tk } := fun tk y ry =>
                    set_at (s := { s with heap := h₃, toks := tk }) ho' hlen hsz fun h' hs ho'' => ⟨h', tk, as₃, m, rfl, I₃.change hax₃ hs ho'' ⟨_, _, rfl, rv'.set ry q⟩, (p₁.trans p₂).trans p₃, Rn.mono ((p₁.trans p₂).trans p₃), rfl⟩
                  unfold augM at e5
                  split at e5
                  · obtain ⟨t1, rfl⟩ := rx
                    obtain ⟨t2, rfl⟩ := re
                    split at e5
                    · rw [frc_eq] at e5; cases e5
                      exact PyProof.Rows.iadd_int (fin _ _ ⟨_, rfl⟩)
                    · rw [frc_eq] at e5; cases e5
                      exact PyProof.Rows.isub_int (fin _ _ ⟨_, rfl⟩)
                    · cases e5
                  · cases e5
                · cases h
              · cases h
            · cases h
          · cases h
        · cases h
      · cases h
    · cases h
  · cases h
theorem s_app (hE : OkEx prog w mg mb G Fn n r) (hg : Gr r) {x : Nat} {nm : Str} {e : ME} {e' : Expr} {p pa pc pe : Pos} (hx : C.nms[x]? = some nm) (hl : C.sc.names.lookup nm = some .local) (hd : Dbg nm) (hline : pa.endLine = pc.line) (q : Py G C none e e') (hA : AOk A n) (B : Base mg mb G Fn h₀)
    (I : Iv h₀ L m ext s.heap as σ) (V : Ev C none L ext cells as .undef env) (Rn : EnvR C cells as m ε) (h : sApp r lo x e ε σ = some (f, ε', σ')) :
    wpAny (model prog w) A (exec (.Expr (.Call (.Attribute (.Name nm p) "append" pa) [e'] [] pc) pe) env) (PostS C cells h₀ L ext s as σ' ε' f) (fun _ _ => False) s := by
  unfold sApp at h
  rw [getM_eq] at h
  split at h
  · rename_i j e0
    split at h
    · rename_i u σ₁ e1
      split at h
      · split at h
        · rename_i l hj
          rw [getM_eq] at hj
          unfold appAt at h
          split at h
          · rename_i hsz
            have hs := Nat.le_of_ble_eq_true hsz
            rw [lenM_eq, Nat.add_zero] at hs
            rw [sncK_eq, setK_eq] at h
            cases h
            obtain ⟨w', q1, ax, hax, rfl⟩ := (Rn x _ nm e0 (by intro q; cases q) hx).1 hl
            have hst := q.star [] env
            have hst' : backTo pc (starEach [e'] env) = [(false, eval e' env)] := by rw [hst]; rfl
            refine wpAny_Expr (wpAny_Call_append (o := .Name nm p) (Q := fun v s' => match v with | .ref _ => False | _ => PostS C cells h₀ L ext s as _ ε .next .next s') rfl (by rw [hst']; rfl) (by rw [hline]; exact beq_self_eq_true _) hst' ?_) (by unfold interactive; rw [V.kf]; rfl) rfl
            refine wpAny_Name (wpAny_loadName_local V.kf ((V.kind).trans hl) (by rw [(V.fn rfl).2.1]; exact I.F.ns) q1 ?_) hd
            have hj0 : σ[j]? = some (.lst l) := by
              have hlt : j < σ.length := I.len ▸ (List.getElem?_eq_some_iff.mp hax).1
              have := pre_get (hg.ex e1) (List.getElem?_eq_getElem hlt)
              rw [hj] at this
              rw [List.getElem?_eq_getElem hlt, ← this]
            obtain ⟨ax', vs0, c0, hax', ho0, _⟩ := I.lst hj0
            rw [hax] at hax'; cases hax'
            refine ⟨ax, vs0.toArray, rfl, ⟨_, c0, ho0, rfl, rfl, rfl⟩, ?_⟩
            refine wpAny_mono (hE q hA B I V Rn e1) (fun wu s₁ h₁ => ?_) fun _ _ x => x
            refine h₁.out fun h₁ tk₁ as₁ I₁ p₁ ru => ?_
            have hax₁ := pre_get p₁ hax
            obtain ⟨ax', vs, c, hax', ho, rv⟩ := I₁.lst hj
            rw [hax₁] at hax'; cases hax'
            refine append_at (s := { s with heap := h₁, toks := tk₁ }) ho (fun h' hs' ho' => ?_) (by rw [List.size_toArray, rv.length]; exact Nat.le_trans hs (by decide))
            have e5 : vs.toArray.push wu = (vs ++ [wu]).toArray := by simp
            rw [e5] at ho'
            exact ⟨h', tk₁, as₁, m, rfl, I₁.change hax₁ hs' ho' ⟨_, _, rfl, rv.append (.cons ru .nil)⟩, p₁, Rn.mono p₁, rfl⟩
          · cases h
        · cases h
      · cases h
    · cases h
  · cases h
theorem s_ret (hE : OkEx prog w mg mb G Fn n r) {e : ME} {e' : Expr} {p : Pos} (q : Py G C none e e') (hA : AOk A n) (B : Base mg mb G Fn h₀)
    (I : Iv h₀ L m ext s.heap as σ) (V : Ev C none L ext cells as .undef env) (Rn : EnvR C cells as m ε) (h : sRet r e ε σ = some (f, ε', σ')) :
    wpAny (model prog w) A (exec (.Return (some e') p) env) (PostS C cells h₀ L ext s as σ' ε' f) (fun _ _ => False) s := by
  unfold sRet at h
  split at h
  · rename_i e1
    cases h
    refine wpAny_Return_some (wpAny_mono (hE q hA B I V Rn e1) (fun u s₁ h₁ => ?_) fun _ _ x => x)
    refine h₁.out fun h₁ tk₁ as₁ I₁ p₁ ru => ?_
    exact ⟨h₁, tk₁, as₁, m, rfl, I₁, p₁, Rn.mono p₁, u, rfl, ru⟩
  · cases h
theorem s_ifs (hT : OkTst prog w mg mb G Fn n r) (hS : OkSts prog w mg mb G Fn n r) {t : ME} {a b : List MS} {t' : Expr} {a' b' : List Stmt} {p : Pos} (pt : Py G C none t t') (pa : PySs G C a a') (pb : PySs G C b b') (nd : C.nms.Nodup) (hA : AOk A n) (B : Base mg mb G Fn h₀)
    (I : Iv h₀ L m ext s.heap as σ) (V : Ev C none L ext cells as .undef env) (Rn : EnvR C cells as m ε) (h : sIfs r lo t a b ε σ = some (f, ε', σ')) :
    wpAny (model prog w) A (exec (.If t' a' b' p) env) (PostS C cells h₀ L ext s as σ' ε' f) (fun _ _ => False) s := by
  unfold sIfs at h
  split at h
  · rename_i e1
    refine wpAny_If (wpAny_mono (hT pt hA B I V Rn e1) (fun c s₁ h₁ => ?_) fun _ _ x => x)
    obtain ⟨h₁, tk₁, as₁, rfl, I₁, p₁, rfl⟩ := h₁
    split at h
    · exact wpAny_mono (hS pa nd hA B (s := { s with heap := h₁, toks := tk₁ }) I₁ (V.mono p₁) (Rn.mono p₁) h) (fun _ _ x => PostS.trans rfl p₁ x) fun _ _ x => x
    · exact wpAny_mono (hS pb nd hA B (s := { s with heap := h₁, toks := tk₁ }) I₁ (V.mono p₁) (Rn.mono p₁) h) (fun _ _ x => PostS.trans rfl p₁ x) fun _ _ x => x
  · cases h
end
end Mine
end
section
open PySem PySem.W PySem.Calls PyProof.Rows
namespace Mine
theorem AOk.le {A : Around} {n k : Nat} (h : AOk A n) (hk : k ≤ n) : AOk A k := ⟨h.hd, by have := h.dp; omega, by have := h.un; omega⟩
section
variable {prog : Program} {w : World} {mg mb : Str → Option Value} {G : List Str} {Fn : List FD} {n : Nat} {r : R}
variable {C : Cx} {A : Around} {env : Env} {L : Addr} {cells : List (Str × Addr)} {ext : List (Addr × Obj)} {h₀ : Heap} {m : Str → Option Value} {s : Shared} {as : List Addr} {σ σ' : List MO} {ε ε' : List MV} {v : MV} {lo : Nat} {f : Fl}
/-! ## Assignment of a tuple -/
theorem tup_eval (hX : OkExs prog w mg mb G Fn n r) {es : List ME} {es' : List Expr} {kk : Nat} {p : Pos} {σ₁ : List MO} {vs : List MV} (pe : PyL G C none es es') (hA : AOk A n) (B : Base mg mb G Fn h₀)
    (I : Iv h₀ L m ext s.heap as σ) (V : Ev C none L ext cells as .undef env) (Rn : EnvR C cells as m ε) (e1 : r.exs es .undef ε σ = some (vs, σ₁)) (hsz : Nat.ble (lenM vs 0) szLine = true) {Q : Value → Shared → Prop}
    (hQ : ∀ T ws h' tk as₁, h'.get? T = some (tobj ws 0) → Iv h₀ L m ext h' as₁ σ₁ → as <+: as₁ → VRs as₁ vs ws → Q (.ref T) { s with heap := h', toks := tk }) :
    wpAny (model prog w) A (eval (.Tuple es' kk p) env) Q (fun _ _ => False) s := by
  have hs := Nat.le_of_ble_eq_true hsz
  rw [lenM_eq, Nat.add_zero] at hs
  refine Tuple_ (wpAny_mono (hX pe hA B I V Rn e1 p) (fun ws s₁ h₁ => ?_) fun _ _ x => x)
  refine h₁.out fun h₁ tk₁ as₁ I₁ p₁ ra => ?_
  exact wpAny_newTuple (hQ _ ws _ tk₁ as₁ (Heap.get?_push_size _ rfl) (I₁.grow fun b o e => Heap.get?_push_of_some _ e) p₁ ra) (by rw [ra.length]; exact Nat.le_trans hs (by decide))
theorem s_tas2 (hX : OkExs prog w mg mb G Fn n r) {x y : Nat} {nx ny : Str} {es : List ME} {es' : List Expr} {kk kk' : Nat} {px py p p' p2 : Pos} (hx : C.nms[x]? = some nx) (hy : C.nms[y]? = some ny) (lx : C.sc.names.lookup nx = some .local) (ly : C.sc.names.lookup ny = some .local) (hxy : x ≠ y) (pe : PyL G C none es es')
    (hw : ∀ env : Env, env.scope = C.sc → swappedStores [.Tuple [.Name nx px, .Name ny py] kk p] (.Tuple es' kk' p') env = pure (some [nx, ny])) (nd : C.nms.Nodup) (hA : AOk A n) (B : Base mg mb G Fn h₀)
    (I : Iv h₀ L m ext s.heap as σ) (V : Ev C none L ext cells as .undef env) (Rn : EnvR C cells as m ε) (h : sTasg r lo [(false, x), (false, y)] es ε σ = some (f, ε', σ')) :
    wpAny (model prog w) A (exec (.Assign [.Tuple [.Name nx px, .Name ny py] kk p] (.Tuple es' kk' p') p2) env) (PostS C cells h₀ L ext s as σ' ε' f) (fun _ _ => False) s := by
  unfold sTasg at h
  split at h
  · rename_i vs σ₁ e1
    split at h
    · rename_i hsz
      refine Assign_Tuple_swapped (names := [nx, ny]) (tup_eval hX pe hA B I V Rn e1 hsz fun T ws h₁ tk₁ as₁ hT I₁ p₁ rv => ?_) rfl (hw env (V.fn rfl).1)
      cases rv with
      | nil => unfold putAll at h; cases h
      | @cons v1 w1 vs ws r1 rv =>
        cases rv with
        | nil => simp only [putAll, setK_eq] at h; cases h
        | @cons v2 w2 vs ws r2 rv =>
          cases rv with
          | cons r3 rv => simp only [putAll, setK_eq] at h; cases h
          | nil =>
            simp only [putAll, setK_eq] at h
            cases h
            have ht : ({ s with heap := h₁, toks := tk₁ } : Shared).heap.IsTuple T #[w1, w2] := tobj_isTuple hT
            refine (wpAny_unpackItems_tuple (items := #[w1, w2]) hA.hd ht fun h₂ he => ?_ : wpAny _ _ (unpackItems _ (#[w1, w2] : Array Value).size none) _ _ _)
            have I₂ := I₁.fresh he
            show wpAny _ A (do holding [w1] (bindName env ny w2); do holding [] (bindName env nx w1); pure ()) _ _ _
            refine wpAny_bind (wpAny_holding (bindName_ (st_loc (s := { s with heap := h₂, toks := tk₁ }) hy ly nd I₂ (V.mono p₁) (Rn.mono p₁) r2 fun h₃ tk₃ m₃ I₃ R₃ => ?_)))
            refine wpAny_bind (wpAny_holding (bindName_ (st_loc (s := { s with heap := h₃, toks := tk₃ }) hx lx nd I₃ (V.mono p₁) R₃ r1 fun h₄ tk₄ m₄ I₄ R₄ => ?_)))
            refine wpAny_pure ⟨h₄, tk₄, as₁, m₄, rfl, I₄, p₁, ?_, rfl⟩
            rw [List.set_comm _ _ hxy]
            exact R₄
    · cases h
  · cases h
theorem st_put {b : Bool} {x : Nat} {nm : Str} {u : Value} {xs : List (Bool × Nat)} {vs : List MV} (hx : C.nms[x]? = some nm) (hl : C.sc.names.lookup nm = some (kd b)) (nd : C.nms.Nodup) (I : Iv h₀ L m ext s.heap as σ) (V : Ev C none L ext cells as .undef env) (Rn : EnvR C cells as m ε) (ru : VR as v u) (h : putAll lo ((b, x) :: xs) (v :: vs) ε σ = some (f, ε', σ')) {Q : Unit → Shared → Prop}
    (hQ : ∀ h' tk m' ε₁ σ₁, Iv h₀ L m' ext h' as σ₁ → EnvR C cells as m' ε₁ → putAll lo xs vs ε₁ σ₁ = some (f, ε', σ') → Q () { s with heap := h', toks := tk }) : wpAny (model prog w) A (storeName env nm u) Q (fun _ _ => False) s := by
  cases b with
  | false =>
    unfold putAll at h
    rw [setK_eq] at h
    exact st_loc hx hl nd I V Rn ru fun h' tk m' I' R' => hQ h' tk m' _ _ I' R' h
  | true =>
    unfold putAll at h
    rw [getM_eq] at h
    split at h
    · rename_i c e1
      split at h
      · rw [getM_eq] at h
        split at h
        · rename_i u0 e2
          rw [setK_eq] at h
          exact st_cel hx hl I V Rn ru e1 e2 fun h' I' => hQ h' s.toks m _ _ I' Rn h
        · cases h
      · cases h
    · cases h
theorem s_tasg (hX : OkExs prog w mg mb G Fn n r) {bx cy : Bool} {x y : Nat} {nx ny : Str} {es : List ME} {es' : List Expr} {kk kk' : Nat} {px py p p' p2 : Pos} (hx : C.nms[x]? = some nx) (hy : C.nms[y]? = some ny) (lx : C.sc.names.lookup nx = some (kd bx)) (ly : C.sc.names.lookup ny = some (kd cy)) (pe : PyL G C none es es')
    (hw : ∀ env : Env, env.scope = C.sc → swappedStores [.Tuple [.Name nx px, .Name ny py] kk p] (.Tuple es' kk' p') env = pure none) (nd : C.nms.Nodup) (hA : AOk A n) (B : Base mg mb G Fn h₀)
    (I : Iv h₀ L m ext s.heap as σ) (V : Ev C none L ext cells as .undef env) (Rn : EnvR C cells as m ε) (h : sTasg r lo [(bx, x), (cy, y)] es ε σ = some (f, ε', σ')) :
    wpAny (model prog w) A (exec (.Assign [.Tuple [.Name nx px, .Name ny py] kk p] (.Tuple es' kk' p') p2) env) (PostS C cells h₀ L ext s as σ' ε' f) (fun _ _ => False) s := by
  unfold sTasg at h
  split at h
  · rename_i vs σ₁ e1
    split at h
    · rename_i hsz
      refine Assign_Tuple (tup_eval hX pe hA B I V Rn e1 hsz fun T ws h₁ tk₁ as₁ hT I₁ p₁ rv => ?_) rfl (hw env (V.fn rfl).1)
      cases rv with
      | nil => cases bx <;> (unfold putAll at h; cases h)
      | @cons v1 w1 vs ws r1 rv =>
        have ht : ∀ {ws' : List Value}, ws' = w1 :: ws → ({ s with heap := h₁, toks := tk₁ } : Shared).heap.IsTuple T ws'.toArray := fun e => by subst e; exact tobj_isTuple hT
        cases rv with
        | nil =>
          exfalso
          cases bx <;> cases cy <;> simp only [putAll, setK_eq] at h <;> (repeat' (split at h)) <;> cases h
        | @cons v2 w2 vs ws r2 rv =>
          cases rv with
          | cons r3 rv =>
            exfalso
            cases bx <;> cases cy <;> simp only [putAll, setK_eq] at h <;> (repeat' (split at h)) <;> cases h
          | nil =>
            refine wpAny_assign_Tuple (items := #[w1, w2]) hA.hd (ht rfl) rfl rfl fun h₂ he => ?_
            have I₂ := I₁.fresh he
            show wpAny _ A (do holding [w2] (assign (.Name nx px) env w1); do holding [] (assign (.Name ny py) env w2); pure ()) _ _ _
            refine wpAny_bind (wpAny_holding (wpAny_assign_Name (st_put (s := { s with heap := h₂, toks := tk₁ }) hx lx nd I₂ (V.mono p₁) (Rn.mono p₁) r1 h fun h₃ tk₃ m₃ ε₃ σ₃ I₃ R₃ e₃ => ?_)))
            refine wpAny_bind (wpAny_holding (wpAny_assign_Name (st_put (s := { s with heap := h₃, toks := tk₃ }) hy ly nd I₃ (V.mono p₁) R₃ r2 e₃ fun h₄ tk₄ m₄ ε₄ σ₄ I₄ R₄ e₄ => ?_)))
            unfold putAll at e₄
            cases e₄
            exact wpAny_pure ⟨h₄, tk₄, as₁, m₄, rfl, I₄, p₁, R₄, rfl⟩
    · cases h
  · cases h
/-! ## Blocks -/
theorem step_sts (hS : OkSt prog w mg mb G Fn n r) (hB : OkSts prog w mg mb G Fn n r) {ms : List MS} {st : List Stmt} (ps : PySs G C ms st) (nd : C.nms.Nodup) (hA : AOk A n) (B : Base mg mb G Fn h₀)
    (I : Iv h₀ L m ext s.heap as σ) (V : Ev C none L ext cells as .undef env) (Rn : EnvR C cells as m ε) (h : sSts r lo ms ε σ = some (f, ε', σ')) :
    wpAny (model prog w) A (execs st env) (PostS C cells h₀ L ext s as σ' ε' f) (fun _ _ => False) s := by
  unfold sSts at h
  split at h
  · cases h
    cases ps.invF
    exact wpAny_execs_nil ⟨s.heap, s.toks, as, m, rfl, I, List.prefix_refl _, Rn, rfl⟩
  · cases ps.invF with
    | cons q1 q2 =>
      split at h
      · rename_i e1
        refine wpAny_execs_cons (wpAny_mono (hS q1 nd hA B I V Rn e1) (fun fl s₁ h₁ => ?_) fun _ _ x => x)
        obtain ⟨h₁, tk₁, as₁, m₁, rfl, I₁, p₁, R₁, rfl⟩ := h₁
        exact wpAny_mono (hB q2 nd hA B (s := { s with heap := h₁, toks := tk₁ }) I₁ (V.mono p₁) R₁ h) (fun _ _ x => PostS.trans rfl p₁ x) fun _ _ x => x
      · rename_i e1
        cases h
        refine wpAny_execs_cons (wpAny_mono (hS q1 nd hA B I V Rn e1) (fun fl s₁ h₁ => ?_) fun _ _ x => x)
        have h₁' := h₁
        obtain ⟨h₁, tk₁, as₁, m₁, rfl, I₁, p₁, R₁, u, rfl, ru⟩ := h₁
        exact h₁'
      · cases h
end
/-! ## Loops -/
section
variable {prog : Program} {w : World} {mg mb : Str → Option Value} {G : List Str} {Fn : List FD} {n : Nat}
/-- what stands behind a loop's body -/
noncomputable def bodyK (x : SRes) (nx : List MV → List MO → SRes) : SRes := match x with
  | some (.next, ε, σ) => nx ε σ
  | some (.ret v, ε, σ) => some (.ret v, ε, σ)
  | none => none
theorem loop_body {k : Nat} (hS : OkSts prog w mg mb G Fn k (run Fn k)) {C : Cx} {b : List MS} {b' : List Stmt} {A : Around} {env : Env} {L : Addr} {cells : List (Str × Addr)} {X ext : List (Addr × Obj)} {h₀ : Heap} {m : Str → Option Value} {s : Shared} {as : List Addr} {σ σ' : List MO} {ε ε' : List MV} {lo : Nat} {f : Fl} {Q : Flow → Shared → Prop} {E : Value → Shared → Prop} (nx : List MV → List MO → SRes)
    (pb : PySs G C b b') (nd : C.nms.Nodup) (hA : AOk A k) (B : Base mg mb G Fn h₀) (I : Iv h₀ L m (X ++ ext) s.heap as σ) (V : Ev C none L (X ++ ext) cells as .undef env) (Rn : EnvR C cells as m ε) (e : bodyK ((run Fn k).sts lo b ε σ) nx = some (f, ε', σ'))
    (hn : ∀ h₃ tk₃ as₃ m₃ ε₃ σ₃, Iv h₀ L m₃ (X ++ ext) h₃ as₃ σ₃ → as <+: as₃ → EnvR C cells as₃ m₃ ε₃ → nx ε₃ σ₃ = some (f, ε', σ') → Q .next { s with heap := h₃, toks := tk₃ })
    (hr : ∀ u s₃, PostS C cells h₀ L ext s as σ' ε' f (.ret u) s₃ → Q (.ret u) s₃) : wpAny (model prog w) A (execs b' env) Q E s := by
  unfold bodyK at e
  split at e
  · rename_i e2
    refine wpAny_mono (hS pb nd hA B I V Rn e2) (fun fl s₃ h₃ => ?_) fun _ _ x => x.elim
    obtain ⟨h₃, tk₃, as₃, m₃, rfl, I₃, p₃, R₃, rfl⟩ := h₃
    exact hn h₃ tk₃ as₃ m₃ _ _ I₃ p₃ R₃ e
  · rename_i e2
    cases e
    refine wpAny_mono (hS pb nd hA B I V Rn e2) (fun fl s₃ h₃ => ?_) fun _ _ x => x.elim
    obtain ⟨h₃, tk₃, as₃, m₃, rfl, I₃, p₃, R₃, u, rfl, ru⟩ := h₃
    exact hr u _ ⟨h₃, tk₃, as₃, m₃, rfl, I₃.less, p₃, R₃, u, rfl, ru⟩
  · cases e
/-- the state between two turns -/
abbrev LF {α : Type} (C : Cx) (cells : List (Str × Addr)) (h₀ : Heap) (L : Addr) (ext : List (Addr × Obj)) (s : Shared) (as : List Addr) (n : Nat) (it : α → List (Addr × Obj) → Prop) (rk : Nat → α → List MV → List MO → SRes) (res : SRes) (k : Nat) (s' : Shared) : Prop :=
  ∃ h' tk as' m' ε₁ σ₁ X i', s' = { s with heap := h', toks := tk } ∧ Iv h₀ L m' (X ++ ext) h' as' σ₁ ∧ as <+: as' ∧ EnvR C cells as' m' ε₁ ∧ it i' X ∧ k ≤ n ∧ rk k i' ε₁ σ₁ = res
theorem LF.out {α : Type} {C : Cx} {cells : List (Str × Addr)} {h₀ : Heap} {L : Addr} {ext : List (Addr × Obj)} {s s' : Shared} {as : List Addr} {n k : Nat} {it : α → List (Addr × Obj) → Prop} {rk : Nat → α → List MV → List MO → SRes} {res : SRes} {P : Shared → Prop} (x : LF C cells h₀ L ext s as n it rk res k s')
    (H : ∀ h' tk as' m' ε₁ σ₁ X i', Iv h₀ L m' (X ++ ext) h' as' σ₁ → as <+: as' → EnvR C cells as' m' ε₁ → it i' X → k ≤ n → rk k i' ε₁ σ₁ = res → P { s with heap := h', toks := tk }) : P s' := by
  obtain ⟨h', tk, as', m', ε₁, σ₁, X, i', rfl, I', p', R', hit', hk, e'⟩ := x
  exact H h' tk as' m' ε₁ σ₁ X i' I' p' R' hit' hk e'
theorem loop_whl (hT : ∀ k, k < n → OkTst prog w mg mb G Fn k (run Fn k)) (hS : ∀ k, k < n → OkSts prog w mg mb G Fn k (run Fn k)) : OkWhl prog w mg mb G Fn n (run Fn n) := by
  intro C t b t' b' A env L cells ext h₀ m s as σ σ' ε ε' lo f R pt pb nd hA B I V Rn h hR
  refine codeAny_whileLoop (LF C cells h₀ L ext s as n (fun (_ : Nat) X => X = []) (fun k _ => (run Fn k).whl lo t b) (some (f, ε', σ'))) ?_ n ⟨s.heap, s.toks, as, m, ε, σ, [], 0, rfl, I, List.prefix_refl _, Rn, rfl, Nat.le_refl _, h⟩
  intro k s' hI
  refine LF.out hI fun h' tk as' m' ε₁ σ₁ X i' I' p' R' hX hk e' => ?_
  clear hI
  subst hX
  cases k with
  | zero => cases e'
  | succ k =>
    replace e' : sWhl (run Fn k) lo t b ε₁ σ₁ = _ := e'
    unfold sWhl at e'
    have hA' := hA.le (Nat.le_of_lt hk)
    split at e'
    · rename_i e1
      cases e'
      refine wpAny_mono (hT k hk pt hA' B (s := { s with heap := _, toks := tk }) I' (V.mono p') R' e1) (fun c s₁ h₁ => ?_) fun _ _ x => x.elim
      obtain ⟨h₁, tk₁, as₁, rfl, I₁, p₁, rfl⟩ := h₁
      exact wpAny_execs_nil (hR _ _ ⟨h₁, tk₁, as₁, m', rfl, I₁, p'.trans p₁, R'.mono p₁, rfl⟩)
    · rename_i e1
      refine wpAny_mono (hT k hk pt hA' B (s := { s with heap := _, toks := tk }) I' (V.mono p') R' e1) (fun c s₁ h₁ => ?_) fun _ _ x => x.elim
      obtain ⟨h₁, tk₁, as₁, rfl, I₁, p₁, rfl⟩ := h₁
      exact loop_body (X := []) (s := { s with heap := h₁, toks := tk₁ }) (hS k hk) (fun ε σ => (run Fn k).whl lo t b ε σ) pb nd hA' B I₁ (V.mono (p'.trans p₁)) (R'.mono p₁) e'
        (fun h₃ tk₃ as₃ m₃ ε₃ σ₃ I₃ p₃ R₃ e₃ => ⟨k, Nat.lt_succ_self _, h₃, tk₃, as₃, m₃, ε₃, σ₃, [], 0, rfl, I₃, (p'.trans p₁).trans p₃, R₃, rfl, Nat.le_of_lt hk, e₃⟩) fun u s₃ x => hR _ _ (PostS.trans rfl (p'.trans p₁) x)
    · cases e'
theorem one_off {ext : List (Addr × Obj)} {Ia : Addr} {o : Obj} (off : ∀ p ∈ ext, p.1 ≠ Ia) : ∀ p ∈ ext, ∀ q ∈ [(Ia, o)], q.1 ≠ p.1 := fun p hp q hq => by
  rw [List.mem_singleton.mp hq]; exact Ne.symm (off p hp)
theorem Iv.next1 {h₀ h h' : Heap} {L Ia : Addr} {m : Str → Option Value} {ext : List (Addr × Obj)} {as : List Addr} {σ : List MO} {o o' : Obj} (I : Iv h₀ L m ((Ia, o) :: ext) h as σ) (off : ∀ p ∈ ext, p.1 ≠ Ia) (hs : Heap.ExtBut Ia h h') (ho : h'.get? Ia = some o') : Iv h₀ L m ((Ia, o') :: ext) h' as σ :=
  Iv.swap (X := [(Ia, o)]) (X' := [(Ia, o')]) I (fun b o'' hb e => hs b o'' (Ne.symm (hb _ (List.mem_singleton.mpr rfl))) e) (fun p hp => by rw [List.mem_singleton.mp hp]; exact ⟨ho, _, List.mem_singleton.mpr rfl, rfl⟩) (one_off off)
theorem Iv.end1 {h₀ h h' : Heap} {L Ia : Addr} {m : Str → Option Value} {ext : List (Addr × Obj)} {as : List Addr} {σ : List MO} {o : Obj} (I : Iv h₀ L m ((Ia, o) :: ext) h as σ) (off : ∀ p ∈ ext, p.1 ≠ Ia) (hs : Heap.ExtBut Ia h h') : Iv h₀ L m ext h' as σ :=
  Iv.swap (X := [(Ia, o)]) (X' := []) I (fun b o'' hb e => hs b o'' (Ne.symm (hb _ (List.mem_singleton.mpr rfl))) e) (fun p hp => by cases hp) (one_off off)
/-- one turn: the item is stored, the body runs -/
theorem loop_turn {k : Nat} (hS : OkSts prog w mg mb G Fn k (run Fn k)) {C : Cx} {x : Nat} {nm : Str} {p : Pos} {b : List MS} {b' : List Stmt} {A : Around} {env : Env} {L : Addr} {cells : List (Str × Addr)} {X ext : List (Addr × Obj)} {h₀ : Heap} {m : Str → Option Value} {s : Shared} {as : List Addr} {σ σ' : List MO} {ε ε' : List MV} {lo : Nat} {f : Fl} {v : MV} {u : Value} {Q : Flow → Shared → Prop} {E₁ E₂ : Value → Shared → Prop} (nx : List MV → List MO → SRes)
    (hx : C.nms[x]? = some nm) (hl : C.sc.names.lookup nm = some .local) (pb : PySs G C b b') (nd : C.nms.Nodup) (hA : AOk A k) (B : Base mg mb G Fn h₀) (I : Iv h₀ L m (X ++ ext) s.heap as σ) (V : Ev C none L (X ++ ext) cells as .undef env) (Rn : EnvR C cells as m ε) (ru : VR as v u) (e : bodyK ((run Fn k).sts lo b (ε.set x v) σ) nx = some (f, ε', σ'))
    (hn : ∀ h₃ tk₃ as₃ m₃ ε₃ σ₃, Iv h₀ L m₃ (X ++ ext) h₃ as₃ σ₃ → as <+: as₃ → EnvR C cells as₃ m₃ ε₃ → nx ε₃ σ₃ = some (f, ε', σ') → Q .next { s with heap := h₃, toks := tk₃ })
    (hr : ∀ u s₃, PostS C cells h₀ L ext s as σ' ε' f (.ret u) s₃ → Q (.ret u) s₃) : wpAny (model prog w) A (assign (.Name nm p) env u) (fun _ s₂ => wpAny (model prog w) A (execs b' env) Q E₁ s₂) E₂ s := by
  refine wpAny_mono (wpAny_assign_Name (st_loc (ext := X ++ ext) hx hl nd I V Rn ru fun h₂ tk₂ m₂ I₂ R₂ => ?_)) (fun _ _ x => x) fun _ _ x => x.elim
  exact loop_body (s := { s with heap := h₂, toks := tk₂ }) hS nx pb nd hA B I₂ V R₂ e hn fun u s₃ x => hr u s₃ (PostS.trans (s₁ := { s with heap := h₂, toks := tk₂ }) rfl (List.prefix_refl _) x)
noncomputable def isO (Ia : Addr) (q : Obj → Prop) (X : List (Addr × Obj)) : Prop := ∃ o, X = [(Ia, o)] ∧ q o
theorem loop_fl (hS : ∀ k, k < n → OkSts prog w mg mb G Fn k (run Fn k)) : OkFl prog w mg mb G Fn n (run Fn n) := by
  intro C x nm p b b' A env L Ia ax oI cells ext h₀ m s as σ σ' ε ε' lo j i f R hx hl pb nd hA B I off hit hax V Rn h hR
  refine codeAny_forLoop (LF C cells h₀ L ext s as n (fun i => isO Ia (itL ax i)) (fun k i => (run Fn k).fl lo x b j i) (some (f, ε', σ'))) ?_ n ⟨s.heap, s.toks, as, m, ε, σ, _, i, rfl, I, List.prefix_refl _, Rn, ⟨_, rfl, hit⟩, Nat.le_refl _, h⟩
  intro k s' hI
  refine LF.out hI fun h' tk as' m' ε₁ σ₁ X i' I' p' R' hX hk e' => ?_
  clear hI
  obtain ⟨oI', rfl, hit'⟩ := hX
  cases k with
  | zero => cases e'
  | succ k =>
    replace e' : sFl (run Fn k) lo x b j i' ε₁ σ₁ = _ := e'
    unfold sFl at e'
    rw [getM_eq] at e'
    split at e'
    · rename_i l hj
      rw [getM_eq] at e'
      obtain ⟨ax', vs, c, hax', ho, rv⟩ := I'.lst hj
      rw [pre_get p' hax] at hax'; cases hax'
      have hI : h'.IsListIter Ia ax i' := ⟨oI', (I'.N _ List.mem_cons_self).1, hit'⟩
      split at e'
      · rename_i e1
        cases e'
        have e1 := List.getElem?_eq_none_iff.mp e1
        refine wpAny_pyNext_list_end (s := { s with heap := h', toks := tk }) hA.hd hI (lobj_isList ho) (by rw [List.getElem?_toArray]; exact List.getElem?_eq_none_iff.mpr (by rw [rv.length]; exact e1)) fun h₁ he => ?_
        exact wpAny_execs_nil (hR _ _ ⟨h₁, tk, as', m', rfl, Iv.end1 I' off he, p', R', rfl⟩)
      · rename_i u e1
        rw [setK_eq] at e'
        obtain ⟨wu, hx', ru⟩ := rv.at e1
        refine wpAny_pyNext_list_item (s := { s with heap := h', toks := tk }) hI (lobj_isList ho) hx' fun h₁ hI₁ hs₁ => ?_
        obtain ⟨oI₁, hoI₁, hit₁⟩ := hI₁
        exact loop_turn (X := [(Ia, oI₁)]) (s := { s with heap := h₁, toks := tk }) (hS k hk) (fun ε σ => frcN (i' + 1) fun i' => (run Fn k).fl lo x b j i' ε σ) hx hl pb nd (hA.le (Nat.le_of_lt hk)) B (Iv.next1 I' off hs₁.extBut hoI₁) ((V.mono p').extN) R' ru e'
          (fun h₃ tk₃ as₃ m₃ ε₃ σ₃ I₃ p₃ R₃ e₃ => ⟨k, Nat.lt_succ_self _, h₃, tk₃, as₃, m₃, ε₃, σ₃, _, i' + 1, rfl, I₃, p'.trans p₃, R₃, ⟨_, rfl, hit₁⟩, Nat.le_of_lt hk, by rw [frcN_eq] at e₃; exact e₃⟩) fun u s₃ x => hR _ _ (PostS.trans rfl p' x)
    · cases e'
theorem loop_fr (hS : ∀ k, k < n → OkSts prog w mg mb G Fn k (run Fn k)) : OkFr prog w mg mb G Fn n (run Fn n) := by
  intro C x nm p b b' A env L Ia oI cells ext h₀ m s as σ σ' ε ε' lo kk hh f R hx hl pb nd hA B I off hit V Rn h hR
  refine codeAny_forLoop (LF C cells h₀ L ext s as n (fun k => isO Ia (itR k hh)) (fun k i => (run Fn k).fr lo x b i hh) (some (f, ε', σ'))) ?_ n ⟨s.heap, s.toks, as, m, ε, σ, _, kk, rfl, I, List.prefix_refl _, Rn, ⟨_, rfl, hit⟩, Nat.le_refl _, h⟩
  intro k s' hI
  refine LF.out hI fun h' tk as' m' ε₁ σ₁ X k' I' p' R' hX hk e' => ?_
  clear hI
  obtain ⟨oI', rfl, hit'⟩ := hX
  cases k with
  | zero => cases e'
  | succ k =>
    replace e' : sFr (run Fn k) lo x b k' hh ε₁ σ₁ = _ := e'
    unfold sFr at e'
    rw [ltB_eq] at e'
    have hg := (I'.N _ List.mem_cons_self).1
    replace hit' : oI' = _ := hit'
    rw [hit'] at hg
    split at e'
    · rename_i e1
      have e1 := of_decide_eq_false e1
      cases e'
      rw [if_neg e1] at hg
      refine wpAny_pyNext_range_end (s := { s with heap := h', toks := tk }) hA.hd hg (Int.le_refl _) fun h₁ he => ?_
      exact wpAny_execs_nil (hR _ _ ⟨h₁, tk, as', m', rfl, Iv.end1 I' off he, p', R', rfl⟩)
    · rename_i e1
      have e1 := of_decide_eq_true e1
      rw [setK_eq] at e'
      rw [if_pos e1] at hg
      refine wpAny_pyNext_range_item (s := { s with heap := h', toks := tk }) hg (by omega) fun h₁ hI₁ hs₁ => ?_
      exact loop_turn (X := [(Ia, _)]) (v := .int k') (s := { s with heap := h₁, toks := tk + 1 }) (hS k hk) (fun ε σ => frc (k' + 1) fun k' => (run Fn k).fr lo x b k' hh ε σ) hx hl pb nd (hA.le (Nat.le_of_lt hk)) B (Iv.next1 I' off hs₁.extBut hI₁) ((V.mono p').extN) R' vr_int e'
        (fun h₃ tk₃ as₃ m₃ ε₃ σ₃ I₃ p₃ R₃ e₃ => ⟨k, Nat.lt_succ_self _, h₃, tk₃, as₃, m₃, ε₃, σ₃, _, k' + 1, rfl, I₃, p'.trans p₃, R₃, ⟨_, rfl, by
          have e3 : hh - k' - 1 = (if k' + 1 < hh then hh - (k' + 1) else 0) := by split <;> omega
          show ({ cls := .type "range_iterator", dict := none, data := .fields #[rawInt (k' + 1), rawInt (hh - k' - 1), rawInt 1], slots := #[] } : Obj) = _
          rw [e3]⟩, Nat.le_of_lt hk, by rw [frc_eq] at e₃; exact e₃⟩) fun u s₃ x => hR _ _ (PostS.trans (s₁ := { s with heap := h₁, toks := tk + 1 }) rfl p' x)
theorem loop_fb (hS : ∀ k, k < n → OkSts prog w mg mb G Fn k (run Fn k)) : OkFb prog w mg mb G Fn n (run Fn n) := by
  intro C x nm p b b' A env L Ia ax oI cells ext h₀ m s as σ σ' ε ε' lo j c f R hx hl pb nd hA B I off hit hax V Rn h hR
  refine codeAny_forLoop (LF C cells h₀ L ext s as n (fun c => isO Ia (itB ax c)) (fun k c => (run Fn k).fb lo x b j c) (some (f, ε', σ'))) ?_ n ⟨s.heap, s.toks, as, m, ε, σ, _, c, rfl, I, List.prefix_refl _, Rn, ⟨_, rfl, hit⟩, Nat.le_refl _, h⟩
  intro k s' hI
  refine LF.out hI fun h' tk as' m' ε₁ σ₁ X c' I' p' R' hX hk e' => ?_
  clear hI
  obtain ⟨oI', rfl, hit'⟩ := hX
  cases k with
  | zero => cases e'
  | succ k =>
    replace e' : sFb (run Fn k) lo x b j c' ε₁ σ₁ = _ := e'
    unfold sFb at e'
    have hI : h'.IsRevIter Ia ax ((c' : Int) - 1) := ⟨oI', (I'.N _ List.mem_cons_self).1, hit'⟩
    split at e'
    · cases e'
      refine wpAny_pyNext_rev_end (s := { s with heap := h', toks := tk }) hA.hd hI fun h₁ he => ?_
      exact wpAny_execs_nil (hR _ _ ⟨h₁, tk, as', m', rfl, Iv.end1 I' off he, p', R', rfl⟩)
    · rename_i c'
      rw [getM_eq] at e'
      split at e'
      · rename_i l hj
        rw [getM_eq] at e'
        obtain ⟨ax', vs, cc, hax', ho, rv⟩ := I'.lst hj
        rw [pre_get p' hax] at hax'; cases hax'
        split at e'
        · rename_i u e1
          rw [setK_eq] at e'
          obtain ⟨wu, hx', ru⟩ := rv.at e1
          have hI' : h'.IsRevIter Ia ax (c' : Int) := by
            have : (((c' + 1 : Nat) : Int) - 1) = (c' : Int) := by omega
            rw [this] at hI; exact hI
          refine wpAny_pyNext_rev_item (s := { s with heap := h', toks := tk }) hI' (lobj_isList ho) hx' fun h₁ hI₁ hs₁ => ?_
          obtain ⟨oI₁, hoI₁, hit₁⟩ := hI₁
          exact loop_turn (X := [(Ia, oI₁)]) (s := { s with heap := h₁, toks := tk }) (hS k hk) (fun ε σ => (run Fn k).fb lo x b j c' ε σ) hx hl pb nd (hA.le (Nat.le_of_lt hk)) B (Iv.next1 I' off hs₁.extBut hoI₁) ((V.mono p').extN) R' ru e'
            (fun h₃ tk₃ as₃ m₃ ε₃ σ₃ I₃ p₃ R₃ e₃ => ⟨k, Nat.lt_succ_self _, h₃, tk₃, as₃, m₃, ε₃, σ₃, _, c', rfl, I₃, p'.trans p₃, R₃, ⟨_, rfl, hit₁⟩, Nat.le_of_lt hk, e₃⟩) fun u s₃ x => hR _ _ (PostS.trans rfl p' x)
        · cases e'
      · cases e'
noncomputable def isE (ea Ia ax : Addr) (i : Nat) (X : List (Addr × Obj)) : Prop := ∃ oe oI, X = [(ea, oe), (Ia, oI)] ∧ itE Ia i oe ∧ itL ax i oI
theorem loop_fe (hS : ∀ k, k < n → OkSts prog w mg mb G Fn k (run Fn k)) : OkFe prog w mg mb G Fn n (run Fn n) := by
  intro C x y nx ny px py pt kk b b' A env L ea Ia ax oe oI cells ext h₀ m s as σ σ' ε ε' lo j i f R hx hy lx ly pb nd hA B I off hne hie hit hax V Rn h hR
  have off2 : ∀ {o1 o2 : Obj}, ∀ p ∈ ext, ∀ q ∈ [(ea, o1), (Ia, o2)], q.1 ≠ p.1 := fun {o1 o2} p hp q hq => by
    rcases List.mem_cons.mp hq with rfl | hq
    · exact Ne.symm (off p hp).1
    · rw [List.mem_singleton.mp hq]; exact Ne.symm (off p hp).2
  refine codeAny_forLoop_any (LF C cells h₀ L ext s as n (isE ea Ia ax) (fun k i => (run Fn k).fe lo x y b j i) (some (f, ε', σ'))) ?_ n ⟨s.heap, s.toks, as, m, ε, σ, _, i, rfl, I, List.prefix_refl _, Rn, ⟨_, _, rfl, hie, hit⟩, Nat.le_refl _, h⟩
  intro k s' hI
  refine LF.out hI fun h' tk as' m' ε₁ σ₁ X i' I' p' R' hX hk e' => ?_
  clear hI
  obtain ⟨oe', oI', rfl, ⟨old, rfl⟩, hit'⟩ := hX
  cases k with
  | zero => cases e'
  | succ k =>
    replace e' : sFe (run Fn k) lo x y b j i' ε₁ σ₁ = _ := e'
    unfold sFe at e'
    rw [getM_eq] at e'
    split at e'
    · rename_i l hj
      rw [getM_eq] at e'
      obtain ⟨ax', vs, c, hax', ho, rv⟩ := I'.lst hj
      rw [pre_get p' hax] at hax'; cases hax'
      have hI : h'.IsListIter Ia ax i' := ⟨oI', (I'.N (Ia, oI') (.tail _ (.head _))).1, hit'⟩
      have hE : IsEnum h' ea Ia (i' : Int) old := (I'.N _ List.mem_cons_self).1
      split at e'
      · rename_i e1
        cases e'
        have e1 := List.getElem?_eq_none_iff.mp e1
        refine wpAny_pyNext_enum_end (s := { s with heap := h', toks := tk }) hA.hd hE hI (lobj_isList ho) (by rw [List.getElem?_toArray]; exact List.getElem?_eq_none_iff.mpr (by rw [rv.length]; exact e1)) fun h₁ he => ?_
        exact wpAny_execs_nil (hR _ _ ⟨h₁, tk, as', m', rfl, Iv.swap (X := [(ea, _), (Ia, oI')]) (X' := []) I' (fun b o hb e => he b o (Ne.symm (hb (Ia, oI') (.tail _ (.head _)))) e) (fun p hp => by cases hp) off2, p', R', rfl⟩)
      · rename_i u e1
        rw [setK_eq, setK_eq] at e'
        obtain ⟨wu, hx', ru⟩ := rv.at e1
        refine wpAny_pyNext_enum_item (s := { s with heap := h', toks := tk }) hE hI (lobj_isList ho) hx' hne fun h₁ heo hit₁ ht₁ hz₁ hk₁ => ?_
        refine wpAny_letOwnedTupleGo_enum (s := { s with heap := h₁, toks := tk + 1 }) heo fun h₂ he₂ hs₂ => ?_
        obtain ⟨oI₁, hoI₁, hit₁⟩ := hit₁
        have heH : ea < h'.objs.size := Heap.lt_size hE
        have ht₂ : ({ s with heap := h₂, toks := tk + 1 } : Shared).heap.IsTuple h'.objs.size #[.int i' tk, wu] := ⟨_, (hs₂.2 _ (Nat.ne_of_gt heH)).trans ht₁, rfl, _, rfl⟩
        have I₂ : Iv h₀ L m' ([(ea, _), (Ia, oI₁)] ++ ext) h₂ as' σ₁ := Iv.swap (X := [(ea, _), (Ia, oI')]) (X' := [(ea, _), (Ia, oI₁)]) I' (fun b o hb e => (hs₂.2 b (Ne.symm (hb (ea, _) List.mem_cons_self))).trans (hk₁ b o (Ne.symm (hb (ea, _) List.mem_cons_self)) (Ne.symm (hb (Ia, oI') (.tail _ (.head _)))) e)) (fun p hp => by
          rcases List.mem_cons.mp hp with rfl | hp
          · exact ⟨he₂, (ea, _), List.mem_cons_self, rfl⟩
          · rw [List.mem_singleton.mp hp]; exact ⟨(hs₂.2 _ (Ne.symm hne)).trans hoI₁, (Ia, oI'), .tail _ (.head _), rfl⟩) off2
        refine wpAny_mono (wpAny_assign_Tuple (E := fun _ _ => False) (s := { s with heap := h₂, toks := tk + 1 }) hA.hd ht₂ rfl rfl fun h₃ hx₃ => ?_) (fun _ _ x => x) fun _ _ x => x.elim
        have I₃ := I₂.fresh hx₃
        show wpAny _ A (do holding [wu] (assign (.Name nx px) env (.int i' tk)); do holding [] (assign (.Name ny py) env wu); pure ()) _ _ _
        refine wpAny_bind (wpAny_holding (wpAny_assign_Name (st_loc (v := .int (.ofNat i')) (s := { s with heap := h₃, toks := tk + 1 }) hx lx nd I₃ ((V.mono p').extN) R' ⟨tk, rfl⟩ fun h₄ tk₄ m₄ I₄ R₄ => ?_)))
        refine wpAny_bind (wpAny_holding (wpAny_assign_Name (st_loc (s := { s with heap := h₄, toks := tk₄ }) hy ly nd I₄ ((V.mono p').extN) R₄ ru fun h₅ tk₅ m₅ I₅ R₅ => ?_)))
        refine wpAny_pure ?_
        exact loop_body (s := { s with heap := h₅, toks := tk₅ }) (hS k hk) (fun ε σ => frcN (i' + 1) fun i' => (run Fn k).fe lo x y b j i' ε σ) pb nd (hA.le (Nat.le_of_lt hk)) B I₅ ((V.mono p').extN) R₅ e'
          (fun h₆ tk₆ as₆ m₆ ε₆ σ₆ I₆ p₆ R₆ e₆ => ⟨k, Nat.lt_succ_self _, h₆, tk₆, as₆, m₆, ε₆, σ₆, _, i' + 1, rfl, I₆, p'.trans p₆, R₆, ⟨_, _, rfl, ⟨_, rfl⟩, hit₁⟩, Nat.le_of_lt hk, by rw [frcN_eq] at e₆; exact e₆⟩) fun u s₃ x => hR _ _ (PostS.trans (s₁ := { s with heap := h₅, toks := tk₅ }) rfl p' x)
    · cases e'
end
end Mine
end
section
open PySem PySem.W PySem.Calls PyProof.Rows
namespace Mine
section
variable {prog : Program} {w : World} {mg mb : Str → Option Value} {G : List Str} {Fn : List FD} {n : Nat} {r : R}
variable {C : Cx} {A : Around} {env : Env} {L : Addr} {cells : List (Str × Addr)} {ext : List (Addr × Obj)} {h₀ : Heap} {m : Str → Option Value} {s : Shared} {as : List Addr} {σ σ' : List MO} {ε ε' : List MV} {v : MV} {lo : Nat} {f : Fl}
theorem s_for1 (hE : OkEx prog w mg mb G Fn n r) (hL : OkFl prog w mg mb G Fn n r) (hR : OkFr prog w mg mb G Fn n r) (hB : OkFb prog w mg mb G Fn n r) {x : Nat} {nm : Str} {it : MI} {b : List MS} {it' : Expr} {b' : List Stmt} {p p' : Pos} (hx : C.nms[x]? = some nm) (hl : C.sc.names.lookup nm = some .local) (pi : PyI G C it it') (pb : PySs G C b b') (nd : C.nms.Nodup) (hA : AOk A n) (B : Base mg mb G Fn h₀)
    (I : Iv h₀ L m ext s.heap as σ) (V : Ev C none L ext cells as .undef env) (Rn : EnvR C cells as m ε) (h : sFor1 r lo x it b ε σ = some (f, ε', σ')) :
    wpAny (model prog w) A (exec (.For (.Name nm p) it' b' [] p') env) (PostS C cells h₀ L ext s as σ' ε' f) (fun _ _ => False) s := by
  cases pi.inv with
  | lst pe =>
    unfold sFor1 at h
    dsimp only at h
    split at h
    · rename_i j σ₁ e1
      split at h
      · rename_i l hj
        rw [getM_eq] at hj
        refine wpAny_For (wpAny_mono (hE pe hA B I V Rn e1) (fun xv s₁ h₁ => ?_) fun _ _ x => x) (pe.safe.2.2.1 env)
        obtain ⟨h₁, tk₁, as₁, rfl, I₁, p₁, ax, hax, rfl⟩ := h₁
        obtain ⟨ax', vs, c, hax', ho, rv⟩ := I₁.lst hj
        rw [hax] at hax'; cases hax'
        refine wpAny_pyIter_list (s := { s with heap := h₁, toks := tk₁ }) (lobj_isList ho) ?_
        refine hL (ax := ax) hx hl pb nd hA B (I₁.addX (X := [(h₁.objs.size, { cls := .type "list_iterator", data := .fields #[.ref ax, .int 0 0] })]) (h' := h₁.push _) (fun b o q => Heap.get?_push_of_some _ q) fun p hp => by rw [List.mem_singleton.mp hp]; exact ⟨Heap.get?_push_size _ rfl, Nat.le_refl _⟩) (I₁.off (Nat.le_refl _)) ⟨rfl, rfl⟩ hax (V.mono p₁) (Rn.mono p₁) h fun fl s' x => ?_
        exact PostS.trans (s₁ := { s with heap := h₁.push _, toks := tk₁ }) rfl p₁ x
      · cases h
    · cases h
  | range1 hg pe =>
    unfold sFor1 at h
    dsimp only at h
    split at h
    · rename_i hi σ₁ e1
      split at h
      · rename_i hsm
        have hb := small_iff hsm
        refine wpAny_For (it_range1 hE hg pe hA B I V Rn e1 fun h₁ tk₁ as₁ rr t u v' I₁ p₁ hr => ?_) (fun _ => rfl)
        refine wpAny_pyIter_range (s := { s with heap := h₁, toks := tk₁ }) hr (small_one (by omega) (by omega) (by omega) (by omega)) ?_
        refine hR (k := 0) (h := hi) hx hl pb nd hA B (I₁.addX (X := [(h₁.objs.size, { cls := .type "range_iterator", data := .fields #[rawInt 0, rawInt (Builtin.Range.rangeSize 0 hi 1), rawInt 1] })]) (h' := h₁.push _) (fun b o q => Heap.get?_push_of_some _ q) fun p hp => by rw [List.mem_singleton.mp hp]; exact ⟨Heap.get?_push_size _ rfl, Nat.le_refl _⟩) (I₁.off (Nat.le_refl _)) (by unfold itR; rw [rangeSize_one]) (V.mono p₁) (Rn.mono p₁) h fun fl s' x => ?_
        exact PostS.trans (s₁ := { s with heap := h₁.push _, toks := tk₁ }) rfl p₁ x
      · cases h
    · cases h
  | range2 hg pa pe =>
    unfold sFor1 at h
    dsimp only at h
    split at h
    · rename_i k σ₁ e1
      split at h
      · rename_i hi σ₂ e2
        split at h
        · rename_i hsk
          split at h
          · rename_i hsm
            have hb := small_iff hsm
            have hbk := small_iff hsk
            refine wpAny_For (it_range2 hE hg pa pe hA B I V Rn e1 e2 fun h₁ tk₁ as₁ rr t u v' I₁ p₁ hr => ?_) (fun _ => rfl)
            refine wpAny_pyIter_range (s := { s with heap := h₁, toks := tk₁ }) hr (small_one (by omega) (by omega) (by omega) (by omega)) ?_
            refine hR (k := k) (h := hi) hx hl pb nd hA B (I₁.addX (X := [(h₁.objs.size, { cls := .type "range_iterator", data := .fields #[rawInt k, rawInt (Builtin.Range.rangeSize k hi 1), rawInt 1] })]) (h' := h₁.push _) (fun b o q => Heap.get?_push_of_some _ q) fun p hp => by rw [List.mem_singleton.mp hp]; exact ⟨Heap.get?_push_size _ rfl, Nat.le_refl _⟩) (I₁.off (Nat.le_refl _)) (by unfold itR; rw [rangeSize_one]) (V.mono p₁) (Rn.mono p₁) h fun fl s' x => ?_
            exact PostS.trans (s₁ := { s with heap := h₁.push _, toks := tk₁ }) rfl p₁ x
          · cases h
        · cases h
      · cases h
    · cases h
  | rev hg pe =>
    unfold sFor1 at h
    dsimp only at h
    split at h
    · rename_i j σ₁ e1
      split at h
      · rename_i l hj
        rw [getM_eq] at hj
        rw [frcN_eq, lenM_eq, Nat.add_zero] at h
        obtain ⟨hm, hb⟩ := B.blt _ _ (show (("reversed" : Str), Value.type "reversed") ∈ bltAll from .tail _ (.tail _ (.tail _ (.tail _ (.tail _ (.tail _ (.head _)))))))
        refine wpAny_For (Call_ (Name_function_global V.kf (V.glob _ hg) (loadGlobal_builtin (mg := mg) (mb := mb) (by rw [V.gl]; exact B.g.keeps I.F.keep) hm (by rw [V.bl]; exact B.b.keeps I.F.keep) hb ?_))) (fun _ => rfl)
        refine PySem.Pv.callWith_type1 ?_ (pe.star _ _)
        rw [pe.star]
        refine spliced_cons (wpAny_mono (hE pe hA B I V Rn e1) (fun wa s₁ h₁ => spliced_nil ?_) fun _ _ x => x)
        obtain ⟨h₁, tk₁, as₁, rfl, I₁, p₁, ax, hax, rfl⟩ := h₁
        obtain ⟨ax', vs, c, hax', ho, rv⟩ := I₁.lst hj
        rw [hax] at hax'; cases hax'
        refine call_reversed_list (s := { s with heap := h₁, toks := tk₁ }) (lobj_isList ho) ?_
        have hrev : (h₁.push (revObj ax ((vs.toArray.size : Int) - 1))).get? h₁.objs.size = some (revObj ax ((vs.toArray.size : Int) - 1)) := Heap.get?_push_size _ rfl
        refine wpAny_pyIter_revIter (s := { s with heap := h₁.push _, toks := tk₁ }) ⟨_, hrev, rfl, rfl⟩ ?_
        refine hB (ax := ax) hx hl pb nd hA B (I₁.addX (X := [(h₁.objs.size, revObj ax ((vs.toArray.size : Int) - 1))]) (h' := h₁.push _) (fun b o q => Heap.get?_push_of_some _ q) fun p hp => by rw [List.mem_singleton.mp hp]; exact ⟨hrev, Nat.le_refl _⟩) (I₁.off (Nat.le_refl _)) ⟨rfl, by simp [revObj, rv.length]⟩ hax (V.mono p₁) (Rn.mono p₁) h fun fl s' x => ?_
        exact PostS.trans (s₁ := { s with heap := h₁.push _, toks := tk₁ }) rfl p₁ x
      · cases h
    · cases h
theorem s_for2 (hE : OkEx prog w mg mb G Fn n r) (hF : OkFe prog w mg mb G Fn n r) {x y : Nat} {nx ny : Str} {e : ME} {b : List MS} {e' : Expr} {b' : List Stmt} {kk : Nat} {px py pt pn pc p' : Pos} (hx : C.nms[x]? = some nx) (hy : C.nms[y]? = some ny) (lx : C.sc.names.lookup nx = some .local) (ly : C.sc.names.lookup ny = some .local) (hg : C.sc.names.lookup ("enumerate" : Str) = some .globalImplicit) (pe : Py G C none e e') (pb : PySs G C b b') (nd : C.nms.Nodup) (hA : AOk A n) (B : Base mg mb G Fn h₀)
    (I : Iv h₀ L m ext s.heap as σ) (V : Ev C none L ext cells as .undef env) (Rn : EnvR C cells as m ε) (h : sFor2 r lo x y e b ε σ = some (f, ε', σ')) :
    wpAny (model prog w) A (exec (.For (.Tuple [.Name nx px, .Name ny py] kk pt) (.Call (.Name ("enumerate" : Str) pn) [e'] [] pc) b' [] p') env) (PostS C cells h₀ L ext s as σ' ε' f) (fun _ _ => False) s := by
  unfold sFor2 at h
  split at h
  · rename_i j σ₁ e1
    split at h
    · rename_i l hj
      rw [getM_eq] at hj
      obtain ⟨hm, hb⟩ := B.blt _ _ (show (("enumerate" : Str), Value.type "enumerate") ∈ bltAll from .tail _ (.tail _ (.tail _ (.tail _ (.tail _ (.tail _ (.tail _ (.head _))))))))
      refine wpAny_For (Call_ (Name_function_global V.kf (V.glob _ hg) (loadGlobal_builtin (mg := mg) (mb := mb) (by rw [V.gl]; exact B.g.keeps I.F.keep) hm (by rw [V.bl]; exact B.b.keeps I.F.keep) hb ?_))) (fun _ => rfl)
      refine PySem.Pv.callWith_type1 ?_ (pe.star _ _)
      rw [pe.star]
      refine spliced_cons (wpAny_mono (hE pe hA B I V Rn e1) (fun wa s₁ h₁ => spliced_nil ?_) fun _ _ x => x)
      obtain ⟨h₁, tk₁, as₁, rfl, I₁, p₁, ax, hax, rfl⟩ := h₁
      obtain ⟨ax', vs, c, hax', ho, rv⟩ := I₁.lst hj
      rw [hax] at hax'; cases hax'
      refine call_enumerate_list (s := { s with heap := h₁, toks := tk₁ }) (lobj_isList ho) fun h₂ he hit hsz hk => ?_
      refine wpAny_pyIter_enum (s := { s with heap := h₂, toks := tk₁ }) he ?_
      obtain ⟨oI, hoI, hit⟩ := hit
      refine hF (ax := ax) (Ia := h₁.objs.size) (i := 0) hx hy lx ly pb nd hA B (I₁.addX (X := [(h₁.objs.size + 1, { cls := .type "enumerate", dict := none, data := .fields #[.none, .bool false, .ref h₁.objs.size, rawInt 0, .none, .none], slots := #[] }), (h₁.objs.size, oI)]) (h' := h₂) hk fun p hp => ?_) (fun p hp => ⟨I₁.off (Nat.le_succ _) p hp, I₁.off (Nat.le_refl _) p hp⟩) (Nat.succ_ne_self _) ⟨_, rfl⟩ hit hax (V.mono p₁) (Rn.mono p₁) h fun fl s' x => ?_
      · rcases List.mem_cons.mp hp with rfl | hp
        · exact ⟨he, Nat.le_succ _⟩
        · rw [List.mem_singleton.mp hp]; exact ⟨hoI, Nat.le_refl _⟩
      · exact PostS.trans (s₁ := { s with heap := h₂, toks := tk₁ }) rfl p₁ x
    · cases h
  · cases h
theorem step_st (hE : OkEx prog w mg mb G Fn n r) (hX : OkExs prog w mg mb G Fn n r) (hT : OkTst prog w mg mb G Fn n r) (hg : Gr r) (hS : OkSts prog w mg mb G Fn n r) (hW : OkWhl prog w mg mb G Fn n r) (hL : OkFl prog w mg mb G Fn n r) (hR : OkFr prog w mg mb G Fn n r) (hB : OkFb prog w mg mb G Fn n r) (hF : OkFe prog w mg mb G Fn n r)
    {ms : MS} {st : Stmt} (ps : PyS G C ms st) (nd : C.nms.Nodup) (hA : AOk A n) (B : Base mg mb G Fn h₀)
    (I : Iv h₀ L m ext s.heap as σ) (V : Ev C none L ext cells as .undef env) (Rn : EnvR C cells as m ε) (h : sSt r lo ms ε σ = some (f, ε', σ')) :
    wpAny (model prog w) A (exec st env) (PostS C cells h₀ L ext s as σ' ε' f) (fun _ _ => False) s := by
  cases ps.inv with
  | asg hx hl q hs => exact s_asg hE hx hl q hs nd hA B I V Rn h
  | tas2 hx hy lx ly hxy q hw => exact s_tas2 hX hx hy lx ly hxy q hw nd hA B I V Rn h
  | tasg hx hy lx ly q hw => exact s_tasg hX hx hy lx ly q hw nd hA B I V Rn h
  | aug hx hl q => exact s_aug hE hx hl q nd hA B I V Rn h
  | augsub q1 q2 q3 => exact s_augs hE hg q1 q2 q3 q2.safe.2.2.2.1 hA B I V Rn h
  | app hx hl hd _ hline q => exact s_app hE hg hx hl hd hline q hA B I V Rn h
  | ifs q1 q2 q3 => exact s_ifs hT hS q1 q2 q3 nd hA B I V Rn h
  | whl q1 q2 => exact wpAny_While (hW q1 q2 nd hA B I V Rn h fun fl s' x => x)
  | for1 hx hl q1 q2 => exact s_for1 hE hL hR hB hx hl q1 q2 nd hA B I V Rn h
  | for2 hx hy lx ly hg q1 q2 => exact s_for2 hE hF hx hy lx ly hg q1 q2 nd hA B I V Rn h
  | ret q => exact s_ret hE q hA B I V Rn h
  | opq => cases h
end
end Mine
end
section
open PySem PySem.W PySem.Calls PyProof.Rows
namespace Mine
theorem OR.back {as as' : List Addr} (p : as <+: as') {mo : MO} {o o' : Obj} (x : OR as mo o) (y : OR as' mo o') : OR as mo o' := by
  cases mo with
  | lst l =>
    obtain ⟨vs, n, _, r⟩ := x
    obtain ⟨vs', n', e, r'⟩ := y
    exact ⟨vs', n', e, r.back p r'⟩
  | tup l =>
    obtain ⟨vs, n, _, r⟩ := x
    obtain ⟨vs', n', e, r'⟩ := y
    exact ⟨vs', n', e, r.back p r'⟩
  | cell v =>
    rcases y with y | ⟨u, e, r⟩
    · exact .inl y
    · rcases x with ⟨h1, _⟩ | ⟨u', _, r'⟩
      · exact .inl ⟨h1, _, e⟩
      · exact .inr ⟨u, e, r'.back p r⟩
  | junk => trivial
theorem bindL_other {kindOf : Str → Option NameKind} : ∀ (binds : List (Str × Value)) (m : Str → Option Value) {nm : Str}, nm ∉ binds.map (·.1) → bindL kindOf binds m nm = m nm
  | [], _, _, _ => rfl
  | (n, v) :: r, m, nm, h => by
    rw [bindL, bindL_other r _ fun q => h (by rw [List.map_cons]; exact List.mem_cons_of_mem _ q)]
    split
    · exact if_neg fun q => h (by rw [q]; exact List.mem_cons_self)
    · rfl
theorem bindC_other {kindOf : Str → Option NameKind} : ∀ (binds : List (Str × Value)) (m : Str → Option Value) {nm : Str}, nm ∉ binds.map (·.1) → bindC kindOf binds m nm = m nm
  | [], _, _, _ => rfl
  | (n, v) :: r, m, nm, h => by
    rw [bindC, bindC_other r _ fun q => h (by rw [List.map_cons]; exact List.mem_cons_of_mem _ q)]
    split
    · rfl
    · exact if_neg fun q => h (by rw [q]; exact List.mem_cons_self)
theorem bindL_get {kindOf : Str → Option NameKind} {nm : Str} {v : Value} (binds : List (Str × Value)) (m : Str → Option Value) (nd : (binds.map (·.1)).Nodup) (h : (nm, v) ∈ binds) (hk : kindOf nm = some .local) : bindL kindOf binds m nm = some v := by
  induction binds generalizing m with
  | nil => cases h
  | cons p r ih =>
    rw [List.map_cons, List.nodup_cons] at nd
    show bindL kindOf r (if kindOf p.1 = some .local then fun y => if y = p.1 then some p.2 else m y else m) nm = some v
    rcases List.mem_cons.mp h with e | h
    · subst e
      rw [bindL_other r _ nd.1, if_pos hk]
      exact if_pos rfl
    · exact ih _ nd.2 h
theorem bindC_get {kindOf : Str → Option NameKind} {nm : Str} {v : Value} (binds : List (Str × Value)) (m : Str → Option Value) (nd : (binds.map (·.1)).Nodup) (h : (nm, v) ∈ binds) (hk : kindOf nm = some .cell) : bindC kindOf binds m nm = some v := by
  induction binds generalizing m with
  | nil => cases h
  | cons p r ih =>
    rw [List.map_cons, List.nodup_cons] at nd
    show bindC kindOf r (if kindOf p.1 = some .local then m else fun y => if y = p.1 then some p.2 else m y) nm = some v
    rcases List.mem_cons.mp h with e | h
    · subst e
      rw [bindC_other r _ nd.1, if_neg (by rw [hk]; intro q; cases q)]
      exact if_pos rfl
    · exact ih _ nd.2 h
theorem cellsFrom_some : ∀ (names : List (Str × NameKind)) (n : Nat) (acc : List (Str × Addr)) (nm : Str), (names.lookup nm = some .cell ∨ ∃ c, acc.lookup nm = some c) → ∃ c, (cellsFrom n names acc).lookup nm = some c
  | [], _, acc, nm, h => by
    rcases h with h | h
    · cases h
    · exact h
  | (n2, k) :: r, n, acc, nm, h => by
    unfold cellsFrom
    by_cases hn : nm = n2
    · subst hn
      by_cases hk : k = .cell
      · subst hk
        exact cellsFrom_some r _ _ nm (.inr ⟨n, by rw [List.lookup_cons, beq_self_eq_true]⟩)
      · have hk' : (k == NameKind.cell) = false := by simpa using hk
        rw [hk', if_neg (by decide)]
        rcases h with h | h
        · rw [List.lookup_cons, beq_self_eq_true] at h
          cases h
          exact absurd rfl hk
        · exact cellsFrom_some r _ _ nm (.inr h)
    · have hn' : (nm == n2) = false := by simpa using hn
      split
      · refine cellsFrom_some r _ _ nm ?_
        rcases h with h | ⟨c, h⟩
        · rw [List.lookup_cons, hn'] at h; exact .inl h
        · exact .inr ⟨c, by rw [List.lookup_cons, hn']; exact h⟩
      · refine cellsFrom_some r _ _ nm ?_
        rcases h with h | h
        · rw [List.lookup_cons, hn'] at h; exact .inl h
        · exact .inr h
inductive CM (nms : List Str) : List Nat → List (Str × Addr) → Prop
  | nil : CM nms [] []
  | cons {x : Nat} {nm : Str} {c : Addr} {xs : List Nat} {cs : List (Str × Addr)} : nms[x]? = some nm → CM nms xs cs → CM nms (x :: xs) ((nm, c) :: cs)
theorem CM.of {nms : List Str} : ∀ (xs : List Nat) (cs : List (Str × Addr)), cs.map (·.1) = xs.filterMap (nms[·]?) → (∀ x ∈ xs, x < nms.length) → CM nms xs cs
  | [], [], _, _ => .nil
  | [], _ :: _, h, _ => by cases h
  | x :: xs, cs, h, hl => by
    have hx := List.getElem?_eq_getElem (hl x List.mem_cons_self)
    rw [List.filterMap_cons, hx] at h
    cases cs with
    | nil => cases h
    | cons c cs =>
      rw [List.map_cons] at h
      injection h with h1 h2
      obtain ⟨nm, c⟩ := c
      exact .cons (by rw [hx, ← h1]) (CM.of xs cs h2 fun y hy => hl y (List.mem_cons_of_mem _ hy))
section
variable {g h₁ : Heap} {L : Addr} {m' : Str → Option Value} {sc : Scope} {nms : List Str} {cs₀ : List (Str × Addr)} {cm : Str → Option Value}
noncomputable def EnvP (sc : Scope) (nms : List Str) (cs₀ : List (Str × Addr)) (m' : Str → Option Value) (xs : List Nat) (ε : List MV) (as : List Addr) : Prop :=
  ∀ (x : Nat) (v : MV) (nm : Str), ε[x]? = some v → v ≠ .undef → nms[x]? = some nm → (sc.names.lookup nm = some .local → ∃ w, m' nm = some w ∧ VR as v w) ∧ (sc.names.lookup nm = some .cell → x ∈ xs ∨ ∃ j a, v = .ref j ∧ as[j]? = some a ∧ cs₀.lookup nm = some a)
theorem cells_go (nd : nms.Nodup) : ∀ (xs : List Nat) (cs : List (Str × Addr)) (ε : List MV) (as : List Addr) (σ : List MO), CM nms xs cs → xs.Nodup → (cs.Pairwise fun x y => x.2 ≠ y.2) →
    (∀ p ∈ cs, ∃ o, h₁.get? p.2 = some o ∧ o.data = .cell (cm p.1) ∧ p.2 ≠ L ∧ g.get? p.2 = none ∧ p.2 ∉ as) → (∀ p ∈ cs, cs₀.lookup p.1 = some p.2) →
    (∀ x ∈ xs, ∃ v nm w, ε[x]? = some v ∧ nms[x]? = some nm ∧ cm nm = some w ∧ VR as v w ∧ sc.names.lookup nm = some .cell) → Iv g L m' [] h₁ as σ → EnvP sc nms cs₀ m' xs ε as →
    ∃ as', as <+: as' ∧ Iv g L m' [] h₁ as' (cellsM xs ε σ).2 ∧ EnvP sc nms cs₀ m' [] (cellsM xs ε σ).1 as' ∧ σ <+: (cellsM xs ε σ).2
  | [], cs, ε, as, σ, _, _, _, _, _, _, I, P => ⟨as, List.prefix_refl _, I, P, List.prefix_refl _⟩
  | x :: xs, (nm, c) :: cs', ε, as, σ, .cons hx hcm, hxs, hap, hobj, hlk, hval, I, P => by
    obtain ⟨v, nm', u, e1, e2, e3, e4, e5⟩ := hval x List.mem_cons_self
    rw [hx] at e2; cases e2
    rw [List.nodup_cons] at hxs
    rw [List.pairwise_cons] at hap
    obtain ⟨o, ho, hd, hL, hg, has⟩ := hobj _ List.mem_cons_self
    have pre : as <+: as ++ [c] := List.prefix_append _ _
    have J : Iv g L m' [] h₁ (as ++ [c]) (σ ++ [.cell v]) := by
      refine ⟨I.F, (fun p hp => by cases hp), by simp [I.len], fun i a mo' q1 q2 => ?_, fun a ha => ?_, ?_⟩
      · rcases snoc_get q1 with q1 | ⟨hi, rfl⟩
        · rcases snoc_get q2 with q2 | ⟨hj, rfl⟩
          · obtain ⟨o', e, r'⟩ := I.obj i a mo' q1 q2
            exact ⟨o', e, r'.mono pre⟩
          · rw [← I.len] at hj
            rw [hj, List.getElem?_eq_none (Nat.le_refl _)] at q1; cases q1
        · rcases snoc_get q2 with q2 | ⟨hj, rfl⟩
          · rw [hi, I.len, List.getElem?_eq_none (Nat.le_refl _)] at q2; cases q2
          · exact ⟨o, ho, .inr ⟨u, by rw [hd]; exact congrArg _ e3, e4.mono pre⟩⟩
      · rcases List.mem_append.mp ha with ha | ha
        · exact I.fr a ha
        · rw [List.mem_singleton.mp ha]
          exact ⟨hL, hg, fun p hp => by cases hp⟩
      · refine List.nodup_append.mpr ⟨I.nd, by simp, fun a ha b hb => ?_⟩
        rw [List.mem_singleton.mp hb]
        exact fun q => has (q ▸ ha)
    have hc : cs₀.lookup nm = some c := hlk _ List.mem_cons_self
    have hlt : x < ε.length := (List.getElem?_eq_some_iff.mp e1).1
    obtain ⟨as', p', I', P', q'⟩ := cells_go nd xs cs' (ε.set x (.ref σ.length)) (as ++ [c]) (σ ++ [.cell v]) hcm hxs.2 hap.2 (fun p hp => by
      obtain ⟨o', z1, z2, z3, z4, z5⟩ := hobj p (List.mem_cons_of_mem _ hp)
      refine ⟨o', z1, z2, z3, z4, fun q => ?_⟩
      rcases List.mem_append.mp q with q | q
      · exact z5 q
      · exact hap.1 p hp (List.mem_singleton.mp q).symm) (fun p hp => hlk p (List.mem_cons_of_mem _ hp)) (fun y hy => by
      obtain ⟨v', nm', w', z1, z2, z3, z4, z5⟩ := hval y (List.mem_cons_of_mem _ hy)
      have hne : x ≠ y := fun q => hxs.1 (q ▸ hy)
      exact ⟨v', nm', w', by rw [List.getElem?_set_ne hne]; exact z1, z2, z3, z4.mono pre, z5⟩) J (fun y v' nm' z1 z2 z3 => by
      by_cases hxy : y = x
      · subst hxy
        rw [List.getElem?_set_self hlt] at z1; cases z1
        rw [hx] at z3; cases z3
        exact ⟨(fun q => by rw [e5] at q; cases q), fun _ => .inr ⟨_, c, rfl, by rw [← I.len]; simp, hc⟩⟩
      · rw [List.getElem?_set_ne (Ne.symm hxy)] at z1
        obtain ⟨p1, p2⟩ := P y v' nm' z1 z2 z3
        refine ⟨fun q => let ⟨u', a, b⟩ := p1 q; ⟨u', a, b.mono pre⟩, fun q => ?_⟩
        rcases p2 q with p2 | ⟨j, a, y1, y2, y3⟩
        · rcases List.mem_cons.mp p2 with p2 | p2
          · exact absurd p2 hxy
          · exact .inl p2
        · exact .inr ⟨j, a, y1, pre_get pre y2, y3⟩)
    have ec : cellsM (x :: xs) ε σ = cellsM xs (ε.set x (.ref σ.length)) (σ ++ [.cell v]) := by
      conv => lhs; unfold cellsM
      rw [getM_eq, e1]
      dsimp only
      rw [setM_eq, lenM_eq, Nat.add_zero]
    rw [ec]
    exact ⟨as', pre.trans p', I', P', (List.prefix_append _ _).trans q'⟩
termination_by structural xs => xs
end
theorem nodup_fm {nms : List Str} (nd : nms.Nodup) : ∀ xs : List Nat, xs.Nodup → (xs.filterMap (nms[·]?)).Nodup
  | [], _ => .nil
  | x :: xs, h => by
    rw [List.nodup_cons] at h
    rw [List.filterMap_cons]
    split
    · exact nodup_fm nd xs h.2
    · rename_i b e
      refine List.nodup_cons.mpr ⟨fun q => ?_, nodup_fm nd xs h.2⟩
      obtain ⟨y, hy, e2⟩ := List.mem_filterMap.mp q
      exact h.1 (nodup_get nd e e2 ▸ hy)
theorem undefs_get : ∀ (k i : Nat) (v : MV), (undefs k)[i]? = some v → v = .undef
  | 0, _, _, h => by cases h
  | k + 1, 0, v, h => by cases h; rfl
  | k + 1, i + 1, v, h => undefs_get k i v h
theorem flat_VRs {as as' : List Addr} {l : List MV} {ws : List Value} (h : flat l = true) (x : VRs as l ws) : VRs as' l ws := by
  induction x with
  | nil => exact .nil
  | @cons v w l ws h1 h2 ih =>
    cases v with
    | undef => cases h
    | int i => exact .cons h1 (ih h)
    | bool b => exact .cons h1 (ih h)
    | ref j => cases h
section
variable {prog : Program} {w : World} {mg mb : Str → Option Value} {G : List Str} {Fn : List FD} {n : Nat} {r : R}
variable {A : Around} {L : Addr} {ext : List (Addr × Obj)} {h₀ : Heap} {m : Str → Option Value} {s : Shared} {as : List Addr} {σ σ' : List MO} {v : MV}
/-- what a call hands back -/
theorem gc_ok {g h₂ : Heap} {L' : Addr} {m₂ : Str → Option Value} {as₂ : List Addr} {σ₂ : List MO} {tk : Nat} {u : MV} {wu : Value} (I : Iv h₀ L m ext s.heap as σ) (hg : ∀ b o, s.heap.get? b = some o → b ∉ as → g.get? b = some o) (I₂ : Iv g L' m₂ [] h₂ as₂ σ₂) (p : as <+: as₂) (kp : Kp σ.length σ σ₂) (ru : VR as₂ u wu)
    (h : gcM σ.length u σ σ₂ = some (v, σ')) : PostV h₀ L m ext s as σ' v wu { s with heap := h₂, toks := tk } := by
  have notin : ∀ b o, h₀.get? b = some o → b ∉ as := fun b o e q => by
    have := (I.fr b q).2.1; rw [e] at this; cases this
  have nL : L ∉ as := fun q => (I.fr L q).1 rfl
  have up : ∀ b o, s.heap.get? b = some o → b ∉ as → h₂.get? b = some o := fun b o e q => I₂.F.keep b o (hg b o e q)
  have J : Iv h₀ L m ext h₂ as σ := by
    refine ⟨⟨I.F.ns.at' fun o e => up L o e nL, fun b o e => up b o (I.F.keep b o e) (notin b o e), I.F.above⟩, fun q hq => ⟨up _ _ (I.N q hq).1 fun z => (I.fr q.1 z).2.2 q hq rfl, (I.N q hq).2⟩, I.len, fun i a mo e1 e2 => ?_, I.fr, I.nd⟩
    obtain ⟨o, ho, ro⟩ := I.obj i a mo e1 e2
    have hi : i < σ.length := (List.getElem?_eq_some_iff.mp e2).1
    obtain ⟨o', ho', ro'⟩ := I₂.obj i a mo (pre_get p e1) ((kp.2 i hi hi).trans e2)
    exact ⟨o', ho', ro.back p ro'⟩
  have fin : ∀ (i : Nat) (mo : MO) (a : Addr) (o : Obj), as₂[i]? = some a → σ.length ≤ i → h₂.get? a = some o → OR (as ++ [a]) mo o → wu = .ref a → PostV h₀ L m ext s as (σ ++ [mo]) (.ref σ.length) wu { s with heap := h₂, toks := tk } := fun i mo a o ea hi ho ro e => by
    subst e
    have ha := get_mem ea
    have f := I₂.fr a ha
    have hna : a ∉ as := fun q => by
      obtain ⟨j, hj, e⟩ := List.mem_iff_getElem.mp q
      have e1 : as[j]? = some a := by rw [List.getElem?_eq_getElem hj, e]
      have := nodup_get I₂.nd ea (pre_get p e1)
      have := I.len
      omega
    have old : ∀ b o', s.heap.get? b = some o' → b ∉ as → b ≠ a := fun b o' e1 e2 q => by
      have := hg b o' e1 e2
      rw [q, f.2.1] at this; cases this
    have pre : as <+: as ++ [a] := List.prefix_append _ _
    obtain ⟨oL, es, ep, hoL, _⟩ := I.F.ns
    refine ⟨h₂, tk, as ++ [a], rfl, ⟨J.F, J.N, by simp [J.len], fun i' b mo' q1 q2 => ?_, fun b hb => ?_, ?_⟩, pre, a, by rw [← I.len]; simp, rfl⟩
    · rcases snoc_get q1 with q1 | ⟨hi', rfl⟩
      · rcases snoc_get q2 with q2 | ⟨hj, rfl⟩
        · obtain ⟨o', e, r'⟩ := J.obj i' b mo' q1 q2
          exact ⟨o', e, r'.mono pre⟩
        · rw [← J.len] at hj
          rw [hj, List.getElem?_eq_none (Nat.le_refl _)] at q1; cases q1
      · rcases snoc_get q2 with q2 | ⟨hj, rfl⟩
        · rw [hi', J.len, List.getElem?_eq_none (Nat.le_refl _)] at q2; cases q2
        · exact ⟨o, ho, ro⟩
    · rcases List.mem_append.mp hb with hb | hb
      · exact J.fr b hb
      · rw [List.mem_singleton.mp hb]
        refine ⟨Ne.symm (old L oL hoL nL), ?_, fun q hq => old _ _ (I.N q hq).1 fun z => (I.fr q.1 z).2.2 q hq rfl⟩
        cases z : h₀.get? a with
        | none => rfl
        | some o' => exact absurd rfl (old a o' (I.F.keep _ _ z) (notin a o' z))
    · refine List.nodup_append.mpr ⟨I.nd, by simp, fun b hb b' hb' => ?_⟩
      rw [List.mem_singleton.mp hb']
      exact fun q => hna (q ▸ hb)
  unfold gcM at h
  split at h
  · cases h
    exact ⟨h₂, tk, as, rfl, J, List.prefix_refl _, ru⟩
  · cases h
    exact ⟨h₂, tk, as, rfl, J, List.prefix_refl _, ru⟩
  · rename_i i
    obtain ⟨a, ea, rfl⟩ := ru
    split at h
    · rename_i hi
      cases h
      have hi' : i < σ.length := Nat.le_of_ble_eq_true hi
      have hi'' : i < as.length := by rw [I.len]; exact hi'
      refine ⟨h₂, tk, as, rfl, J, List.prefix_refl _, a, ?_, rfl⟩
      have := pre_get p (List.getElem?_eq_getElem hi'')
      rw [ea] at this
      rw [List.getElem?_eq_getElem hi'', ← this]
    · rename_i hi
      have hi' : ¬ i < σ.length := fun q => by
        have : Nat.blt i σ.length = true := Nat.ble_eq_true_of_le q
        rw [hi] at this; cases this
      rw [getM_eq] at h
      split at h
      · rename_i l e1
        split at h
        · rename_i hfl
          rw [alc_eq] at h
          cases h
          obtain ⟨a', vs, c, ea', ho, rv⟩ := I₂.lst e1
          rw [ea] at ea'; cases ea'
          exact fin i _ a _ ea (Nat.not_lt.mp hi') ho ⟨vs, c, rfl, flat_VRs hfl rv⟩ rfl
        · cases h
      · rename_i l e1
        split at h
        · rename_i hfl
          rw [alc_eq] at h
          cases h
          obtain ⟨a', vs, c, ea', ho, rv⟩ := I₂.tup e1
          rw [ea] at ea'; cases ea'
          exact fin i _ a _ ea (Nat.not_lt.mp hi') ho ⟨vs, c, rfl, flat_VRs hfl rv⟩ rfl
        · cases h
      · cases h
  · cases h
theorem step_cal (hS : OkSts prog w mg mb G Fn n r) (hK : Ks r) {f : Nat} {nm : Str} {a : Addr} {vs : List MV} {ws : List Value} (hA : AOk A (n + 1)) (B : Base mg mb G Fn h₀) (I : Iv h₀ L m ext s.heap as σ) (hf : G[f]? = some nm) (ha : mg nm = some (.ref a)) (rv : VRs as vs ws) (h : sCal r Fn f vs σ = some (v, σ')) :
    wpAny (model prog w) A (call (.ref a) ws) (PostV h₀ L m ext s as σ' v) (fun _ _ => False) s := by
  unfold sCal at h
  rw [getM_eq] at h
  split at h
  · rename_i fd hfd
    split at h
    · rename_i hnp
      have hnp : vs.length = fd.np := by
        have := Nat.eq_of_beq_eq_true hnp
        rw [lenM_eq, Nat.add_zero] at this
        exact this
      rw [frcN_eq, frcL_eq, lenM_eq, Nat.add_zero] at h
      obtain ⟨a', o, params, body, scope, pm, cd, doc, b1, b2, b3, b4, FS⟩ := B.fn f nm fd hf hfd
      rw [ha] at b1; cases b1
      obtain ⟨⟨nms, hnd, hlen, hnps, hbody, hbind, hkinds, hcells, hcnd, hclt, hcall⟩, kf, co, ge⟩ := FS
      have hwl : ws.length = fd.np := rv.length.trans hnp
      have hbl : ((nms.take fd.np).zip ws).map (·.1) = nms.take fd.np := by
        rw [List.map_fst_zip]
        rw [List.length_take, hwl]; exact Nat.min_le_left _ _
      have hbnd : (((nms.take fd.np).zip ws).map (·.1)).Nodup := by rw [hbl]; exact hnd.sublist (List.take_sublist _ _)
      have hmem : ∀ x nm' u, nms[x]? = some nm' → ws[x]? = some u → (nm', u) ∈ (nms.take fd.np).zip ws := fun x nm' u e1 e2 => by
        refine List.mem_of_getElem? (i := x) ?_
        have hx : x < fd.np := by rw [← hwl]; exact (List.getElem?_eq_some_iff.mp e2).1
        rw [List.getElem?_zip_eq_some]
        exact ⟨by rw [List.getElem?_take, if_pos hx]; exact e1, e2⟩
      refine wpAny_call (call_cells_ret (Nat.lt_of_le_of_lt (Nat.le_add_right _ _) hA.dp) (I.F.keep _ _ b2) b3 (B.nl.keeps I.F.keep) (b4.keeps I.F.keep) (hbind pm cd doc ws hwl) (fun y hy => ?_) (fun h₁ tk F X => ?_) co ge kf)
      · have : y.1 ∈ nms := by
          have := List.mem_map_of_mem (f := (·.1)) hy
          rw [hbl] at this
          exact List.mem_of_mem_take this
        rcases hkinds y.1 this with q | ⟨q, _⟩
        · exact .inl q
        · obtain ⟨c, hc⟩ := cellsFrom_some scope.names (s.heap.objs.size + 1) [] y.1 (.inl q)
          exact .inr ⟨q, by rw [hc]; rfl⟩
      · -- the callee's frame
        let cs₀ := cellsFrom (s.heap.objs.size + 1) scope.names []
        have hkeys : cs₀.map (·.1) = fd.cells.filterMap (nms[·]?) := (cellsFrom_names scope.names _ 0 [] [] rfl).trans hcells
        have hg : ∀ b o, s.heap.get? b = some o → b ∉ as → (hideAll s.heap as).get? b = some o := fun b o e q => hideAll_get as e q
        have F' : Fr (hideAll s.heap as) s.heap.objs.size h₁ (bindL (envOfC nm scope s.heap.objs.size a cd).kindOf ((nms.take fd.np).zip ws) fun _ => none) := ⟨F.ns, fun b o e => F.keep b o (of_hideAll as e), Nat.le_of_eq (hideAll_size _ _)⟩
        have I₁ : Iv (hideAll s.heap as) s.heap.objs.size (bindL (envOfC nm scope s.heap.objs.size a cd).kindOf ((nms.take fd.np).zip ws) fun _ => none) [] h₁ as σ :=
          ⟨F', (fun p hp => by cases hp), I.len, (fun i b mo e1 e2 => let ⟨o, e, ro⟩ := I.obj i b mo e1 e2; ⟨o, F.keep _ _ e, ro⟩), (fun b hb => ⟨Nat.ne_of_lt (I.lt hb), hideAll_none as hb, (fun p hp => by cases hp)⟩), I.nd⟩
        have hap : ∀ b, s.heap.objs.size ≤ b → s.heap.get? b = none := fun b hb => Heap.get?_none_of_le hb
        have hcs : ∀ p ∈ cs₀, cs₀.lookup p.1 = some p.2 := fun p hp => lookup_of_mem_nodup (by rw [hkeys]; exact nodup_fm hnd _ hcnd) hp
        obtain ⟨as₁, p₁, J, P, q₁⟩ := cells_go (g := hideAll s.heap as) (h₁ := h₁) (L := s.heap.objs.size) (sc := scope) (nms := nms) (cs₀ := cs₀) (cm := bindC (envOfC nm scope s.heap.objs.size a cd).kindOf ((nms.take fd.np).zip ws) fun _ => none) hnd fd.cells cs₀ (vs ++ undefs (fd.ns - fd.np)) as σ
          (CM.of _ _ hkeys fun x hx => by have := hclt x hx; omega) hcnd X.apart (fun p hp => by
            obtain ⟨o', ho', hd'⟩ := X.cell p.1 p.2 (hcs p hp)
            have hab : s.heap.objs.size < p.2 := X.above p.1 p.2 hp
            refine ⟨o', ho', hd', Nat.ne_of_gt hab, ?_, fun q => Nat.lt_irrefl _ (Nat.lt_trans hab (I.lt q))⟩
            cases z : (hideAll s.heap as).get? p.2 with
            | none => rfl
            | some o'' => exact absurd (of_hideAll as z) (by rw [hap _ (Nat.le_of_lt hab)]; intro q; cases q)) hcs (fun x hx => by
            have hxn := hclt x hx
            have hxv : x < vs.length := by rw [hnp]; exact hxn
            have hxm : x < nms.length := by omega
            have e1 := List.getElem?_eq_getElem hxv
            obtain ⟨u, e2, ru⟩ := rv.get e1
            have e3 := List.getElem?_eq_getElem hxm
            have hcell := hcall nms[x] (List.mem_filterMap.mpr ⟨x, hx, e3⟩)
            exact ⟨vs[x], nms[x], u, by rw [List.getElem?_append_left hxv]; exact e1, e3, bindC_get _ _ hbnd (hmem x _ u e3 e2) hcell, ru, hcell⟩) I₁ (fun x v' nm' e1 e2 e3 => by
            by_cases hxv : x < vs.length
            · rw [List.getElem?_append_left hxv] at e1
              obtain ⟨u, q2, ru⟩ := rv.get e1
              refine ⟨fun q => ⟨u, bindL_get _ _ hbnd (hmem x _ u e3 q2) q, ru⟩, fun q => .inl ?_⟩
              rcases hkinds nm' (List.mem_of_getElem? e3) with z | ⟨_, z⟩
              · rw [q] at z; cases z
              · obtain ⟨x', hx', z⟩ := List.mem_filterMap.mp z
                rw [nodup_get hnd e3 z]; exact hx'
            · rw [List.getElem?_append_right (Nat.not_lt.mp hxv)] at e1
              exact absurd (undefs_get _ _ _ e1) e2)
        split at h
        rename_i ε₁ σ₁ ec
        rw [ec] at J P q₁
        split at h
        · rename_i u ε₂ σ₂ e5
          have V : Ev ⟨scope, nms⟩ none s.heap.objs.size [] cs₀ as₁ .undef (envOfC nm scope s.heap.objs.size a cd) := ⟨kf, rfl, rfl, fun _ q => q, fun nm' q => cellsFrom_some scope.names _ [] nm' (.inl q), fun _ => ⟨rfl, rfl, rfl⟩, fun _ _ q => by cases q⟩
          have hA' : AOk (A.deeper (envOfC nm scope s.heap.objs.size a cd)) n := ⟨hA.hd, by show A.depth + 1 + n < _; have := hA.dp; omega, by show A.units + 3 + 8 * n + 64 < _; have := hA.un; omega⟩
          have B' : Base mg mb G Fn (hideAll s.heap as) := B.keeps fun b o e => hg b o (I.F.keep _ _ e) fun q => by have := (I.fr b q).2.1; rw [e] at this; cases this
          refine wpAny_mono (hS (C := ⟨scope, nms⟩) (s := { s with heap := h₁, toks := tk }) hbody hnd hA' B' J V (fun x v' nm' e1 e2 e3 => ⟨(P x v' nm' e1 e2 e3).1, fun q => ((P x v' nm' e1 e2 e3).2 q).resolve_left (by intro z; cases z)⟩) e5) (fun fl s' hs' => ?_) fun _ _ x => x
          obtain ⟨h₂, tk₂, as₂, m₂, rfl, I₂, p₂, _, wu, rfl, ru⟩ := hs'
          exact gc_ok (tk := tk₂) I hg I₂ (p₁.trans p₂) ((Kp.pre q₁).trans (hK.sts e5)) ru h
        · cases h
    · cases h
  · cases h
end
/-! ## The runner is sound -/
structure All (prog : Program) (w : World) (mg mb : Str → Option Value) (G : List Str) (Fn : List FD) (n : Nat) (r : R) : Prop where
  ex : OkEx prog w mg mb G Fn n r
  exs : OkExs prog w mg mb G Fn n r
  tst : OkTst prog w mg mb G Fn n r
  conj : OkAll prog w mg mb G Fn .And n r.conj
  disj : OkAll prog w mg mb G Fn .Or n r.disj
  cal : OkCal prog w mg mb G Fn n r
  cl : OkCl prog w mg mb G Fn n r
  cr : OkCr prog w mg mb G Fn n r
  st : OkSt prog w mg mb G Fn n r
  sts : OkSts prog w mg mb G Fn n r
  whl : OkWhl prog w mg mb G Fn n r
  fl : OkFl prog w mg mb G Fn n r
  fr : OkFr prog w mg mb G Fn n r
  fb : OkFb prog w mg mb G Fn n r
  fe : OkFe prog w mg mb G Fn n r
theorem sound {prog : Program} {w : World} {mg mb : Str → Option Value} {G : List Str} {Fn : List FD} (hfn : ∀ (f : Nat) (nm : Str), G[f]? = some nm → ∃ fd, Fn[f]? = some fd) : ∀ n : Nat, All prog w mg mb G Fn n (run Fn n) := by
  intro n
  induction n using Nat.strongRecOn with
  | _ n ih =>
    cases n with
    | zero =>
      exact ⟨(fun _ _ _ _ _ _ h => nomatch h), (fun _ _ _ _ _ _ h => nomatch h), (fun _ _ _ _ _ _ h => nomatch h), (fun _ _ _ _ _ _ h => nomatch h), (fun _ _ _ _ _ _ h => nomatch h), (fun _ _ _ _ _ _ h => nomatch h), (fun _ _ _ _ _ _ _ _ _ _ _ h => nomatch h), (fun _ _ _ _ _ _ _ h => nomatch h), (fun _ _ _ _ _ _ _ h => nomatch h), (fun _ _ _ _ _ _ _ h => nomatch h),
        loop_whl (fun k hk => (ih k hk).tst) (fun k hk => (ih k hk).sts), loop_fl fun k hk => (ih k hk).sts, loop_fr fun k hk => (ih k hk).sts, loop_fb fun k hk => (ih k hk).sts, loop_fe fun k hk => (ih k hk).sts⟩
    | succ n =>
      have a := ih n (Nat.lt_succ_self _)
      have g := gr_run Fn n
      have k := ks_run Fn n
      exact {
        ex := fun pe hA B I V Rn h => step_ex a.ex a.exs a.tst a.cal a.cl a.cr hfn pe hA.less B I V Rn h
        exs := fun pe hA B I V Rn h pos => step_exs a.ex a.exs pe hA.less B I V Rn h pos
        tst := fun pe hA B I V Rn h => step_tst a.ex a.conj a.disj pe hA.less B I V Rn h
        conj := fun pe hA B I V Rn h => step_conj a.tst a.conj pe hA.less B I V Rn h
        disj := fun pe hA B I V Rn h => step_disj a.tst a.disj pe hA.less B I V Rn h
        cal := fun hA B I hf ha rv h => step_cal a.sts k hA B I hf ha rv h
        cl := fun pe K hA B I Rn hj hax p₀ r₀ hk h ys fin => step_cl a.ex g a.cl pe K hA.less B I Rn hj hax p₀ r₀ hk h ys fin
        cr := fun pe K hA B I Rn hk h ys fin => step_cr a.ex a.cr pe K hA.less B I Rn hk h ys fin
        st := fun ps nd hA B I V Rn h => step_st a.ex a.exs a.tst g a.sts a.whl a.fl a.fr a.fb a.fe ps nd hA.less B I V Rn h
        sts := fun ps nd hA B I V Rn h => step_sts a.st a.sts ps nd hA.less B I V Rn h
        whl := loop_whl (fun k hk => (ih k hk).tst) (fun k hk => (ih k hk).sts)
        fl := loop_fl fun k hk => (ih k hk).sts
        fr := loop_fr fun k hk => (ih k hk).sts
        fb := loop_fb fun k hk => (ih k hk).sts
        fe := loop_fe fun k hk => (ih k hk).sts }
end Mine
end
section
open PySem PySem.W PySem.Calls PyProof.Rows
namespace Mine
/-! ## A def -/
noncomputable def nmsOf (sc : Scope) : List Str := (sc.names.filter fun p => p.2 == .local || p.2 == .cell).map (·.1)
noncomputable def nodupS : List Str → Bool
  | [] => true
  | x :: r => r.all (fun y => !(x == y)) && nodupS r
theorem nodupS_ok : ∀ {l : List Str}, nodupS l = true → l.Nodup
  | [], _ => .nil
  | x :: r, h => by
    obtain ⟨h1, h2⟩ := Bool.and_eq_true_iff.mp h
    refine List.nodup_cons.mpr ⟨fun q => ?_, nodupS_ok h2⟩
    have := List.all_eq_true.mp h1 x q
    rw [beq_self_eq_true] at this; cases this
noncomputable def nodupN : List Nat → Bool
  | [] => true
  | x :: r => r.all (fun y => !(x == y)) && nodupN r
theorem nodupN_ok : ∀ {l : List Nat}, nodupN l = true → l.Nodup
  | [], _ => .nil
  | x :: r, h => by
    obtain ⟨h1, h2⟩ := Bool.and_eq_true_iff.mp h
    refine List.nodup_cons.mpr ⟨fun q => ?_, nodupN_ok h2⟩
    have := List.all_eq_true.mp h1 x q
    rw [beq_self_eq_true] at this; cases this
noncomputable def fdOk (sc : Scope) (fd : FD) : Bool :=
  nodupS (nmsOf sc) && (nmsOf sc).length == fd.ns && decide (fd.np ≤ fd.ns) && (nmsOf sc).all (fun x => kindIs sc x .local || (kindIs sc x .cell && (fd.cells.filterMap ((nmsOf sc)[·]?)).contains x)) &&
  (cellsFrom 0 sc.names []).map (·.1) == fd.cells.filterMap ((nmsOf sc)[·]?) && nodupN fd.cells && fd.cells.all (fun x => decide (x < fd.np)) && (fd.cells.filterMap ((nmsOf sc)[·]?)).all (fun x => kindIs sc x .cell) &&
  sc.kind == .function && !sc.isCoroutine && !sc.isGenerator
theorem fdOk_ok {G : List Str} {nm : Str} {params : Arguments} {body : List Stmt} {sc : Scope} {fd : FD} (h : fdOk sc fd = true) (hb1 : okSs (okS G ⟨sc, nmsOf sc⟩ 40) fd.body (body.map (ptS 40)) = true) (hb : toSs (toS G ⟨sc, nmsOf sc⟩ 40) fd.body (body.map (ptS 40)) = body)
    (hbind : ∀ (pm cd doc : Value) (vals : List Value), vals.length = fd.np → bindArgs (docDef nm params body sc pm cd doc) ⟨vals, []⟩ = pure (((nmsOf sc).take fd.np).zip vals)) : FnS G nm params body sc fd := by
  unfold fdOk at h
  simp only [Bool.and_eq_true, List.all_eq_true, Bool.or_eq_true, beq_iff_eq, decide_eq_true_eq, Bool.not_eq_true', List.contains_iff_mem] at h
  obtain ⟨⟨⟨⟨⟨⟨⟨⟨⟨⟨h1, h2⟩, h3⟩, h4⟩, h5⟩, h6⟩, h7⟩, h8⟩, h9⟩, h10⟩, h11⟩ := h
  exact ⟨⟨nmsOf sc, nodupS_ok h1, h2, h3, isText_ok hb1 hb, hbind, fun x hx => (h4 x hx).elim (fun q => .inl (kindIs_ok q)) (fun q => .inr ⟨kindIs_ok q.1, q.2⟩), h5, nodupN_ok h6, h7, fun x hx => kindIs_ok (h8 x hx)⟩, h9, h10, h11⟩
end Mine
end
section
open PySem
set_option maxRecDepth 100000
set_option maxHeartbeats 1000000
namespace Mine
noncomputable section
noncomputable def isF (x : Res Bool) : Bool := match x with
  | some (false, _) => true
  | _ => false
noncomputable def isN (x : SRes) : Bool := match x with
  | some (.next, _, _) => true
  | _ => false
theorem isF_ok {x : Res Bool} (h : isF x = true) : ∃ σ, x = some (false, σ) := by
  unfold isF at h
  split at h
  · exact ⟨_, rfl⟩
  · cases h
theorem isN_ok {x : SRes} (h : isN x = true) : ∃ ε σ, x = some (.next, ε, σ) := by
  unfold isN at h
  split at h
  · exact ⟨_, _, rfl⟩
  · cases h
noncomputable def tstOf : MS → ME
  | .ifs t _ _ => t
  | _ => .bool true
noncomputable def toldL : List MV := [.int 1, .int 1, .int 2, .int 1, .int 3, .int 2, .int 3, .int 1, .int 4, .int 3, .int 5, .int 2, .int 5, .int 3, .int 4, .int 1, .int 5, .int 4, .int 7, .int 3, .int 8, .int 5, .int 7, .int 2, .int 7, .int 5, .int 8, .int 3, .int 7, .int 4, .int 5, .int 1, .int 6, .int 5, .int 9, .int 4, .int 11, .int 7, .int 10, .int 3, .int 11, .int 8, .int 13, .int 5, .int 12, .int 7, .int 9, .int 2, .int 9, .int 7, .int 12, .int 5, .int 13, .int 8, .int 11, .int 3, .int 10, .int 7, .int 11, .int 4, .int 9, .int 5, .int 6, .int 1, .int 6, .int 5, .int 9, .int 4, .int 11, .int 7, .int 10, .int 3, .int 11, .int 8, .int 13, .int 5, .int 12, .int 7, .int 9, .int 2, .int 9, .int 7, .int 12, .int 5, .int 13, .int 8, .int 11, .int 3, .int 10, .int 7, .int 11, .int 4, .int 9, .int 5, .int 6, .int 1, .int 5, .int 4, .int 7, .int 3, .int 8, .int 5, .int 7, .int 2, .int 7, .int 5, .int 8, .int 3, .int 7, .int 4, .int 5, .int 1, .int 4, .int 3, .int 5, .int 2, .int 5, .int 3, .int 4, .int 1, .int 3, .int 2, .int 3, .int 1, .int 2, .int 1, .int 1]
noncomputable def E0 (t b p r n : MV) : List MV := [.undef, .undef, t, b, p, r, .ref 0, n, .undef, .undef, .undef]
noncomputable def S1 (x y : MV) : List MO := [.cell .undef, .tup [x, y]]
noncomputable def S2 (x y : MV) : List MO := [.cell (.ref 2), .tup [x, y], .lst toldL]
section
variable (t b p r n x y : MV)
theorem e0_1_1 : (run fns 200).st 0 s0 (E0 t (.int 1) (.int 1) .undef .undef) [.cell .undef] = some (.next, E0 t (.int 1) (.int 1) (.ref 1) .undef, S1 (.int 1) (.int 1)) := by kernel_rfl
theorem e0_1_2 : (run fns 200).st 0 s0 (E0 t (.int 2) (.int 1) .undef .undef) [.cell .undef] = some (.next, E0 t (.int 2) (.int 1) (.ref 1) .undef, S1 (.int 1) (.int 2)) := by kernel_rfl
theorem e0_1_3 : (run fns 200).st 0 s0 (E0 t (.int 3) (.int 1) .undef .undef) [.cell .undef] = some (.next, E0 t (.int 3) (.int 1) (.ref 1) .undef, S1 (.int 1) (.int 3)) := by kernel_rfl
theorem e0_1_4 : (run fns 200).st 0 s0 (E0 t (.int 4) (.int 1) .undef .undef) [.cell .undef] = some (.next, E0 t (.int 4) (.int 1) (.ref 1) .undef, S1 (.int 1) (.int 4)) := by kernel_rfl
theorem e0_1_5 : (run fns 200).st 0 s0 (E0 t (.int 5) (.int 1) .undef .undef) [.cell .undef] = some (.next, E0 t (.int 5) (.int 1) (.ref 1) .undef, S1 (.int 1) (.int 5)) := by kernel_rfl
theorem e0_2_1 : (run fns 200).st 0 s0 (E0 t (.int 1) (.int 2) .undef .undef) [.cell .undef] = some (.next, E0 t (.int 1) (.int 2) (.ref 1) .undef, S1 (.int 2) (.int 1)) := by kernel_rfl
theorem e0_2_2 : (run fns 200).st 0 s0 (E0 t (.int 2) (.int 2) .undef .undef) [.cell .undef] = some (.next, E0 t (.int 2) (.int 2) (.ref 1) .undef, S1 (.int 1) (.int 1)) := by kernel_rfl
theorem e0_2_3 : (run fns 200).st 0 s0 (E0 t (.int 3) (.int 2) .undef .undef) [.cell .undef] = some (.next, E0 t (.int 3) (.int 2) (.ref 1) .undef, S1 (.int 2) (.int 3)) := by kernel_rfl
theorem e0_2_4 : (run fns 200).st 0 s0 (E0 t (.int 4) (.int 2) .undef .undef) [.cell .undef] = some (.next, E0 t (.int 4) (.int 2) (.ref 1) .undef, S1 (.int 1) (.int 2)) := by kernel_rfl
theorem e0_2_5 : (run fns 200).st 0 s0 (E0 t (.int 5) (.int 2) .undef .undef) [.cell .undef] = some (.next, E0 t (.int 5) (.int 2) (.ref 1) .undef, S1 (.int 2) (.int 5)) := by kernel_rfl
theorem e0_3_1 : (run fns 200).st 0 s0 (E0 t (.int 1) (.int 3) .undef .undef) [.cell .undef] = some (.next, E0 t (.int 1) (.int 3) (.ref 1) .undef, S1 (.int 3) (.int 1)) := by kernel_rfl
theorem e0_3_2 : (run fns 200).st 0 s0 (E0 t (.int 2) (.int 3) .undef .undef) [.cell .undef] = some (.next, E0 t (.int 2) (.int 3) (.ref 1) .undef, S1 (.int 3) (.int 2)) := by kernel_rfl
theorem e0_3_3 : (run fns 200).st 0 s0 (E0 t (.int 3) (.int 3) .undef .undef) [.cell .undef] = some (.next, E0 t (.int 3) (.int 3) (.ref 1) .undef, S1 (.int 1) (.int 1)) := by kernel_rfl
theorem e0_3_4 : (run fns 200).st 0 s0 (E0 t (.int 4) (.int 3) .undef .undef) [.cell .undef] = some (.next, E0 t (.int 4) (.int 3) (.ref 1) .undef, S1 (.int 3) (.int 4)) := by kernel_rfl
theorem e0_3_5 : (run fns 200).st 0 s0 (E0 t (.int 5) (.int 3) .undef .undef) [.cell .undef] = some (.next, E0 t (.int 5) (.int 3) (.ref 1) .undef, S1 (.int 3) (.int 5)) := by kernel_rfl
theorem e0_4_1 : (run fns 200).st 0 s0 (E0 t (.int 1) (.int 4) .undef .undef) [.cell .undef] = some (.next, E0 t (.int 1) (.int 4) (.ref 1) .undef, S1 (.int 4) (.int 1)) := by kernel_rfl
theorem e0_4_2 : (run fns 200).st 0 s0 (E0 t (.int 2) (.int 4) .undef .undef) [.cell .undef] = some (.next, E0 t (.int 2) (.int 4) (.ref 1) .undef, S1 (.int 2) (.int 1)) := by kernel_rfl
theorem e0_4_3 : (run fns 200).st 0 s0 (E0 t (.int 3) (.int 4) .undef .undef) [.cell .undef] = some (.next, E0 t (.int 3) (.int 4) (.ref 1) .undef, S1 (.int 4) (.int 3)) := by kernel_rfl
theorem e0_4_4 : (run fns 200).st 0 s0 (E0 t (.int 4) (.int 4) .undef .undef) [.cell .undef] = some (.next, E0 t (.int 4) (.int 4) (.ref 1) .undef, S1 (.int 1) (.int 1)) := by kernel_rfl
theorem e0_4_5 : (run fns 200).st 0 s0 (E0 t (.int 5) (.int 4) .undef .undef) [.cell .undef] = some (.next, E0 t (.int 5) (.int 4) (.ref 1) .undef, S1 (.int 4) (.int 5)) := by kernel_rfl
theorem e0_5_1 : (run fns 200).st 0 s0 (E0 t (.int 1) (.int 5) .undef .undef) [.cell .undef] = some (.next, E0 t (.int 1) (.int 5) (.ref 1) .undef, S1 (.int 5) (.int 1)) := by kernel_rfl
theorem e0_5_2 : (run fns 200).st 0 s0 (E0 t (.int 2) (.int 5) .undef .undef) [.cell .undef] = some (.next, E0 t (.int 2) (.int 5) (.ref 1) .undef, S1 (.int 5) (.int 2)) := by kernel_rfl
theorem e0_5_3 : (run fns 200).st 0 s0 (E0 t (.int 3) (.int 5) .undef .undef) [.cell .undef] = some (.next, E0 t (.int 3) (.int 5) (.ref 1) .undef, S1 (.int 5) (.int 3)) := by kernel_rfl
theorem e0_5_4 : (run fns 200).st 0 s0 (E0 t (.int 4) (.int 5) .undef .undef) [.cell .undef] = some (.next, E0 t (.int 4) (.int 5) (.ref 1) .undef, S1 (.int 5) (.int 4)) := by kernel_rfl
theorem e0_5_5 : (run fns 200).st 0 s0 (E0 t (.int 5) (.int 5) .undef .undef) [.cell .undef] = some (.next, E0 t (.int 5) (.int 5) (.ref 1) .undef, S1 (.int 1) (.int 1)) := by kernel_rfl
theorem e1_m3 : isF ((run fns 300).tst (tstOf s1) .undef (E0 (.int (-3)) b p r .undef) (S1 x y)) = true := by kernel_rfl
theorem e1_m2 : isF ((run fns 300).tst (tstOf s1) .undef (E0 (.int (-2)) b p r .undef) (S1 x y)) = true := by kernel_rfl
theorem e1_m1 : isF ((run fns 300).tst (tstOf s1) .undef (E0 (.int (-1)) b p r .undef) (S1 x y)) = true := by kernel_rfl
theorem e1_0 : isF ((run fns 300).tst (tstOf s1) .undef (E0 (.int 0) b p r .undef) (S1 x y)) = true := by kernel_rfl
theorem e1_1 : isF ((run fns 300).tst (tstOf s1) .undef (E0 (.int 1) b p r .undef) (S1 x y)) = true := by kernel_rfl
theorem e1_2 : isF ((run fns 300).tst (tstOf s1) .undef (E0 (.int 2) b p r .undef) (S1 x y)) = true := by kernel_rfl
theorem e1_3 : isF ((run fns 300).tst (tstOf s1) .undef (E0 (.int 3) b p r .undef) (S1 x y)) = true := by kernel_rfl
theorem e2 : isF ((run fns 300).tst (tstOf s2) .undef (E0 t b p r .undef) (S1 x y)) = true := by kernel_rfl
theorem e3_m3 : isF ((run fns 300).tst (tstOf s3) .undef (E0 (.int (-3)) b p r .undef) (S1 x y)) = true := by kernel_rfl
theorem e3_m2 : isF ((run fns 300).tst (tstOf s3) .undef (E0 (.int (-2)) b p r .undef) (S1 x y)) = true := by kernel_rfl
theorem e3_m1 : isF ((run fns 300).tst (tstOf s3) .undef (E0 (.int (-1)) b p r .undef) (S1 x y)) = true := by kernel_rfl
theorem e3_0 : isF ((run fns 300).tst (tstOf s3) .undef (E0 (.int 0) b p r .undef) (S1 x y)) = true := by kernel_rfl
theorem e3_1 : isF ((run fns 300).tst (tstOf s3) .undef (E0 (.int 1) b p r .undef) (S1 x y)) = true := by kernel_rfl
theorem e3_2 : isF ((run fns 300).tst (tstOf s3) .undef (E0 (.int 2) b p r .undef) (S1 x y)) = true := by kernel_rfl
theorem e3_3 : isF ((run fns 300).tst (tstOf s3) .undef (E0 (.int 3) b p r .undef) (S1 x y)) = true := by kernel_rfl
theorem e4a : (run fns 300).ex (.call 12 [(.int 1), (.int 6)]) .undef (E0 t b p r .undef) (S1 x y) = some (.ref 2, S1 x y ++ [.lst toldL]) := by kernel_rfl
theorem e4_1_1 : (run fns 300).exs [(.call 15 [(.sub (.loc 5) (.int 0)), (.sub (.loc 5) (.int 1))])] .undef (E0 t b p (.ref 1) .undef) (S1 (.int 1) (.int 1) ++ [.lst toldL]) = some ([.int 1], S1 (.int 1) (.int 1) ++ [.lst toldL]) := by kernel_rfl
theorem e5_1_1 : isF ((run fns 300).tst (tstOf s5) .undef (E0 t b p (.ref 1) (.int 1)) (S2 (.int 1) (.int 1))) = true := by kernel_rfl
theorem e6_1_1 : isF ((run fns 300).tst (tstOf s6) .undef (E0 t b p (.ref 1) (.int 1)) (S2 (.int 1) (.int 1))) = true := by kernel_rfl
theorem e4_1_2 : (run fns 300).exs [(.call 15 [(.sub (.loc 5) (.int 0)), (.sub (.loc 5) (.int 1))])] .undef (E0 t b p (.ref 1) .undef) (S1 (.int 1) (.int 2) ++ [.lst toldL]) = some ([.int 2], S1 (.int 1) (.int 2) ++ [.lst toldL]) := by kernel_rfl
theorem e5_1_2 : isF ((run fns 300).tst (tstOf s5) .undef (E0 t b p (.ref 1) (.int 2)) (S2 (.int 1) (.int 2))) = true := by kernel_rfl
theorem e6_1_2 : isF ((run fns 300).tst (tstOf s6) .undef (E0 t b p (.ref 1) (.int 2)) (S2 (.int 1) (.int 2))) = true := by kernel_rfl
theorem e4_1_3 : (run fns 300).exs [(.call 15 [(.sub (.loc 5) (.int 0)), (.sub (.loc 5) (.int 1))])] .undef (E0 t b p (.ref 1) .undef) (S1 (.int 1) (.int 3) ++ [.lst toldL]) = some ([.int 4], S1 (.int 1) (.int 3) ++ [.lst toldL]) := by kernel_rfl
theorem e5_1_3 : isF ((run fns 300).tst (tstOf s5) .undef (E0 t b p (.ref 1) (.int 4)) (S2 (.int 1) (.int 3))) = true := by kernel_rfl
theorem e6_1_3 : isF ((run fns 300).tst (tstOf s6) .undef (E0 t b p (.ref 1) (.int 4)) (S2 (.int 1) (.int 3))) = true := by kernel_rfl
theorem e4_1_4 : (run fns 300).exs [(.call 15 [(.sub (.loc 5) (.int 0)), (.sub (.loc 5) (.int 1))])] .undef (E0 t b p (.ref 1) .undef) (S1 (.int 1) (.int 4) ++ [.lst toldL]) = some ([.int 8], S1 (.int 1) (.int 4) ++ [.lst toldL]) := by kernel_rfl
theorem e5_1_4 : isF ((run fns 300).tst (tstOf s5) .undef (E0 t b p (.ref 1) (.int 8)) (S2 (.int 1) (.int 4))) = true := by kernel_rfl
theorem e6_1_4 : isF ((run fns 300).tst (tstOf s6) .undef (E0 t b p (.ref 1) (.int 8)) (S2 (.int 1) (.int 4))) = true := by kernel_rfl
theorem e4_1_5 : (run fns 300).exs [(.call 15 [(.sub (.loc 5) (.int 0)), (.sub (.loc 5) (.int 1))])] .undef (E0 t b p (.ref 1) .undef) (S1 (.int 1) (.int 5) ++ [.lst toldL]) = some ([.int 16], S1 (.int 1) (.int 5) ++ [.lst toldL]) := by kernel_rfl
theorem e5_1_5 : isF ((run fns 300).tst (tstOf s5) .undef (E0 t b p (.ref 1) (.int 16)) (S2 (.int 1) (.int 5))) = true := by kernel_rfl
theorem e6_1_5 : isF ((run fns 300).tst (tstOf s6) .undef (E0 t b p (.ref 1) (.int 16)) (S2 (.int 1) (.int 5))) = true := by kernel_rfl
theorem e4_2_1 : (run fns 300).exs [(.call 15 [(.sub (.loc 5) (.int 0)), (.sub (.loc 5) (.int 1))])] .undef (E0 t b p (.ref 1) .undef) (S1 (.int 2) (.int 1) ++ [.lst toldL]) = some ([.int 3], S1 (.int 2) (.int 1) ++ [.lst toldL]) := by kernel_rfl
theorem e5_2_1 : isF ((run fns 300).tst (tstOf s5) .undef (E0 t b p (.ref 1) (.int 3)) (S2 (.int 2) (.int 1))) = true := by kernel_rfl
theorem e6_2_1 : isF ((run fns 300).tst (tstOf s6) .undef (E0 t b p (.ref 1) (.int 3)) (S2 (.int 2) (.int 1))) = true := by kernel_rfl
theorem e4_2_3 : (run fns 300).exs [(.call 15 [(.sub (.loc 5) (.int 0)), (.sub (.loc 5) (.int 1))])] .undef (E0 t b p (.ref 1) .undef) (S1 (.int 2) (.int 3) ++ [.lst toldL]) = some ([.int 6], S1 (.int 2) (.int 3) ++ [.lst toldL]) := by kernel_rfl
theorem e5_2_3 : isF ((run fns 300).tst (tstOf s5) .undef (E0 t b p (.ref 1) (.int 6)) (S2 (.int 2) (.int 3))) = true := by kernel_rfl
theorem e6_2_3 : isF ((run fns 300).tst (tstOf s6) .undef (E0 t b p (.ref 1) (.int 6)) (S2 (.int 2) (.int 3))) = true := by kernel_rfl
theorem e4_2_5 : (run fns 300).exs [(.call 15 [(.sub (.loc 5) (.int 0)), (.sub (.loc 5) (.int 1))])] .undef (E0 t b p (.ref 1) .undef) (S1 (.int 2) (.int 5) ++ [.lst toldL]) = some ([.int 12], S1 (.int 2) (.int 5) ++ [.lst toldL]) := by kernel_rfl
theorem e5_2_5 : isF ((run fns 300).tst (tstOf s5) .undef (E0 t b p (.ref 1) (.int 12)) (S2 (.int 2) (.int 5))) = true := by kernel_rfl
theorem e6_2_5 : isF ((run fns 300).tst (tstOf s6) .undef (E0 t b p (.ref 1) (.int 12)) (S2 (.int 2) (.int 5))) = true := by kernel_rfl
theorem e4_3_1 : (run fns 300).exs [(.call 15 [(.sub (.loc 5) (.int 0)), (.sub (.loc 5) (.int 1))])] .undef (E0 t b p (.ref 1) .undef) (S1 (.int 3) (.int 1) ++ [.lst toldL]) = some ([.int 7], S1 (.int 3) (.int 1) ++ [.lst toldL]) := by kernel_rfl
theorem e5_3_1 : isF ((run fns 300).tst (tstOf s5) .undef (E0 t b p (.ref 1) (.int 7)) (S2 (.int 3) (.int 1))) = true := by kernel_rfl
theorem e6_3_1 : isF ((run fns 300).tst (tstOf s6) .undef (E0 t b p (.ref 1) (.int 7)) (S2 (.int 3) (.int 1))) = true := by kernel_rfl
theorem e4_3_2 : (run fns 300).exs [(.call 15 [(.sub (.loc 5) (.int 0)), (.sub (.loc 5) (.int 1))])] .undef (E0 t b p (.ref 1) .undef) (S1 (.int 3) (.int 2) ++ [.lst toldL]) = some ([.int 5], S1 (.int 3) (.int 2) ++ [.lst toldL]) := by kernel_rfl
theorem e5_3_2 : isF ((run fns 300).tst (tstOf s5) .undef (E0 t b p (.ref 1) (.int 5)) (S2 (.int 3) (.int 2))) = true := by kernel_rfl
theorem e6_3_2 : isF ((run fns 300).tst (tstOf s6) .undef (E0 t b p (.ref 1) (.int 5)) (S2 (.int 3) (.int 2))) = true := by kernel_rfl
theorem e4_3_4 : (run fns 300).exs [(.call 15 [(.sub (.loc 5) (.int 0)), (.sub (.loc 5) (.int 1))])] .undef (E0 t b p (.ref 1) .undef) (S1 (.int 3) (.int 4) ++ [.lst toldL]) = some ([.int 14], S1 (.int 3) (.int 4) ++ [.lst toldL]) := by kernel_rfl
theorem e5_3_4 : isF ((run fns 300).tst (tstOf s5) .undef (E0 t b p (.ref 1) (.int 14)) (S2 (.int 3) (.int 4))) = true := by kernel_rfl
theorem e6_3_4 : isF ((run fns 300).tst (tstOf s6) .undef (E0 t b p (.ref 1) (.int 14)) (S2 (.int 3) (.int 4))) = true := by kernel_rfl
theorem e4_3_5 : (run fns 300).exs [(.call 15 [(.sub (.loc 5) (.int 0)), (.sub (.loc 5) (.int 1))])] .undef (E0 t b p (.ref 1) .undef) (S1 (.int 3) (.int 5) ++ [.lst toldL]) = some ([.int 10], S1 (.int 3) (.int 5) ++ [.lst toldL]) := by kernel_rfl
theorem e5_3_5 : isF ((run fns 300).tst (tstOf s5) .undef (E0 t b p (.ref 1) (.int 10)) (S2 (.int 3) (.int 5))) = true := by kernel_rfl
theorem e6_3_5 : isF ((run fns 300).tst (tstOf s6) .undef (E0 t b p (.ref 1) (.int 10)) (S2 (.int 3) (.int 5))) = true := by kernel_rfl
theorem e4_4_1 : (run fns 300).exs [(.call 15 [(.sub (.loc 5) (.int 0)), (.sub (.loc 5) (.int 1))])] .undef (E0 t b p (.ref 1) .undef) (S1 (.int 4) (.int 1) ++ [.lst toldL]) = some ([.int 15], S1 (.int 4) (.int 1) ++ [.lst toldL]) := by kernel_rfl
theorem e5_4_1 : isF ((run fns 300).tst (tstOf s5) .undef (E0 t b p (.ref 1) (.int 15)) (S2 (.int 4) (.int 1))) = true := by kernel_rfl
theorem e6_4_1 : isF ((run fns 300).tst (tstOf s6) .undef (E0 t b p (.ref 1) (.int 15)) (S2 (.int 4) (.int 1))) = true := by kernel_rfl
theorem e4_4_3 : (run fns 300).exs [(.call 15 [(.sub (.loc 5) (.int 0)), (.sub (.loc 5) (.int 1))])] .undef (E0 t b p (.ref 1) .undef) (S1 (.int 4) (.int 3) ++ [.lst toldL]) = some ([.int 9], S1 (.int 4) (.int 3) ++ [.lst toldL]) := by kernel_rfl
theorem e5_4_3 : isF ((run fns 300).tst (tstOf s5) .undef (E0 t b p (.ref 1) (.int 9)) (S2 (.int 4) (.int 3))) = true := by kernel_rfl
theorem e6_4_3 : isF ((run fns 300).tst (tstOf s6) .undef (E0 t b p (.ref 1) (.int 9)) (S2 (.int 4) (.int 3))) = true := by kernel_rfl
theorem e4_4_5 : (run fns 300).exs [(.call 15 [(.sub (.loc 5) (.int 0)), (.sub (.loc 5) (.int 1))])] .undef (E0 t b p (.ref 1) .undef) (S1 (.int 4) (.int 5) ++ [.lst toldL]) = some ([.int 30], S1 (.int 4) (.int 5) ++ [.lst toldL]) := by kernel_rfl
theorem e5_4_5 : isF ((run fns 300).tst (tstOf s5) .undef (E0 t b p (.ref 1) (.int 30)) (S2 (.int 4) (.int 5))) = true := by kernel_rfl
theorem e6_4_5 : isF ((run fns 300).tst (tstOf s6) .undef (E0 t b p (.ref 1) (.int 30)) (S2 (.int 4) (.int 5))) = true := by kernel_rfl
theorem e4_5_1 : (run fns 300).exs [(.call 15 [(.sub (.loc 5) (.int 0)), (.sub (.loc 5) (.int 1))])] .undef (E0 t b p (.ref 1) .undef) (S1 (.int 5) (.int 1) ++ [.lst toldL]) = some ([.int 31], S1 (.int 5) (.int 1) ++ [.lst toldL]) := by kernel_rfl
theorem e5_5_1 : isF ((run fns 300).tst (tstOf s5) .undef (E0 t b p (.ref 1) (.int 31)) (S2 (.int 5) (.int 1))) = true := by kernel_rfl
theorem e6_5_1 : isF ((run fns 300).tst (tstOf s6) .undef (E0 t b p (.ref 1) (.int 31)) (S2 (.int 5) (.int 1))) = true := by kernel_rfl
theorem e4_5_2 : (run fns 300).exs [(.call 15 [(.sub (.loc 5) (.int 0)), (.sub (.loc 5) (.int 1))])] .undef (E0 t b p (.ref 1) .undef) (S1 (.int 5) (.int 2) ++ [.lst toldL]) = some ([.int 11], S1 (.int 5) (.int 2) ++ [.lst toldL]) := by kernel_rfl
theorem e5_5_2 : isF ((run fns 300).tst (tstOf s5) .undef (E0 t b p (.ref 1) (.int 11)) (S2 (.int 5) (.int 2))) = true := by kernel_rfl
theorem e6_5_2 : isF ((run fns 300).tst (tstOf s6) .undef (E0 t b p (.ref 1) (.int 11)) (S2 (.int 5) (.int 2))) = true := by kernel_rfl
theorem e4_5_3 : (run fns 300).exs [(.call 15 [(.sub (.loc 5) (.int 0)), (.sub (.loc 5) (.int 1))])] .undef (E0 t b p (.ref 1) .undef) (S1 (.int 5) (.int 3) ++ [.lst toldL]) = some ([.int 13], S1 (.int 5) (.int 3) ++ [.lst toldL]) := by kernel_rfl
theorem e5_5_3 : isF ((run fns 300).tst (tstOf s5) .undef (E0 t b p (.ref 1) (.int 13)) (S2 (.int 5) (.int 3))) = true := by kernel_rfl
theorem e6_5_3 : isF ((run fns 300).tst (tstOf s6) .undef (E0 t b p (.ref 1) (.int 13)) (S2 (.int 5) (.int 3))) = true := by kernel_rfl
theorem e4_5_4 : (run fns 300).exs [(.call 15 [(.sub (.loc 5) (.int 0)), (.sub (.loc 5) (.int 1))])] .undef (E0 t b p (.ref 1) .undef) (S1 (.int 5) (.int 4) ++ [.lst toldL]) = some ([.int 17], S1 (.int 5) (.int 4) ++ [.lst toldL]) := by kernel_rfl
theorem e5_5_4 : isF ((run fns 300).tst (tstOf s5) .undef (E0 t b p (.ref 1) (.int 17)) (S2 (.int 5) (.int 4))) = true := by kernel_rfl
theorem e6_5_4 : isF ((run fns 300).tst (tstOf s6) .undef (E0 t b p (.ref 1) (.int 17)) (S2 (.int 5) (.int 4))) = true := by kernel_rfl
theorem e7 : isN ((run fns 300).sts 0 [s7, s8, s9, s10] (E0 t b p r n) (S2 x y)) = true := by kernel_rfl
end
/-- what holds of the reduced ratio and of its place -/
inductive Rat : Int → Int → Int → Prop
  | r_1_1 : Rat 1 1 1
  | r_1_2 : Rat 1 2 2
  | r_1_3 : Rat 1 3 4
  | r_1_4 : Rat 1 4 8
  | r_1_5 : Rat 1 5 16
  | r_2_1 : Rat 2 1 3
  | r_2_3 : Rat 2 3 6
  | r_2_5 : Rat 2 5 12
  | r_3_1 : Rat 3 1 7
  | r_3_2 : Rat 3 2 5
  | r_3_4 : Rat 3 4 14
  | r_3_5 : Rat 3 5 10
  | r_4_1 : Rat 4 1 15
  | r_4_3 : Rat 4 3 9
  | r_4_5 : Rat 4 5 30
  | r_5_1 : Rat 5 1 31
  | r_5_2 : Rat 5 2 11
  | r_5_3 : Rat 5 3 13
  | r_5_4 : Rat 5 4 17
inductive Five : Int → Prop
  | a : Five 1
  | b : Five 2
  | c : Five 3
  | d : Five 4
  | e : Five 5
theorem five {p : Int} (h : 1 ≤ p ∧ p ≤ 5) : Five p := by
  obtain ⟨n, rfl⟩ := Int.eq_ofNat_of_zero_le (a := p) (by omega)
  match n, h with
  | 0, h => exact absurd h.1 (by decide)
  | 1, _ => exact .a
  | 2, _ => exact .b
  | 3, _ => exact .c
  | 4, _ => exact .d
  | 5, _ => exact .e
  | n + 6, h => exact absurd h.2 (by omega)
inductive Seven : Int → Prop
  | a : Seven (-3)
  | b : Seven (-2)
  | c : Seven (-1)
  | d : Seven 0
  | e : Seven 1
  | f : Seven 2
  | g : Seven 3
theorem seven {t : Int} (h : -3 ≤ t ∧ t ≤ 3) : Seven t := by
  obtain ⟨n, hn⟩ := Int.eq_ofNat_of_zero_le (a := t + 3) (by omega)
  have e : t = (n : Int) - 3 := by omega
  subst e
  match n, h with
  | 0, _ => exact .a
  | 1, _ => exact .b
  | 2, _ => exact .c
  | 3, _ => exact .d
  | 4, _ => exact .e
  | 5, _ => exact .f
  | 6, _ => exact .g
  | n + 7, h => exact absurd h.2 (by omega)
theorem ev0 (t : MV) {b p : Int} (hb : 1 ≤ b ∧ b ≤ 5) (hp : 1 ≤ p ∧ p ≤ 5) : ∃ a c n, Rat a c n ∧ (run fns 200).st 0 s0 (E0 t (.int b) (.int p) .undef .undef) [.cell .undef] = some (.next, E0 t (.int b) (.int p) (.ref 1) .undef, S1 (.int a) (.int c)) := by
  cases five hp <;> cases five hb
  · exact ⟨1, 1, 1, .r_1_1, e0_1_1 t⟩
  · exact ⟨1, 2, 2, .r_1_2, e0_1_2 t⟩
  · exact ⟨1, 3, 4, .r_1_3, e0_1_3 t⟩
  · exact ⟨1, 4, 8, .r_1_4, e0_1_4 t⟩
  · exact ⟨1, 5, 16, .r_1_5, e0_1_5 t⟩
  · exact ⟨2, 1, 3, .r_2_1, e0_2_1 t⟩
  · exact ⟨1, 1, 1, .r_1_1, e0_2_2 t⟩
  · exact ⟨2, 3, 6, .r_2_3, e0_2_3 t⟩
  · exact ⟨1, 2, 2, .r_1_2, e0_2_4 t⟩
  · exact ⟨2, 5, 12, .r_2_5, e0_2_5 t⟩
  · exact ⟨3, 1, 7, .r_3_1, e0_3_1 t⟩
  · exact ⟨3, 2, 5, .r_3_2, e0_3_2 t⟩
  · exact ⟨1, 1, 1, .r_1_1, e0_3_3 t⟩
  · exact ⟨3, 4, 14, .r_3_4, e0_3_4 t⟩
  · exact ⟨3, 5, 10, .r_3_5, e0_3_5 t⟩
  · exact ⟨4, 1, 15, .r_4_1, e0_4_1 t⟩
  · exact ⟨2, 1, 3, .r_2_1, e0_4_2 t⟩
  · exact ⟨4, 3, 9, .r_4_3, e0_4_3 t⟩
  · exact ⟨1, 1, 1, .r_1_1, e0_4_4 t⟩
  · exact ⟨4, 5, 30, .r_4_5, e0_4_5 t⟩
  · exact ⟨5, 1, 31, .r_5_1, e0_5_1 t⟩
  · exact ⟨5, 2, 11, .r_5_2, e0_5_2 t⟩
  · exact ⟨5, 3, 13, .r_5_3, e0_5_3 t⟩
  · exact ⟨5, 4, 17, .r_5_4, e0_5_4 t⟩
  · exact ⟨1, 1, 1, .r_1_1, e0_5_5 t⟩
theorem ev1 {t : Int} (ht : -3 ≤ t ∧ t ≤ 3) (b p r x y : MV) : isF ((run fns 300).tst (tstOf s1) .undef (E0 (.int t) b p r .undef) (S1 x y)) = true := by
  cases seven ht
  · exact e1_m3 b p r x y
  · exact e1_m2 b p r x y
  · exact e1_m1 b p r x y
  · exact e1_0 b p r x y
  · exact e1_1 b p r x y
  · exact e1_2 b p r x y
  · exact e1_3 b p r x y
theorem ev3 {t : Int} (ht : -3 ≤ t ∧ t ≤ 3) (b p r x y : MV) : isF ((run fns 300).tst (tstOf s3) .undef (E0 (.int t) b p r .undef) (S1 x y)) = true := by
  cases seven ht
  · exact e3_m3 b p r x y
  · exact e3_m2 b p r x y
  · exact e3_m1 b p r x y
  · exact e3_0 b p r x y
  · exact e3_1 b p r x y
  · exact e3_2 b p r x y
  · exact e3_3 b p r x y
theorem ev4 (t b p : MV) {a c n : Int} (h : Rat a c n) : (run fns 300).exs [(.call 15 [(.sub (.loc 5) (.int 0)), (.sub (.loc 5) (.int 1))])] .undef (E0 t b p (.ref 1) .undef) (S1 (.int a) (.int c) ++ [.lst toldL]) = some ([.int n], S1 (.int a) (.int c) ++ [.lst toldL]) := by
  cases h with
  | r_1_1 => exact e4_1_1 t b p
  | r_1_2 => exact e4_1_2 t b p
  | r_1_3 => exact e4_1_3 t b p
  | r_1_4 => exact e4_1_4 t b p
  | r_1_5 => exact e4_1_5 t b p
  | r_2_1 => exact e4_2_1 t b p
  | r_2_3 => exact e4_2_3 t b p
  | r_2_5 => exact e4_2_5 t b p
  | r_3_1 => exact e4_3_1 t b p
  | r_3_2 => exact e4_3_2 t b p
  | r_3_4 => exact e4_3_4 t b p
  | r_3_5 => exact e4_3_5 t b p
  | r_4_1 => exact e4_4_1 t b p
  | r_4_3 => exact e4_4_3 t b p
  | r_4_5 => exact e4_4_5 t b p
  | r_5_1 => exact e4_5_1 t b p
  | r_5_2 => exact e4_5_2 t b p
  | r_5_3 => exact e4_5_3 t b p
  | r_5_4 => exact e4_5_4 t b p
theorem ev5 (t b p : MV) {a c n : Int} (h : Rat a c n) : isF ((run fns 300).tst (tstOf s5) .undef (E0 t b p (.ref 1) (.int n)) (S2 (.int a) (.int c))) = true := by
  cases h with
  | r_1_1 => exact e5_1_1 t b p
  | r_1_2 => exact e5_1_2 t b p
  | r_1_3 => exact e5_1_3 t b p
  | r_1_4 => exact e5_1_4 t b p
  | r_1_5 => exact e5_1_5 t b p
  | r_2_1 => exact e5_2_1 t b p
  | r_2_3 => exact e5_2_3 t b p
  | r_2_5 => exact e5_2_5 t b p
  | r_3_1 => exact e5_3_1 t b p
  | r_3_2 => exact e5_3_2 t b p
  | r_3_4 => exact e5_3_4 t b p
  | r_3_5 => exact e5_3_5 t b p
  | r_4_1 => exact e5_4_1 t b p
  | r_4_3 => exact e5_4_3 t b p
  | r_4_5 => exact e5_4_5 t b p
  | r_5_1 => exact e5_5_1 t b p
  | r_5_2 => exact e5_5_2 t b p
  | r_5_3 => exact e5_5_3 t b p
  | r_5_4 => exact e5_5_4 t b p
theorem ev6 (t b p : MV) {a c n : Int} (h : Rat a c n) : isF ((run fns 300).tst (tstOf s6) .undef (E0 t b p (.ref 1) (.int n)) (S2 (.int a) (.int c))) = true := by
  cases h with
  | r_1_1 => exact e6_1_1 t b p
  | r_1_2 => exact e6_1_2 t b p
  | r_1_3 => exact e6_1_3 t b p
  | r_1_4 => exact e6_1_4 t b p
  | r_1_5 => exact e6_1_5 t b p
  | r_2_1 => exact e6_2_1 t b p
  | r_2_3 => exact e6_2_3 t b p
  | r_2_5 => exact e6_2_5 t b p
  | r_3_1 => exact e6_3_1 t b p
  | r_3_2 => exact e6_3_2 t b p
  | r_3_4 => exact e6_3_4 t b p
  | r_3_5 => exact e6_3_5 t b p
  | r_4_1 => exact e6_4_1 t b p
  | r_4_3 => exact e6_4_3 t b p
  | r_4_5 => exact e6_4_5 t b p
  | r_5_1 => exact e6_5_1 t b p
  | r_5_2 => exact e6_5_2 t b p
  | r_5_3 => exact e6_5_3 t b p
  | r_5_4 => exact e6_5_4 t b p
end
end Mine
end
section
open PySem PySem.W PySem.Calls PyProof.Rows
set_option maxRecDepth 100000
namespace Mine
noncomputable def Gn : List Str := ["ztrim", "zadd", "zmul", "zpower", "zcompose", "gcd", "rat", "radd", "rsub", "rinv", "rfloor", "fraction_row", "_law_product", "_law_ways", "_law_lowest", "_law_place", "_law_figures", "_law_behind", "_law_sum"]
noncomputable def FnIn (p : Program) (f : Nat) (nm : Str) : Prop := ∃ d fd, d ∈ recsOf p ∧ d.name = nm ∧ fns[f]? = some fd ∧ FnS Gn d.name d.params d.body d.scope fd
noncomputable def freeOk (p : Program) (loose : List Str) : Bool := bltAll.all fun q => !(startupNames.contains q.1) && !(loose.contains q.1) && !(((recsOf p).map (·.name)).contains q.1) && !(((litsOf p).map (·.1)).contains q.1) && !(((clssOf p loose).map (·.name)).contains q.1)
theorem not_mem_of {x : Str} {l : List Str} (h : (!(l.contains x)) = true) : x ∉ l := fun q => by
  have := List.contains_iff_mem.mpr q
  rw [this] at h; cases h
theorem blt_boot : ∀ q ∈ bltAll, bootBuiltins q.1 = some q.2 ∧ q.1 ≠ "__name__" := by
  intro q hq
  simp only [bltAll, List.mem_cons, List.not_mem_nil, or_false] at hq
  rcases hq with rfl | rfl | rfl | rfl | rfl | rfl | rfl | rfl
  all_goals exact ⟨by decide +kernel, by decide⟩
theorem base_of {p : Program} {loose : List Str} {mean : ExcName → Option Value} {mg mb : Str → Option Value} {h₀ : Heap} (T : Top p loose mean mg mb h₀) (hfr : freeOk p loose = true) (hfn : ∀ (f : Nat) (nm : Str), Gn[f]? = some nm → FnIn p f nm) : Base mg mb Gn fns h₀ where
  g := T.g
  b := T.b
  nl := T.nolimit
  blt := fun nm v hm => by
    have z := List.all_eq_true.mp hfr (nm, v) hm
    simp only [Bool.and_eq_true] at z
    obtain ⟨⟨⟨⟨z1, z2⟩, z3⟩, z4⟩, z5⟩ := z
    obtain ⟨b1, b2⟩ := blt_boot (nm, v) hm
    exact ⟨T.free nm (not_mem_of z1) (not_mem_of z2) (not_mem_of z3) (not_mem_of z4) (not_mem_of z5), (T.builtins nm b2).trans b1⟩
  fn := fun f nm fd hf hfd => by
    obtain ⟨d, fd', hd, rfl, hfd', FS⟩ := hfn f nm hf
    rw [hfd] at hfd'; cases hfd'
    obtain ⟨a, o, pm, code, doc, h1, h2, h3, h4⟩ := T.fn d hd
    exact ⟨a, o, d.params, d.body, d.scope, pm, code, doc, h1, h2, h3, h4, FS⟩
theorem Iv.cut {h₀ h : Heap} {L : Addr} {m : Str → Option Value} {ext : List (Addr × Obj)} {as as' : List Addr} {σ σ' : List MO} {h' : Heap} {m' : Str → Option Value} {ext' : List (Addr × Obj)} (I : Iv h₀ L m ext h as' σ') (p : as <+: as') (q : σ <+: σ') (J : Iv h₀ L m' ext' h' as σ) : Iv h₀ L m ext h as σ :=
  ⟨I.F, I.N, J.len, fun i a mo e1 e2 => by
    obtain ⟨o, h1, h2⟩ := I.obj i a mo (pre_get p e1) (pre_get q e2)
    obtain ⟨o', _, h3⟩ := J.obj i a mo e1 e2
    exact ⟨o, h1, h3.back p h2⟩, fun a ha => I.fr a (p.subset ha), I.nd.sublist p.sublist⟩
section
variable {prog : Program} {w : World} {mg mb : Str → Option Value} {G : List Str} {Fn : List FD} {n : Nat}
variable {C : Cx} {A : Around} {env : Env} {L : Addr} {cells : List (Str × Addr)} {ext : List (Addr × Obj)} {h₀ : Heap} {m : Str → Option Value} {s : Shared} {as : List Addr} {σ σ' : List MO} {ε ε' : List MV} {lo : Nat} {Q : Flow → Shared → Prop} {E : Value → Shared → Prop}
theorem if_step (hfn : ∀ (f : Nat) (nm : Str), G[f]? = some nm → ∃ fd, Fn[f]? = some fd) {ms : MS} {st : Stmt} {rest : List Stmt} {t : ME} {a : List MS} (hms : ms = .ifs t a []) (ps : PyS G C ms st) (hA : AOk A n) (B : Base mg mb G Fn h₀) (I : Iv h₀ L m ext s.heap as σ) (V : Ev C none L ext cells as .undef env) (Rn : EnvR C cells as m ε) (e : isF ((run Fn n).tst (tstOf ms) .undef ε σ) = true)
    (k : ∀ h' tk, Iv h₀ L m ext h' as σ → wpAny (model prog w) A (execs rest env) Q E { s with heap := h', toks := tk }) : wpAny (model prog w) A (execs (st :: rest) env) Q E s := by
  subst hms
  obtain ⟨σ', e1⟩ := isF_ok e
  cases ps.inv with
  | ifs pt pa pb =>
    cases pb.invF
    refine wpAny_execs_cons (wpAny_If (wpAny_mono ((sound hfn n).tst pt hA B I V Rn e1) (fun c s₁ h₁ => ?_) fun _ _ x => x.elim))
    obtain ⟨h₁, tk₁, as₁, rfl, I₁, p₁, rfl⟩ := h₁
    exact wpAny_execs_nil (k h₁ tk₁ (I₁.cut p₁ ((gr_run Fn n).tst e1) I))
theorem st_step (hfn : ∀ (f : Nat) (nm : Str), G[f]? = some nm → ∃ fd, Fn[f]? = some fd) {ms : MS} {st : Stmt} {rest : List Stmt} (ps : PyS G C ms st) (nd : C.nms.Nodup) (hA : AOk A n) (B : Base mg mb G Fn h₀) (I : Iv h₀ L m ext s.heap as σ) (V : Ev C none L ext cells as .undef env) (Rn : EnvR C cells as m ε) (e : (run Fn n).st lo ms ε σ = some (.next, ε', σ'))
    (k : ∀ h' tk as' m', Iv h₀ L m' ext h' as' σ' → as <+: as' → EnvR C cells as' m' ε' → wpAny (model prog w) A (execs rest env) Q E { s with heap := h', toks := tk }) : wpAny (model prog w) A (execs (st :: rest) env) Q E s := by
  refine wpAny_execs_cons (wpAny_mono ((sound hfn n).st ps nd hA B I V Rn e) (fun fl s₁ h₁ => ?_) fun _ _ x => x.elim)
  obtain ⟨h₁, tk₁, as₁, m₁, rfl, I₁, p₁, R₁, rfl⟩ := h₁
  exact k h₁ tk₁ as₁ m₁ I₁ p₁ R₁
theorem sts_cont (hfn : ∀ (f : Nat) (nm : Str), G[f]? = some nm → ∃ fd, Fn[f]? = some fd) (B : Base mg mb G Fn h₀) (nd : C.nms.Nodup) {post : List Stmt} : ∀ (ms : List MS) (st : List Stmt) (n : Nat) (ε : List MV) (σ : List MO) (m : Str → Option Value) (s : Shared) (as : List Addr), PySs G C ms st → AOk A n → Iv h₀ L m ext s.heap as σ → Ev C none L ext cells as .undef env → EnvR C cells as m ε →
    (run Fn n).sts lo ms ε σ = some (.next, ε', σ') → (∀ h' tk as' m', Iv h₀ L m' ext h' as' σ' → as <+: as' → EnvR C cells as' m' ε' → wpAny (model prog w) A (execs post env) Q E { s with heap := h', toks := tk }) → wpAny (model prog w) A (execs (st ++ post) env) Q E s
  | ms, st, 0, ε, σ, m, s, as, ps, hA, I, V, Rn, e, k => by cases e
  | [], st, n + 1, ε, σ, m, s, as, ps, hA, I, V, Rn, e, k => by
    cases ps.invF
    cases e
    exact k s.heap s.toks as m I (List.prefix_refl _) Rn
  | a :: ms, st, n + 1, ε, σ, m, s, as, ps, hA, I, V, Rn, e, k => by
    cases ps.invF with
    | cons q1 q2 =>
      replace e : sSts (run Fn n) lo (a :: ms) ε σ = _ := e
      unfold sSts at e
      dsimp only at e
      split at e
      · rename_i e1
        refine st_step hfn q1 nd hA.less B I V Rn e1 fun h₁ tk₁ as₁ m₁ I₁ p₁ R₁ => ?_
        refine sts_cont hfn B nd ms _ n _ _ m₁ { s with heap := h₁, toks := tk₁ } as₁ q2 hA.less I₁ (V.mono p₁) R₁ e fun h₂ tk₂ as₂ m₂ I₂ p₂ R₂ => ?_
        exact k h₂ tk₂ as₂ m₂ I₂ (p₁.trans p₂) R₂
      · cases e
      · cases e
termination_by structural ms => ms
end
theorem gn_fns : ∀ (f : Nat) (nm : Str), Gn[f]? = some nm → ∃ fd, fns[f]? = some fd := by
  intro f nm h
  have : f < 19 := (List.getElem?_eq_some_iff.mp h).1
  have hl : f < fns.length := this
  exact ⟨_, List.getElem?_eq_getElem hl⟩
noncomputable def lawNms : List Str := ["script", "pool", "t", "bottom", "top", "r", "told", "n", "row", "turn", "level"]
noncomputable def lawOk (sc : Scope) : Bool := nmsOf sc == lawNms && nodupS (nmsOf sc) && kindIs sc "told" .cell && kindIs sc "t" .local && kindIs sc "bottom" .local && kindIs sc "top" .local && sc.kind == .function
theorem exs2 {F : List FD} {n : Nat} {e1 e2 : ME} {cv v1 v2 : MV} {ε : List MV} {σ σ1 σ2 : List MO} (h1 : (run F n).ex e1 cv ε σ = some (v1, σ1)) (h2 : (run F n).exs [e2] cv ε σ1 = some ([v2], σ2)) : (run F (n + 1)).exs [e1, e2] cv ε σ = some ([v1, v2], σ2) := by
  show sExs (run F n) [e1, e2] cv ε σ = _
  unfold sExs
  dsimp only
  rw [h1]
  dsimp only
  rw [h2]
theorem st_tasg {F : List FD} {n lo : Nat} {xs : List (Bool × Nat)} {es : List ME} {ε : List MV} {σ : List MO} : (run F (n + 1)).st lo (.tasg xs es) ε σ = sTasg (run F n) lo xs es ε σ := rfl
theorem tasg_at {F : List FD} {n lo : Nat} {xs : List (Bool × Nat)} {es : List ME} {ε : List MV} {σ σ1 : List MO} {vs : List MV} {res : SRes} (h : (run F n).exs es .undef ε σ = some (vs, σ1)) (hl : Nat.ble (lenM vs 0) szLine = true) (hp : putAll lo xs vs ε σ1 = res) : (run F (n + 1)).st lo (.tasg xs es) ε σ = res := by
  rw [st_tasg]
  unfold sTasg
  rw [h]
  dsimp only
  rw [hl]
  exact hp
theorem ev4all (t b p : MV) {a c n : Int} (h : Rat a c n) : (run fns (300 + 1 + 1)).st 0 s4 (E0 t b p (.ref 1) .undef) (S1 (.int a) (.int c)) = some (.next, E0 t b p (.ref 1) (.int n), S2 (.int a) (.int c)) :=
  tasg_at (exs2 (e4a t b p (.ref 1) (.int a) (.int c)) (ev4 t b p h)) rfl rfl
theorem rng7 (x : Int) : -3 ≤ x.fmod 7 - 3 ∧ x.fmod 7 - 3 ≤ 3 := by
  have h1 := Int.fmod_nonneg_of_pos x (show (0 : Int) < 7 by decide)
  have h2 := Int.fmod_lt_of_pos x (show (0 : Int) < 7 by decide)
  omega
theorem rng5 (x : Int) : 1 ≤ 1 + x.fmod 5 ∧ 1 + x.fmod 5 ≤ 5 := by
  have h1 := Int.fmod_nonneg_of_pos x (show (0 : Int) < 5 by decide)
  have h2 := Int.fmod_lt_of_pos x (show (0 : Int) < 5 by decide)
  omega
theorem law_rest {p : Program} {loose : List Str} {mean : ExcName → Option Value} {prog : Program} {w : World} {mg mb : Str → Option Value} {A : Around} {name : Str} {sc : Scope} {L fa : Addr} {cd : Value} {h₀ : Heap} {m : Str → Option Value} {news : List (Addr × Obj)} {s : Shared} {Q : Flow → Shared → Prop} {E : Value → Shared → Prop} {x0 x1 x2 x3 x4 x5 x6 x7 x8 x9 x10 : Stmt} {post : List Stmt} {t b q : Int} {tt tb tq : Tok} {o : Obj} {v₀ : Option Value}
    (F : Fr h₀ L s.heap m) (N : News h₀ L s.heap news) (T : Top p loose mean mg mb h₀) (hfr : freeOk p loose = true) (hfn : ∀ (f : Nat) (nm : Str), Gn[f]? = some nm → FnIn p f nm) (hc : (L + 1, o) ∈ news) (ho : o.data = .cell v₀)
    (ht : m "t" = some (.int t tt)) (hb : m "bottom" = some (.int b tb)) (hq : m "top" = some (.int q tq)) (rt : -3 ≤ t ∧ t ≤ 3) (rb : 1 ≤ b ∧ b ≤ 5) (rq : 1 ≤ q ∧ q ≤ 5)
    (hsc : lawOk sc = true) (hcell : cellsFrom (L + 1) sc.names [] = [(("told" : Str), L + 1)]) (hs1 : okSs (okS Gn ⟨sc, nmsOf sc⟩ 40) [s0, s1, s2, s3, s4, s5, s6, s7, s8, s9, s10] ([x0, x1, x2, x3, x4, x5, x6, x7, x8, x9, x10].map (ptS 40)) = true) (hs2 : toSs (toS Gn ⟨sc, nmsOf sc⟩ 40) [s0, s1, s2, s3, s4, s5, s6, s7, s8, s9, s10] ([x0, x1, x2, x3, x4, x5, x6, x7, x8, x9, x10].map (ptS 40)) = [x0, x1, x2, x3, x4, x5, x6, x7, x8, x9, x10]) (hA : AOk A 302)
    (k : ∀ h' tk m', Fr h₀ L h' m' → News h₀ L h' [] → wpAny (model prog w) A (execs post (envOfC name sc L fa cd)) Q E { s with heap := h', toks := tk }) :
    wpAny (model prog w) A (execs (x0 :: x1 :: x2 :: x3 :: x4 :: x5 :: x6 :: x7 :: x8 :: x9 :: x10 :: post) (envOfC name sc L fa cd)) Q E s := by
  have B := base_of T hfr hfn
  have PS := isText_ok hs1 hs2
  clear hs1 hs2
  unfold lawOk at hsc
  simp only [Bool.and_eq_true, beq_iff_eq] at hsc
  obtain ⟨⟨⟨⟨⟨⟨l1, l2⟩, l3⟩, l4⟩, l5⟩, l6⟩, l7⟩ := hsc
  have nd : (nmsOf sc).Nodup := nodupS_ok l2
  have I₀ : Iv h₀ L m [] s.heap [L + 1] [.cell .undef] := by
    refine ⟨F, (fun p hp => by cases hp), rfl, fun i a mo e1 e2 => ?_, fun a ha => ?_, by simp⟩
    · cases i with
      | zero => cases e1; cases e2; exact ⟨o, (N _ hc).1, .inl ⟨rfl, v₀, ho⟩⟩
      | succ i => cases e1
    · rw [List.mem_singleton.mp ha]
      exact ⟨(N _ hc).2.1, (N _ hc).2.2, (fun p hp => by cases hp)⟩
  have V : ∀ {as : List Addr}, Ev ⟨sc, nmsOf sc⟩ none L [] (cellsFrom (L + 1) sc.names []) as .undef (envOfC name sc L fa cd) := fun {as} => ⟨l7, rfl, rfl, fun _ q => q, fun nm' q => cellsFrom_some sc.names _ [] nm' (.inl q), fun _ => ⟨rfl, rfl, rfl⟩, fun _ _ q => by cases q⟩
  have R₀ : EnvR ⟨sc, nmsOf sc⟩ (cellsFrom (L + 1) sc.names []) [L + 1] m (E0 (.int t) (.int b) (.int q) .undef .undef) := by
    intro x v nm e1 e2 e3
    replace e3 : (nmsOf sc)[x]? = some nm := e3
    rw [l1] at e3
    rw [hcell]
    have hx : x < 11 := (List.getElem?_eq_some_iff.mp e1).1
    have key : ∀ (nm' : Str) (u : Value), nm = nm' → kindIs sc nm' .local = true → m nm' = some u → VR [L + 1] v u → (sc.names.lookup nm = some .local → ∃ w, m nm = some w ∧ VR [L + 1] v w) ∧ (sc.names.lookup nm = some .cell → ∃ j a, v = .ref j ∧ [L + 1][j]? = some a ∧ ([("told", L + 1)] : List (Str × Addr)).lookup nm = some a) := fun nm' u e hk hm hv => by
      subst e
      exact ⟨fun _ => ⟨u, hm, hv⟩, fun z => by rw [kindIs_ok hk] at z; cases z⟩
    match x, hx with
    | 0, _ => cases e1; exact absurd rfl e2
    | 1, _ => cases e1; exact absurd rfl e2
    | 2, _ => cases e1; cases e3; exact key _ _ rfl l4 ht ⟨tt, rfl⟩
    | 3, _ => cases e1; cases e3; exact key _ _ rfl l5 hb ⟨tb, rfl⟩
    | 4, _ => cases e1; cases e3; exact key _ _ rfl l6 hq ⟨tq, rfl⟩
    | 5, _ => cases e1; exact absurd rfl e2
    | 6, _ =>
      cases e1; cases e3
      refine ⟨fun z => ?_, fun _ => ⟨0, L + 1, rfl, rfl, by rw [List.lookup_cons, beq_self_eq_true]⟩⟩
      rw [kindIs_ok l3] at z; cases z
    | 7, _ => cases e1; exact absurd rfl e2
    | 8, _ => cases e1; exact absurd rfl e2
    | 9, _ => cases e1; exact absurd rfl e2
    | 10, _ => cases e1; exact absurd rfl e2
  have p0 := PS.inv.1
  have PS0 := PS.inv.2
  have p1 := PS0.inv.1
  have PS1 := PS0.inv.2
  have p2 := PS1.inv.1
  have PS2 := PS1.inv.2
  have p3 := PS2.inv.1
  have PS3 := PS2.inv.2
  have p4 := PS3.inv.1
  have PS4 := PS3.inv.2
  have p5 := PS4.inv.1
  have PS5 := PS4.inv.2
  have p6 := PS5.inv.1
  have PS6 := PS5.inv.2
  obtain ⟨a, c, n, hr, e0⟩ := ev0 (.int t) rb rq
  refine st_step gn_fns p0 nd (hA.le (by decide)) B I₀ V R₀ e0 fun h₁ tk₁ as₁ m₁ I₁ p₁ R₁ => ?_
  refine if_step gn_fns rfl p1 (hA.le (by decide)) B I₁ V R₁ (ev1 rt _ _ _ _ _) fun h₂ tk₂ I₂ => ?_
  refine if_step (s := { s with heap := h₂, toks := tk₂ }) gn_fns rfl p2 (hA.le (by decide)) B I₂ V R₁ (e2 _ _ _ _ _ _) fun h₃ tk₃ I₃ => ?_
  refine if_step (s := { s with heap := h₃, toks := tk₃ }) gn_fns rfl p3 (hA.le (by decide)) B I₃ V R₁ (ev3 rt _ _ _ _ _) fun h₄ tk₄ I₄ => ?_
  refine st_step (s := { s with heap := h₄, toks := tk₄ }) (n := 300 + 1 + 1) gn_fns p4 nd hA B I₄ V R₁ (ev4all _ _ _ hr) fun h₅ tk₅ as₅ m₅ I₅ p₅ R₅ => ?_
  refine if_step (s := { s with heap := h₅, toks := tk₅ }) gn_fns rfl p5 (hA.le (by decide)) B I₅ V R₅ (ev5 _ _ _ hr) fun h₆ tk₆ I₆ => ?_
  refine if_step (s := { s with heap := h₆, toks := tk₆ }) gn_fns rfl p6 (hA.le (by decide)) B I₆ V R₅ (ev6 _ _ _ hr) fun h₇ tk₇ I₇ => ?_
  obtain ⟨ε', σ', e7'⟩ := isN_ok (e7 (.int t) (.int b) (.int q) (.ref 1) (.int n) (.int a) (.int c))
  show wpAny _ _ (execs ([x7, x8, x9, x10] ++ post) _) _ _ _
  exact sts_cont gn_fns B nd _ _ 300 _ _ m₅ { s with heap := h₇, toks := tk₇ } as₅ PS6 (hA.le (by decide)) I₇ V R₅ e7' fun h' tk as' m' I' _ _ => k h' tk m' I'.F fun p hp => by cases hp
theorem aok_law (env : Env) : AOk (callerA.deeper env) 302 := ⟨rfl, by show callerA.depth + 1 + 302 < recursionLimit; decide, by show callerA.units + 3 + 8 * 302 + 64 < cLine; decide⟩
end Mine
end
section
open PySem PySem.W PySem.Calls PyProof.Rows
namespace Mine
/-- what a draw hands back and leaves behind -/
structure Drawn (h₀ : Heap) (L : Addr) (m : Str → Option Value) (pool : Addr) (a : Value) (j k : Int) (rest : List (Addr × Obj)) (s : Shared) (v : Value) (s' : Shared) : Prop where
  out : ∃ (n : Int) (t : Tok) (h : Heap) (tk : Nat) (tp : Tok), v = .int n t ∧ (0 ≤ n ∧ n < k) ∧ s' = { s with heap := h, toks := tk } ∧ Fr h₀ L h m ∧ News h₀ L h ((pool, W.listOf #[a, .int j tp] 0) :: rest)
theorem draw_join {M : Model} {A : Around} {E : Value → Shared → Prop} {s : Shared} {h₀ : Heap} {L pool : Addr} {m : Str → Option Value} {a f : Value} {i k : Int} {ti tk : Tok} {rest : List (Addr × Obj)} {Q : Value → Shared → Prop}
    (_F : Fr h₀ L s.heap m) (_N : News h₀ L s.heap ((pool, W.listOf #[a, .int i ti] 0) :: rest)) (h1 : wpAny M A (call f [.ref pool, .int k tk]) (Drawn h₀ L m pool a (i + 1) k rest s) E s)
    (h2 : ∀ n t h tk tp, 0 ≤ n ∧ n < k → Fr h₀ L h m → News h₀ L h ((pool, W.listOf #[a, .int (i + 1) tp] 0) :: rest) → Q (.int n t) { s with heap := h, toks := tk }) : wpAny M A (call f [.ref pool, .int k tk]) Q E s :=
  wpAny_mono h1 (fun v s' x => by
    obtain ⟨n, t, h, tk, tp, rfl, r, rfl, F, N⟩ := x
    exact h2 n t h tk tp r F N) fun _ _ x => x
theorem Drawn.mk' {h₀ h : Heap} {L pool : Addr} {m : Str → Option Value} {a : Value} {j k n : Int} {t tp : Tok} {rest news : List (Addr × Obj)} {s : Shared} {tk : Nat} (F : Fr h₀ L h m) (N : News h₀ L h news) (hs : ∀ p ∈ (pool, W.listOf #[a, .int j tp] 0) :: rest, p ∈ news) (r : 0 ≤ n ∧ n < k) :
    Drawn h₀ L m pool a j k rest s (.int n t) { s with heap := h, toks := tk } := ⟨n, t, h, tk, tp, rfl, r, rfl, F, fun p hp => N p (hs p hp)⟩
theorem frng {k : Int} (x : Int) (h : 0 < k) : 0 ≤ x.fmod k ∧ x.fmod k < k := ⟨Int.fmod_nonneg_of_pos x h, Int.fmod_lt_of_pos x h⟩
end Mine
end
section
set_option maxRecDepth 100000
set_option maxHeartbeats 8000000
namespace Mine
open_top hd for PySem.Challenge.rw_xm0114_01
end Mine
end
section
open PySem PySem.W PySem.Calls PyProof.Rows
set_option maxRecDepth 100000
set_option maxHeartbeats 1000000
namespace Mine
noncomputable def dOf (k : Nat) : DefRec := ((recsOf hd.view_39)[k]?).getD ⟨"", ⟨[], [], none, [], [], none, []⟩, [], {kind := .function, names := [], isGenerator := false, isCoroutine := false}, ⟨0, 0, 0, 0⟩⟩
theorem rec_mem {k : Nat} {d : DefRec} (h : (recsOf hd.view_39)[k]? = some d) : d ∈ recsOf hd.view_39 := List.mem_of_getElem? h
theorem len1 {vals : List Value} (h : vals.length = 1) : ∃ a, vals = [a] := List.length_eq_one_iff.mp h
theorem len2 {vals : List Value} (h : vals.length = 2) : ∃ a b, vals = [a, b] := by
  match vals, h with
  | a :: l, h =>
    obtain ⟨b, rfl⟩ := List.length_eq_one_iff.mp (Nat.succ.inj h)
    exact ⟨a, b, rfl⟩
theorem fn_0 : FnIn hd.view_39 0 "ztrim" :=
  ⟨dOf 0, fztrim, rec_mem (k := 0) (by kernel_rfl), by kernel_rfl, rfl, fdOk_ok (by kernel_rfl) (by kernel_rfl) (by kernel_rfl) fun pm cd doc vals h => by
    obtain ⟨a, rfl⟩ := len1 h
    kernel_rfl⟩
theorem fn_1 : FnIn hd.view_39 1 "zadd" :=
  ⟨dOf 1, fzadd, rec_mem (k := 1) (by kernel_rfl), by kernel_rfl, rfl, fdOk_ok (by kernel_rfl) (by kernel_rfl) (by kernel_rfl) fun pm cd doc vals h => by
    obtain ⟨a, b, rfl⟩ := len2 h
    kernel_rfl⟩
theorem fn_2 : FnIn hd.view_39 2 "zmul" :=
  ⟨dOf 2, fzmul, rec_mem (k := 2) (by kernel_rfl), by kernel_rfl, rfl, fdOk_ok (by kernel_rfl) (by kernel_rfl) (by kernel_rfl) fun pm cd doc vals h => by
    obtain ⟨a, b, rfl⟩ := len2 h
    kernel_rfl⟩
theorem fn_3 : FnIn hd.view_39 3 "zpower" :=
  ⟨dOf 3, fzpower, rec_mem (k := 3) (by kernel_rfl), by kernel_rfl, rfl, fdOk_ok (by kernel_rfl) (by kernel_rfl) (by kernel_rfl) fun pm cd doc vals h => by
    obtain ⟨a, b, rfl⟩ := len2 h
    kernel_rfl⟩
theorem fn_4 : FnIn hd.view_39 4 "zcompose" :=
  ⟨dOf 4, fzcompose, rec_mem (k := 4) (by kernel_rfl), by kernel_rfl, rfl, fdOk_ok (by kernel_rfl) (by kernel_rfl) (by kernel_rfl) fun pm cd doc vals h => by
    obtain ⟨a, b, rfl⟩ := len2 h
    kernel_rfl⟩
theorem fn_5 : FnIn hd.view_39 5 "gcd" :=
  ⟨dOf 5, fgcd, rec_mem (k := 5) (by kernel_rfl), by kernel_rfl, rfl, fdOk_ok (by kernel_rfl) (by kernel_rfl) (by kernel_rfl) fun pm cd doc vals h => by
    obtain ⟨a, b, rfl⟩ := len2 h
    kernel_rfl⟩
theorem fn_6 : FnIn hd.view_39 6 "rat" :=
  ⟨dOf 6, frat, rec_mem (k := 6) (by kernel_rfl), by kernel_rfl, rfl, fdOk_ok (by kernel_rfl) (by kernel_rfl) (by kernel_rfl) fun pm cd doc vals h => by
    obtain ⟨a, b, rfl⟩ := len2 h
    kernel_rfl⟩
theorem fn_7 : FnIn hd.view_39 7 "radd" :=
  ⟨dOf 7, fradd, rec_mem (k := 7) (by kernel_rfl), by kernel_rfl, rfl, fdOk_ok (by kernel_rfl) (by kernel_rfl) (by kernel_rfl) fun pm cd doc vals h => by
    obtain ⟨a, b, rfl⟩ := len2 h
    kernel_rfl⟩
theorem fn_8 : FnIn hd.view_39 8 "rsub" :=
  ⟨dOf 8, frsub, rec_mem (k := 8) (by kernel_rfl), by kernel_rfl, rfl, fdOk_ok (by kernel_rfl) (by kernel_rfl) (by kernel_rfl) fun pm cd doc vals h => by
    obtain ⟨a, b, rfl⟩ := len2 h
    kernel_rfl⟩
theorem fn_9 : FnIn hd.view_39 9 "rinv" :=
  ⟨dOf 9, frinv, rec_mem (k := 9) (by kernel_rfl), by kernel_rfl, rfl, fdOk_ok (by kernel_rfl) (by kernel_rfl) (by kernel_rfl) fun pm cd doc vals h => by
    obtain ⟨a, rfl⟩ := len1 h
    kernel_rfl⟩
theorem fn_10 : FnIn hd.view_39 10 "rfloor" :=
  ⟨dOf 10, frfloor, rec_mem (k := 10) (by kernel_rfl), by kernel_rfl, rfl, fdOk_ok (by kernel_rfl) (by kernel_rfl) (by kernel_rfl) fun pm cd doc vals h => by
    obtain ⟨a, rfl⟩ := len1 h
    kernel_rfl⟩
theorem fn_11 : FnIn hd.view_39 11 "fraction_row" :=
  ⟨dOf 11, ffraction_row, rec_mem (k := 11) (by kernel_rfl), by kernel_rfl, rfl, fdOk_ok (by kernel_rfl) (by kernel_rfl) (by kernel_rfl) fun pm cd doc vals h => by
    obtain ⟨a, rfl⟩ := len1 h
    kernel_rfl⟩
theorem fn_12 : FnIn hd.view_39 12 "_law_product" :=
  ⟨dOf 13, flaw_product, rec_mem (k := 13) (by kernel_rfl), by kernel_rfl, rfl, fdOk_ok (by kernel_rfl) (by kernel_rfl) (by kernel_rfl) fun pm cd doc vals h => by
    obtain ⟨a, b, rfl⟩ := len2 h
    kernel_rfl⟩
theorem fn_13 : FnIn hd.view_39 13 "_law_ways" :=
  ⟨dOf 14, flaw_ways, rec_mem (k := 14) (by kernel_rfl), by kernel_rfl, rfl, fdOk_ok (by kernel_rfl) (by kernel_rfl) (by kernel_rfl) fun pm cd doc vals h => by
    obtain ⟨a, b, rfl⟩ := len2 h
    kernel_rfl⟩
theorem fn_14 : FnIn hd.view_39 14 "_law_lowest" :=
  ⟨dOf 15, flaw_lowest, rec_mem (k := 15) (by kernel_rfl), by kernel_rfl, rfl, fdOk_ok (by kernel_rfl) (by kernel_rfl) (by kernel_rfl) fun pm cd doc vals h => by
    obtain ⟨a, b, rfl⟩ := len2 h
    kernel_rfl⟩
theorem fn_15 : FnIn hd.view_39 15 "_law_place" :=
  ⟨dOf 16, flaw_place, rec_mem (k := 16) (by kernel_rfl), by kernel_rfl, rfl, fdOk_ok (by kernel_rfl) (by kernel_rfl) (by kernel_rfl) fun pm cd doc vals h => by
    obtain ⟨a, b, rfl⟩ := len2 h
    kernel_rfl⟩
theorem fn_16 : FnIn hd.view_39 16 "_law_figures" :=
  ⟨dOf 17, flaw_figures, rec_mem (k := 17) (by kernel_rfl), by kernel_rfl, rfl, fdOk_ok (by kernel_rfl) (by kernel_rfl) (by kernel_rfl) fun pm cd doc vals h => by
    obtain ⟨a, rfl⟩ := len1 h
    kernel_rfl⟩
theorem fn_17 : FnIn hd.view_39 17 "_law_behind" :=
  ⟨dOf 18, flaw_behind, rec_mem (k := 18) (by kernel_rfl), by kernel_rfl, rfl, fdOk_ok (by kernel_rfl) (by kernel_rfl) (by kernel_rfl) fun pm cd doc vals h => by
    obtain ⟨a, rfl⟩ := len1 h
    kernel_rfl⟩
theorem fn_18 : FnIn hd.view_39 18 "_law_sum" :=
  ⟨dOf 19, flaw_sum, rec_mem (k := 19) (by kernel_rfl), by kernel_rfl, rfl, fdOk_ok (by kernel_rfl) (by kernel_rfl) (by kernel_rfl) fun pm cd doc vals h => by
    obtain ⟨a, rfl⟩ := len1 h
    kernel_rfl⟩
theorem fn_all : ∀ (f : Nat) (nm : Str), Gn[f]? = some nm → FnIn hd.view_39 f nm
  | 0, nm, h => by cases h; exact fn_0
  | 1, nm, h => by cases h; exact fn_1
  | 2, nm, h => by cases h; exact fn_2
  | 3, nm, h => by cases h; exact fn_3
  | 4, nm, h => by cases h; exact fn_4
  | 5, nm, h => by cases h; exact fn_5
  | 6, nm, h => by cases h; exact fn_6
  | 7, nm, h => by cases h; exact fn_7
  | 8, nm, h => by cases h; exact fn_8
  | 9, nm, h => by cases h; exact fn_9
  | 10, nm, h => by cases h; exact fn_10
  | 11, nm, h => by cases h; exact fn_11
  | 12, nm, h => by cases h; exact fn_12
  | 13, nm, h => by cases h; exact fn_13
  | 14, nm, h => by cases h; exact fn_14
  | 15, nm, h => by cases h; exact fn_15
  | 16, nm, h => by cases h; exact fn_16
  | 17, nm, h => by cases h; exact fn_17
  | 18, nm, h => by cases h; exact fn_18
  | n + 19, nm, h => by cases h
theorem fr_ok : freeOk hd.view_39 (looseW hd.view_39 []) = true := by kernel_rfl
end Mine
end
local macro_rules | `(tactic| walk_at "call ref") => `(tactic| (k_here; goal_lacks Mine.Drawn; (with_reducible show wpAny _ _ (call _ [_, Value.int _ _]) _ _ _); k_dflt (refine' Mine.draw_join ?k1 ?k2 ?_ (fun n' t' h' tk' tp' r' F' N' => ?_); (case k1 => k_asm); (case k2 => k_asm)); rotate_left; (try k_sweep); rotate_right))
local macro_rules | `(tactic| walk_at "Drawn") => `(tactic| (k_dflt (exact Mine.Drawn.mk' (by k_asm) (by k_asm) (by first | exact fun _ x => x | exact fun _ x => List.mem_cons_of_mem _ x) (Mine.frng _ (by decide)))))
local macro_rules | `(tactic| walk_at "execs cons") => `(tactic| (k_here; (with_reducible show wpAny _ _ (execs (Stmt.Assign [Expr.Name (Str.ofString "r") _] _ _ :: _) _) _ _ _); refine Mine.law_rest (by k_asm) (by k_asm) (by assumption) Mine.fr_ok Mine.fn_all (by (repeat (first | exact List.mem_cons_self | apply List.mem_cons_of_mem))) (by assumption) (by with_unfolding_all rfl) (by with_unfolding_all rfl) (by with_unfolding_all rfl) (by omega) (by omega) (by omega) (by kernel_rfl) (by kernel_rfl) (by kernel_rfl) (by kernel_rfl) (by exact Mine.aok_law _) (fun h' tk' m' F' N' => ?_)))
set_option maxRecDepth 100000 in
set_option maxHeartbeats 8000000 in
theorem PySem.Challenge.cw_xm0114_01_holds : PySem.Challenge.rw_xm0114_01.Holds := by
  exact Mine.hd (by
    k_go)
