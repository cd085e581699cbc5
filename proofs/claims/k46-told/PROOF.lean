import PyProof.Rows.All
import HandS.ForMost
import HandS.Exc
import HandS.ExcCtx
import HandS.TupAny
import HandS.TupLe
import HandS.Style
import HandS.Deep
import HandS.RaiseMore
import HandS.Codes
import HandS.SortInts
import PyProof.ReprRoads
import HandS.Walk
import HandS.Star
import HandS.Zip
import HandS.Flow
import HandS.Conv
import HandS.Ends
import HandS.Set
import HandS.SetFor
import HandS.SetKeys
import HandS.SortRule
import PyProof.Rows.SortShellAny
import HandS.DictComp
import HandS.More
import HandS.Words
import PySem.Challenge.RW_wordstold_k46_whole_told_by_what_is_told
section
set_option Elab.async false
set_option linter.all false
set_option maxRecDepth 100000
/-! MP: a small language of values and a store, and what its texts do. -/
namespace MP
open PySem

abbrev Tx := List Nat

inductive D where
  | non | bl (b : Bool) | int (i : Int) | str (s : Tx)
  | tup (xs : List D) | lst (xs : List D) | rol (xs : List D) | dic (ks vs : List D)
  | obj (c : Nat) (fs : List Nat) (vs : List D)
  | ref (n : Nat) | fn (f : Nat)
  deriving Inhabited

mutual
def D.beq : D → D → Bool
  | .non, .non => true
  | .bl a, .bl b => a == b
  | .int a, .int b => a == b
  | .str a, .str b => a == b
  | .tup a, .tup b => beqs a b
  | .lst a, .lst b => beqs a b
  | .rol a, .rol b => beqs a b
  | .dic a b, .dic c d => beqs a c && beqs b d
  | .obj a b c, .obj d e f => a == d && b == e && beqs c f
  | .ref a, .ref b => a == b
  | .fn a, .fn b => a == b
  | _, _ => false
def beqs : List D → List D → Bool
  | [], [] => true
  | a :: r, b :: q => a.beq b && beqs r q
  | _, _ => false
end
mutual
theorem D.beq_eq : ∀ a b : D, a.beq b = true → a = b
  | .non, b, h => by cases b <;> simp_all [D.beq]
  | .bl a, b, h => by cases b <;> simp_all [D.beq]
  | .int a, b, h => by cases b <;> simp_all [D.beq]
  | .str a, b, h => by cases b <;> simp_all [D.beq]
  | .tup a, b, h => by
    cases b with
    | tup b => rw [D.beq] at h; rw [beqs_eq a b h]
    | _ => simp [D.beq] at h
  | .lst a, b, h => by
    cases b with
    | lst b => rw [D.beq] at h; rw [beqs_eq a b h]
    | _ => simp [D.beq] at h
  | .rol a, b, h => by
    cases b with
    | rol b => rw [D.beq] at h; rw [beqs_eq a b h]
    | _ => simp [D.beq] at h
  | .dic a b, x, h => by
    cases x with
    | dic c d =>
      rw [D.beq, Bool.and_eq_true] at h
      rw [beqs_eq a c h.1, beqs_eq b d h.2]
    | _ => simp [D.beq] at h
  | .obj a b c, x, h => by
    cases x with
    | obj d e f =>
      rw [D.beq, Bool.and_eq_true, Bool.and_eq_true] at h
      rw [eq_of_beq h.1.1, eq_of_beq h.1.2, beqs_eq c f h.2]
    | _ => simp [D.beq] at h
  | .ref a, b, h => by cases b <;> simp_all [D.beq]
  | .fn a, b, h => by cases b <;> simp_all [D.beq]
theorem beqs_eq : ∀ a b : List D, beqs a b = true → a = b
  | [], [], _ => rfl
  | [], _ :: _, h => by simp [beqs] at h
  | _ :: _, [], h => by simp [beqs] at h
  | a :: r, b :: q, h => by
    rw [beqs, Bool.and_eq_true] at h
    rw [D.beq_eq a b h.1, beqs_eq r q h.2]
end
mutual
theorem D.beq_refl : ∀ a : D, a.beq a = true
  | .non => rfl
  | .bl a => by simp [D.beq]
  | .int a => by simp [D.beq]
  | .str a => by simp [D.beq]
  | .tup a => by rw [D.beq]; exact beqs_refl a
  | .lst a => by rw [D.beq]; exact beqs_refl a
  | .rol a => by rw [D.beq]; exact beqs_refl a
  | .dic a b => by rw [D.beq, beqs_refl a, beqs_refl b]; rfl
  | .obj a b c => by rw [D.beq, beqs_refl c]; simp
  | .ref a => by simp [D.beq]
  | .fn a => by simp [D.beq]
theorem beqs_refl : ∀ a : List D, beqs a a = true
  | [] => rfl
  | a :: r => by rw [beqs, D.beq_refl a, beqs_refl r]; rfl
end
instance : DecidableEq D := fun a b => if h : a.beq b = true then isTrue (D.beq_eq a b h) else isFalse fun e => h (by rw [e]; exact D.beq_refl b)

/-- what stands in the store -/
inductive O where
  | lst (xs : List D) | dic (ks vs : List D) | ins (c : Nat) (fs : List Nat) (vs : List D)
  deriving Inhabited, DecidableEq

abbrev Sto := List O
abbrev Env := List (Option D)

mutual
/-- no place from n on is named -/
def D.under (n : Nat) : D → Bool
  | .tup xs => unders n xs
  | .lst xs => unders n xs
  | .rol xs => unders n xs
  | .dic ks vs => unders n ks && unders n vs
  | .obj _ _ vs => unders n vs
  | .ref m => decide (m < n)
  | _ => true
def unders (n : Nat) : List D → Bool
  | [] => true
  | x :: r => x.under n && unders n r
end
def O.under (n : Nat) : O → Bool
  | .lst xs => unders n xs
  | .dic ks vs => unders n ks && unders n vs
  | .ins _ _ vs => unders n vs

inductive R (α : Type) where
  | ok (a : α) (st : Sto) | exc (x : D) (st : Sto) | no
abbrev R.bind {α β : Type} (r : R α) (f : α → Sto → R β) : R β :=
  match r with
  | .ok a st => f a st
  | .exc x st => .exc x st
  | .no => .no
def R.of {α : Type} (st : Sto) : Option α → R α
  | some a => .ok a st
  | none => .no

/-! ### data -/
mutual
/-- as plain data (no place, no object) -/
def D.pd : D → Option PyData
  | .non => some .none
  | .bl b => some (.bool b)
  | .int i => some (.int i)
  | .str s => some (.str ⟨s.toArray⟩)
  | .tup xs => (pds xs).map .tuple
  | .lst xs => (pds xs).map .list
  | _ => none
def pds : List D → Option (List PyData)
  | [] => some []
  | x :: r => match x.pd, pds r with
    | some a, some b => some (a :: b)
    | _, _ => none
end
/-- a list that stands in the store, read -/
def top (st : Sto) : D → D
  | .ref n => match st[n]? with
    | some (.lst xs) => .lst xs
    | _ => .ref n
  | d => d
/-- the items of a list or tuple -/
def sq (st : Sto) : D → Option (List D)
  | .tup xs => some xs
  | .lst xs => some xs
  | .rol xs => some xs
  | .ref n => match st[n]? with
    | some (.lst xs) => some xs
    | _ => none
  | _ => none
def lsq (st : Sto) (d : D) : Option (List D) := match top st d with
  | .lst xs => some xs
  | _ => none
def chars (s : Tx) : List D := s.map fun c => .str [c]

def okPd (p : PyData) : Bool := SeqAt.shaped p
/-- == of data -/
def eqP (st : Sto) (a b : D) : Option Bool :=
  match (top st a).pd, (top st b).pd with
  | some p, some q => if okPd p && okPd q then some (PyData.eqv p q) else none
  | _, _ => none
def eqD (st : Sto) : D → D → Option Bool
  | .str s, .str t => some (decide (s = t))
  | .int i, .int j => some (decide (i = j))
  | a, b => eqP st a b
def reprD (st : Sto) (a : D) : Option Tx :=
  match (top st a).pd with
  | some p => if okPd p && p.showable && decide (p.shown.length ≤ sizeLine) then some p.shown.cps.toList else none
  | none => none

/-- order -/
def ltT : Tx → Tx → Bool
  | [], [] => false
  | [], _ :: _ => true
  | _ :: _, [] => false
  | a :: r, b :: q => if a = b then ltT r q else decide (a < b)
mutual
def D.lt : D → D → Option Bool
  | .int a, .int b => some (decide (a < b))
  | .str a, .str b => some (ltT a b)
  | .tup a, .tup b => lts a b
  | _, _ => none
def lts : List D → List D → Option Bool
  | [], [] => some false
  | [], _ :: _ => some true
  | _ :: _, [] => some false
  | a :: r, b :: q => if a = b then lts r q else a.lt b
end
/-! of one shape: ints, texts, tuples of as many -/
mutual
def D.like : D → D → Bool
  | .int _, .int _ => true
  | .str _, .str _ => true
  | .tup a, .tup b => likes a b
  | _, _ => false
def likes : List D → List D → Bool
  | [], [] => true
  | a :: r, b :: q => a.like b && likes r q
  | _, _ => false
end
/-- what < says of ints and of texts -/
def ltF : D → D → Option Bool
  | .int a, .int b => some (decide (a < b))
  | .str a, .str b => some (ltT a b)
  | _, _ => none
/-- a is not behind b -/
def leD (a b : D) : Bool := match b.lt a with
  | some false => true
  | _ => false
def insD (x : D) : List D → List D
  | [] => [x]
  | y :: r => if leD x y then x :: y :: r else y :: insD x r
def sortL : List D → List D
  | [] => []
  | x :: r => insD x (sortL r)
def dedup : List D → List D
  | [] => []
  | x :: r => if r.contains x then dedup r else x :: dedup r

/-! ### operations -/
inductive O1 where
  | neg | idx | not | len | tuple | list | sorted | sortset | lenset | sortdic | int | str | repr | all | sum | max | min | rev | upper | pop
  deriving DecidableEq
inductive O2 where
  | add | sub | mul | fdiv | mod | pow | eq | ne | lt | le | gt | ge | isIn | notIn | is | isNot | ix | max | min | join | split | endsw | get | index | append | extend
  deriving DecidableEq
inductive O3 where
  | slice | get | setdef
  deriving DecidableEq

def truth (st : Sto) : D → Option Bool
  | .non => some false
  | .bl b => some b
  | .int i => some (i != 0)
  | .str s => if s.length ≤ sizeLine then some (!s.isEmpty) else none
  | .dic _ _ => none
  | .obj _ _ _ => none
  | .fn _ => none
  | .ref n => match st[n]? with
    | some (.lst xs) => some (!xs.isEmpty)
    | some (.dic ks _) => some (!ks.isEmpty)
    | _ => none
  | d => (sq st d).map fun xs => !xs.isEmpty
def intsOf : List D → Option (List Int)
  | [] => some []
  | .int i :: r => (intsOf r).map (i :: ·)
  | _ :: _ => none
def bools : List D → Option (List Bool)
  | [] => some []
  | .bl i :: r => (bools r).map (i :: ·)
  | _ :: _ => none
def texts : List D → Option (List Tx)
  | [] => some []
  | .str i :: r => (texts r).map (i :: ·)
  | _ :: _ => none
/-- all ints, or all texts -/
def flatKeys (xs : List D) : Bool := (intsOf xs).isSome || (texts xs).isSome
def pairsI : List D → Option (List (Int × Int))
  | [] => some []
  | .tup [.int a, .int b] :: r => (pairsI r).map ((a, b) :: ·)
  | _ :: _ => none
def sortD (xs : List D) : Option (List D) := if flatKeys xs || (pairsI xs).isSome then some (sortL xs) else none
def maxI : Int → List Int → Int
  | m, [] => m
  | m, x :: r => maxI (if x > m then x else m) r
def minI : Int → List Int → Int
  | m, [] => m
  | m, x :: r => minI (if x < m then x else m) r
def txOf (s : Str) : Tx := s.cps.toList
/-- the place of an index -/
def ixN (n : Nat) (i : Int) : Option Nat := if 0 ≤ i then (if i < n then some i.toNat else none) else if -(n : Int) ≤ i then some (i + n).toNat else none
/-- the place of a slice's end -/
def sIx (n d : Nat) : Option Int → Nat
  | none => d
  | some i => if i < 0 then (i + (n : Int)).toNat else min i.toNat n
def cut {α : Type} (xs : List α) (lo hi : Option Int) : List α := (xs.drop (sIx xs.length 0 lo)).take (sIx xs.length xs.length hi - sIx xs.length 0 lo)
def optI : D → Option (Option Int)
  | .non => some none
  | .int i => some (some i)
  | _ => none
def isKey : D → Bool
  | .int _ => true
  | .str _ => true
  | _ => false
def look (k : D) : List D → List D → Option D
  | a :: r, b :: q => if a = k then some b else look k r q
  | _, _ => none
def putV (k v : D) (ks vs : List D) : List D := if k ∈ ks then List.zipWith (fun a b => if a = k then v else b) ks vs else vs ++ [v]
def putK (k : D) (ks : List D) : List D := if k ∈ ks then ks else ks ++ [k]
/-- pairs put into a dict, one after the other -/
def mkD : List D → List D → List D → Option (List D × List D)
  | [], ks, vs => some (ks, vs)
  | .tup [k, v] :: r, ks, vs => if isKey k then mkD r (putK k ks) (putV k v ks vs) else none
  | _ :: _, _, _ => none
def dict? (st : Sto) : D → Option (List D × List D)
  | .dic ks vs => some (ks, vs)
  | .ref n => match st[n]? with
    | some (.dic ks vs) => some (ks, vs)
    | _ => none
  | _ => none
/-- x in a list or tuple of data -/
def inD (st : Sto) (x y : D) : Option Bool :=
  match (top st y).pd, (top st x).pd with
  | some (.list ps), some p => if okPd (.list ps) && okPd p then some (ps.any fun z => PyData.eqv z p) else none
  | some (.tuple ps), some p => if okPd (.tuple ps) && okPd p then some (ps.any fun z => PyData.eqv z p) else none
  | _, _ => none
def small (i : Int) : Bool := decide (-(2 ^ 64) < i) && decide (i < 2 ^ 64)

def f1 (o : O1) (x : D) (st : Sto) : R D :=
  match o with
  | .neg => match x with
    | .int i => .ok (.int (-i)) st
    | _ => .no
  | .idx => match x with
    | .int i => .ok (.int i) st
    | .non => .ok .non st
    | _ => .no
  | .not => match truth st x with
    | some b => .ok (.bl (!b)) st
    | none => .no
  | .len => match x with
    | .str s => if s.length ≤ sizeLine then .ok (.int s.length) st else .no
    | .dic ks _ => .ok (.int ks.length) st
    | .ref n => match st[n]? with
      | some (.lst xs) => .ok (.int xs.length) st
      | some (.dic ks _) => .ok (.int ks.length) st
      | _ => .no
    | d => R.of st ((sq st d).map fun xs => .int xs.length)
  | .tuple => R.of st ((sq st x).map .tup)
  | .list => R.of st ((sq st x).map .lst)
  | .sorted => R.of st (((lsq st x).bind sortD).map .lst)
  | .sortset => R.of st (((lsq st x).bind fun xs => if xs.length < 4000 && flatKeys xs then some (sortL (dedup xs)) else none).map .lst)
  | .lenset => R.of st (((lsq st x).bind fun xs => if xs.length < 4000 && flatKeys xs then some (dedup xs) else none).map fun xs => .int xs.length)
  | .sortdic => R.of st (((dict? st x).bind fun q => if q.1.length < 64 && (intsOf q.1).isSome then some (sortL q.1) else none).map .lst)
  | .int => match x with
    | .int i => .ok (.int i) st
    | .bl b => .ok (.int (if b then 1 else 0)) st
    | _ => .no
  | .str => match x with
    | .int i => if i.natAbs.log2 < 1920 then .ok (.str (txOf (toString i))) st else .no
    | .str s => .ok (.str s) st
    | _ => .no
  | .repr => R.of st ((reprD st x).map .str)
  | .all => R.of st (((lsq st x).bind bools).map fun bs => .bl (bs.all id))
  | .sum => R.of st (((lsq st x).bind intsOf).map fun bs => .int bs.sum)
  | .max => match (lsq st x).bind intsOf with
    | some (i :: r) => .ok (.int (maxI i r)) st
    | _ => .no
  | .min => match (lsq st x).bind intsOf with
    | some (i :: r) => .ok (.int (minI i r)) st
    | _ => .no
  | .rev => match top st x with
    | .lst xs => .ok (.lst xs.reverse) st
    | _ => .no
  | .upper => .no
  | .pop => match x with
    | .ref n => match st[n]? with
      | some (.lst xs) => match xs.getLast? with
        | some y => .ok y (st.set n (.lst xs.dropLast))
        | none => .no
      | _ => .no
    | _ => .no

def f2 (o : O2) (x y : D) (st : Sto) : R D :=
  match o with
  | .add => match x, y with
    | .int i, .int j => .ok (.int (i + j)) st
    | .str a, .str b => if a.length + b.length ≤ sizeLine then .ok (.str (a ++ b)) st else .no
    | .tup a, .tup b => if a.length + b.length ≤ sizeLine then .ok (.tup (a ++ b)) st else .no
    | a, b => match top st a, top st b with
      | .lst xs, .lst ys => if xs.length + ys.length ≤ sizeLine then .ok (.lst (xs ++ ys)) st else .no
      | _, _ => .no
  | .sub => match x, y with
    | .int i, .int j => .ok (.int (i - j)) st
    | _, _ => .no
  | .mul => match x, y with
    | .int i, .int j => if small i || small j then .ok (.int (i * j)) st else .no
    | .str a, .int j => if a.length * j.toNat ≤ sizeLine && decide (-(2 ^ 63) ≤ j) && decide (j < 2 ^ 63) then .ok (.str (List.replicate j.toNat a).flatten) st else .no
    | a, .int j => match top st a with
      | .lst xs => if xs.length * j.toNat ≤ sizeLine && decide (-(2 ^ 63) ≤ j) && decide (j < 2 ^ 63) then .ok (.lst (List.replicate j.toNat xs).flatten) st else .no
      | _ => .no
    | _, _ => .no
  | .fdiv => match x, y with
    | .int i, .int j => if 0 < j && j < 1073741824 then .ok (.int (i / j)) st else .no
    | _, _ => .no
  | .mod => match x, y with
    | .int i, .int j => if 0 < j then .ok (.int (i % j)) st else .no
    | _, _ => .no
  | .pow => match x, y with
    | .int i, .int j => if 0 ≤ j && j ≤ 1000000 && i.natAbs < 2 ^ 64 then .ok (.int (i ^ j.toNat)) st else .no
    | _, _ => .no
  | .eq => R.of st ((eqD st x y).map .bl)
  | .ne => R.of st ((eqD st x y).map fun b => .bl (!b))
  | .lt => R.of st ((ltF x y).map .bl)
  | .gt => R.of st ((ltF y x).map .bl)
  | .le => R.of st ((ltF y x).map fun b => .bl (!b))
  | .ge => R.of st ((ltF x y).map fun b => .bl (!b))
  | .isIn => match x, y with
    | .str [c], .str s => .ok (.bl (s.contains c)) st
    | .str _, .str _ => .no
    | x, y => match dict? st y with
      | some (ks, vs) => if isKey x then .ok (.bl (look x ks vs).isSome) st else .no
      | none => R.of st ((inD st x y).map .bl)
  | .notIn => match x, y with
    | .str [c], .str s => .ok (.bl (!s.contains c)) st
    | .str _, .str _ => .no
    | x, y => match dict? st y with
      | some (ks, vs) => if isKey x then .ok (.bl (!(look x ks vs).isSome)) st else .no
      | none => R.of st ((inD st x y).map fun b => .bl (!b))
  | .is => match y with
    | .non => .ok (.bl (decide (x = .non))) st
    | .bl b => match x with
      | .bl a => .ok (.bl (a == b)) st
      | _ => .no
    | _ => .no
  | .isNot => match y with
    | .non => .ok (.bl (!decide (x = .non))) st
    | .bl b => match x with
      | .bl a => .ok (.bl (!(a == b))) st
      | _ => .no
    | _ => .no
  | .ix => match x, y with
    | .str s, .int i => match (ixN s.length i).bind (s[·]?) with
      | some c => if s.length ≤ sizeLine then .ok (.str [c]) st else .no
      | none => .no
    | x, y => match dict? st x with
      | some (ks, vs) => if isKey y then R.of st (look y ks vs) else .no
      | none => match y with
        | .int i => R.of st ((sq st x).bind fun xs => (ixN xs.length i).bind (xs[·]?))
        | _ => .no
  | .max => match x, y with
    | .int i, .int j => .ok (.int (if j > i then j else i)) st
    | _, _ => .no
  | .min => match x, y with
    | .int i, .int j => .ok (.int (if j < i then j else i)) st
    | _, _ => .no
  | .join => match x, (sq st y).bind texts with
    | .str s, some ts => if (ts.map List.length).sum + ts.length * s.length ≤ 16777216 then .ok (.str (TL.joinL s ts)) st else .no
    | _, _ => .no
  | .split => match x, y with
    | .str s, .str [c] => if s.length + 2 ≤ sizeLine && c < 256 then .ok (.lst ((TL.spl [c] 0 [] s).map .str)) st else .no
    | _, _ => .no
  | .endsw => match x, y with
    | .str s, .str t => .ok (.bl (t.isSuffixOf s)) st
    | _, _ => .no
  | .get => match dict? st x with
    | some (ks, vs) => if isKey y then .ok ((look y ks vs).getD .non) st else .no
    | none => .no
  | .index => .no
  | .append => match x with
    | .ref n => match st[n]? with
      | some (.lst xs) => if xs.length < sizeLine then .ok .non (st.set n (.lst (xs ++ [y]))) else .no
      | _ => .no
    | _ => .no
  | .extend => match x with
    | .ref n => match st[n]?, top st y with
      | some (.lst xs), .lst ys => if xs.length + ys.length ≤ sizeLine then .ok .non (st.set n (.lst (xs ++ ys))) else .no
      | _, _ => .no
    | _ => .no

def f3 (o : O3) (x y z : D) (st : Sto) : R D :=
  match o with
  | .slice => match optI y, optI z with
    | some lo, some hi => match x with
      | .str s => if s.length ≤ sizeLine then .ok (.str (cut s lo hi)) st else .no
      | .tup xs => .ok (.tup (cut xs lo hi)) st
      | d => R.of st ((sq st d).map fun xs => .lst (cut xs lo hi))
    | _, _ => .no
  | .get => match dict? st x with
    | some (ks, vs) => if isKey y then .ok ((look y ks vs).getD z) st else .no
    | none => .no
  | .setdef => .no

/-- o[i] = d -/
def setR (x y d : D) (st : Sto) : Option Sto := match x with
  | .ref n => match st[n]? with
    | some (.lst xs) => match y with
      | .int k => (ixN xs.length k).map fun j => st.set n (.lst (xs.set j d))
      | _ => none
    | some (.dic ks vs) => if isKey y && decide (ks.length < sizeLine) then some (st.set n (.dic (putK y ks) (putV y d ks vs))) else none
    | _ => none
  | _ => none
/-- the type that a method wants -/
inductive Ty where
  | lst | str | dic
  deriving DecidableEq, Inhabited
def isTy (t : Ty) (st : Sto) (d : D) : Bool := match t, d with
  | .str, .str _ => true
  | .lst, .lst _ => true
  | .lst, .rol _ => true
  | .lst, .ref n => match st[n]? with
    | some (.lst _) => true
    | _ => false
  | .dic, .dic _ _ => true
  | .dic, .ref n => match st[n]? with
    | some (.dic _ _) => true
    | _ => false
  | _, _ => false

/-! ### texts -/
/-- expressions; lists of them (nil, cons, star) give the tuple of their values -/
inductive T where
  | nm (i : Nat) | nil | cons (a r : T)
  deriving Inhabited
inductive E where
  | c (d : D) | v (i : Nat)
  | nil | cons (a r : E) | star (a r : E)
  | tup (l : E) | lst (l : E) | dic (ks : List D) (l : E)
  | new (e : E) | newd (e : E)
  | o1 (o : O1) (a : E) | o2 (o : O2) (a b : E) | o3 (o : O3) (a b c : E)
  | m1 (t : Ty) (o : O1) (a : E) | m2 (t : Ty) (o : O2) (a b : E) | m3 (t : Ty) (o : O3) (a b c : E)
  | chain (a : E) (p : O2) (b : E) (q : O2) (c : E)
  | and (a b : E) | or (a b : E) | ite (c a b : E)
  | fld (a : E) (f : Nat)
  | call (f : Nat) (l k : E) (p : List Nat) (ds : List D)
  | lc (t : T) (i : E) (c : E) (e : E)
  | lc2 (t : T) (i : E) (t2 : T) (i2 : E) (c : E) (e : E)
  | range (a b : E) | enum (a : E) | zip (a b : E)
  | dcomp (t : T) (i : E) (c : E) (ke ve : E)
  deriving Inhabited
inductive S where
  | skip | stuck | seq (a b : S)
  | asg (t : T) (e : E) | par (l : T) (e : E) | seti (o i e : E) | setf (o : E) (f : Nat) (e : E)
  | ex (e : E) | ret (e : E)
  | ite (c : E) (a b : S) | for_ (t : T) (i : E) (b : S) | whl (c : E) (b : S)
  deriving Inhabited

inductive Fl where
  | next (ρ : Env) | ret (d : D)
abbrev RS := R Fl

/-- the names of a target -/
def T.slots : T → List Nat
  | .nm i => [i]
  | .nil => []
  | .cons a r => a.slots ++ r.slots
mutual
def bindT : T → D → Env → Option Env
  | .nm i, d, ρ => if i < ρ.length then some (ρ.set i (some d)) else none
  | .nil, .tup xs, ρ => bindTs .nil xs ρ
  | .cons a r, .tup xs, ρ => bindTs (.cons a r) xs ρ
  | _, _, _ => none
def bindTs : T → List D → Env → Option Env
  | .nil, [], ρ => some ρ
  | .cons a r, x :: xs, ρ => match bindT a x ρ with
    | some ρ' => bindTs r xs ρ'
    | none => none
  | _, _, _ => none
end
def wipeE (ρ : Env) : List Nat → Env
  | [] => ρ
  | v :: vs => (wipeE ρ vs).set v none

def forL (gd : Sto → Bool) (bd : D → Env → Sto → RS) : List D → Env → Sto → RS
  | [], ρ, st => if gd st then .ok (.next ρ) st else .no
  | x :: r, ρ, st => if gd st then match bd x ρ st with
      | .ok (.next ρ') st' => forL gd bd r ρ' st'
      | .ok (.ret d) st' => .ok (.ret d) st'
      | .exc x st' => .exc x st'
      | .no => .no
    else .no
def lcL (gd : Sto → Bool) (bd : D → Sto → R (List D)) : List D → Sto → R (List D)
  | [], st => if gd st then .ok [] st else .no
  | x :: r, st => if gd st then match bd x st with
      | .ok ys st' => match lcL gd bd r st' with
        | .ok zs st'' => .ok (ys ++ zs) st''
        | _ => .no
      | _ => .no
    else .no
def lcB (t : T) (ρ : Env) (c : Env → Sto → R Bool) (e : Env → Sto → R D) (x : D) (st : Sto) : R (List D) := match bindT t x ρ with
  | some ρ' => (c ρ' st).bind fun b st2 => match b with
    | true => (e ρ' st2).bind fun y st3 => .ok [y] st3
    | false => .ok [] st2
  | none => .no
def forB (t : T) (b : Env → Sto → RS) (x : D) (ρ : Env) (st : Sto) : RS := match bindT t x ρ with
  | some ρ' => b ρ' st
  | none => .no
def whlN (c : Env → Sto → R Bool) (b : Env → Sto → RS) : Nat → Env → Sto → RS
  | 0, _, _ => .no
  | n + 1, ρ, st => match c ρ st with
    | .ok true st' => match b ρ st' with
      | .ok (.next ρ') st'' => whlN c b n ρ' st''
      | .ok (.ret d) st'' => .ok (.ret d) st''
      | .exc x st'' => .exc x st''
      | .no => .no
    | .ok false st' => .ok (.next ρ) st'
    | .exc x st' => .exc x st'
    | .no => .no

abbrev Phi := Nat → List D → Sto → R D
def pick (p : List Nat) (ds : List D) : List D := if p.isEmpty then ds else p.map fun i => ds.getD i .non
def rangeL (a b : Int) : List D := (List.range (b - a).toNat).map fun (i : Nat) => .int (a + i)
def zipL : List D → List D → List D
  | a :: r, b :: q => .tup [a, b] :: zipL r q
  | _, _ => []
def enumL : Nat → List D → List D
  | _, [] => []
  | n, a :: r => .tup [.int n, a] :: enumL (n + 1) r
/-- what is walked: the items -/
def items (st : Sto) : D → Option (List D)
  | .str s => if s.length ≤ sizeLine then some (chars s) else none
  | .dic _ _ => none
  | .ref n => match st[n]? with
    | some (.lst xs) => some xs
    | _ => none
  | d => sq st d
/-- what is walked stays as it is -/
def gdOf (d : D) (st : Sto) : Sto → Bool := match d with
  | .ref n => fun s => decide (s[n]? = st[n]?)
  | _ => fun _ => true
/-- the items of what is no place -/
def items0 : D → Option (List D)
  | .tup xs => some xs
  | .lst xs => some xs
  | _ => none
def rgOk (i : Int) : Bool := decide (-(2 ^ 62) ≤ i) && decide (i < 2 ^ 62)
def whlFuel : Nat := 1000000

section
variable (Φ : Phi)
def ev : E → Env → Sto → R D
  | .c d, _, st => .ok d st
  | .v i, ρ, st => match ρ[i]? with
    | some (some d) => .ok d st
    | _ => .no
  | .nil, _, st => .ok (.tup []) st
  | .cons a r, ρ, st => (ev a ρ st).bind fun d st1 => (ev r ρ st1).bind fun ds st2 => match ds with
    | .tup xs => .ok (.tup (d :: xs)) st2
    | _ => .no
  | .star a r, ρ, st => (ev a ρ st).bind fun d st1 => match sq st1 d with
    | some ys => (ev r ρ st1).bind fun ds st2 => match ds with
      | .tup xs => .ok (.tup (ys ++ xs)) st2
      | _ => .no
    | none => .no
  | .tup l, ρ, st => (ev l ρ st).bind fun ds st1 => match ds with
    | .tup xs => if xs.length ≤ sizeLine then .ok (.tup xs) st1 else .no
    | _ => .no
  | .lst l, ρ, st => (ev l ρ st).bind fun ds st1 => match ds with
    | .tup xs => if xs.length ≤ sizeLine then .ok (.lst xs) st1 else .no
    | _ => .no
  | .dic ks l, ρ, st => (ev l ρ st).bind fun ds st1 => match ds with
    | .tup xs => if xs.length = ks.length ∧ ks.length ≤ 15 ∧ ks.all isKey ∧ ks.Nodup then .ok (.dic ks xs) st1 else .no
    | _ => .no
  | .new e, ρ, st => (ev e ρ st).bind fun d st1 => match d with
    | .lst xs => .ok (.ref st1.length) (st1 ++ [.lst xs])
    | _ => .no
  | .newd e, ρ, st => (ev e ρ st).bind fun d st1 => match d with
    | .dic ks vs => .ok (.ref st1.length) (st1 ++ [.dic ks vs])
    | _ => .no
  | .o1 o a, ρ, st => (ev a ρ st).bind fun x st1 => f1 o x st1
  | .o2 o a b, ρ, st => (ev a ρ st).bind fun x st1 => (ev b ρ st1).bind fun y st2 => f2 o x y st2
  | .o3 o a b c, ρ, st => (ev a ρ st).bind fun x st1 => (ev b ρ st1).bind fun y st2 => (ev c ρ st2).bind fun z st3 => f3 o x y z st3
  | .m1 t o a, ρ, st => (ev a ρ st).bind fun x st1 => if isTy t st1 x then f1 o x st1 else .no
  | .m2 t o a b, ρ, st => (ev a ρ st).bind fun x st1 => if isTy t st1 x then (ev b ρ st1).bind fun y st2 => f2 o x y st2 else .no
  | .m3 t o a b c, ρ, st => (ev a ρ st).bind fun x st1 => if isTy t st1 x then (ev b ρ st1).bind fun y st2 => (ev c ρ st2).bind fun z st3 => f3 o x y z st3 else .no
  | .chain a p b q c, ρ, st => (ev a ρ st).bind fun x st1 => (ev b ρ st1).bind fun y st2 => (f2 p x y st2).bind fun r st3 => match r with
    | .bl true => (ev c ρ st3).bind fun z st4 => f2 q y z st4
    | .bl false => .ok (.bl false) st3
    | _ => .no
  | .and a b, ρ, st => (ev a ρ st).bind fun x st1 => match x with
    | .bl true => ev b ρ st1
    | .bl false => .ok (.bl false) st1
    | _ => .no
  | .or a b, ρ, st => (ev a ρ st).bind fun x st1 => match x with
    | .bl true => .ok (.bl true) st1
    | .bl false => ev b ρ st1
    | _ => .no
  | .ite c a b, ρ, st => (ev c ρ st).bind fun x st1 => match truth st1 x with
    | some true => ev a ρ st1
    | some false => ev b ρ st1
    | none => .no
  | .fld a f, ρ, st => (ev a ρ st).bind fun x st1 => match x with
    | .obj _ fs vs => R.of st1 ((fs.zip vs).lookup f)
    | .ref n => match st1[n]? with
      | some (.ins _ fs vs) => R.of st1 ((fs.zip vs).lookup f)
      | _ => .no
    | _ => .no
  | .call f l k p ds, ρ, st => (ev l ρ st).bind fun as st1 => match as with
    | .tup xs => (ev k ρ st1).bind fun bs st2 => match bs with
      | .tup ys => Φ f (pick p (xs ++ ys) ++ ds) st2
      | _ => .no
    | _ => .no
  | .lc t i c e, ρ, st => (ev i ρ st).bind fun d st1 => match items st1 d with
    | some xs => (lcL (gdOf d st1) (lcB t (wipeE ρ t.slots) (fun ρ st => (ev c ρ st).bind fun x st1 => R.of st1 (truth st1 x)) (ev e)) xs st1).bind fun ys st2 => if ys.length ≤ sizeLine then .ok (.lst ys) st2 else .no
    | none => .no
  | .lc2 t i t2 i2 c e, ρ, st => (ev i ρ st).bind fun d st1 => match items st1 d with
    | some xs => (lcL (gdOf d st1) (fun x st => match bindT t x (wipeE ρ (t.slots ++ t2.slots)) with
        | some ρ1 => (ev i2 ρ1 st).bind fun d2 st2 => match items st2 d2 with
          | some xs2 => lcL (gdOf d2 st2) (lcB t2 ρ1 (fun ρ st => (ev c ρ st).bind fun x st1 => R.of st1 (truth st1 x)) (ev e)) xs2 st2
          | none => .no
        | none => .no) xs st1).bind fun ys st2 => if ys.length ≤ sizeLine then .ok (.lst ys) st2 else .no
    | none => .no
  | .range a b, ρ, st => (ev a ρ st).bind fun x st1 => (ev b ρ st1).bind fun y st2 => match x, y with
    | .int i, .int j => if rgOk i && rgOk j && decide ((j - i).toNat ≤ sizeLine) then .ok (.tup (rangeL i j)) st2 else .no
    | _, _ => .no
  | .enum a, ρ, st => (ev a ρ st).bind fun x st1 => match x with
    | .lst xs => .ok (.tup (enumL 0 xs)) st1
    | _ => .no
  | .dcomp t i c ke ve, ρ, st => (ev i ρ st).bind fun d st1 => match items st1 d with
    | some xs => (lcL (gdOf d st1) (lcB t (wipeE ρ t.slots) (fun ρ st => (ev c ρ st).bind fun x st1 => R.of st1 (truth st1 x)) (fun ρ st => (ev ke ρ st).bind fun k st1 => (ev ve ρ st1).bind fun v st2 => .ok (.tup [k, v]) st2)) xs st1).bind fun zs st2 => match mkD zs [] [] with
      | some (ks, vs) => if zs.length ≤ sizeLine then .ok (.ref st2.length) (st2 ++ [.dic ks vs]) else .no
      | none => .no
    | none => .no
  | .zip a b, ρ, st => (ev a ρ st).bind fun x st1 => (ev b ρ st1).bind fun y st2 => match items0 x, items0 y with
    | some xs, some ys => .ok (.tup (zipL xs ys)) st2
    | _, _ => .no

def tst (c : E) (ρ : Env) (st : Sto) : R Bool := (ev Φ c ρ st).bind fun x st1 => R.of st1 (truth st1 x)

def exS : S → Env → Sto → RS
  | .skip, ρ, st => .ok (.next ρ) st
  | .stuck, _, _ => .no
  | .seq a b, ρ, st => match exS a ρ st with
    | .ok (.next ρ') st' => exS b ρ' st'
    | .ok (.ret d) st' => .ok (.ret d) st'
    | .exc x st' => .exc x st'
    | .no => .no
  | .asg t e, ρ, st => (ev Φ e ρ st).bind fun d st1 => match bindT t d ρ with
    | some ρ' => .ok (.next ρ') st1
    | none => .no
  | .par l e, ρ, st => (ev Φ e ρ st).bind fun d st1 => match d with
    | .tup xs => match bindTs l xs ρ with
      | some ρ' => .ok (.next ρ') st1
      | none => .no
    | _ => .no
  | .seti o i e, ρ, st => (ev Φ e ρ st).bind fun d st1 => (ev Φ o ρ st1).bind fun x st2 => (ev Φ i ρ st2).bind fun y st3 => match setR x y d st3 with
    | some st4 => .ok (.next ρ) st4
    | none => .no
  | .setf o f e, ρ, st => .no
  | .ex e, ρ, st => (ev Φ e ρ st).bind fun _ st1 => .ok (.next ρ) st1
  | .ret e, ρ, st => (ev Φ e ρ st).bind fun d st1 => .ok (.ret d) st1
  | .ite c a b, ρ, st => match tst Φ c ρ st with
    | .ok true st1 => exS a ρ st1
    | .ok false st1 => exS b ρ st1
    | .exc x st1 => .exc x st1
    | .no => .no
  | .for_ t i b, ρ, st => (ev Φ i ρ st).bind fun d st1 => match items st1 d with
    | some xs => forL (gdOf d st1) (forB t (exS b)) xs ρ st1
    | none => .no
  | .whl c b, ρ, st => whlN (tst Φ c) (exS b) whlFuel ρ st
end

/-! ### calls -/
/-- a def: its parameters, its slots, whether it keeps what it made, its body -/
structure FD where
  np : Nat
  ns : Nat
  keep : Bool
  body : S
abbrev Pg := Nat → Option FD

/-- a value that leaves: a list that was made within is told by its items -/
def leave (n : Nat) (st : Sto) (d : D) : D :=
  match d with
  | .ref m => if m < n then d else match st[m]? with
    | some (.lst xs) => .lst xs
    | _ => d
  | d => d
def oldOk (n : Nat) (st st' : Sto) : Bool := (List.range n).all fun i => decide (st'[i]? = st[i]?) || match st'[i]? with
  | some o => o.under n
  | none => false
/-- what was made within is dropped -/
def gc (n : Nat) (st : Sto) (d : D) (st' : Sto) : R D :=
  if st'.length = n then .ok d st' else
  if (leave n st' d).under n && oldOk n st st' && decide (n ≤ st'.length) then .ok (leave n st' d) (st'.take n) else .no

def run (P : Pg) : Nat → Phi
  | 0, _, _, _ => .no
  | k + 1, f, ds, st => match P f with
    | none => .no
    | some F =>
      if ds.length = F.np then
        match exS (run P k) F.body (ds.map some ++ List.replicate (F.ns - F.np) none) st with
        | .ok (.next _) st' => if F.keep then .ok .non st' else gc st.length st .non st'
        | .ok (.ret d) st' => if F.keep then .ok d st' else gc st.length st d st'
        | .exc x st' => .exc x st'
        | .no => .no
      else .no
end MP
end

section
set_option Elab.async false
set_option linter.all false
set_option maxRecDepth 100000
/-! MP: the order of values; sorted lists. -/
namespace MP
theorem sort_unique {α : Type} {R : α → α → Prop} : ∀ {l m : List α}, (∀ a ∈ l, ∀ b ∈ l, R a b → R b a → a = b) → l.Perm m → l.Pairwise R → m.Pairwise R → l = m
  | [], m, _, p, _, _ => (List.Perm.nil_eq p)
  | a :: l, [], _, p, _, _ => by simp at p
  | a :: l, b :: m, anti, p, h1, h2 => by
    obtain ⟨a1, a2⟩ := List.pairwise_cons.mp h1
    obtain ⟨b1, b2⟩ := List.pairwise_cons.mp h2
    have e : a = b := by
      have ha : a ∈ b :: m := p.mem_iff.mp List.mem_cons_self
      have hb : b ∈ a :: l := p.mem_iff.mpr List.mem_cons_self
      rcases List.mem_cons.mp ha with z | z
      · exact z
      · rcases List.mem_cons.mp hb with y | y
        · exact y.symm
        · exact anti a List.mem_cons_self b hb (a1 b y) (b1 a z)
    subst e
    rw [sort_unique (fun x hx y hy => anti x (List.mem_cons_of_mem _ hx) y (List.mem_cons_of_mem _ hy)) (List.Perm.cons_inv p) a2 b2]

theorem ltT_tri : ∀ a b : Tx, (ltT a b = true ∧ ltT b a = false) ∨ (ltT a b = false ∧ ltT b a = true) ∨ (a = b ∧ ltT a b = false)
  | [], [] => .inr (.inr ⟨rfl, rfl⟩)
  | [], _ :: _ => .inl ⟨rfl, rfl⟩
  | _ :: _, [] => .inr (.inl ⟨rfl, rfl⟩)
  | a :: r, b :: q => by
    simp only [ltT]
    by_cases e : a = b
    · subst e
      simp only [if_true]
      rcases ltT_tri r q with h | h | h
      · exact .inl h
      · exact .inr (.inl h)
      · exact .inr (.inr ⟨by rw [h.1], h.2⟩)
    · rw [if_neg e, if_neg (Ne.symm e)]
      rcases Nat.lt_or_gt_of_ne e with h | h
      · exact .inl ⟨decide_eq_true h, decide_eq_false (by omega)⟩
      · exact .inr (.inl ⟨decide_eq_false (by omega), decide_eq_true h⟩)
theorem ltT_trans : ∀ a b c : Tx, ltT a b = true → ltT b c = true → ltT a c = true
  | [], [], c, h, _ => by cases h
  | [], _ :: _, [], _, h => by cases h
  | [], _ :: _, _ :: _, _, _ => rfl
  | _ :: _, [], _, h, _ => by cases h
  | _ :: _, _ :: _, [], _, h => by cases h
  | a :: r, b :: q, c :: p, h1, h2 => by
    simp only [ltT] at h1 h2 ⊢
    by_cases e : a = b
    · subst e
      rw [if_pos rfl] at h1
      by_cases e2 : a = c
      · subst e2
        rw [if_pos rfl] at h2 ⊢
        exact ltT_trans r q p h1 h2
      · rw [if_neg e2] at h2 ⊢
        exact h2
    · rw [if_neg e] at h1
      have h1 := of_decide_eq_true h1
      by_cases e2 : b = c
      · subst e2
        rw [if_neg e]
        exact decide_eq_true h1
      · rw [if_neg e2] at h2
        have h2 := of_decide_eq_true h2
        rw [if_neg (by omega)]
        exact decide_eq_true (by omega)

/-- one before the other, or the same -/
def Tri (x y : Option Bool) (same : Prop) : Prop := (x = some true ∧ y = some false) ∨ (x = some false ∧ y = some true) ∨ (same ∧ x = some false ∧ y = some false)
mutual
theorem lt_tri : ∀ x a b : D, x.like a = true → x.like b = true → Tri (a.lt b) (b.lt a) (a = b)
  | .int _, a, b, h1, h2 => by
    cases a <;> simp only [D.like] at h1 <;> first | cases h1 | skip
    cases b <;> simp only [D.like] at h2 <;> first | cases h2 | skip
    rename_i i j
    simp only [D.lt, Tri, Option.some.injEq, decide_eq_true_eq, decide_eq_false_iff_not, D.int.injEq]
    omega
  | .str _, a, b, h1, h2 => by
    cases a <;> simp only [D.like] at h1 <;> first | cases h1 | skip
    cases b <;> simp only [D.like] at h2 <;> first | cases h2 | skip
    rename_i i j
    simp only [D.lt, Tri, Option.some.injEq, D.str.injEq]
    rcases ltT_tri i j with h | h | h
    · exact .inl h
    · exact .inr (.inl h)
    · obtain ⟨rfl, h⟩ := h
      exact .inr (.inr ⟨rfl, h, h⟩)
  | .tup xs, a, b, h1, h2 => by
    cases a <;> simp only [D.like] at h1 <;> first | cases h1 | skip
    cases b <;> simp only [D.like] at h2 <;> first | cases h2 | skip
    rename_i i j
    simp only [D.lt]
    have := lts_tri xs i j h1 h2
    rcases this with h | h | h
    · exact .inl h
    · exact .inr (.inl h)
    · exact .inr (.inr ⟨by rw [h.1], h.2⟩)
  | .non, a, b, h1, _ => by cases a <;> cases h1
  | .bl _, a, b, h1, _ => by cases a <;> cases h1
  | .lst _, a, b, h1, _ => by cases a <;> cases h1
  | .rol _, a, b, h1, _ => by cases a <;> cases h1
  | .dic _ _, a, b, h1, _ => by cases a <;> cases h1
  | .obj _ _ _, a, b, h1, _ => by cases a <;> cases h1
  | .ref _, a, b, h1, _ => by cases a <;> cases h1
  | .fn _, a, b, h1, _ => by cases a <;> cases h1
theorem lts_tri : ∀ x a b : List D, likes x a = true → likes x b = true → Tri (lts a b) (lts b a) (a = b)
  | [], a, b, h1, h2 => by
    cases a <;> simp only [likes] at h1 <;> first | cases h1 | skip
    cases b <;> simp only [likes] at h2 <;> first | cases h2 | skip
    exact .inr (.inr ⟨rfl, rfl, rfl⟩)
  | x :: xs, a, b, h1, h2 => by
    cases a <;> simp only [likes] at h1 <;> first | cases h1 | skip
    cases b <;> simp only [likes] at h2 <;> first | cases h2 | skip
    rename_i a as b bs
    rw [Bool.and_eq_true] at h1 h2
    simp only [lts]
    by_cases e : a = b
    · subst e
      rw [if_pos rfl, if_pos rfl]
      rcases lts_tri xs as bs h1.2 h2.2 with h | h | h
      · exact .inl h
      · exact .inr (.inl h)
      · exact .inr (.inr ⟨by rw [h.1], h.2⟩)
    · rw [if_neg e, if_neg (Ne.symm e)]
      rcases lt_tri x a b h1.1 h2.1 with h | h | h
      · exact .inl h
      · exact .inr (.inl h)
      · exact absurd h.1 e
end
mutual
theorem lt_trans' : ∀ x a b c : D, x.like a = true → x.like b = true → x.like c = true → a.lt b = some true → b.lt c = some true → a.lt c = some true
  | .int _, a, b, c, h1, h2, h3, l1, l2 => by
    cases a <;> simp only [D.like] at h1 <;> first | cases h1 | skip
    cases b <;> simp only [D.like] at h2 <;> first | cases h2 | skip
    cases c <;> simp only [D.like] at h3 <;> first | cases h3 | skip
    simp only [D.lt, Option.some.injEq, decide_eq_true_eq] at l1 l2 ⊢
    omega
  | .str _, a, b, c, h1, h2, h3, l1, l2 => by
    cases a <;> simp only [D.like] at h1 <;> first | cases h1 | skip
    cases b <;> simp only [D.like] at h2 <;> first | cases h2 | skip
    cases c <;> simp only [D.like] at h3 <;> first | cases h3 | skip
    simp only [D.lt, Option.some.injEq] at l1 l2 ⊢
    exact ltT_trans _ _ _ l1 l2
  | .tup xs, a, b, c, h1, h2, h3, l1, l2 => by
    cases a <;> simp only [D.like] at h1 <;> first | cases h1 | skip
    cases b <;> simp only [D.like] at h2 <;> first | cases h2 | skip
    cases c <;> simp only [D.like] at h3 <;> first | cases h3 | skip
    simp only [D.lt] at l1 l2 ⊢
    exact lts_trans xs _ _ _ h1 h2 h3 l1 l2
  | .non, a, _, _, h1, _, _, _, _ => by cases a <;> cases h1
  | .bl _, a, _, _, h1, _, _, _, _ => by cases a <;> cases h1
  | .lst _, a, _, _, h1, _, _, _, _ => by cases a <;> cases h1
  | .rol _, a, _, _, h1, _, _, _, _ => by cases a <;> cases h1
  | .dic _ _, a, _, _, h1, _, _, _, _ => by cases a <;> cases h1
  | .obj _ _ _, a, _, _, h1, _, _, _, _ => by cases a <;> cases h1
  | .ref _, a, _, _, h1, _, _, _, _ => by cases a <;> cases h1
  | .fn _, a, _, _, h1, _, _, _, _ => by cases a <;> cases h1
theorem lts_trans : ∀ x a b c : List D, likes x a = true → likes x b = true → likes x c = true → lts a b = some true → lts b c = some true → lts a c = some true
  | [], a, b, c, h1, h2, h3, l1, l2 => by
    cases a <;> simp only [likes] at h1 <;> first | cases h1 | skip
    cases b <;> simp only [likes] at h2 <;> first | cases h2 | skip
    cases l1
  | x :: xs, a, b, c, h1, h2, h3, l1, l2 => by
    cases a <;> simp only [likes] at h1 <;> first | cases h1 | skip
    cases b <;> simp only [likes] at h2 <;> first | cases h2 | skip
    cases c <;> simp only [likes] at h3 <;> first | cases h3 | skip
    rename_i a as b bs c cs
    rw [Bool.and_eq_true] at h1 h2 h3
    simp only [lts] at l1 l2 ⊢
    by_cases e : a = b
    · subst e
      rw [if_pos rfl] at l1
      by_cases e2 : a = c
      · subst e2
        rw [if_pos rfl] at l2 ⊢
        exact lts_trans xs as bs cs h1.2 h2.2 h3.2 l1 l2
      · rw [if_neg e2] at l2 ⊢
        exact l2
    · rw [if_neg e] at l1
      by_cases e2 : b = c
      · subst e2
        rw [if_neg e]
        exact l1
      · rw [if_neg e2] at l2
        have t := lt_trans' x a b c h1.1 h2.1 h3.1 l1 l2
        have ne : a ≠ c := by
          intro z
          subst z
          rcases lt_tri x a b h1.1 h2.1 with h | h | h
          · rw [l2] at h; cases h.2
          · rw [l1] at h; cases h.1
          · rw [l1] at h; cases h.2.1
        rw [if_neg ne]
        exact t
end
theorem leD_anti {x a b : D} (h1 : x.like a = true) (h2 : x.like b = true) (l1 : leD a b = true) (l2 : leD b a = true) : a = b := by
  unfold leD at l1 l2
  rcases lt_tri x a b h1 h2 with h | h | h
  · rw [h.1] at l2; cases l2
  · rw [h.2] at l1; cases l1
  · exact h.1
theorem leD_total {x a b : D} (h1 : x.like a = true) (h2 : x.like b = true) : leD a b = true ∨ leD b a = true := by
  unfold leD
  rcases lt_tri x a b h1 h2 with h | h | h
  · rw [h.2]; exact .inl rfl
  · rw [h.1]; exact .inr rfl
  · rw [h.2.2]; exact .inl rfl
theorem leD_trans {x a b c : D} (h1 : x.like a = true) (h2 : x.like b = true) (h3 : x.like c = true) (l1 : leD a b = true) (l2 : leD b c = true) : leD a c = true := by
  by_cases z : leD a c = true
  · exact z
  · have k : c.lt a = some true := by
      unfold leD at z
      rcases lt_tri x a c h1 h3 with h | h | h
      · rw [h.2] at z; exact absurd rfl z
      · exact h.2
      · rw [h.2.2] at z; exact absurd rfl z
    have l1' : a = b ∨ a.lt b = some true := by
      unfold leD at l1
      rcases lt_tri x a b h1 h2 with h | h | h
      · exact .inr h.1
      · rw [h.2] at l1; cases l1
      · exact .inl h.1
    have l2' : b = c ∨ b.lt c = some true := by
      unfold leD at l2
      rcases lt_tri x b c h2 h3 with h | h | h
      · exact .inr h.1
      · rw [h.2] at l2; cases l2
      · exact .inl h.1
    have cb : c.lt b = some true := by
      rcases l1' with e | e
      · rw [← e]; exact k
      · exact lt_trans' x c a b h3 h1 h2 k e
    rcases l2' with e | e
    · subst e
      rcases lt_tri x b b h2 h2 with h | h | h
      · rw [h.1] at h; cases h.2
      · rw [h.1] at h; cases h.2
      · rw [cb] at h; cases h.2.1
    · have := lt_trans' x b c b h2 h3 h2 e cb
      rcases lt_tri x b b h2 h2 with h | h | h
      · rw [h.1] at h; cases h.2
      · rw [h.1] at h; cases h.2
      · rw [this] at h; cases h.2.1
theorem insD_perm (x : D) : ∀ l : List D, (insD x l).Perm (x :: l)
  | [] => List.Perm.refl _
  | y :: r => by
    unfold insD
    split
    · exact List.Perm.refl _
    · exact ((insD_perm x r).cons y).trans (List.Perm.swap x y r)
theorem sortL_perm : ∀ l : List D, (sortL l).Perm l
  | [] => List.Perm.refl _
  | x :: r => (insD_perm x _).trans ((sortL_perm r).cons x)
theorem insD_sorted {z x : D} (hx : z.like x = true) : ∀ {l : List D}, (∀ y ∈ l, z.like y = true) → l.Pairwise (fun a b => leD a b = true) → (insD x l).Pairwise (fun a b => leD a b = true)
  | [], _, _ => by simp [insD]
  | y :: r, hl, h => by
    obtain ⟨h1, h2⟩ := List.pairwise_cons.mp h
    unfold insD
    split
    · rename_i le
      refine List.pairwise_cons.mpr ⟨fun q hq => ?_, h⟩
      rcases List.mem_cons.mp hq with e | e
      · rw [e]; exact le
      · exact leD_trans hx (hl y List.mem_cons_self) (hl q (List.mem_cons_of_mem _ e)) le (h1 q e)
    · rename_i le
      have le2 : leD y x = true := (leD_total hx (hl y List.mem_cons_self)).resolve_left le
      refine List.pairwise_cons.mpr ⟨fun q hq => ?_, insD_sorted hx (fun w hw => hl w (List.mem_cons_of_mem _ hw)) h2⟩
      rcases List.mem_cons.mp ((insD_perm x r).mem_iff.mp hq) with e | e
      · rw [e]; exact le2
      · exact h1 q e
theorem sortL_sorted {z : D} : ∀ {l : List D}, (∀ y ∈ l, z.like y = true) → (sortL l).Pairwise (fun a b => leD a b = true)
  | [], _ => List.Pairwise.nil
  | x :: r, h => insD_sorted (h x List.mem_cons_self) (fun y hy => h y (List.mem_cons_of_mem _ ((sortL_perm r).mem_iff.mp hy))) (sortL_sorted fun y hy => h y (List.mem_cons_of_mem _ hy))
/-- sorted by whatever way: the same list -/
theorem sortL_is {z : D} {l m : List D} (h : ∀ y ∈ l, z.like y = true) (p : m.Perm l) (s : m.Pairwise (fun a b => leD a b = true)) : m = sortL l :=
  sort_unique (R := fun a b => leD a b = true) (fun a ha b hb => leD_anti (h a (p.mem_iff.mp ha)) (h b (p.mem_iff.mp hb))) (p.trans (sortL_perm l).symm) s (sortL_sorted h)
theorem dedup_mem : ∀ {l : List D} {x : D}, x ∈ dedup l ↔ x ∈ l
  | [], _ => Iff.rfl
  | y :: r, x => by
    unfold dedup
    split
    · rename_i h
      rw [dedup_mem, List.mem_cons]
      exact ⟨.inr, fun z => z.elim (fun e => by rw [e]; exact List.contains_iff_mem.mp h) id⟩
    · rw [List.mem_cons, List.mem_cons, dedup_mem]
theorem dedup_nodup : ∀ l : List D, (dedup l).Nodup
  | [] => List.nodup_nil
  | y :: r => by
    unfold dedup
    split
    · exact dedup_nodup r
    · rename_i h
      exact List.nodup_cons.mpr ⟨fun z => h (List.contains_iff_mem.mpr (dedup_mem.mp z)), dedup_nodup r⟩
/-- each once: as many, whatever their order -/
theorem once_perm {α : Type} [DecidableEq α] : ∀ {l m : List α}, l.Nodup → m.Nodup → (∀ x, x ∈ l ↔ x ∈ m) → l.Perm m
  | [], m, _, _, h => by
    cases m with
    | nil => exact List.Perm.refl _
    | cons x r => exact absurd ((h x).mpr List.mem_cons_self) (by simp)
  | x :: l, m, h1, h2, h => by
    have hx : x ∈ m := (h x).mp List.mem_cons_self
    have p := List.perm_cons_erase hx
    obtain ⟨n1, n2⟩ := List.nodup_cons.mp h1
    have n3 : (x :: m.erase x).Nodup := p.nodup_iff.mp h2
    obtain ⟨n4, n5⟩ := List.nodup_cons.mp n3
    refine (List.Perm.cons x (once_perm n2 n5 fun y => ?_)).trans p.symm
    constructor
    · intro hy
      have : y ∈ x :: m.erase x := p.mem_iff.mp ((h y).mp (List.mem_cons_of_mem _ hy))
      rcases List.mem_cons.mp this with e | e
      · exact absurd hy (by rw [e]; exact n1)
      · exact e
    · intro hy
      have : y ∈ x :: l := (h y).mpr (p.mem_iff.mpr (List.mem_cons_of_mem _ hy))
      rcases List.mem_cons.mp this with e | e
      · exact absurd hy (by rw [e]; exact n4)
      · exact e
/-- as many, and each among them: the same in some order -/
theorem fill_perm {α : Type} [DecidableEq α] : ∀ {l m : List α}, l.Nodup → (∀ x ∈ l, x ∈ m) → m.length = l.length → l.Perm m
  | [], m, _, _, h => by
    cases m with
    | nil => exact List.Perm.refl _
    | cons => cases h
  | x :: l, m, h1, h2, h3 => by
    have hx : x ∈ m := h2 x List.mem_cons_self
    have p := List.perm_cons_erase hx
    obtain ⟨n1, n2⟩ := List.nodup_cons.mp h1
    refine (List.Perm.cons x (fill_perm n2 (fun y hy => ?_) ?_)).trans p.symm
    · have : y ∈ x :: m.erase x := p.mem_iff.mp (h2 y (List.mem_cons_of_mem _ hy))
      rcases List.mem_cons.mp this with e | e
      · exact absurd hy (by rw [e]; exact n1)
      · exact e
    · have := p.length_eq
      rw [List.length_cons] at this h3
      omega
end MP
end

section
set_option Elab.async false
set_option linter.all false
set_option maxRecDepth 100000
/-! MP: how the values and the store stand in the layer's heap. -/
namespace MP
open PySem PySem.Spec PyProof.Rows L2

/-- what is fixed: the written part, the addresses of the text's defs and classes, the attributes' names -/
structure GC where
  K : PySem.W.Frag
  fa : Nat → Option Addr
  ca : Nat → Option Addr
  an : Nat → Str

/-- the places' addresses; addresses that are worked on and that nothing tells of -/
structure Th where
  pl : List Addr
  hid : List Addr
instance : Membership Addr Th := ⟨fun θ a => a ∈ θ.pl ∨ a ∈ θ.hid⟩
theorem Th.mem_iff {θ : Th} {a : Addr} : a ∈ θ ↔ a ∈ θ.pl ∨ a ∈ θ.hid := Iff.rfl
def Th.add (θ : Th) (p : Addr) : Th := ⟨θ.pl ++ [p], θ.hid⟩
def Th.hide (θ : Th) (p : Addr) : Th := ⟨θ.pl, p :: θ.hid⟩
theorem Th.of_get {θ : Th} {n : Nat} {a : Addr} (h : θ.pl[n]? = some a) : a ∈ θ := .inl (List.mem_of_getElem? h)

abbrev sOf (s : Tx) : Str := ⟨s.toArray⟩
def keyOf : D → Option Key
  | .int i => some (.inl i)
  | .str s => some (.inr (sOf s))
  | _ => none

/-- a list, a tuple that is no place of the store: tracked, or written -/
def SqLf (θ : Th) (H : Hp) (a : Addr) (vs : List V) : Prop := H a = some (.lst vs) ∧ a ∉ θ
/-- the script: read only -/
def SqLr (g : GC) (θ : Th) (H : Hp) (a : Addr) (vs : List V) : Prop := (Rd H a (.lst vs) ∧ a ∉ θ) ∨ ∀ H0, SqL g.K H0 a vs
def SqTf (g : GC) (θ : Th) (H : Hp) (a : Addr) (vs : List V) : Prop := (Rd H a (.tup vs) ∧ a ∉ θ) ∨ ∀ H0, SqT g.K H0 a vs
theorem SqLf.to {g : GC} {θ : Th} {H : Hp} {a : Addr} {vs : List V} (h : SqLf θ H a vs) : SqL g.K H a vs := .inl (.inl h.1)
theorem SqLr.to {g : GC} {θ : Th} {H : Hp} {a : Addr} {vs : List V} (h : SqLr g θ H a vs) : SqL g.K H a vs := by
  rcases h with h | h
  · exact .inl h.1
  · exact h H
theorem SqTf.to {g : GC} {θ : Th} {H : Hp} {a : Addr} {vs : List V} (h : SqTf g θ H a vs) : SqT g.K H a vs := by
  rcases h with h | h
  · exact .inl h.1
  · exact h H
mutual
inductive Rep (g : GC) (θ : Th) (H : Hp) : D → V → Prop
  | non : Rep g θ H .non .non
  | bl (b : Bool) : Rep g θ H (.bl b) (.bl b)
  | int (i : Int) : Rep g θ H (.int i) (.int i)
  | str (s : Tx) : Rep g θ H (.str s) (.str (sOf s))
  | tup {xs : List D} {vs : List V} {a : Addr} : SqTf g θ H a vs → RepL g θ H xs vs → Rep g θ H (.tup xs) (.ref a)
  | lst {xs : List D} {vs : List V} {a : Addr} : SqLf θ H a vs → RepL g θ H xs vs → Rep g θ H (.lst xs) (.ref a)
  | rol {xs : List D} {vs : List V} {a : Addr} : SqLr g θ H a vs → RepL g θ H xs vs → Rep g θ H (.rol xs) (.ref a)
  | dic {ks ds : List D} {kvs : List (Key × V)} {a : Addr} : Rd H a (.dK kvs) → a ∉ θ → ks.map keyOf = kvs.map (fun p => some p.1) → RepL g θ H ds (kvs.map (·.2)) → Rep g θ H (.dic ks ds) (.ref a)
  | obj {c : Nat} {fs : List Nat} {ds : List D} {vs : List V} {a C dx : Addr} : g.ca c = some C → H a = some (.ins C dx ((fs.map g.an).zip vs)) → a ∉ θ → fs.length = vs.length → RepL g θ H ds vs → Rep g θ H (.obj c fs ds) (.ref a)
  | ref {n : Nat} {a : Addr} : θ.pl[n]? = some a → Rep g θ H (.ref n) (.ref a)
  | fn {f : Nat} {a : Addr} : g.fa f = some a → Rep g θ H (.fn f) (.ref a)
inductive RepL (g : GC) (θ : Th) (H : Hp) : List D → List V → Prop
  | nil : RepL g θ H [] []
  | cons {d : D} {v : V} {ds : List D} {vs : List V} : Rep g θ H d v → RepL g θ H ds vs → RepL g θ H (d :: ds) (v :: vs)
end

/-- what a piece of a run leaves: places are added, what is no place stays -/
structure Ext (θ θ' : Th) (H H' : Hp) : Prop where
  pre : ∃ new, θ'.pl = θ.pl ++ new ∧ ∀ a ∈ new, H a = none
  hid : θ'.hid = θ.hid
  keep : ∀ a u, a ∉ θ.pl → H a = some u → H' a = some u
  there : ∀ a, H a ≠ none → H' a ≠ none

section
variable {g : GC} {θ θ' θ1 θ2 : Th} {H H' H1 H2 : Hp}
theorem Ext.refl : Ext θ θ H H := ⟨⟨[], by simp, by simp⟩, rfl, fun _ _ _ h => h, fun _ h => h⟩
theorem Ext.notin (x : Ext θ θ' H H') {a : Addr} (h : a ∉ θ) (ht : H a ≠ none) : a ∉ θ' := by
  obtain ⟨new, e, f⟩ := x.pre
  rw [Th.mem_iff, e, x.hid, List.mem_append]
  rintro ((z | z) | z)
  · exact h (.inl z)
  · exact ht (f a z)
  · exact h (.inr z)
theorem Ext.trans (x : Ext θ θ1 H H1) (y : Ext θ1 θ2 H1 H2) : Ext θ θ2 H H2 := by
  obtain ⟨n1, e1, f1⟩ := x.pre
  obtain ⟨n2, e2, f2⟩ := y.pre
  refine ⟨⟨n1 ++ n2, by rw [e2, e1, List.append_assoc], fun a ha => ?_⟩, y.hid.trans x.hid, fun a u ha hu => ?_, fun a h => y.there a (x.there a h)⟩
  · rcases List.mem_append.mp ha with z | z
    · exact f1 a z
    · cases q : H a with
      | none => rfl
      | some u => exact absurd (f2 a z) (x.there a (by rw [q]; exact fun z => nomatch z))
  · refine y.keep a u (fun z => ?_) (x.keep a u ha hu)
    rw [e1] at z
    exact (List.mem_append.mp z).elim ha fun z => nomatch (hu.symm.trans (f1 a z))
theorem Ext.get (x : Ext θ θ' H H') {n : Nat} {a : Addr} (h : θ.pl[n]? = some a) : θ'.pl[n]? = some a := by
  obtain ⟨new, e, _⟩ := x.pre
  rw [e, List.getElem?_append_left (List.getElem?_eq_some_iff.mp h).1]
  exact h
theorem Ext.len (x : Ext θ θ' H H') : θ.pl.length ≤ θ'.pl.length := by
  obtain ⟨new, e, _⟩ := x.pre
  rw [e, List.length_append]
  exact Nat.le_add_right _ _
theorem Ext.fz (x : Ext θ θ' H H') {a : Addr} {u : HO} (h : a ∉ θ) (e : H a = some u) : H' a = some u := x.keep a u (fun z => h (.inl z)) e
theorem Ext.rd (x : Ext θ θ' H H') {a : Addr} {u : HO} (h : a ∉ θ) (r : Rd H a u) : Rd H' a u := by
  rcases r with r | ⟨o, r⟩
  · exact .inl (x.fz h r)
  · exact .inr ⟨o, x.fz h r⟩
theorem rd_there {a : Addr} {u : HO} (r : Rd H a u) : H a ≠ none := by
  rcases r with r | ⟨o, r⟩ <;> (rw [r]; exact fun z => nomatch z)
theorem Ext.sqL (x : Ext θ θ' H H') {a : Addr} {vs : List V} (r : SqLf θ H a vs) : SqLf θ' H' a vs := ⟨x.fz r.2 r.1, x.notin r.2 (by rw [r.1]; exact fun z => nomatch z)⟩
theorem Ext.sqR (x : Ext θ θ' H H') {a : Addr} {vs : List V} (r : SqLr g θ H a vs) : SqLr g θ' H' a vs := by
  rcases r with r | r
  · exact .inl ⟨x.rd r.2 r.1, x.notin r.2 (rd_there r.1)⟩
  · exact .inr r
theorem Ext.sqT (x : Ext θ θ' H H') {a : Addr} {vs : List V} (r : SqTf g θ H a vs) : SqTf g θ' H' a vs := by
  rcases r with r | r
  · exact .inl ⟨x.rd r.2 r.1, x.notin r.2 (rd_there r.1)⟩
  · exact .inr r
end

theorem RepL.length {g : GC} {θ : Th} {H : Hp} : ∀ {ds : List D} {vs : List V}, RepL g θ H ds vs → ds.length = vs.length
  | _, _, .nil => rfl
  | _, _, .cons _ h => by rw [List.length_cons, List.length_cons, RepL.length h]
theorem RepL.get {g : GC} {θ : Th} {H : Hp} : ∀ {ds : List D} {vs : List V} {i : Nat} {d : D}, RepL g θ H ds vs → ds[i]? = some d → ∃ v, vs[i]? = some v ∧ Rep g θ H d v
  | _, _, _, _, .nil, e => by simp at e
  | _, _, 0, _, .cons r _, e => by
    simp at e
    subst e
    exact ⟨_, rfl, r⟩
  | _, _, i + 1, d, .cons _ h, e => by
    obtain ⟨v, h1, h2⟩ := RepL.get (i := i) (d := d) h (by simpa using e)
    exact ⟨v, by simpa using h1, h2⟩
theorem RepL.getV {g : GC} {θ : Th} {H : Hp} : ∀ {ds : List D} {vs : List V} {i : Nat} {v : V}, RepL g θ H ds vs → vs[i]? = some v → ∃ d, ds[i]? = some d ∧ Rep g θ H d v
  | _, _, _, _, .nil, e => by simp at e
  | _, _, 0, _, .cons r _, e => by
    simp at e
    subst e
    exact ⟨_, rfl, r⟩
  | _, _, i + 1, d, .cons _ h, e => by
    obtain ⟨v, h1, h2⟩ := RepL.getV (i := i) (v := d) h (by simpa using e)
    exact ⟨v, by simpa using h1, h2⟩
theorem RepL.append {g : GC} {θ : Th} {H : Hp} : ∀ {ds es : List D} {vs ws : List V}, RepL g θ H ds vs → RepL g θ H es ws → RepL g θ H (ds ++ es) (vs ++ ws)
  | _, _, _, _, .nil, h => h
  | _, _, _, _, .cons r t, h => .cons r (RepL.append t h)
theorem RepL.one {g : GC} {θ : Th} {H : Hp} {d : D} {v : V} (h : Rep g θ H d v) : RepL g θ H [d] [v] := .cons h .nil
theorem RepL.take {g : GC} {θ : Th} {H : Hp} : ∀ {ds : List D} {vs : List V} (n : Nat), RepL g θ H ds vs → RepL g θ H (ds.take n) (vs.take n)
  | _, _, 0, _ => by simp; exact .nil
  | _, _, _ + 1, .nil => by simp; exact .nil
  | _, _, n + 1, .cons r t => by simp; exact .cons r (RepL.take n t)
theorem RepL.drop {g : GC} {θ : Th} {H : Hp} : ∀ {ds : List D} {vs : List V} (n : Nat), RepL g θ H ds vs → RepL g θ H (ds.drop n) (vs.drop n)
  | _, _, 0, h => h
  | _, _, _ + 1, .nil => by simp; exact .nil
  | _, _, n + 1, .cons _ t => RepL.drop n t
theorem RepL.reverse {g : GC} {θ : Th} {H : Hp} : ∀ {ds : List D} {vs : List V}, RepL g θ H ds vs → RepL g θ H ds.reverse vs.reverse
  | _, _, .nil => .nil
  | _, _, .cons r t => by
    rw [List.reverse_cons, List.reverse_cons]
    exact (RepL.reverse t).append (.one r)
theorem RepL.set {g : GC} {θ : Th} {H : Hp} {d : D} {v : V} (r : Rep g θ H d v) : ∀ {ds : List D} {vs : List V} (i : Nat), RepL g θ H ds vs → RepL g θ H (ds.set i d) (vs.set i v)
  | _, _, _, .nil => .nil
  | _, _, 0, .cons _ t => .cons r t
  | _, _, i + 1, .cons q t => .cons q (RepL.set r i t)
theorem RepL.rep {g : GC} {θ : Th} {H : Hp} {ds : List D} {vs : List V} (h : RepL g θ H ds vs) : ∀ n : Nat, RepL g θ H (List.replicate n ds).flatten (List.replicate n vs).flatten
  | 0 => .nil
  | n + 1 => by
    rw [List.replicate_succ, List.replicate_succ, List.flatten_cons, List.flatten_cons]
    exact h.append (RepL.rep h n)

mutual
theorem Rep.mono {g : GC} {θ θ' : Th} {H H' : Hp} (x : Ext θ θ' H H') : ∀ (d : D) (v : V), Rep g θ H d v → Rep g θ' H' d v
  | .non, _, h => by cases h; exact .non
  | .bl b, _, h => by cases h; exact .bl b
  | .int i, _, h => by cases h; exact .int i
  | .str s, _, h => by cases h; exact .str s
  | .tup xs, _, h => by
    cases h with
    | tup h1 h3 => exact .tup (x.sqT h1) (RepL.mono x xs _ h3)
  | .lst xs, _, h => by
    cases h with
    | lst h1 h3 => exact .lst (x.sqL h1) (RepL.mono x xs _ h3)
  | .rol xs, _, h => by
    cases h with
    | rol h1 h3 => exact .rol (x.sqR h1) (RepL.mono x xs _ h3)
  | .dic ks vs, _, h => by
    cases h with
    | dic h1 h2 h3 h4 => exact .dic (x.rd h2 h1) (x.notin h2 (rd_there h1)) h3 (RepL.mono x vs _ h4)
  | .obj c fs vs, _, h => by
    cases h with
    | obj h1 h2 h3 h4 h5 => exact .obj h1 (x.fz h3 h2) (x.notin h3 (by rw [h2]; exact fun z => nomatch z)) h4 (RepL.mono x vs _ h5)
  | .ref n, _, h => by
    cases h with
    | ref h1 => exact .ref (x.get h1)
  | .fn f, _, h => by
    cases h with
    | fn h1 => exact .fn h1
theorem RepL.mono {g : GC} {θ θ' : Th} {H H' : Hp} (x : Ext θ θ' H H') : ∀ (ds : List D) (vs : List V), RepL g θ H ds vs → RepL g θ' H' ds vs
  | [], _, h => by cases h; exact .nil
  | d :: ds, _, h => by
    cases h with
    | cons h1 h2 => exact .cons (Rep.mono x d _ h1) (RepL.mono x ds _ h2)
end
end MP
end

section
set_option Elab.async false
set_option linter.all false
set_option maxRecDepth 100000
/-! MP: the store stands in the heap; a place is added, changed, dropped. -/
namespace MP
open PySem PySem.Spec PyProof.Rows L2

inductive RepO (g : GC) (θ : Th) (H : Hp) : O → Addr → Prop
  | lst {xs : List D} {vs : List V} {a : Addr} : H a = some (.lst vs) → RepL g θ H xs vs → RepO g θ H (.lst xs) a
  | dic {ks ds : List D} {kvs : List (Key × V)} {a : Addr} : H a = some (.dK kvs) → ks.map keyOf = kvs.map (fun p => some p.1) → RepL g θ H ds (kvs.map (·.2)) → RepO g θ H (.dic ks ds) a
  | ins {c : Nat} {fs : List Nat} {ds : List D} {vs : List V} {a C dx : Addr} : g.ca c = some C → H a = some (.ins C dx ((fs.map g.an).zip vs)) → fs.length = vs.length → RepL g θ H ds vs → RepO g θ H (.ins c fs ds) a

structure StoOk (g : GC) (θ : Th) (H : Hp) (st : Sto) : Prop where
  len : θ.pl.length = st.length
  nd : θ.pl.Nodup
  hd : ∀ a ∈ θ.hid, H a ≠ none ∧ a ∉ θ.pl
  obj : ∀ (n : Nat) (o : O), st[n]? = some o → ∃ a, θ.pl[n]? = some a ∧ RepO g θ H o a

section
variable {g : GC} {θ θ' : Th} {H H' : Hp} {st st' : Sto} {a p : Addr} {o : O} {n : Nat} {xs ks : List D} {vs : List V}
theorem RepO.there (r : RepO g θ H o a) : H a ≠ none := by
  cases r with
  | lst h _ => rw [h]; exact fun z => nomatch z
  | dic h _ _ => rw [h]; exact fun z => nomatch z
  | ins _ h _ _ => rw [h]; exact fun z => nomatch z
theorem RepO.mut (r : RepO g θ H o a) : Mut (H a) := by
  cases r with
  | lst h _ => rw [h]; exact True.intro
  | dic h _ _ => rw [h]; exact True.intro
  | ins _ h _ _ => rw [h]; exact True.intro
theorem RepO.mono (x : Ext θ θ' H H') (h : H' a = H a) (r : RepO g θ H o a) : RepO g θ' H' o a := by
  cases r with
  | lst h1 h2 => exact .lst (h.trans h1) (RepL.mono x _ _ h2)
  | dic h1 h2 h3 => exact .dic (h.trans h1) h2 (RepL.mono x _ _ h3)
  | ins h1 h2 h3 h4 => exact .ins h1 (h.trans h2) h3 (RepL.mono x _ _ h4)
theorem StoOk.at (s : StoOk g θ H st) (h : θ.pl[n]? = some a) : ∃ o, st[n]? = some o ∧ RepO g θ H o a := by
  have hn : n < θ.pl.length := (List.getElem?_eq_some_iff.mp h).1
  have hn' : n < st.length := by rw [← s.len]; exact hn
  obtain ⟨b, e, r⟩ := s.obj n st[n] (List.getElem?_eq_getElem hn')
  rw [h] at e
  cases e
  exact ⟨_, List.getElem?_eq_getElem hn', r⟩
theorem StoOk.mem (s : StoOk g θ H st) (h : a ∈ θ) : H a ≠ none := by
  rcases h with h | h
  · obtain ⟨n, e⟩ := List.getElem?_of_mem h
    obtain ⟨o, _, r⟩ := s.at e
    exact r.there
  · exact (s.hd a h).1
theorem StoOk.fresh (s : StoOk g θ H st) (h : H p = none) : p ∉ θ := fun z => s.mem z h
theorem StoOk.memMut (s : StoOk g θ H st) (h : a ∈ θ.pl) : Mut (H a) := by
  obtain ⟨n, e⟩ := List.getElem?_of_mem h
  obtain ⟨o, _, r⟩ := s.at e
  exact r.mut
/-- the places as they were, the heap as it was at them -/
theorem StoOk.same (s : StoOk g θ H st) (x : Ext θ θ H H') (h : ∀ a ∈ θ.pl, H' a = H a) : StoOk g θ H' st :=
  ⟨s.len, s.nd, fun a ha => ⟨x.there a (s.hd a ha).1, (s.hd a ha).2⟩, fun n o e => let ⟨a, e1, r⟩ := s.obj n o e; ⟨a, e1, r.mono x (h a (List.mem_of_getElem? e1))⟩⟩
/-- a new object that is no place -/
theorem ext_new {u : HO} (h : H p = none) : Ext θ θ H (upd H p u) :=
  ⟨⟨[], by simp, by simp⟩, rfl, fun a v _ e => by rw [upd_ne (ne_of_none e h)]; exact e, fun a e => by
    by_cases z : a = p
    · subst z; rw [upd_same]; exact fun z => nomatch z
    · rw [upd_ne z]; exact e⟩
theorem StoOk.new {u : HO} (s : StoOk g θ H st) (h : H p = none) : StoOk g θ (upd H p u) st :=
  s.same (ext_new h) fun a ha => upd_ne fun z => s.fresh h (by rw [← z]; exact .inl ha)
/-- a new object that is a new place -/
theorem ext_add {u : HO} (h : H p = none) : Ext θ (θ.add p) H (upd H p u) :=
  ⟨⟨[p], rfl, fun a ha => by rw [List.mem_singleton.mp ha]; exact h⟩, rfl, (ext_new (θ := θ) h).keep, (ext_new (θ := θ) h).there⟩
theorem StoOk.add {u : HO} (s : StoOk g θ H st) (h : H p = none) (r : RepO g (θ.add p) (upd H p u) o p) : StoOk g (θ.add p) (upd H p u) (st ++ [o]) := by
  have hp := s.fresh h
  refine ⟨by show (θ.pl ++ [p]).length = _; rw [List.length_append, List.length_append, s.len]; rfl, ?_, fun a ha => ⟨(ext_add (θ := θ) h).there a (s.hd a ha).1, fun z => ?_⟩, fun n o' e => ?_⟩
  · show (θ.pl ++ [p]).Nodup
    rw [List.nodup_append]
    exact ⟨s.nd, by simp, fun x hx y hy => by rw [List.mem_singleton.mp hy]; intro z; subst z; exact hp (.inl hx)⟩
  · rcases List.mem_append.mp (show a ∈ θ.pl ++ [p] from z) with z | z
    · exact (s.hd a ha).2 z
    · exact hp (by rw [← List.mem_singleton.mp z]; exact .inr ha)
  · by_cases hn : n < st.length
    · rw [List.getElem?_append_left hn] at e
      obtain ⟨a, e1, r1⟩ := s.obj n o' e
      refine ⟨a, by show (θ.pl ++ [p])[n]? = _; rw [List.getElem?_append_left (by rw [s.len]; exact hn)]; exact e1, r1.mono (ext_add h) (upd_ne fun z => hp ?_)⟩
      rw [← z]; exact Th.of_get e1
    · rw [List.getElem?_append_right (Nat.le_of_not_lt hn)] at e
      obtain ⟨i, e⟩ : ∃ i, n - st.length = i := ⟨_, rfl⟩
      rename_i e0
      rw [e] at e0
      cases i with
      | zero =>
        simp at e0
        subst e0
        exact ⟨p, by show (θ.pl ++ [p])[n]? = _; rw [List.getElem?_append_right (by rw [s.len]; omega), s.len, e]; rfl, r⟩
      | succ i => simp at e0
theorem StoOk.last (s : StoOk g θ H st) (p : Addr) : (θ.add p).pl[st.length]? = some p := by
  show (θ.pl ++ [p])[st.length]? = _
  rw [← s.len, List.getElem?_append_right (Nat.le_refl _), Nat.sub_self]
  rfl
/-- a place's object is changed -/
theorem ext_set {u : HO} (h : a ∈ θ.pl) : Ext θ θ H (upd H a u) :=
  ⟨⟨[], by simp, by simp⟩, rfl, fun b v hb e => by rw [upd_ne fun z => hb (by rw [z]; exact h)]; exact e, fun b e => by
    by_cases z : b = a
    · subst z; rw [upd_same]; exact fun z => nomatch z
    · rw [upd_ne z]; exact e⟩
theorem StoOk.put {u : HO} (s : StoOk g θ H st) (h : θ.pl[n]? = some a) (r : RepO g θ (upd H a u) o a) : StoOk g θ (upd H a u) (st.set n o) := by
  have ha : a ∈ θ.pl := List.mem_of_getElem? h
  refine ⟨by rw [List.length_set]; exact s.len, s.nd, fun b hb => ⟨(ext_set ha).there b (s.hd b hb).1, (s.hd b hb).2⟩, fun m o' e => ?_⟩
  by_cases hm : m = n
  · subst hm
    have hl : m < st.length := by rw [← s.len]; exact (List.getElem?_eq_some_iff.mp h).1
    rw [List.getElem?_set_self hl] at e
    cases e
    exact ⟨a, h, r⟩
  · rw [List.getElem?_set_ne (Ne.symm hm)] at e
    obtain ⟨b, e1, r1⟩ := s.obj m o' e
    refine ⟨b, e1, r1.mono (ext_set ha) (upd_ne fun z => hm ?_)⟩
    subst z
    obtain ⟨h1, q1⟩ := List.getElem?_eq_some_iff.mp e1
    obtain ⟨h2, q2⟩ := List.getElem?_eq_some_iff.mp h
    exact (List.getElem_inj s.nd).mp (q1.trans q2.symm)
end

/-! ### worked on -/
section
variable {g : GC} {θ θ' : Th} {H H' : Hp} {st : Sto} {p : Addr}
theorem notin_hid {a : Addr} (hp : H p = none) (h : a ∉ θ) (ht : H a ≠ none) : a ∉ θ.hide p := fun z => z.elim (fun z => h (.inl z)) fun z => (List.mem_cons.mp z).elim (fun e => ht (by rw [e]; exact hp)) fun z => h (.inr z)
theorem notin_hide {a : Addr} (h : a ∉ θ.hide p) : a ∉ θ := fun z => h (z.elim .inl fun z => .inr (List.mem_cons_of_mem _ z))
/-- values are told as before -/
structure Mv (θ θ' : Th) (H H' : Hp) : Prop where
  keep : ∀ a u, a ∉ θ → H a = some u → H' a = some u ∧ a ∉ θ'
  pl : ∀ (n : Nat) (a : Addr), θ.pl[n]? = some a → θ'.pl[n]? = some a
theorem Mv.rd (m : Mv θ θ' H H') {a : Addr} {u : HO} (h : a ∉ θ) (r : Rd H a u) : Rd H' a u ∧ a ∉ θ' := by
  rcases r with r | ⟨o, r⟩
  · exact ⟨.inl (m.keep a _ h r).1, (m.keep a _ h r).2⟩
  · exact ⟨.inr ⟨o, (m.keep a _ h r).1⟩, (m.keep a _ h r).2⟩
mutual
theorem Rep.to (m : Mv θ θ' H H') : ∀ (d : D) (v : V), Rep g θ H d v → Rep g θ' H' d v
  | .non, _, h => by cases h; exact .non
  | .bl b, _, h => by cases h; exact .bl b
  | .int i, _, h => by cases h; exact .int i
  | .str s, _, h => by cases h; exact .str s
  | .tup xs, _, h => by
    cases h with
    | tup h1 h3 => exact .tup (h1.imp (fun q => m.rd q.2 q.1) id) (RepL.to m xs _ h3)
  | .lst xs, _, h => by
    cases h with
    | lst h1 h3 => exact .lst (m.keep _ _ h1.2 h1.1) (RepL.to m xs _ h3)
  | .rol xs, _, h => by
    cases h with
    | rol h1 h3 => exact .rol (h1.imp (fun q => m.rd q.2 q.1) id) (RepL.to m xs _ h3)
  | .dic ks vs, _, h => by
    cases h with
    | dic h1 h2 h3 h4 => exact .dic (m.rd h2 h1).1 (m.rd h2 h1).2 h3 (RepL.to m vs _ h4)
  | .obj c fs vs, _, h => by
    cases h with
    | obj h1 h2 h3 h4 h5 => exact .obj h1 (m.keep _ _ h3 h2).1 (m.keep _ _ h3 h2).2 h4 (RepL.to m vs _ h5)
  | .ref n, _, h => by
    cases h with
    | ref h1 => exact .ref (m.pl _ _ h1)
  | .fn f, _, h => by
    cases h with
    | fn h1 => exact .fn h1
theorem RepL.to (m : Mv θ θ' H H') : ∀ (ds : List D) (vs : List V), RepL g θ H ds vs → RepL g θ' H' ds vs
  | [], _, h => by cases h; exact .nil
  | d :: ds, _, h => by
    cases h with
    | cons h1 h2 => exact .cons (Rep.to m d _ h1) (RepL.to m ds _ h2)
end
theorem RepO.to {o : O} {a : Addr} (m : Mv θ θ' H H') (e : H' a = H a) (r : RepO g θ H o a) : RepO g θ' H' o a := by
  cases r with
  | lst h1 h2 => exact .lst (e.trans h1) (RepL.to m _ _ h2)
  | dic h1 h2 h3 => exact .dic (e.trans h1) h2 (RepL.to m _ _ h3)
  | ins h1 h2 h3 h4 => exact .ins h1 (e.trans h2) h3 (RepL.to m _ _ h4)
theorem Mv.hide (hp : H p = none) : Mv θ (θ.hide p) H H := ⟨fun _ _ h e => ⟨e, notin_hid hp h (by rw [e]; exact fun z => nomatch z)⟩, fun _ _ h => h⟩
theorem Mv.bare : Mv (θ.hide p) θ H H := ⟨fun _ _ h e => ⟨e, notin_hide h⟩, fun _ _ h => h⟩
theorem Rep.hide (hp : H p = none) (d : D) (v : V) : Rep g θ H d v → Rep g (θ.hide p) H d v := Rep.to (.hide hp) d v
theorem RepL.hide (hp : H p = none) (d : List D) (v : List V) : RepL g θ H d v → RepL g (θ.hide p) H d v := RepL.to (.hide hp) d v
theorem Rep.bare (d : D) (v : V) : Rep g (θ.hide p) H d v → Rep g θ H d v := Rep.to .bare d v
theorem RepL.bare (d : List D) (v : List V) : RepL g (θ.hide p) H d v → RepL g θ H d v := RepL.to .bare d v
/-- the heap without what is at p -/
def era (H : Hp) (p : Addr) : Hp := fun b => if b = p then none else H b
theorem era_same : era H p p = none := by unfold era; rw [if_pos rfl]
theorem era_ne {a : Addr} (h : a ≠ p) : era H p a = H a := by unfold era; rw [if_neg h]
theorem era_upd {u : HO} (h : H p = some u) : upd (era H p) p u = H := by
  funext b
  by_cases z : b = p
  · rw [z, upd_same, h]
  · rw [upd_ne z, era_ne z]
theorem hid_ne {a : Addr} (h : a ∉ θ.hide p) : a ≠ p := fun z => h (by rw [z]; exact .inr List.mem_cons_self)
theorem Mv.era : Mv (θ.hide p) θ H (era H p) := ⟨fun _ _ h e => ⟨(era_ne (hid_ne h)).trans e, notin_hide h⟩, fun _ _ h => h⟩
theorem RepO.hide {o : O} {a : Addr} (hp : H p = none) (r : RepO g θ H o a) : RepO g (θ.hide p) H o a := r.to (.hide hp) rfl
theorem RepO.bare {o : O} {a : Addr} (r : RepO g (θ.hide p) H o a) : RepO g θ H o a := r.to .bare rfl
/-- a new object that is worked on from now on -/
theorem StoOk.hide {u : HO} (s : StoOk g θ H st) (hp : H p = none) : StoOk g (θ.hide p) (upd H p u) st := by
  have x := ext_new (u := u) (θ := θ.hide p) hp
  refine ⟨s.len, s.nd, fun a ha => ?_, fun n o e => ?_⟩
  · rcases List.mem_cons.mp (show a ∈ p :: θ.hid from ha) with z | z
    · rw [z, upd_same]
      exact ⟨fun z => (nomatch z), fun z => s.fresh hp (.inl z)⟩
    · exact ⟨x.there a (s.hd a z).1, (s.hd a z).2⟩
  · obtain ⟨a, e1, r⟩ := s.obj n o e
    refine ⟨a, e1, (r.hide hp).mono x (upd_ne fun z => s.fresh hp (by rw [← z]; exact Th.of_get e1))⟩
theorem Rep.hid {u : HO} {d : D} {v : V} (hp : H p = none) (r : Rep g θ H d v) : Rep g (θ.hide p) (upd H p u) d v := Rep.mono (ext_new hp) _ _ (Rep.hide hp _ _ r)
theorem StoOk.bare (s : StoOk g (θ.hide p) H st) : StoOk g θ H st := ⟨s.len, s.nd, fun a ha => s.hd a (List.mem_cons_of_mem _ ha), fun n o e => let ⟨a, e1, r⟩ := s.obj n o e; ⟨a, e1, r.bare⟩⟩
theorem StoOk.nohid (s : StoOk g (θ.hide p) H st) {n : Nat} {a : Addr} (h : θ.pl[n]? = some a) : a ≠ p := fun z => (s.hd p List.mem_cons_self).2 (by rw [← z]; exact List.mem_of_getElem? h)
theorem StoOk.era (s : StoOk g (θ.hide p) H st) (hp : p ∉ θ.hid) : StoOk g θ (era H p) st :=
  ⟨s.len, s.nd, fun a ha => ⟨by rw [era_ne fun z => hp (by rw [← z]; exact ha)]; exact (s.hd a (List.mem_cons_of_mem _ ha)).1, (s.hd a (List.mem_cons_of_mem _ ha)).2⟩, fun n o e => let ⟨a, e1, r⟩ := s.obj n o e; ⟨a, e1, r.to .era (era_ne (s.nohid e1))⟩⟩
theorem Ext.bare {u : HO} {η : Th} (hp : H p = none) (x : Ext (θ.hide p) η (upd H p u) H') : ∃ θ', η = θ'.hide p ∧ Ext θ θ' H H' := by
  obtain ⟨new, e, f⟩ := x.pre
  refine ⟨⟨η.pl, θ.hid⟩, ?_, ⟨⟨new, e, fun a ha => ?_⟩, rfl, fun a v ha hv => ?_, fun a ha => x.there a ?_⟩⟩
  · have := x.hid
    cases η
    cases this
    rfl
  · have := f a ha
    by_cases z : a = p
    · subst z; exact hp
    · rw [upd_ne z] at this; exact this
  · exact x.keep a v ha (by rw [upd_ne (ne_of_none hv hp)]; exact hv)
  · rw [upd_ne fun z => ha (by rw [z]; exact hp)]; exact ha
theorem Ext.era {u : HO} {η : Th} (hp : H p = none) (s : StoOk g θ H st) (x : Ext (θ.hide p) η (upd H p u) H') : ∃ θ', η = θ'.hide p ∧ Ext θ θ' H (era H' p) ∧ H' p = some u ∧ p ∉ θ'.hid := by
  obtain ⟨new, e, f⟩ := x.pre
  refine ⟨⟨η.pl, θ.hid⟩, ?_, ⟨⟨new, e, fun a ha => ?_⟩, rfl, fun a v ha hv => ?_, fun a ha => ?_⟩, x.keep p u (fun z => s.fresh hp (.inl z)) upd_same, fun z => s.fresh hp (.inr z)⟩
  · have := x.hid
    cases η
    cases this
    rfl
  · have := f a ha
    by_cases z : a = p
    · subst z; exact hp
    · rw [upd_ne z] at this; exact this
  · have z : a ≠ p := ne_of_none hv hp
    rw [era_ne z]
    exact x.keep a v ha (by rw [upd_ne z]; exact hv)
  · have z : a ≠ p := fun z => ha (by rw [z]; exact hp)
    rw [era_ne z]
    exact x.there a (by rw [upd_ne z]; exact ha)
end

/-! ### reading -/
section
variable {g : GC} {θ : Th} {H : Hp} {st : Sto} {d : D} {v : V} {xs : List D}
/-- a list or tuple, wherever it stands -/
theorem sq_rep (s : StoOk g θ H st) (r : Rep g θ H d v) (h : sq st d = some xs) : ∃ a vs, v = .ref a ∧ (SqL g.K H a vs ∨ SqT g.K H a vs) ∧ RepL g θ H xs vs := by
  cases r with
  | tup h1 h2 =>
    simp only [sq, Option.some.injEq] at h
    subst h
    exact ⟨_, _, rfl, .inr h1.to, h2⟩
  | lst h1 h2 =>
    simp only [sq, Option.some.injEq] at h
    subst h
    exact ⟨_, _, rfl, .inl h1.to, h2⟩
  | rol h1 h2 =>
    simp only [sq, Option.some.injEq] at h
    subst h
    exact ⟨_, _, rfl, .inl h1.to, h2⟩
  | ref e =>
    obtain ⟨o, e1, r1⟩ := s.at e
    cases r1 with
    | lst h1 h2 =>
      simp only [sq, e1, Option.some.injEq] at h
      subst h
      exact ⟨_, _, rfl, .inl (.inl (.inl h1)), h2⟩
    | _ => simp [sq, e1] at h
  | _ => simp [sq] at h
theorem top_rep (s : StoOk g θ H st) (r : Rep g θ H d v) (h : top st d = .lst xs) : ∃ a vs, v = .ref a ∧ H a = some (.lst vs) ∧ RepL g θ H xs vs := by
  cases r with
  | lst h1 h2 =>
    simp only [top, D.lst.injEq] at h
    subst h
    exact ⟨_, _, rfl, h1.1, h2⟩
  | ref e =>
    obtain ⟨o, e1, r1⟩ := s.at e
    cases r1 with
    | lst h1 h2 =>
      simp only [top, e1, D.lst.injEq] at h
      subst h
      exact ⟨_, _, rfl, h1, h2⟩
    | _ => simp [top, e1] at h
  | _ => simp [top] at h

mutual
theorem pd_rep : ∀ (d : D) (v : V) (p : PyData), Rep g θ H d v → d.pd = some p → Dp g.K H v p
  | .non, _, _, r, h => by
    cases r
    simp only [D.pd, Option.some.injEq] at h
    subst h
    exact .non
  | .bl b, _, _, r, h => by
    cases r
    simp only [D.pd, Option.some.injEq] at h
    subst h
    exact .bl b
  | .int i, _, _, r, h => by
    cases r
    simp only [D.pd, Option.some.injEq] at h
    subst h
    exact .int i
  | .str i, _, _, r, h => by
    cases r
    simp only [D.pd, Option.some.injEq] at h
    subst h
    exact .str _
  | .tup xs, _, _, r, h => by
    cases r with
    | tup h1 h2 =>
      simp only [D.pd, Option.map_eq_some_iff] at h
      obtain ⟨ps, h3, h4⟩ := h
      subst h4
      exact .tup h1.to (pds_rep xs _ ps h2 h3)
  | .lst xs, _, _, r, h => by
    cases r with
    | lst h1 h2 =>
      simp only [D.pd, Option.map_eq_some_iff] at h
      obtain ⟨ps, h3, h4⟩ := h
      subst h4
      exact .lst h1.to (pds_rep xs _ ps h2 h3)
  | .rol _, _, _, _, h => by simp [D.pd] at h
  | .dic _ _, _, _, _, h => by simp [D.pd] at h
  | .obj _ _ _, _, _, _, h => by simp [D.pd] at h
  | .ref _, _, _, _, h => by simp [D.pd] at h
  | .fn _, _, _, _, h => by simp [D.pd] at h
theorem pds_rep : ∀ (ds : List D) (vs : List V) (ps : List PyData), RepL g θ H ds vs → pds ds = some ps → DpAll g.K H vs ps
  | [], _, _, r, h => by
    cases r
    simp only [pds, Option.some.injEq] at h
    subst h
    exact .nil
  | d :: ds, _, _, r, h => by
    cases r with
    | cons r1 r2 =>
      cases e1 : d.pd with
      | none => simp [pds, e1] at h
      | some a =>
        cases e2 : pds ds with
        | none => simp [pds, e1, e2] at h
        | some b =>
          simp only [pds, e1, e2, Option.some.injEq] at h
          subst h
          exact .cons (pd_rep d _ a r1 e1) (pds_rep ds _ b r2 e2)
end
theorem toppd_rep {p : PyData} (s : StoOk g θ H st) (r : Rep g θ H d v) (h : (top st d).pd = some p) : Dp g.K H v p := by
  cases d with
  | ref n =>
    cases r with
    | ref e =>
      obtain ⟨o, e1, r1⟩ := s.at e
      cases r1 with
      | @lst xs vs a h1 h2 =>
        simp only [top, e1, D.pd, Option.map_eq_some_iff] at h
        obtain ⟨ps, h3, h4⟩ := h
        subst h4
        exact .lst (.inl (.inl h1)) (pds_rep xs _ ps h2 h3)
      | _ => simp [top, e1, D.pd] at h
  | _ => exact pd_rep _ _ p r h
end

/-! ### the slots -/
/-- the slots hold the values -/
def EnvOk (g : GC) (θ : Th) (H : Hp) (ρ : Env) (σ : L2.St) : Prop := ∀ (i : Nat) (d : D), ρ[i]? = some (some d) → ∃ v, σ[i]? = some (some v) ∧ Rep g θ H d v
section
variable {g : GC} {θ θ' : Th} {H H' : Hp} {ρ : Env} {σ : L2.St}
theorem EnvOk.mono (h : EnvOk g θ H ρ σ) (x : Ext θ θ' H H') : EnvOk g θ' H' ρ σ := fun i d e => let ⟨v, h1, h2⟩ := h i d e; ⟨v, h1, Rep.mono x _ _ h2⟩
theorem EnvOk.set (h : EnvOk g θ H ρ σ) {i : Nat} {d : D} {v : V} (hl : ρ.length ≤ σ.length) (r : Rep g θ H d v) : EnvOk g θ H (ρ.set i (some d)) (σ.set i (some v)) := fun j e hj => by
  by_cases z : j = i
  · subst z
    by_cases hi : j < ρ.length
    · rw [List.getElem?_set_self hi] at hj
      cases hj
      exact ⟨v, by rw [List.getElem?_set_self (Nat.lt_of_lt_of_le hi hl)], r⟩
    · rw [List.getElem?_eq_none (by rw [List.length_set]; exact Nat.le_of_not_lt hi)] at hj
      cases hj
  · rw [List.getElem?_set_ne (Ne.symm z)] at hj
    obtain ⟨w, h1, h2⟩ := h j e hj
    exact ⟨w, by rw [List.getElem?_set_ne (Ne.symm z)]; exact h1, h2⟩
theorem EnvOk.wipe (h : EnvOk g θ H ρ σ) : ∀ vs : List Nat, EnvOk g θ H (wipeE ρ vs) (L2.wipe σ vs)
  | [] => h
  | v :: vs => fun j e hj => by
    unfold wipeE at hj
    unfold L2.wipe
    by_cases z : v = j
    · subst z
      by_cases hi : v < (wipeE ρ vs).length
      · rw [List.getElem?_set_self hi] at hj
        cases hj
      · rw [List.getElem?_eq_none (by rw [List.length_set]; exact Nat.le_of_not_lt hi)] at hj
        cases hj
    · rw [List.getElem?_set_ne z] at hj
      obtain ⟨w, h1, h2⟩ := EnvOk.wipe h vs j e hj
      exact ⟨w, by rw [List.getElem?_set_ne z]; exact h1, h2⟩
end
theorem wipeE_length (ρ : Env) : ∀ vs : List Nat, (wipeE ρ vs).length = ρ.length
  | [] => rfl
  | v :: vs => by unfold wipeE; rw [List.length_set, wipeE_length ρ vs]
end MP
end

section
set_option Elab.async false
set_option linter.all false
set_option maxRecDepth 100000
/-! MP: what is asked of an expression, a text, a def; how pieces follow one another. -/
namespace MP
open PySem PySem.Spec PyProof.Rows L2

/-- an error in flight -/
def RepX (g : GC) (θ : Th) (H : Hp) (x : D) (c : Value) (dx : Option Addr) : Prop :=
  match x with
  | .obj ci fs ds => ∃ C, g.ca ci = some C ∧ c = .ref C ∧ ((fs = [] ∧ ds = [] ∧ dx = none) ∨
      ∃ (d : Addr) (vs : List V), dx = some d ∧ H d = some (.xd ((fs.map g.an).zip vs)) ∧ d ∉ θ ∧ fs.length = vs.length ∧ RepL g θ H ds vs)
  | _ => False
abbrev WK := Value → Option Addr → Hp → Prop

/-- a value has come; fr: a list that nobody else has -/
def OkV (g : GC) (fr : Bool) (θ : Th) (H : Hp) (d : D) (st : Sto) (Q : VK) : Prop :=
  match fr with
  | false => ∀ (θ' : Th) (H' : Hp) (v : V), Ext θ θ' H H' → StoOk g θ' H' st → Rep g θ' H' d v → Q v H'
  | true => ∀ xs, d = .lst xs → ∀ (θ' : Th) (H' : Hp) (vs : List V) (p : Addr), Ext θ θ' H H' → StoOk g θ' H' st → RepL g θ' H' xs vs → H' p = none → Q (.ref p) (upd H' p (.lst vs))
def Aft (g : GC) (fr : Bool) (θ : Th) (H : Hp) (W : WK) (Q : VK) : R D → Prop
  | .ok d st => (fr = true → ∃ xs, d = .lst xs) ∧ OkV g fr θ H d st Q
  | .exc x st => ∀ (θ' : Th) (H' : Hp) (c : Value) (dx : Option Addr), Ext θ θ' H H' → StoOk g θ' H' st → RepX g θ' H' x c dx → W c dx H'
  | .no => False
abbrev After (g : GC) := Aft g false

section
variable {g : GC} {fr : Bool} {θ θ1 : Th} {H H1 : Hp} {W : WK} {Q : VK} {r : R D}
theorem OkV.shift {d : D} {st : Sto} (h : OkV g fr θ H d st Q) (x : Ext θ θ1 H H1) : OkV g fr θ1 H1 d st Q := by
  cases fr with
  | false => exact fun θ' H' v x' => h θ' H' v (x.trans x')
  | true => exact fun xs e θ' H' vs p x' => h xs e θ' H' vs p (x.trans x')
theorem Aft.shift (h : Aft g fr θ H W Q r) (x : Ext θ θ1 H H1) : Aft g fr θ1 H1 W Q r := by
  cases r with
  | ok d st => exact ⟨h.1, h.2.shift x⟩
  | exc y st => exact fun θ' H' c dx x' => h θ' H' c dx (x.trans x')
  | no => exact h
/-- a new list -/
theorem OkV.new {xs : List D} {st : Sto} (h : OkV g fr θ H (.lst xs) st Q) {vs : List V} {p : Addr} (x : Ext θ θ1 H H1) (s : StoOk g θ1 H1 st) (r : RepL g θ1 H1 xs vs) (hp : H1 p = none) : Q (.ref p) (upd H1 p (.lst vs)) := by
  cases fr with
  | false => exact h θ1 _ _ (x.trans (ext_new hp)) (s.new hp) (.lst ⟨upd_same, s.fresh hp⟩ (RepL.mono (ext_new hp) _ _ r))
  | true => exact h xs rfl θ1 H1 vs p x s r hp
theorem Aft.ok {d : D} {st : Sto} (h : After g θ H W Q (.ok d st)) {v : V} (x : Ext θ θ1 H H1) (s : StoOk g θ1 H1 st) (r : Rep g θ1 H1 d v) : Q v H1 := h.2 θ1 H1 v x s r
/-- where it is as it was -/
theorem Aft.val {d : D} {st : Sto} (h : After g θ H W Q (.ok d st)) {v : V} (s : StoOk g θ H st) (r : Rep g θ H d v) : Q v H := h.2 θ H v .refl s r
/-- a new tuple -/
theorem Aft.tup {xs : List D} {st : Sto} (h : After g θ H W Q (.ok (.tup xs) st)) {vs : List V} {p : Addr} (s : StoOk g θ H st) (r : RepL g θ H xs vs) (hp : H p = none) : Q (.ref p) (upd H p (.tup vs)) :=
  h.2 θ _ _ (ext_new hp) (s.new hp) (.tup (.inl ⟨.inl upd_same, s.fresh hp⟩) (RepL.mono (ext_new hp) _ _ r))
theorem Aft.lst {xs : List D} {st : Sto} (h : Aft g fr θ H W Q (.ok (.lst xs) st)) {vs : List V} {p : Addr} (s : StoOk g θ H st) (r : RepL g θ H xs vs) (hp : H p = none) : Q (.ref p) (upd H p (.lst vs)) :=
  h.2.new .refl s r hp
end

/-- an expression's reading -/
def tE (g : GC) (fr : Bool) (W : WX) (m : Env → Sto → R D) : TE := fun σ H Q =>
  ∃ θ st ρ, StoOk g θ H st ∧ EnvOk g θ H ρ σ ∧ ρ.length ≤ σ.length ∧ Aft g fr θ H (fun c dx H' => W c dx σ H') Q (m ρ st)
/-- an argument list's -/
def AftL (g : GC) (θ : Th) (H : Hp) (W : WK) (Q : List V → Hp → Prop) : R D → Prop
  | .ok d st => ∃ xs, d = .tup xs ∧ ∀ (θ' : Th) (H' : Hp) (vs : List V), Ext θ θ' H H' → StoOk g θ' H' st → RepL g θ' H' xs vs → Q vs H'
  | .exc x st => ∀ (θ' : Th) (H' : Hp) (c : Value) (dx : Option Addr), Ext θ θ' H H' → StoOk g θ' H' st → RepX g θ' H' x c dx → W c dx H'
  | .no => False
def tL (g : GC) (W : WX) (m : Env → Sto → R D) : TA := fun σ H Q =>
  ∃ θ st ρ, StoOk g θ H st ∧ EnvOk g θ H ρ σ ∧ ρ.length ≤ σ.length ∧ AftL g θ H (fun c dx H' => W c dx σ H') Q (m ρ st)
/-- a test's -/
def AftB (g : GC) (θ : Th) (H : Hp) (W : WK) (Q : Bool → Hp → Prop) : R Bool → Prop
  | .ok b st => ∀ (θ' : Th) (H' : Hp), Ext θ θ' H H' → StoOk g θ' H' st → Q b H'
  | .exc x st => ∀ (θ' : Th) (H' : Hp) (c : Value) (dx : Option Addr), Ext θ θ' H H' → StoOk g θ' H' st → RepX g θ' H' x c dx → W c dx H'
  | .no => False
def tB (g : GC) (W : WX) (m : Env → Sto → R Bool) : TT := fun σ H Q =>
  ∃ θ st ρ, StoOk g θ H st ∧ EnvOk g θ H ρ σ ∧ ρ.length ≤ σ.length ∧ AftB g θ H (fun c dx H' => W c dx σ H') Q (m ρ st)
/-- a text's -/
def AftS (g : GC) (θ : Th) (H : Hp) (W : WX) (n : Nat) (D : Ends) : RS → Prop
  | .ok (.next ρ) st => ∀ (θ' : Th) (H' : Hp) (σ' : L2.St), Ext θ θ' H H' → StoOk g θ' H' st → EnvOk g θ' H' ρ σ' → ρ.length ≤ σ'.length → σ'.length = n → D.nx σ' H'
  | .ok (.ret d) st => ∀ (θ' : Th) (H' : Hp) (v : V), Ext θ θ' H H' → StoOk g θ' H' st → Rep g θ' H' d v → D.rt v H'
  | .exc x st => ∀ (θ' : Th) (H' : Hp) (σ' : L2.St) (c : Value) (dx : Option Addr), Ext θ θ' H H' → StoOk g θ' H' st → RepX g θ' H' x c dx → W c dx σ' H'
  | .no => False
def tS (g : GC) (W : WX) (m : Env → Sto → RS) : TS := fun D σ H =>
  ∃ θ st ρ, StoOk g θ H st ∧ EnvOk g θ H ρ σ ∧ ρ.length ≤ σ.length ∧ AftS g θ H W σ.length D (m ρ st)

section
variable {g : GC} {fr : Bool} {θ θ1 : Th} {H H1 : Hp} {W : WX} {σ : L2.St}
theorem AftL.shift {W : WK} {Q : List V → Hp → Prop} {r : R D} (h : AftL g θ H W Q r) (x : Ext θ θ1 H H1) : AftL g θ1 H1 W Q r := by
  cases r with
  | ok d st => obtain ⟨xs, e, h⟩ := h; exact ⟨xs, e, fun θ' H' v x' => h θ' H' v (x.trans x')⟩
  | exc y st => exact fun θ' H' c dx x' => h θ' H' c dx (x.trans x')
  | no => exact h
theorem AftB.shift {W : WK} {Q : Bool → Hp → Prop} {r : R Bool} (h : AftB g θ H W Q r) (x : Ext θ θ1 H H1) : AftB g θ1 H1 W Q r := by
  cases r with
  | ok d st => exact fun θ' H' x' => h θ' H' (x.trans x')
  | exc y st => exact fun θ' H' c dx x' => h θ' H' c dx (x.trans x')
  | no => exact h
theorem AftS.shift {n : Nat} {D : Ends} {r : RS} (h : AftS g θ H W n D r) (x : Ext θ θ1 H H1) : AftS g θ1 H1 W n D r := by
  cases r with
  | ok f st =>
    cases f with
    | next ρ => exact fun θ' H' σ' x' => h θ' H' σ' (x.trans x')
    | ret d => exact fun θ' H' v x' => h θ' H' v (x.trans x')
  | exc y st => exact fun θ' H' σ' c dx x' => h θ' H' σ' c dx (x.trans x')
  | no => exact h
/-- first a piece, then the rest -/
theorem tE_step {m : Env → Sto → R D} {Rr : VK} {st : Sto} {ρ : Env} (s : StoOk g θ H st) (e : EnvOk g θ H ρ σ) (l : ρ.length ≤ σ.length)
    (h : match m ρ st with
      | .ok d st1 => ∀ (θ1 : Th) (H1 : Hp) (x : V), Ext θ θ1 H H1 → StoOk g θ1 H1 st1 → EnvOk g θ1 H1 ρ σ → Rep g θ1 H1 d x → Rr x H1
      | .exc y st1 => ∀ (θ' : Th) (H' : Hp) (c : Value) (dx : Option Addr), Ext θ θ' H H' → StoOk g θ' H' st1 → RepX g θ' H' y c dx → W c dx σ H'
      | .no => False) : tE g false W m σ H Rr := by
  refine ⟨θ, st, ρ, s, e, l, ?_⟩
  cases q : m ρ st with
  | ok d st1 =>
    rw [q] at h
    exact ⟨(fun z => nomatch z), fun θ1 H1 x x1 s1 r1 => h θ1 H1 x x1 s1 (e.mono x1) r1⟩
  | exc y st1 => rw [q] at h; exact h
  | no => rw [q] at h; exact h
theorem tE_bind {m : Env → Sto → R D} {f : D → Sto → R D} {Q Rr : VK} {st : Sto} {ρ : Env} (s : StoOk g θ H st) (e : EnvOk g θ H ρ σ) (l : ρ.length ≤ σ.length)
    (ha : Aft g fr θ H (fun c dx H' => W c dx σ H') Q ((m ρ st).bind f))
    (h : ∀ (d : D) (st1 : Sto) (θ1 : Th) (H1 : Hp) (x : V), Ext θ θ1 H H1 → StoOk g θ1 H1 st1 → EnvOk g θ1 H1 ρ σ → Rep g θ1 H1 d x → Aft g fr θ1 H1 (fun c dx H' => W c dx σ H') Q (f d st1) → Rr x H1) : tE g false W m σ H Rr := by
  refine tE_step s e l ?_
  cases q : m ρ st with
  | ok d st1 =>
    rw [q] at ha
    exact fun θ1 H1 x x1 s1 e1 r1 => h d st1 θ1 H1 x x1 s1 e1 r1 (Aft.shift ha x1)
  | exc y st1 => rw [q] at ha; exact ha
  | no => rw [q] at ha; exact ha
theorem tE_bindL {m : Env → Sto → R D} {f : D → Sto → R D} {Q : List V → Hp → Prop} {Rr : VK} {st : Sto} {ρ : Env} (s : StoOk g θ H st) (e : EnvOk g θ H ρ σ) (l : ρ.length ≤ σ.length)
    (ha : AftL g θ H (fun c dx H' => W c dx σ H') Q ((m ρ st).bind f))
    (h : ∀ (d : D) (st1 : Sto) (θ1 : Th) (H1 : Hp) (x : V), Ext θ θ1 H H1 → StoOk g θ1 H1 st1 → EnvOk g θ1 H1 ρ σ → Rep g θ1 H1 d x → AftL g θ1 H1 (fun c dx H' => W c dx σ H') Q (f d st1) → Rr x H1) : tE g false W m σ H Rr := by
  refine tE_step s e l ?_
  cases q : m ρ st with
  | ok d st1 =>
    rw [q] at ha
    exact fun θ1 H1 x x1 s1 e1 r1 => h d st1 θ1 H1 x x1 s1 e1 r1 (AftL.shift ha x1)
  | exc y st1 => rw [q] at ha; exact ha
  | no => rw [q] at ha; exact ha
theorem tE_bindB {m : Env → Sto → R D} {f : D → Sto → R Bool} {Q : Bool → Hp → Prop} {Rr : VK} {st : Sto} {ρ : Env} (s : StoOk g θ H st) (e : EnvOk g θ H ρ σ) (l : ρ.length ≤ σ.length)
    (ha : AftB g θ H (fun c dx H' => W c dx σ H') Q ((m ρ st).bind f))
    (h : ∀ (d : D) (st1 : Sto) (θ1 : Th) (H1 : Hp) (x : V), Ext θ θ1 H H1 → StoOk g θ1 H1 st1 → EnvOk g θ1 H1 ρ σ → Rep g θ1 H1 d x → AftB g θ1 H1 (fun c dx H' => W c dx σ H') Q (f d st1) → Rr x H1) : tE g false W m σ H Rr := by
  refine tE_step s e l ?_
  cases q : m ρ st with
  | ok d st1 =>
    rw [q] at ha
    exact fun θ1 H1 x x1 s1 e1 r1 => h d st1 θ1 H1 x x1 s1 e1 r1 (AftB.shift ha x1)
  | exc y st1 => rw [q] at ha; exact ha
  | no => rw [q] at ha; exact ha
theorem tE_bindS {m : Env → Sto → R D} {f : D → Sto → RS} {n : Nat} {D' : Ends} {Rr : VK} {st : Sto} {ρ : Env} (s : StoOk g θ H st) (e : EnvOk g θ H ρ σ) (l : ρ.length ≤ σ.length)
    (ha : AftS g θ H W n D' ((m ρ st).bind f))
    (h : ∀ (d : D) (st1 : Sto) (θ1 : Th) (H1 : Hp) (x : V), Ext θ θ1 H H1 → StoOk g θ1 H1 st1 → EnvOk g θ1 H1 ρ σ → Rep g θ1 H1 d x → AftS g θ1 H1 W n D' (f d st1) → Rr x H1) : tE g false W m σ H Rr := by
  refine tE_step s e l ?_
  cases q : m ρ st with
  | ok d st1 =>
    rw [q] at ha
    exact fun θ1 H1 x x1 s1 e1 r1 => h d st1 θ1 H1 x x1 s1 e1 r1 (AftS.shift ha x1)
  | exc y st1 => rw [q] at ha; exact fun θ' H' c dx x1 s1 r1 => ha θ' H' σ c dx x1 s1 r1
  | no => rw [q] at ha; exact ha
/-- first an argument list, then the rest -/
theorem tL_bind {m : Env → Sto → R D} {f : D → Sto → R D} {Q : VK} {Rr : List V → Hp → Prop} {st : Sto} {ρ : Env} (s : StoOk g θ H st) (e : EnvOk g θ H ρ σ) (l : ρ.length ≤ σ.length)
    (ha : Aft g fr θ H (fun c dx H' => W c dx σ H') Q ((m ρ st).bind f)) (ht : ∀ d st1, m ρ st = .ok d st1 → (∀ xs, d ≠ .tup xs) → f d st1 = .no)
    (h : ∀ (ds : List D) (st1 : Sto) (θ1 : Th) (H1 : Hp) (xs : List V), Ext θ θ1 H H1 → StoOk g θ1 H1 st1 → EnvOk g θ1 H1 ρ σ → RepL g θ1 H1 ds xs → Aft g fr θ1 H1 (fun c dx H' => W c dx σ H') Q (f (.tup ds) st1) → Rr xs H1) : tL g W m σ H Rr := by
  refine ⟨θ, st, ρ, s, e, l, ?_⟩
  cases q : m ρ st with
  | ok d st1 =>
    rw [q] at ha
    by_cases z : ∃ xs, d = .tup xs
    · obtain ⟨xs, rfl⟩ := z
      exact ⟨xs, rfl, fun θ1 H1 vs x1 s1 r1 => h xs st1 θ1 H1 vs x1 s1 (e.mono x1) r1 (Aft.shift ha x1)⟩
    · have := ht d st1 q fun xs z' => z ⟨xs, z'⟩
      have ha' : Aft g fr θ H (fun c dx H' => W c dx σ H') Q (f d st1) := ha
      rw [this] at ha'
      exact False.elim ha'
  | exc y st1 => rw [q] at ha; exact ha
  | no => rw [q] at ha; exact ha
end
theorem PE.imp {X : Cx} {e : Expr} {t t' : TE} (h : PE X e t) (i : ∀ σ H Q, t' σ H Q → t σ H Q) : PE X e t' := ⟨fun pins s σ H Q I q => h.run pins s σ H Q I (i σ H Q q)⟩
theorem PA.imp {X : Cx} {e : List Expr} {t t' : TA} (h : PA X e t) (i : ∀ σ H Q, t' σ H Q → t σ H Q) : PA X e t' := ⟨fun pos pins s σ H Q I q => h.run pos pins s σ H Q I (i σ H Q q)⟩
theorem PT.imp {X : Cx} {e : Expr} {t t' : TT} (h : PT X e t) (i : ∀ σ H Q, t' σ H Q → t σ H Q) : PT X e t' := ⟨fun pins s σ H Q I q => h.run pins s σ H Q I (i σ H Q q)⟩
theorem PW.imp {X : Cx} {e : Expr} {t t' : TT} (h : PW X e t) (i : ∀ σ H Q, t' σ H Q → t σ H Q) : PW X e t' := ⟨fun whole pins s σ H Q I q => h.run whole pins s σ H Q I (i σ H Q q)⟩
theorem PS.imp {X : Cx} {e : Stmt} {t t' : TS} (h : PS X e t) (i : ∀ D σ H, t' D σ H → t D σ H) : PS X e t' := ⟨fun pins s σ H D I q => h.run pins s σ H D I (i D σ H q)⟩
theorem PSs.imp {X : Cx} {e : List Stmt} {t t' : TS} (h : PSs X e t) (i : ∀ D σ H, t' D σ H → t D σ H) : PSs X e t' := ⟨fun pins s σ H D I q => h.run pins s σ H D I (i D σ H q)⟩
theorem PG.imp {X : Cx} {e : Expr} {t t' : TG} (h : PG X e t) (i : ∀ v σ H Q, t' v σ H Q → t v σ H Q) : PG X e t' := ⟨fun pins s σ H v u Q I r q => h.run pins s σ H v u Q I r (i v σ H Q q)⟩
theorem PI.imp {X : Cx} {tg e : Expr} {t t' : TI} (h : PI X tg e t) (i : ∀ σ H R, t' σ H R → t σ H R) : PI X tg e t' := ⟨fun pins s σ H R I q => h.run pins s σ H R I (i σ H R q)⟩
end MP
end

section
set_option Elab.async false
set_option linter.all false
set_option maxRecDepth 100000
/-! MP: the operations by values. -/
namespace MP
open PySem PySem.Spec PyProof.Rows L2

/-- what every context here has -/
structure Xg (g : GC) (X : Cx) : Prop where
  hK : X.K = g.K
  calm : X.calm = true
  gd : X.A.guards = some []
  un : X.A.units + 100 < cLine

def rO2 (g : GC) (fr : Bool) (W : WK) (o : O2) : R2 := fun x y H Q => ∃ θ st a b, StoOk g θ H st ∧ Rep g θ H a x ∧ Rep g θ H b y ∧ Aft g fr θ H W Q (f2 o a b st)
def rO1 (g : GC) (fr : Bool) (W : WK) (o : O1) : V → Hp → VK → Prop := fun x H Q => ∃ θ st a, StoOk g θ H st ∧ Rep g θ H a x ∧ Aft g fr θ H W Q (f1 o a st)
def rC1 (g : GC) (fr : Bool) (W : WK) (o : O1) : List V → Hp → VK → Prop := fun xs H Q => ∃ x, xs = [x] ∧ rO1 g fr W o x H Q
def rC2 (g : GC) (fr : Bool) (W : WK) (o : O2) : List V → Hp → VK → Prop := fun xs H Q => ∃ x y, xs = [x, y] ∧ rO2 g fr W o x y H Q

section
variable {g : GC} {fr : Bool} {θ : Th} {H : Hp} {W : WK} {Q : VK} {st : Sto} {d : D} {v : V}
theorem Aft.scal (h : Aft g fr θ H W Q (.ok d st)) (nd : ∀ xs, d ≠ .lst xs) (s : StoOk g θ H st) (r : Rep g θ H d v) : Q v H := by
  cases fr with
  | false => exact h.2 θ H v .refl s r
  | true => obtain ⟨xs, e⟩ := h.1 rfl; exact absurd e (nd xs)
theorem Aft.tup' {xs : List D} (h : Aft g fr θ H W Q (.ok (.tup xs) st)) {vs : List V} {p : Addr} (s : StoOk g θ H st) (r : RepL g θ H xs vs) (hp : H p = none) : Q (.ref p) (upd H p (.tup vs)) := by
  cases fr with
  | false => exact Aft.tup h s r hp
  | true => obtain ⟨ys, e⟩ := h.1 rfl; cases e
theorem Aft.of {xs : Option D} (h : Aft g fr θ H W Q (R.of st xs)) : ∃ d, xs = some d ∧ Aft g fr θ H W Q (.ok d st) := by
  cases xs with
  | none => exact False.elim h
  | some d => exact ⟨d, rfl, h⟩
theorem Aft.no (h : Aft g fr θ H W Q .no) : False := h
end
theorem bl_ne {b : Bool} : ∀ xs, D.bl b ≠ .lst xs := fun _ z => nomatch z
theorem int_ne {b : Int} : ∀ xs, D.int b ≠ .lst xs := fun _ z => nomatch z
theorem str_ne {b : Tx} : ∀ xs, D.str b ≠ .lst xs := fun _ z => nomatch z
theorem non_ne : ∀ xs, D.non ≠ .lst xs := fun _ z => nomatch z

theorem sOf_len (s : Tx) : (sOf s).length = s.length := by simp [Str.length]
theorem sOf_app (a b : Tx) : sOf a ++ sOf b = sOf (a ++ b) := by
  show (⟨a.toArray ++ b.toArray⟩ : Str) = ⟨(a ++ b).toArray⟩
  simp
theorem sOf_cps (s : Tx) : (sOf s).cps.toList = s := by simp
theorem sOf_inj {a b : Tx} (h : sOf a = sOf b) : a = b := by
  have := congrArg (fun z : Str => z.cps.toList) h
  simpa using this

section
variable {g : GC} {fr : Bool} {W : WK} {X : Cx}
theorem Xg.u64 (x : Xg g X) : X.A.units + 64 < cLine := by have := x.un; omega
theorem Xg.u1 (x : Xg g X) : X.A.units < cLine := by have := x.un; omega

/-! ### int, text, tuple, list: arithmetic -/
theorem o2_add (xg : Xg g X) : OpR X (binaryOp .Add) (rO2 g fr W .add) := by
  intro pins s σ H x y v u Q I rx ry h
  obtain ⟨θ, st, a, b, so, ra, rb, h⟩ := h
  simp only [f2] at h
  split at h
  · cases ra; cases rb
    exact op_add pins s σ H _ _ v u Q I rx ry ⟨_, _, rfl, rfl, h.scal int_ne so (.int _)⟩
  · split at h
    · cases ra; cases rb
      rename_i hz
      refine op_add_str pins s σ H _ _ v u Q I rx ry ⟨_, _, rfl, rfl, by rw [sOf_len, sOf_len]; exact hz, ?_⟩
      rw [sOf_app]
      exact h.scal str_ne so (.str _)
    · exact h.no.elim
  · split at h
    · rename_i hz
      cases ra with
      | tup a1 a2 =>
        cases rb with
        | tup b1 b2 =>
          refine op_catA pins s σ H _ _ v u Q I rx ry ⟨_, _, _, _, rfl, rfl, xg.hK ▸ a1.to, xg.hK ▸ b1.to, by rw [← a2.length, ← b2.length]; exact hz, fun e => ?_, fun _ e => ?_, fun _ _ p hp => ?_⟩
          · subst e
            cases a2
            exact h.scal (fun _ z => nomatch z) so (.tup b1 b2)
          · subst e
            cases b2
            rw [List.append_nil] at h
            exact h.scal (fun _ z => nomatch z) so (.tup a1 a2)
          · exact h.tup' so (a2.append b2) hp
    · exact h.no.elim
  · split at h
    · split at h
      · rename_i e1 e2 hz
        obtain ⟨l, vs, rfl, h1, r1⟩ := top_rep so ra e1
        obtain ⟨l', vs', rfl, h2, r2⟩ := top_rep so rb e2
        refine op_cat pins s σ H _ _ v u Q I rx ry ⟨_, _, _, _, rfl, rfl, h1, h2, by rw [← r1.length, ← r2.length]; exact hz, fun p hp => ?_⟩
        exact h.lst so (r1.append r2) hp
      · exact h.no.elim
    · exact h.no.elim
theorem o2_sub : OpR X (binaryOp .Sub) (rO2 g fr W .sub) := by
  intro pins s σ H x y v u Q I rx ry h
  obtain ⟨θ, st, a, b, so, ra, rb, h⟩ := h
  simp only [f2] at h
  split at h
  · cases ra; cases rb
    exact op_sub pins s σ H _ _ v u Q I rx ry ⟨_, _, rfl, rfl, h.scal int_ne so (.int _)⟩
  · exact h.no.elim
theorem small_of {i : Int} (h : small i = true) : -(2 ^ 64) < i ∧ i < 2 ^ 64 := by
  simp only [small, Bool.and_eq_true, decide_eq_true_eq] at h
  exact h
theorem o2_mod : OpR X (binaryOp .Mod) (rO2 g fr W .mod) := by
  intro pins s σ H x y v u Q I rx ry h
  obtain ⟨θ, st, a, b, so, ra, rb, h⟩ := h
  simp only [f2] at h
  split at h
  · split at h
    · rename_i hj
      cases ra; cases rb
      exact op_mod pins s σ H _ _ v u Q I rx ry ⟨_, _, rfl, rfl, hj, h.scal int_ne so (.int _)⟩
    · exact h.no.elim
  · exact h.no.elim
theorem o2_fdiv : OpR X (binaryOp .FloorDiv) (rO2 g fr W .fdiv) := by
  intro pins s σ H x y v u Q I rx ry h
  obtain ⟨θ, st, a, b, so, ra, rb, h⟩ := h
  simp only [f2] at h
  split at h
  · split at h
    · rename_i hj
      simp only [Bool.and_eq_true, decide_eq_true_eq] at hj
      cases ra; cases rb
      exact op_fdiv pins s σ H _ _ v u Q I rx ry ⟨_, _, rfl, rfl, hj, h.scal int_ne so (.int _)⟩
    · exact h.no.elim
  · exact h.no.elim
theorem o2_pow : OpR X (binaryOp .Pow) (rO2 g fr W .pow) := by
  intro pins s σ H x y v u Q I rx ry h
  obtain ⟨θ, st, a, b, so, ra, rb, h⟩ := h
  simp only [f2] at h
  split at h
  · split at h
    · rename_i hj
      simp only [Bool.and_eq_true, decide_eq_true_eq] at hj
      cases ra; cases rb
      exact op_pow pins s σ H _ _ v u Q I rx ry ⟨_, _, rfl, rfl, ⟨hj.1.1, hj.1.2, hj.2⟩, h.scal int_ne so (.int _)⟩
    · exact h.no.elim
  · exact h.no.elim
theorem fold_app (x : Array Nat) : ∀ (n : Nat) (b : Array Nat), (List.replicate n x).foldl (· ++ ·) b = (b.toList ++ (List.replicate n x.toList).flatten).toArray
  | 0, b => by simp
  | n + 1, b => by
    rw [List.replicate_succ, List.foldl_cons, fold_app x n, List.replicate_succ, List.flatten_cons]
    simp
theorem op_mul_text {a : Tx} {j : Int} {t u : Tok} {pins : List (Addr × Obj)} {σ : L2.St} {H : Hp} {s : Shared} {Q : VK} (I : Inv X pins σ H s) (h1 : a.length * j.toNat ≤ sizeLine) (h2 : -(2 ^ 63) ≤ j) (h3 : j < 2 ^ 63) (q : Q (.str (sOf (List.replicate j.toNat a).flatten)) H) :
    wpAny (model X.prog X.w) X.A (binaryOp .Mult (.str (sOf a) t) (.int j u)) (EP X pins σ Q) X.xe s := by
  have hlen : (sOf a).length = a.length := sOf_len a
  have hfl : (List.replicate j.toNat a).flatten.length = j.toNat * a.length := by simp
  refine PySem.P.mul_str (by rw [decide_eq_false (by omega), decide_eq_false (by omega)]; rfl) (fun n1 _ => ?_) (fun _ _ => ?_) ?_
  · have pos : 0 < j := by omega
    have : (a.length : Int) * j ≤ 2 ^ 63 - 1 := by
      have e : ((a.length * j.toNat : Nat) : Int) = (a.length : Int) * j := by
        rw [Int.natCast_mul, Int.toNat_of_nonneg (by omega)]
      rw [← e]
      rw [sizeLine_eq] at h1
      omega
    rw [hlen]
    have := (Int.le_ediv_iff_mul_le pos).mpr this
    omega
  · rw [hlen]
    exact decide_eq_false (by omega)
  · split
    · rename_i n1
      have e : j.toNat = 0 := by omega
      rw [e] at q
      exact ⟨by decide, .str (sOf []), H, I.tok _, ⟨_, rfl⟩, q⟩
    · split
      · rename_i n1 n2
        have e : (List.replicate j.toNat a).flatten = a := by
          rw [Bool.or_eq_true] at n2
          rcases n2 with z | z
          · have : j = 1 := by simpa using z
            rw [this]
            simp
          · have : a = [] := by
              have z := eq_of_beq z
              rw [hlen] at z
              exact List.length_eq_zero_iff.mp z
            rw [this]
            simp
        rw [e] at q
        exact ⟨.str (sOf a), H, I, ⟨_, rfl⟩, q⟩
      · have e : (⟨(List.replicate j.toNat (sOf a).cps).foldl (· ++ ·) #[]⟩ : Str) = sOf (List.replicate j.toNat a).flatten := by
          rw [fold_app]
          simp [sOf]
        rw [e]
        refine ⟨?_, .str _, H, I.tok _, ⟨_, rfl⟩, q⟩
        rw [sOf_len, hfl, Nat.mul_comm]
        exact h1
theorem o2_mul (xg : Xg g X) : OpR X (binaryOp .Mult) (rO2 g fr W .mul) := by
  intro pins s σ H x y v u Q I rx ry h
  obtain ⟨θ, st, a, b, so, ra, rb, h⟩ := h
  simp only [f2] at h
  split at h
  · split at h
    · rename_i hj
      cases ra; cases rb
      refine op_mul pins s σ H _ _ v u Q I rx ry ⟨_, _, rfl, rfl, ?_, h.scal int_ne so (.int _)⟩
      rcases Bool.or_eq_true_iff.mp hj with z | z
      · exact .inl (small_of z)
      · exact .inr (small_of z)
    · exact h.no.elim
  · split at h
    · rename_i hj
      simp only [Bool.and_eq_true, decide_eq_true_eq] at hj
      cases ra; cases rb
      obtain ⟨t, rfl⟩ := rx
      obtain ⟨t', rfl⟩ := ry
      exact op_mul_text I hj.1.1 hj.1.2 hj.2 (h.scal str_ne so (.str _))
    · exact h.no.elim
  · split at h
    · split at h
      · rename_i e1 hz
        simp only [Bool.and_eq_true, decide_eq_true_eq] at hz
        obtain ⟨l, vs, rfl, h1, r1⟩ := top_rep so ra e1
        cases rb
        refine op_rep pins s σ H _ _ v u Q I rx ry ⟨_, _, _, rfl, rfl, h1, hz.1.2, hz.2, by rw [← r1.length]; exact hz.1.1, fun p hp => ?_⟩
        exact h.lst so (r1.rep _) hp
      · exact h.no.elim
    · exact h.no.elim
  · exact h.no.elim

/-! ### comparisons -/
theorem eqD_at {θ : Th} {H : Hp} {st : Sto} {a b : D} {x y : V} {r : Bool} (so : StoOk g θ H st) (ra : Rep g θ H a x) (rb : Rep g θ H b y) (h : eqP st a b = some r) :
    ∃ d e, Dp g.K H x d ∧ Dp g.K H y e ∧ SeqAt.shaped d = true ∧ SeqAt.shaped e = true ∧ r = PyData.eqv d e := by
  unfold eqP at h
  split at h
  · rename_i p q e1 e2
    split at h
    · rename_i hs
      simp only [Bool.and_eq_true, okPd] at hs
      cases h
      exact ⟨p, q, toppd_rep so ra e1, toppd_rep so rb e2, hs.1, hs.2, rfl⟩
    · cases h
  · cases h
theorem sOf_dec (s t : Tx) : decide (V.str (sOf s) = V.str (sOf t)) = decide (s = t) := by
  by_cases e : s = t
  · subst e; simp
  · rw [decide_eq_false e, decide_eq_false]
    intro z
    have := congrArg (fun v => match v with | V.str u => u.cps.toList | _ => []) z
    exact e (by simpa [sOf] using this)
theorem int_dec (s t : Int) : decide (V.int s = V.int t) = decide (s = t) := by
  by_cases e : s = t
  · subst e; simp
  · rw [decide_eq_false e, decide_eq_false]
    intro z
    cases z
    exact e rfl
theorem o2_eq (xg : Xg g X) : OpR X (compareOp .Eq) (rO2 g fr W .eq) := by
  intro pins s σ H x y v u Q I rx ry h
  obtain ⟨θ, st, a, b, so, ra, rb, h⟩ := h
  obtain ⟨d, e, h⟩ := Aft.of h
  obtain ⟨r, e1, e2⟩ := Option.map_eq_some_iff.mp e
  subst e2
  unfold eqD at e1
  split at e1
  · cases ra; cases rb; cases e1
    refine op_eq pins s σ H _ _ v u Q I rx ry ⟨rfl, ?_⟩
    rw [sOf_dec]
    exact h.scal bl_ne so (.bl _)
  · cases ra; cases rb; cases e1
    refine op_eq pins s σ H _ _ v u Q I rx ry ⟨rfl, ?_⟩
    rw [int_dec]
    exact h.scal bl_ne so (.bl _)
  · obtain ⟨p, q, hp, hq, sp, sq, rfl⟩ := eqD_at so ra rb e1
    exact op_eqD xg.u64 pins s σ H _ _ v u Q I rx ry ⟨p, q, xg.hK ▸ hp, xg.hK ▸ hq, sp, sq, h.scal bl_ne so (.bl _)⟩
theorem o2_ne (xg : Xg g X) : OpR X (compareOp .NotEq) (rO2 g fr W .ne) := by
  intro pins s σ H x y v u Q I rx ry h
  obtain ⟨θ, st, a, b, so, ra, rb, h⟩ := h
  obtain ⟨d, e, h⟩ := Aft.of h
  obtain ⟨r, e1, e2⟩ := Option.map_eq_some_iff.mp e
  subst e2
  unfold eqD at e1
  split at e1
  · cases ra; cases rb; cases e1
    refine op_ne pins s σ H _ _ v u Q I rx ry ⟨rfl, ?_⟩
    rw [sOf_dec]
    exact h.scal bl_ne so (.bl _)
  · cases ra; cases rb; cases e1
    refine op_ne pins s σ H _ _ v u Q I rx ry ⟨rfl, ?_⟩
    rw [int_dec]
    exact h.scal bl_ne so (.bl _)
  · obtain ⟨p, q, hp, hq, sp, sq, rfl⟩ := eqD_at so ra rb e1
    exact op_neD xg.u64 pins s σ H _ _ v u Q I rx ry ⟨p, q, xg.hK ▸ hp, xg.hK ▸ hq, sp, sq, h.scal bl_ne so (.bl _)⟩
theorem ltT_eq : ∀ a b : Tx, ltT a b = decide (a < b)
  | [], [] => by simp [ltT]
  | [], _ :: _ => by simp [ltT]
  | _ :: _, [] => by simp [ltT]
  | a :: r, b :: q => by
    have ih := ltT_eq r q
    unfold ltT
    by_cases h : a = b
    · subst h
      rw [if_pos rfl, ih]
      by_cases z : r < q <;> simp [z]
    · rw [if_neg h]
      by_cases z : a < b
      · rw [decide_eq_true z, decide_eq_true (List.cons_lt_cons_iff.mpr (.inl z))]
      · rw [decide_eq_false z, decide_eq_false]
        intro y
        rcases List.cons_lt_cons_iff.mp y with y | ⟨y, _⟩
        · exact z y
        · exact h y
theorem o2_lt (xg : Xg g X) : OpR X (compareOp .Lt) (rO2 g fr W .lt) := by
  intro pins s σ H x y v u Q I rx ry h
  obtain ⟨θ, st, a, b, so, ra, rb, h⟩ := h
  obtain ⟨d, e, h⟩ := Aft.of h
  obtain ⟨r, e1, e2⟩ := Option.map_eq_some_iff.mp e
  subst e2
  unfold ltF at e1
  split at e1
  · cases e1; cases ra; cases rb
    exact op_lt pins s σ H _ _ v u Q I rx ry ⟨_, _, rfl, rfl, h.scal bl_ne so (.bl _)⟩
  · cases e1; cases ra; cases rb
    rw [ltT_eq] at h
    exact op_lt_str pins s σ H _ _ v u Q I rx ry ⟨_, _, rfl, rfl, by rw [sOf_cps, sOf_cps]; exact h.scal bl_ne so (.bl _)⟩
  · cases e1
theorem o2_gt (xg : Xg g X) : OpR X (compareOp .Gt) (rO2 g fr W .gt) := by
  intro pins s σ H x y v u Q I rx ry h
  obtain ⟨θ, st, a, b, so, ra, rb, h⟩ := h
  obtain ⟨d, e, h⟩ := Aft.of h
  obtain ⟨r, e1, e2⟩ := Option.map_eq_some_iff.mp e
  subst e2
  unfold ltF at e1
  split at e1
  · cases e1; cases ra; cases rb
    exact op_gt pins s σ H _ _ v u Q I rx ry ⟨_, _, rfl, rfl, h.scal bl_ne so (.bl _)⟩
  · cases e1; cases ra; cases rb
    rw [ltT_eq] at h
    exact op_gt_str pins s σ H _ _ v u Q I rx ry ⟨_, _, rfl, rfl, by rw [sOf_cps, sOf_cps]; exact h.scal bl_ne so (.bl _)⟩
  · cases e1
theorem dec_not_lt (i j : Int) : (!decide (j < i)) = decide (i ≤ j) := by
  by_cases h : j < i
  · rw [decide_eq_true h, decide_eq_false (by omega)]; rfl
  · rw [decide_eq_false h, decide_eq_true (by omega)]; rfl
theorem o2_le (xg : Xg g X) : OpR X (compareOp .LtE) (rO2 g fr W .le) := by
  intro pins s σ H x y v u Q I rx ry h
  obtain ⟨θ, st, a, b, so, ra, rb, h⟩ := h
  obtain ⟨d, e, h⟩ := Aft.of h
  obtain ⟨r, e1, e2⟩ := Option.map_eq_some_iff.mp e
  subst e2
  unfold ltF at e1
  split at e1
  · cases e1; cases ra; cases rb
    rw [dec_not_lt] at h
    exact op_le pins s σ H _ _ v u Q I rx ry ⟨_, _, rfl, rfl, h.scal bl_ne so (.bl _)⟩
  · cases e1; cases ra; cases rb
    rw [ltT_eq] at h
    exact op_le_str pins s σ H _ _ v u Q I rx ry ⟨_, _, rfl, rfl, by rw [sOf_cps, sOf_cps]; exact h.scal bl_ne so (.bl _)⟩
  · cases e1
theorem o2_ge (xg : Xg g X) : OpR X (compareOp .GtE) (rO2 g fr W .ge) := by
  intro pins s σ H x y v u Q I rx ry h
  obtain ⟨θ, st, a, b, so, ra, rb, h⟩ := h
  obtain ⟨d, e, h⟩ := Aft.of h
  obtain ⟨r, e1, e2⟩ := Option.map_eq_some_iff.mp e
  subst e2
  unfold ltF at e1
  split at e1
  · cases e1; cases ra; cases rb
    rw [dec_not_lt] at h
    exact op_ge pins s σ H _ _ v u Q I rx ry ⟨_, _, rfl, rfl, h.scal bl_ne so (.bl _)⟩
  · cases e1; cases ra; cases rb
    rw [ltT_eq] at h
    exact op_ge_str pins s σ H _ _ v u Q I rx ry ⟨_, _, rfl, rfl, by rw [sOf_cps, sOf_cps]; exact h.scal bl_ne so (.bl _)⟩
  · cases e1
theorem non_iff {θ : Th} {H : Hp} {a : D} {x : V} (r : Rep g θ H a x) : (decide (a = D.non)) = (decide (x = V.non)) := by
  cases r <;> simp
theorem o2_is (xg : Xg g X) : OpR X (compareOp .Is) (rO2 g fr W .is) := by
  intro pins s σ H x y v u Q I rx ry h
  obtain ⟨θ, st, a, b, so, ra, rb, h⟩ := h
  simp only [f2] at h
  split at h
  · cases rb
    rw [non_iff ra] at h
    exact op_isN pins s σ H _ _ v u Q I rx ry ⟨rfl, h.scal bl_ne so (.bl _)⟩
  · split at h
    · cases ra; cases rb
      refine op_isBl pins s σ H _ _ v u Q I rx ry ⟨_, _, rfl, rfl, ?_⟩
      have := h.scal bl_ne so (.bl _)
      rename_i b1 b2
      cases b1 <;> cases b2 <;> exact this
    · exact h.no.elim
  · exact h.no.elim
theorem o2_isNot (xg : Xg g X) : OpR X (compareOp .IsNot) (rO2 g fr W .isNot) := by
  intro pins s σ H x y v u Q I rx ry h
  obtain ⟨θ, st, a, b, so, ra, rb, h⟩ := h
  simp only [f2] at h
  split at h
  · cases rb
    rw [non_iff ra] at h
    exact op_notN pins s σ H _ _ v u Q I rx ry ⟨rfl, h.scal bl_ne so (.bl _)⟩
  · split at h
    · cases ra; cases rb
      refine op_notBl pins s σ H _ _ v u Q I rx ry ⟨_, _, rfl, rfl, ?_⟩
      have := h.scal bl_ne so (.bl _)
      rename_i b1 b2
      cases b1 <;> cases b2 <;> exact this
    · exact h.no.elim
  · exact h.no.elim
end
end MP
end

section
set_option Elab.async false
set_option linter.all false
set_option maxRecDepth 100000
/-! MP: membership, places, dicts, truth. -/
namespace MP
open PySem PySem.Spec PyProof.Rows L2

/-! ### dicts -/
section
variable {g : GC} {θ : Th} {H : Hp} {st : Sto} {d : D} {v : V}
theorem keyOf_inj {a b : D} {k : Key} (h1 : keyOf a = some k) (h2 : keyOf b = some k) : a = b := by
  cases a <;> cases b <;> simp [keyOf] at h1 h2 <;> subst h1 <;> simp_all
theorem key_rep {k : D} {x : V} (r : Rep g θ H k x) (h : isKey k = true) : ∃ q, keyOf k = some q ∧ x = kV q := by
  cases r <;> simp [isKey] at h
  · exact ⟨_, rfl, rfl⟩
  · exact ⟨_, rfl, rfl⟩
theorem dict_rep {ks vs : List D} (s : StoOk g θ H st) (r : Rep g θ H d v) (h : dict? st d = some (ks, vs)) :
    ∃ a kvs, v = .ref a ∧ Rd H a (.dK kvs) ∧ ks.map keyOf = kvs.map (fun p => some p.1) ∧ RepL g θ H vs (kvs.map (·.2)) := by
  cases r with
  | dic h1 h2 h3 h4 =>
    simp only [dict?, Option.some.injEq, Prod.mk.injEq] at h
    obtain ⟨rfl, rfl⟩ := h
    exact ⟨_, _, rfl, h1, h3, h4⟩
  | ref e =>
    obtain ⟨o, e1, r1⟩ := s.at e
    cases r1 with
    | dic h1 h2 h3 =>
      simp only [dict?, e1, Option.some.injEq, Prod.mk.injEq] at h
      obtain ⟨rfl, rfl⟩ := h
      exact ⟨_, _, rfl, .inl h1, h2, h3⟩
    | _ => simp [dict?, e1] at h
  | _ => simp [dict?] at h
theorem look_rep {k : D} {q : Key} (hk : keyOf k = some q) : ∀ {ks vs : List D} {kvs : List (Key × V)}, ks.map keyOf = kvs.map (fun p => some p.1) → RepL g θ H vs (kvs.map (·.2)) →
    match look k ks vs with
    | some e => ∃ w, valV kvs q = some w ∧ Rep g θ H e w
    | none => valV kvs q = none
  | [], vs, [], _, _ => by simp [look, valV]
  | [], _, _ :: _, h, _ => by simp at h
  | _ :: _, _, [], h, _ => by simp at h
  | a :: ks, [], p :: kvs, _, r => by cases r
  | a :: ks, b :: vs, p :: kvs, h, r => by
    simp only [List.map_cons, List.cons.injEq] at h
    rw [List.map_cons] at r
    cases r with
    | cons r1 r2 =>
      unfold look
      by_cases e : a = k
      · subst e
        rw [if_pos rfl]
        rw [h.1] at hk
        exact ⟨p.2, valV_pos (Option.some.inj hk), r1⟩
      · rw [if_neg e]
        have ne : ¬ p.1 = q := fun z => e (keyOf_inj (k := q) (by rw [h.1, z]) hk)
        rw [valV_neg ne]
        exact look_rep hk h.2 r2
end
theorem sIx_eq (n d : Nat) (o : Option Int) : sIx n d o = HT.sIx n d o := by cases o <;> rfl
theorem cut_rep {g : GC} {θ : Th} {H : Hp} {ds : List D} {vs : List V} (h : RepL g θ H ds vs) (lo hi : Option Int) : RepL g θ H (cut ds lo hi) (cutV vs lo hi) := by
  unfold cut cutV
  rw [h.length, sIx_eq, sIx_eq]
  exact (h.drop _).take _

section
variable {g : GC} {fr : Bool} {W : WK} {X : Cx}
theorem Xg.hu1 (x : Xg g X) : X.A.units + 1 < cLine := by have := x.un; omega
theorem Xg.u65 (x : Xg g X) : X.A.units + 65 < cLine := by have := x.un; omega
theorem inD_at {θ : Th} {H : Hp} {st : Sto} {a b : D} {x y : V} {r : Bool} (so : StoOk g θ H st) (ra : Rep g θ H a x) (rb : Rep g θ H b y) (h : inD st a b = some r) :
    ∃ d ds, Dp g.K H x d ∧ SeqAt.shaped d = true ∧ ((Dp g.K H y (.list ds) ∧ SeqAt.shaped (.list ds) = true) ∨ (Dp g.K H y (.tuple ds) ∧ SeqAt.shaped (.tuple ds) = true)) ∧ r = ds.any fun z => PyData.eqv z d := by
  unfold inD at h
  split at h
  · rename_i ps p e1 e2
    split at h
    · rename_i hs
      simp only [Bool.and_eq_true, okPd] at hs
      cases h
      exact ⟨p, ps, toppd_rep so ra e2, hs.2, .inl ⟨toppd_rep so rb e1, hs.1⟩, rfl⟩
    · cases h
  · rename_i ps p e1 e2
    split at h
    · rename_i hs
      simp only [Bool.and_eq_true, okPd] at hs
      cases h
      exact ⟨p, ps, toppd_rep so ra e2, hs.2, .inr ⟨toppd_rep so rb e1, hs.1⟩, rfl⟩
    · cases h
  · cases h
theorem op_inD2 (xg : Xg g X) : OpR X (compareOp .In) (fun x y H Q => ∃ d ds, Dp g.K H x d ∧ SeqAt.shaped d = true ∧ ((Dp g.K H y (.list ds) ∧ SeqAt.shaped (.list ds) = true) ∨ (Dp g.K H y (.tuple ds) ∧ SeqAt.shaped (.tuple ds) = true)) ∧ Q (.bl (ds.any fun z => PyData.eqv z d)) H) := by
  intro pins s σ H x y v u Q I rx ry h
  obtain ⟨d, ds, hd, sd, h1, q⟩ := h
  rcases h1 with ⟨he, se⟩ | ⟨he, se⟩
  · exact op_inD xg.u65 pins s σ H x y v u Q I rx ry ⟨d, ds, xg.hK ▸ hd, xg.hK ▸ he, sd, se, q⟩
  · obtain ⟨as, r1⟩ := Dp.reads I d x v (xg.hK ▸ hd) rx
    obtain ⟨bs, r2⟩ := Dp.reads I (.tuple ds) y u (xg.hK ▸ he) ry
    exact SeqAt.in_tuple_reads r2 r1 (SeqAt.canLay_of_shaped se) (SeqAt.canLay_of_shaped sd) (PyProof.Rows.room_in_shaped sd xg.u65) ⟨.bl _, H, I, rfl, q⟩
theorem op_notInD2 (xg : Xg g X) : OpR X (compareOp .NotIn) (fun x y H Q => ∃ d ds, Dp g.K H x d ∧ SeqAt.shaped d = true ∧ ((Dp g.K H y (.list ds) ∧ SeqAt.shaped (.list ds) = true) ∨ (Dp g.K H y (.tuple ds) ∧ SeqAt.shaped (.tuple ds) = true)) ∧ Q (.bl (!ds.any fun z => PyData.eqv z d)) H) := by
  intro pins s σ H x y v u Q I rx ry h
  obtain ⟨d, ds, hd, sd, h1, q⟩ := h
  rcases h1 with ⟨he, se⟩ | ⟨he, se⟩
  · exact op_notInD xg.u65 pins s σ H x y v u Q I rx ry ⟨d, ds, xg.hK ▸ hd, xg.hK ▸ he, sd, se, q⟩
  · obtain ⟨as, r1⟩ := Dp.reads I d x v (xg.hK ▸ hd) rx
    obtain ⟨bs, r2⟩ := Dp.reads I (.tuple ds) y u (xg.hK ▸ he) ry
    exact SeqAt.notIn_tuple_reads r2 r1 (SeqAt.canLay_of_shaped se) (SeqAt.canLay_of_shaped sd) (PyProof.Rows.room_in_shaped sd xg.u65) ⟨.bl _, H, I, rfl, q⟩
theorem dget_of {θ : Th} {H : Hp} {st : Sto} {k : D} {x : V} {ks vs : List D} {kvs : List (Key × V)} {a : Addr} (rk : Rep g θ H k x) (hk : isKey k = true) (rd : Rd H a (.dK kvs))
    (e : ks.map keyOf = kvs.map (fun p => some p.1)) (r : RepL g θ H vs (kvs.map (·.2))) : ∃ o, DGet H a x o ∧ match look k ks vs with
    | some e => ∃ w, o = some w ∧ Rep g θ H e w
    | none => o = none := by
  obtain ⟨q, hq, rfl⟩ := key_rep rk hk
  exact ⟨valV kvs q, .inl ⟨kvs, q, rd, rfl, rfl⟩, look_rep hq e r⟩
theorem o2_in (xg : Xg g X) : OpR X (compareOp .In) (rO2 g fr W .isIn) := by
  intro pins s σ H x y v u Q I rx ry h
  obtain ⟨θ, st, a, b, so, ra, rb, h⟩ := h
  simp only [f2] at h
  split at h
  · cases ra; cases rb
    refine op_in_sign pins s σ H _ _ v u Q I rx ry ⟨_, _, rfl, rfl, ?_⟩
    rw [sOf_cps]
    have := h.scal bl_ne so (.bl _)
    rwa [List.contains_eq_mem] at this
  · exact h.no.elim
  · split at h
    · rename_i e1
      split at h
      · rename_i hk
        obtain ⟨l, kvs, rfl, h1, h2, h3⟩ := dict_rep so rb e1
        obtain ⟨o, dg, ho⟩ := dget_of (st := st) ra hk h1 h2 h3
        cases ry
        refine d_in xg.hu1 I dg rx fun s' I' => ⟨.bl _, H, I', rfl, ?_⟩
        have e : ∀ z : Bool, z = o.isSome → After g θ H W Q (.ok (.bl z) st) → Q (.bl o.isSome) H := fun z e q => by subst e; exact q.scal bl_ne so (.bl _)
        split at ho
        · rename_i e2
          obtain ⟨w, rfl, _⟩ := ho
          rw [e2] at h
          exact h.scal bl_ne so (.bl true)
        · rename_i e2
          subst ho
          rw [e2] at h
          exact h.scal bl_ne so (.bl false)
      · exact h.no.elim
    · obtain ⟨d, e, h⟩ := Aft.of h
      obtain ⟨r, e1, e2⟩ := Option.map_eq_some_iff.mp e
      subst e2
      obtain ⟨d, ds, h1, h2, h3, h4⟩ := inD_at so ra rb e1
      subst h4
      exact op_inD2 xg pins s σ H _ _ v u Q I rx ry ⟨d, ds, h1, h2, h3, h.scal bl_ne so (.bl _)⟩
theorem o2_notIn (xg : Xg g X) : OpR X (compareOp .NotIn) (rO2 g fr W .notIn) := by
  intro pins s σ H x y v u Q I rx ry h
  obtain ⟨θ, st, a, b, so, ra, rb, h⟩ := h
  simp only [f2] at h
  split at h
  · cases ra; cases rb
    refine op_notIn_sign pins s σ H _ _ v u Q I rx ry ⟨_, _, rfl, rfl, ?_⟩
    rw [sOf_cps]
    have := h.scal bl_ne so (.bl _)
    rwa [List.contains_eq_mem] at this
  · exact h.no.elim
  · split at h
    · rename_i e1
      split at h
      · rename_i hk
        obtain ⟨l, kvs, rfl, h1, h2, h3⟩ := dict_rep so rb e1
        obtain ⟨o, dg, ho⟩ := dget_of (st := st) ra hk h1 h2 h3
        cases ry
        refine d_notIn xg.hu1 I dg rx fun s' I' => ⟨.bl _, H, I', rfl, ?_⟩
        split at ho
        · rename_i e2
          obtain ⟨w, rfl, _⟩ := ho
          rw [e2] at h
          exact h.scal bl_ne so (.bl false)
        · rename_i e2
          subst ho
          rw [e2] at h
          exact h.scal bl_ne so (.bl true)
      · exact h.no.elim
    · obtain ⟨d, e, h⟩ := Aft.of h
      obtain ⟨r, e1, e2⟩ := Option.map_eq_some_iff.mp e
      subst e2
      obtain ⟨d, ds, h1, h2, h3, h4⟩ := inD_at so ra rb e1
      subst h4
      exact op_notInD2 xg pins s σ H _ _ v u Q I rx ry ⟨d, ds, h1, h2, h3, h.scal bl_ne so (.bl _)⟩
theorem ix_any (xs : List V) (i : Int) : (L2.ixN xs.length i).bind (xs[·]?) = L2.atI xs i := rfl
/-- a place: only values that are no new lists -/
theorem o2_ix (xg : Xg g X) : IxR X (rO2 g false W .ix) := by
  intro value slice pins s σ H x y v u Q I rx ry h hs
  obtain ⟨θ, st, a, b, so, ra, rb, h⟩ := h
  simp only [f2] at h
  split at h
  · rename_i z i
    cases ra; cases rb
    split at h
    · rename_i c e1
      split at h
      · rename_i hz
        refine ix_str value slice pins s σ H _ _ v u Q I rx ry ⟨sOf z, i, c, rfl, rfl, by rw [sOf_len]; exact hz, ?_, h.scal str_ne so (.str _)⟩ hs
        rw [sOf_cps]
        exact e1
      · exact h.no.elim
    · exact h.no.elim
  · split at h
    · rename_i e1
      split at h
      · rename_i hk
        obtain ⟨d, e2, h⟩ := Aft.of h
        obtain ⟨l, kvs, rfl, h1, h2, h3⟩ := dict_rep so ra e1
        obtain ⟨o, dg, ho⟩ := dget_of (st := st) rb hk h1 h2 h3
        rw [e2] at ho
        obtain ⟨w, rfl, rw'⟩ := ho
        cases rx
        refine tail_any (dict_typeIs I dg) PySem.F.slot_dict_getitem.lookup (d_getItem xg.hu1 I dg ry fun w' s3 I3 rw2 => ⟨w, H, I3, rw2, h.val so rw'⟩) hs
      · exact h.no.elim
    · split at h
      · obtain ⟨d, e2, h⟩ := Aft.of h
        obtain ⟨xs, e3, e4⟩ := Option.bind_eq_some_iff.mp e2
        obtain ⟨l, vs, rfl, hq, rl⟩ := sq_rep so ra e3
        obtain ⟨j, e5, e6⟩ := Option.bind_eq_some_iff.mp e4
        obtain ⟨w, e7, rw'⟩ := rl.get e6
        cases rb
        rename_i i0 _ _
        have at_ : L2.atI vs i0 = some w := by
          unfold L2.atI
          rw [← rl.length]
          show (ixN _ _).bind _ = _
          rw [e5]
          exact e7
        rcases hq with hq | hq
        · exact ix_list value slice pins s σ H _ _ v u Q I rx ry ⟨l, vs, _, w, rfl, rfl, xg.hK ▸ hq, at_, h.val so rw'⟩ hs
        · exact ix_tup value slice pins s σ H _ _ v u Q I rx ry ⟨l, vs, _, w, rfl, rfl, xg.hK ▸ hq, at_, h.val so rw'⟩ hs
      · exact h.no.elim
/-! ### truth -/
theorem truth_rep {θ : Th} {H : Hp} {st : Sto} {a : D} {x : V} {b : Bool} (so : StoOk g θ H st) (ra : Rep g θ H a x) (h : truth st a = some b) : TruV g.K x H b := by
  have seq : ∀ {xs : List D}, sq st a = some xs → b = !xs.isEmpty → TruV g.K x H b := fun {xs} e1 e2 => by
    obtain ⟨l, vs, rfl, hq, rl⟩ := sq_rep so ra e1
    have e3 : b = !vs.isEmpty := by rw [e2]; cases rl <;> rfl
    rcases hq with hq | hq
    · exact .inl ⟨vs, hq, e3⟩
    · exact .inr (.inl ⟨vs, hq, e3⟩)
  cases ra with
  | non => simp only [truth, Option.some.injEq] at h; exact h.symm
  | bl c => simp only [truth, Option.some.injEq] at h; exact h.symm
  | int i => simp only [truth, Option.some.injEq] at h; exact h.symm
  | str z =>
    simp only [truth] at h
    split at h
    · rename_i hz
      cases h
      refine ⟨by rw [sOf_len]; exact hz, ?_⟩
      rw [sOf_len]
      cases z with
      | nil => rfl
      | cons c r =>
        simp only [List.isEmpty_cons, Bool.not_false, List.length_cons]
        have : ((r.length + 1 : Nat) : Int) ≠ 0 := by omega
        simp [bne_iff_ne, this]
        omega
    · cases h
  | tup h1 h2 =>
    simp only [truth, sq, Option.map_some, Option.some.injEq] at h
    exact seq rfl h.symm
  | lst h1 h2 =>
    simp only [truth, sq, Option.map_some, Option.some.injEq] at h
    exact seq rfl h.symm
  | rol h1 h2 =>
    simp only [truth, sq, Option.map_some, Option.some.injEq] at h
    exact seq rfl h.symm
  | dic _ _ _ _ => simp [truth] at h
  | obj _ _ _ _ _ => simp [truth] at h
  | fn _ => simp [truth] at h
  | ref e =>
    obtain ⟨o, e1, r1⟩ := so.at e
    cases r1 with
    | lst h1 h2 =>
      simp only [truth, e1, Option.some.injEq] at h
      exact seq (by simp only [sq, e1]) h.symm
    | @dic ks ds kvs _ h1 h2 h3 =>
      simp only [truth, e1, Option.some.injEq] at h
      refine .inr (.inr ⟨kvs, h1, ?_⟩)
      rw [← h]
      cases ks <;> cases kvs <;> simp at h2 ⊢
    | ins _ _ _ _ => simp [truth, e1] at h
end
end MP
end

section
set_option Elab.async false
set_option linter.all false
set_option maxRecDepth 100000
/-! MP: built-in functions and methods by values. -/
namespace MP
open PySem PySem.Spec PyProof.Rows L2

section
variable {g : GC} {θ : Th} {H : Hp} {st : Sto} {d : D} {v : V}
theorem ints_rep : ∀ {xs : List D} {vs : List V} {ns : List Int}, RepL g θ H xs vs → intsOf xs = some ns → vs = ns.map V.int
  | [], _, _, r, h => by
    cases r
    cases h
    rfl
  | x :: xs, _, ns, r, h => by
    cases r with
    | cons r1 r2 =>
      cases x <;> simp only [intsOf] at h <;> try cases h
      obtain ⟨ms, h1, h2⟩ := Option.map_eq_some_iff.mp h
      subst h2
      cases r1
      rw [ints_rep r2 h1]
      rfl
theorem bools_rep : ∀ {xs : List D} {vs : List V} {ns : List Bool}, RepL g θ H xs vs → bools xs = some ns → vs = ns.map V.bl
  | [], _, _, r, h => by
    cases r
    cases h
    rfl
  | x :: xs, _, ns, r, h => by
    cases r with
    | cons r1 r2 =>
      cases x <;> simp only [bools] at h <;> try cases h
      obtain ⟨ms, h1, h2⟩ := Option.map_eq_some_iff.mp h
      subst h2
      cases r1
      rw [bools_rep r2 h1]
      rfl
theorem texts_rep : ∀ {xs : List D} {vs : List V} {ns : List Tx}, RepL g θ H xs vs → texts xs = some ns → vs = (ns.map sOf).map V.str
  | [], _, _, r, h => by
    cases r
    cases h
    rfl
  | x :: xs, _, ns, r, h => by
    cases r with
    | cons r1 r2 =>
      cases x <;> simp only [texts] at h <;> try cases h
      obtain ⟨ms, h1, h2⟩ := Option.map_eq_some_iff.mp h
      subst h2
      cases r1
      rw [texts_rep r2 h1]
      rfl
theorem strs_repL : ∀ ns : List Tx, RepL g θ H (ns.map .str) ((ns.map sOf).map V.str)
  | [] => .nil
  | n :: ns => .cons (.str n) (strs_repL ns)
theorem ints_repL : ∀ ns : List Int, RepL g θ H (ns.map .int) (ns.map V.int)
  | [] => .nil
  | n :: ns => .cons (.int n) (ints_repL ns)
theorem lsq_rep {xs : List D} (s : StoOk g θ H st) (r : Rep g θ H d v) (h : lsq st d = some xs) : ∃ a vs, v = .ref a ∧ H a = some (.lst vs) ∧ RepL g θ H xs vs := by
  unfold lsq at h
  split at h
  · rename_i e
    cases h
    exact top_rep s r e
  · cases h
theorem RepL.dropLast {ds : List D} {vs : List V} (h : RepL g θ H ds vs) : RepL g θ H ds.dropLast vs.dropLast := by
  rw [List.dropLast_eq_take, List.dropLast_eq_take, h.length]
  exact h.take _
end
theorem maxI_ge : ∀ (l : List Int) (m : Int), m ≤ maxI m l ∧ ∀ y ∈ l, y ≤ maxI m l
  | [], m => ⟨Int.le_refl _, fun _ h => nomatch h⟩
  | x :: r, m => by
    unfold maxI
    obtain ⟨h1, h2⟩ := maxI_ge r (if x > m then x else m)
    have h3 : m ≤ (if x > m then x else m) ∧ x ≤ (if x > m then x else m) := by split <;> omega
    refine ⟨Int.le_trans h3.1 h1, fun y hy => ?_⟩
    rcases List.mem_cons.mp hy with e | e
    · rw [e]
      exact Int.le_trans h3.2 h1
    · exact h2 y e
theorem maxI_mem : ∀ (l : List Int) (m : Int), maxI m l ∈ m :: l
  | [], m => List.mem_singleton.mpr rfl
  | x :: r, m => by
    unfold maxI
    rcases List.mem_cons.mp (maxI_mem r (if x > m then x else m)) with e | e
    · rw [e]
      split <;> simp
    · exact List.mem_cons_of_mem _ (List.mem_cons_of_mem _ e)
theorem minI_le : ∀ (l : List Int) (m : Int), minI m l ≤ m ∧ ∀ y ∈ l, minI m l ≤ y
  | [], m => ⟨Int.le_refl _, fun _ h => nomatch h⟩
  | x :: r, m => by
    unfold minI
    obtain ⟨h1, h2⟩ := minI_le r (if x < m then x else m)
    have h3 : (if x < m then x else m) ≤ m ∧ (if x < m then x else m) ≤ x := by split <;> omega
    refine ⟨Int.le_trans h1 h3.1, fun y hy => ?_⟩
    rcases List.mem_cons.mp hy with e | e
    · rw [e]
      exact Int.le_trans h1 h3.2
    · exact h2 y e
theorem minI_mem : ∀ (l : List Int) (m : Int), minI m l ∈ m :: l
  | [], m => List.mem_singleton.mpr rfl
  | x :: r, m => by
    unfold minI
    rcases List.mem_cons.mp (minI_mem r (if x < m then x else m)) with e | e
    · rw [e]
      split <;> simp
    · exact List.mem_cons_of_mem _ (List.mem_cons_of_mem _ e)

section
variable {g : GC} {fr : Bool} {W : WK} {X : Cx}
/-! ### one argument -/
theorem c1_len (xg : Xg g X) : CallR X (.builtin "len") (rC1 g fr W .len) := by
  intro pins s σ H xs us Q I r h
  obtain ⟨x, rfl, θ, st, a, so, ra, h⟩ := h
  have seq : ∀ {ys : List D}, sq st a = some ys → Q (.int ys.length) H → wpAny (model X.prog X.w) X.A (call (.builtin "len") us) (EP X pins σ Q) X.xe s := fun {ys} e q => by
    obtain ⟨l, vs, rfl, hq, rl⟩ := sq_rep so ra e
    refine call_len_seq pins s σ H _ us Q I r ⟨l, vs, rfl, xg.hK ▸ hq, ?_⟩
    rw [← rl.length]
    exact q
  simp only [f1] at h
  split at h
  · split at h
    · rename_i hz
      cases ra
      refine call_len_str pins s σ H _ us Q I r ⟨_, rfl, by rw [sOf_len]; exact hz, ?_⟩
      rw [sOf_len]
      exact h.scal int_ne so (.int _)
    · exact h.no.elim
  · cases ra with
    | dic h1 h2 h3 h4 =>
      obtain ⟨u, rfl, ru⟩ := L2.vals1 r
      cases ru
      refine d_len I h1 fun t s' I' => ⟨.int _, H, I', ⟨t, rfl⟩, ?_⟩
      have e := congrArg List.length h3
      rw [List.length_map, List.length_map] at e
      rw [← e]
      exact h.scal int_ne so (.int _)
  · split at h
    · rename_i e1
      exact seq (by simp only [sq, e1]) (h.scal int_ne so (.int _))
    · rename_i e1
      cases ra with
      | ref e =>
        obtain ⟨o, e2, r1⟩ := so.at e
        rw [e1] at e2
        cases e2
        cases r1 with
        | dic h1 h2 h3 =>
          obtain ⟨u, rfl, ru⟩ := L2.vals1 r
          cases ru
          refine d_len I (.inl h1) fun t s' I' => ⟨.int _, H, I', ⟨t, rfl⟩, ?_⟩
          have e := congrArg List.length h2
          rw [List.length_map, List.length_map] at e
          rw [← e]
          exact h.scal int_ne so (.int _)
    · exact h.no.elim
  · obtain ⟨d, e, h⟩ := Aft.of h
    obtain ⟨ys, e1, e2⟩ := Option.map_eq_some_iff.mp e
    subst e2
    exact seq e1 (h.scal int_ne so (.int _))
theorem c1_tuple (xg : Xg g X) : CallR X (.type "tuple") (rC1 g fr W .tuple) := by
  intro pins s σ H xs us Q I r h
  obtain ⟨x, rfl, θ, st, a, so, ra, h⟩ := h
  obtain ⟨d, e, h⟩ := Aft.of h
  obtain ⟨ys, e1, e2⟩ := Option.map_eq_some_iff.mp e
  subst e2
  cases ra with
  | tup a1 a2 =>
    simp only [sq, Option.some.injEq] at e1
    subst e1
    exact call_tuple_of pins s σ H _ us Q I r ⟨_, _, rfl, .inr ⟨xg.hK ▸ a1.to, h.scal (fun _ z => nomatch z) so (.tup a1 a2)⟩⟩
  | lst a1 a2 =>
    simp only [sq, Option.some.injEq] at e1
    subst e1
    exact call_tuple_of pins s σ H _ us Q I r ⟨_, _, rfl, .inl ⟨xg.hK ▸ a1.to, fun p hp => h.tup' so a2 hp⟩⟩
  | rol a1 a2 =>
    simp only [sq, Option.some.injEq] at e1
    subst e1
    exact call_tuple_of pins s σ H _ us Q I r ⟨_, _, rfl, .inl ⟨xg.hK ▸ a1.to, fun p hp => h.tup' so a2 hp⟩⟩
  | ref e0 =>
    obtain ⟨o, e2, r1⟩ := so.at e0
    cases r1 with
    | lst h1 h2 =>
      simp only [sq, e2, Option.some.injEq] at e1
      subst e1
      exact call_tuple_of pins s σ H _ us Q I r ⟨_, _, rfl, .inl ⟨.inl (.inl h1), fun p hp => h.tup' so h2 hp⟩⟩
    | _ => simp [sq, e2] at e1
  | _ => simp [sq] at e1
theorem c1_list (xg : Xg g X) : CallR X (.type "list") (rC1 g fr W .list) := by
  intro pins s σ H xs us Q I r h
  obtain ⟨x, rfl, θ, st, a, so, ra, h⟩ := h
  obtain ⟨d, e, h⟩ := Aft.of h
  obtain ⟨ys, e1, e2⟩ := Option.map_eq_some_iff.mp e
  subst e2
  obtain ⟨l, vs, rfl, hq, rl⟩ := sq_rep so ra e1
  exact call_list_of pins s σ H _ us Q I r ⟨l, vs, rfl, xg.hK ▸ hq, fun p hp => h.lst so rl hp⟩
theorem c1_int : CallR X (.type "int") (rC1 g fr W .int) := by
  intro pins s σ H xs us Q I r h
  obtain ⟨x, rfl, θ, st, a, so, ra, h⟩ := h
  simp only [f1] at h
  split at h
  · cases ra
    exact call_int1 pins s σ H _ us Q I r (.inl ⟨_, rfl, h.scal int_ne so (.int _)⟩)
  · cases ra
    exact call_int1 pins s σ H _ us Q I r (.inr ⟨_, rfl, h.scal int_ne so (.int _)⟩)
  · exact h.no.elim
theorem c1_str : CallR X (.type "str") (rC1 g fr W .str) := by
  intro pins s σ H xs us Q I r h
  obtain ⟨x, rfl, θ, st, a, so, ra, h⟩ := h
  simp only [f1] at h
  split at h
  · split at h
    · rename_i hz
      cases ra
      exact call_str_int pins s σ H _ us Q I r ⟨_, rfl, hz, h.scal str_ne so (.str _)⟩
    · exact h.no.elim
  · cases ra
    exact SkE.call_str_str pins s σ H _ us Q I r ⟨_, rfl, h.scal str_ne so (.str _)⟩
  · exact h.no.elim
theorem c1_all (xg : Xg g X) : CallR X (.builtin "all") (rC1 g fr W .all) := by
  intro pins s σ H xs us Q I r h
  obtain ⟨x, rfl, θ, st, a, so, ra, h⟩ := h
  obtain ⟨d, e, h⟩ := Aft.of h
  obtain ⟨ys, e1, e2⟩ := Option.map_eq_some_iff.mp e
  subst e2
  obtain ⟨zs, e3, e4⟩ := Option.bind_eq_some_iff.mp e1
  obtain ⟨l, vs, rfl, hq, rl⟩ := lsq_rep so ra e3
  have ev := bools_rep rl e4
  subst ev
  exact L2.cr_all xg.calm pins s σ H _ us Q I r ⟨l, ys, rfl, .inl (.inl hq), h.scal bl_ne so (.bl _)⟩
theorem c1_sum (xg : Xg g X) : CallR X (.builtin "sum") (rC1 g fr W .sum) := by
  intro pins s σ H xs us Q I r h
  obtain ⟨x, rfl, θ, st, a, so, ra, h⟩ := h
  obtain ⟨d, e, h⟩ := Aft.of h
  obtain ⟨ys, e1, e2⟩ := Option.map_eq_some_iff.mp e
  subst e2
  obtain ⟨zs, e3, e4⟩ := Option.bind_eq_some_iff.mp e1
  obtain ⟨l, vs, rfl, hq, rl⟩ := lsq_rep so ra e3
  have ev := ints_rep rl e4
  subst ev
  exact L2.cr_sum xg.calm pins s σ H _ us Q I r ⟨l, ys, rfl, .inl (.inl hq), h.scal int_ne so (.int _)⟩
theorem c1_max (xg : Xg g X) : CallR X (.builtin "max") (rC1 g fr W .max) := by
  intro pins s σ H xs us Q I r h
  obtain ⟨x, rfl, θ, st, a, so, ra, h⟩ := h
  simp only [f1] at h
  split at h
  · rename_i i rest e1
    obtain ⟨zs, e3, e4⟩ := Option.bind_eq_some_iff.mp e1
    obtain ⟨l, vs, rfl, hq, rl⟩ := lsq_rep so ra e3
    have ev := ints_rep rl e4
    subst ev
    refine L2.cr_max xg.calm pins s σ H _ us Q I r ⟨l, i :: rest, rfl, .inl (.inl hq), Nat.succ_pos _, fun m hm hy => ?_⟩
    have em : m = maxI i rest := by
      have h1 := hy _ (maxI_mem rest i)
      obtain ⟨h2, h3⟩ := maxI_ge rest i
      rcases List.mem_cons.mp hm with e | e
      · omega
      · have := h3 m e; omega
    subst em
    exact h.scal int_ne so (.int _)
  · exact h.no.elim
theorem c1_min (xg : Xg g X) : CallR X (.builtin "min") (rC1 g fr W .min) := by
  intro pins s σ H xs us Q I r h
  obtain ⟨x, rfl, θ, st, a, so, ra, h⟩ := h
  simp only [f1] at h
  split at h
  · rename_i i rest e1
    obtain ⟨zs, e3, e4⟩ := Option.bind_eq_some_iff.mp e1
    obtain ⟨l, vs, rfl, hq, rl⟩ := lsq_rep so ra e3
    have ev := ints_rep rl e4
    subst ev
    refine L2.cr_min xg.calm pins s σ H _ us Q I r ⟨l, i :: rest, rfl, .inl (.inl hq), Nat.succ_pos _, fun m hm hy => ?_⟩
    have em : m = minI i rest := by
      have h1 := hy _ (minI_mem rest i)
      obtain ⟨h2, h3⟩ := minI_le rest i
      rcases List.mem_cons.mp hm with e | e
      · omega
      · have := h3 m e; omega
    subst em
    exact h.scal int_ne so (.int _)
  · exact h.no.elim
theorem c1_repr (xg : Xg g X) : CallR X (.builtin "repr") (rC1 g fr W .repr) := by
  intro pins s σ H xs us Q I r h
  obtain ⟨x, rfl, θ, st, a, so, ra, h⟩ := h
  obtain ⟨d, e, h⟩ := Aft.of h
  obtain ⟨t, e1, e2⟩ := Option.map_eq_some_iff.mp e
  subst e2
  unfold reprD at e1
  split at e1
  · rename_i p e3
    split at e1
    · rename_i hz
      cases e1
      simp only [Bool.and_eq_true, decide_eq_true_eq, okPd] at hz
      obtain ⟨⟨z1, z2⟩, z3⟩ := hz
      have dp := toppd_rep so ra e3
      obtain ⟨u, rfl, ru⟩ := L2.vals1 r
      obtain ⟨as, rd⟩ := Dp.reads I p x u (xg.hK ▸ dp) ru
      have fin : Q (.str p.shown) H := by
        have := h.scal str_ne so (.str _)
        have e : sOf p.shown.cps.toList = p.shown := by
          show (⟨p.shown.cps.toList.toArray⟩ : Str) = p.shown
          simp
        rwa [e] at this
      have hdep : p.depth ≤ 64 := SeqAt.depth_of_shaped z1
      have hnd : p.hasDict = false := PyData.hasDict_of_canLay p (SeqAt.canLay_of_shaped z1)
      have un := xg.un
      cases rd with
      | none => exact PySem.P.repr_of_none ⟨.str _, H, I.tok _, ⟨_, rfl⟩, by simpa only [PyData.shown] using fin⟩
      | bool b => exact PySem.P.repr_of_bool ⟨.str _, H, I.tok _, ⟨_, rfl⟩, by simpa only [PyData.shown] using fin⟩
      | int i t => exact PySem.P.repr_of_int (by simpa [PyData.showable] using z2) ⟨.str _, H, I.tok _, ⟨_, rfl⟩, by simpa only [PyData.shown] using fin⟩
      | str y t => exact PySem.P.repr_of_str ⟨.str _, H, I.tok _, ⟨_, rfl⟩, by simpa only [PyData.shown] using fin⟩ (by simpa only [PyData.shown] using z3)
      | list q1 q2 q3 q4 =>
        exact repr_of_reads' (h₀ := s.heap) (.list q1 q2 q3 q4) z2 (fun z => by rw [hnd] at z; cases z) xg.gd (by omega) (fun _ _ q => q) (fun h' u tk hk => ⟨.str _, H, I.kept hk, ⟨u, rfl⟩, fin⟩) z3
      | tuple q1 q2 q3 q4 =>
        exact repr_of_reads' (h₀ := s.heap) (.tuple q1 q2 q3 q4) z2 (fun z => by rw [hnd] at z; cases z) xg.gd (by omega) (fun _ _ q => q) (fun h' u tk hk => ⟨.str _, H, I.kept hk, ⟨u, rfl⟩, fin⟩) z3
      | dict q1 q2 q3 q4 q5 => simp [PyData.hasDict] at hnd
    · cases e1
  · cases e1

/-! ### two arguments -/
theorem c2_max (xg : Xg g X) : CallR X (.builtin "max") (rC2 g fr W .max) := by
  intro pins s σ H xs us Q I r h
  obtain ⟨x, y, rfl, θ, st, a, b, so, ra, rb, h⟩ := h
  simp only [f2] at h
  split at h
  · cases ra; cases rb
    exact call_max2 xg.calm pins s σ H _ us Q I r ⟨_, _, rfl, h.scal int_ne so (.int _)⟩
  · exact h.no.elim
theorem c2_min (xg : Xg g X) : CallR X (.builtin "min") (rC2 g fr W .min) := by
  intro pins s σ H xs us Q I r h
  obtain ⟨x, y, rfl, θ, st, a, b, so, ra, rb, h⟩ := h
  simp only [f2] at h
  split at h
  · cases ra; cases rb
    exact call_min2 xg.calm pins s σ H _ us Q I r ⟨_, _, rfl, h.scal int_ne so (.int _)⟩
  · exact h.no.elim

/-! ### methods -/
def rM1 (g : GC) (fr : Bool) (W : WK) (o : O1) : V → List V → Hp → VK → Prop := fun x xs H Q => xs = [] ∧ rO1 g fr W o x H Q
def rM2 (g : GC) (fr : Bool) (W : WK) (o : O2) : V → List V → Hp → VK → Prop := fun x xs H Q => ∃ y, xs = [y] ∧ rO2 g fr W o x y H Q
theorem m_append : MtR X "list.append" (rM2 g false W .append) := by
  intro pins s σ H x xs v us Q I rx r h
  obtain ⟨y, rfl, θ, st, a, b, so, ra, rb, h⟩ := h
  simp only [f2] at h
  split at h
  · split at h
    · split at h
      · rename_i n ys e1 hz
        cases ra with
        | @ref _ l0 e =>
          obtain ⟨o, e2, r1⟩ := so.at e
          rw [e1] at e2
          cases e2
          cases r1 with
          | lst h1 h2 =>
            refine mt_append pins s σ H _ _ v us Q I rx r ⟨_, _, _, rfl, rfl, h1, by rw [← h2.length]; exact hz, ?_⟩
            have ha := List.mem_of_getElem? e
            have x1 : ∀ u, Ext θ θ H (upd H l0 u) := fun u => ext_set ha
            exact h.2 θ _ _ (x1 _) (so.put e (.lst upd_same ((RepL.mono (x1 _) _ _ h2).append (.one (Rep.mono (x1 _) _ _ rb))))) .non
      · exact h.no.elim
    · exact h.no.elim
  · exact h.no.elim
theorem m_extend : MtR X "list.extend" (rM2 g false W .extend) := by
  intro pins s σ H x xs v us Q I rx r h
  obtain ⟨y, rfl, θ, st, a, b, so, ra, rb, h⟩ := h
  simp only [f2] at h
  split at h
  · split at h
    · split at h
      · rename_i n _ _ ys zs e1 e3 hz
        cases ra with
        | @ref _ l0 e =>
          obtain ⟨o, e2, r1⟩ := so.at e
          rw [e1] at e2
          cases e2
          cases r1 with
          | lst h1 h2 =>
            obtain ⟨l, vs, rfl, h3, r3⟩ := top_rep so rb e3
            refine mt_extend pins s σ H _ _ v us Q I rx r ⟨_, _, _, _, rfl, rfl, h1, h3, by rw [← h2.length, ← r3.length]; exact hz, ?_⟩
            have ha := List.mem_of_getElem? e
            have x1 : ∀ u, Ext θ θ H (upd H l0 u) := fun u => ext_set ha
            exact h.2 θ _ _ (x1 _) (so.put e (.lst upd_same ((RepL.mono (x1 _) _ _ h2).append (RepL.mono (x1 _) _ _ r3)))) .non
      · exact h.no.elim
    · exact h.no.elim
  · exact h.no.elim
theorem m_pop : MtR X "list.pop" (rM1 g false W .pop) := by
  intro pins s σ H x xs v us Q I rx r h
  obtain ⟨rfl, θ, st, a, so, ra, h⟩ := h
  simp only [f1] at h
  split at h
  · split at h
    · split at h
      · rename_i n ys e1 _ d e3
        cases ra with
        | @ref _ l0 e =>
          obtain ⟨o, e2, r1⟩ := so.at e
          rw [e1] at e2
          cases e2
          cases r1 with
          | lst h1 h2 =>
            rw [List.getLast?_eq_getElem?] at e3
            obtain ⟨w, e4, rw'⟩ := h2.get e3
            refine mt_pop pins s σ H _ _ v us Q I rx r ⟨_, _, w, rfl, rfl, h1, by rw [← h2.length]; exact e4, ?_⟩
            have ha := List.mem_of_getElem? e
            have x1 : ∀ u, Ext θ θ H (upd H l0 u) := fun u => ext_set ha
            exact h.2 θ _ _ (x1 _) (so.put e (.lst upd_same (RepL.mono (x1 _) _ _ h2).dropLast)) (Rep.mono (x1 _) _ _ rw')
      · exact h.no.elim
    · exact h.no.elim
  · exact h.no.elim
theorem tl_sOf (s : Tx) : TL.tl (sOf s) = s := by simp [TL.tl]
theorem tls_sOf : ∀ ts : List Tx, (ts.map sOf).map TL.tl = ts
  | [] => rfl
  | t :: r => by rw [List.map_cons, List.map_cons, tl_sOf, tls_sOf r]
theorem join_sOf (s : Tx) (ts : List Tx) : Txt.join (sOf s) (ts.map sOf) = sOf (TL.joinL s ts) := by
  have e := TL.tl_join (sOf s) (ts.map sOf)
  rw [← TL.join_eq, tl_sOf, tls_sOf] at e
  show _ = (⟨(TL.joinL s ts).toArray⟩ : Str)
  rw [← e]
theorem sum_sOf : ∀ ts : List Tx, ((ts.map sOf).map (·.length)).sum = (ts.map List.length).sum
  | [] => rfl
  | t :: r => by rw [List.map_cons, List.map_cons, List.map_cons, List.sum_cons, List.sum_cons, sOf_len, sum_sOf r]
theorem m_join (xg : Xg g X) : MtR X "str.join" (rM2 g fr W .join) := by
  intro pins s σ H x xs v us Q I rx r h
  obtain ⟨y, rfl, θ, st, a, b, so, ra, rb, h⟩ := h
  simp only [f2] at h
  split at h
  · split at h
    · rename_i z ts e1 hz
      obtain ⟨ys, e2, e3⟩ := Option.bind_eq_some_iff.mp e1
      obtain ⟨l, vs, rfl, hq, rl⟩ := sq_rep so rb e2
      have ev := texts_rep rl e3
      subst ev
      cases ra
      refine mt_join pins s σ H _ _ v us Q I rx r ⟨_, l, ts.map sOf, rfl, rfl, xg.hK ▸ hq, ?_, ?_⟩
      · rw [sum_sOf, sOf_len, List.length_map]
        exact hz
      · rw [join_sOf]
        exact h.scal str_ne so (.str _)
    · exact h.no.elim
  · exact h.no.elim
theorem m_split : MtR X "str.split" (rM2 g fr W .split) := by
  intro pins s σ H x xs v us Q I rx r h
  obtain ⟨y, rfl, θ, st, a, b, so, ra, rb, h⟩ := h
  simp only [f2] at h
  split at h
  · split at h
    · rename_i z c hz
      simp only [Bool.and_eq_true, decide_eq_true_eq] at hz
      cases ra; cases rb
      refine mt_split pins s σ H _ _ v us Q I rx r ⟨_, _, rfl, rfl, rfl, by rw [sOf_len]; exact hz.1, fun p hp => ?_⟩
      have e : Txt.split (sOf z) (sOf [c]) = (TL.spl [c] 0 [] z).map sOf := SX.split_S (a := z) (b := [c]) (by simp) (by simp [hz.2])
      rw [e]
      exact h.lst so (strs_repL _) hp
    · exact h.no.elim
  · exact h.no.elim
theorem sl_ok {hi lo : Option Int} {d : D} {o : Option Int} {x : V} {θ : Th} {H : Hp} (r : Rep g θ H d x) (h : optI d = some o) : (x = .non ∧ o = none) ∨ ∃ i, x = .int i ∧ o = some i := by
  cases r <;> simp [optI] at h
  · exact .inl ⟨rfl, h.symm⟩
  · exact .inr ⟨_, rfl, h.symm⟩
theorem cutS_sOf (s : Tx) (lo hi : Option Int) : cutS (sOf s) lo hi = sOf (cut s lo hi) := by
  unfold cutS cut
  rw [sOf_len, sIx_eq, sIx_eq, sOf_cps]
theorem cut_whole {α : Type} (xs : List α) (lo hi : Option Int) (h : HT.sIx xs.length 0 lo = 0 ∧ HT.sIx xs.length xs.length hi = xs.length) : cut xs lo hi = xs := by
  unfold cut
  rw [sIx_eq, sIx_eq, h.1, h.2]
  simp
theorem o3_slice (xg : Xg g X) : SlR X (fun x lo hi H Q => ∃ θ st a b c, StoOk g θ H st ∧ Rep g θ H a x ∧ optI b = some lo ∧ optI c = some hi ∧ Aft g fr θ H W Q (f3 .slice a b c st)) := by
  intro pins s σ H x v vl vu lo hi sl Q I rx hs pl pu h
  obtain ⟨θ, st, a, b, c, so, ra, e1, e2, h⟩ := h
  simp only [f3, e1, e2] at h
  have seqL : ∀ {l : Addr} {vs : List V} {ys : List D}, x = .ref l → SqL g.K H l vs → RepL g θ H ys vs → Aft g fr θ H W Q (.ok (.lst (cut ys lo hi)) st) → _ := fun {l vs ys} ex hq rl h =>
    sl_list pins s σ H x v vl vu lo hi sl Q I rx hs pl pu ⟨l, vs, ex, xg.hK ▸ hq, fun p hp => h.lst so (cut_rep rl lo hi) hp⟩
  cases ra with
  | str z =>
    simp only at h
    split at h
    · rename_i hz
      refine sl_str pins s σ H _ v vl vu lo hi sl Q I rx hs pl pu ⟨_, rfl, by rw [sOf_len]; exact hz, ?_⟩
      rw [cutS_sOf]
      exact h.scal str_ne so (.str _)
    · exact h.no.elim
  | tup a1 a2 =>
    simp only at h
    refine sl_tupA pins s σ H _ v vl vu lo hi sl Q I rx hs pl pu ⟨_, _, rfl, xg.hK ▸ a1.to, fun z => ?_, fun z p hp => h.tup' so (cut_rep a2 lo hi) hp⟩
    rw [cut_whole _ _ _ (by rw [a2.length]; exact z)] at h
    exact h.scal (fun _ z => nomatch z) so (.tup a1 a2)
  | lst a1 a2 =>
    simp only [sq, Option.map_some, R.of] at h
    exact seqL rfl a1.to a2 h
  | rol a1 a2 =>
    simp only [sq, Option.map_some, R.of] at h
    exact seqL rfl a1.to a2 h
  | ref e =>
    obtain ⟨o, e3, r1⟩ := so.at e
    cases r1 with
    | lst h1 h2 =>
      simp only [sq, e3, Option.map_some, R.of] at h
      exact seqL rfl (.inl (.inl h1)) h2 h
    | _ => simp only [sq, e3, Option.map_none, R.of] at h; exact h.no.elim
  | _ => simp only [sq, Option.map_none, R.of] at h; exact h.no.elim
end
end MP
end

section
set_option Elab.async false
set_option linter.all false
set_option maxRecDepth 100000
/-! MP: the forms of expressions. -/
namespace MP
open PySem PySem.Spec PyProof.Rows L2

/-- what a context of a body or a comprehension has -/
structure XX (g : GC) (W : WX) (X : Cx) : Prop extends Xg g X where
  tk : L2.Takes X W
  nd : X.N.Nodup
  kind : X.env.scope.kind = .function

def W0 (W : WX) : WK := fun c dx H => ∃ σ, W c dx σ H
section
variable {g : GC} {fr : Bool} {θ : Th} {H : Hp} {Q : VK} {r : R D}
theorem Aft.w {W W' : WK} (a : Aft g fr θ H W Q r) (h : ∀ c dx H, W c dx H → W' c dx H) : Aft g fr θ H W' Q r := by
  cases r with
  | ok d st => exact a
  | exc y st => exact fun θ' H' c dx x s rx => h _ _ _ (a θ' H' c dx x s rx)
  | no => exact a
theorem Aft.w0 {W : WX} {σ : L2.St} (a : Aft g fr θ H (fun c dx H' => W c dx σ H') Q r) : Aft g fr θ H (W0 W) Q r := a.w fun _ _ _ h => ⟨σ, h⟩
/-- first a value, then the rest -/
theorem Aft.bind {W : WK} {f : D → Sto → R D} (a : Aft g fr θ H W Q (r.bind f)) : Aft g false θ H W (fun v H1 => ∃ θ1 st1 d, Ext θ θ1 H H1 ∧ StoOk g θ1 H1 st1 ∧ Rep g θ1 H1 d v ∧ Aft g fr θ1 H1 W Q (f d st1)) r := by
  cases r with
  | ok d st => exact ⟨(fun z => nomatch z), fun θ' H' v x s rv => ⟨θ', st, d, x, s, rv, Aft.shift a x⟩⟩
  | exc y st => exact a
  | no => exact a
end

section
variable {g : GC} {fr : Bool} {W : WX} {X : Cx} {Φ : Phi} {a b c e o : Expr} {es : List Expr} {ea eb ec el : E} {pos p p2 p3 : Pos}

/-! ### constants, names -/
theorem sE_const {d : D} {v : V} (h : PE X e (tC v)) (hd : ∀ xs, d ≠ .lst xs) (r : ∀ θ H, Rep g θ H d v) : PE X e (tE g fr W (ev Φ (.c d))) :=
  PE.imp h fun σ H Q q => by
    obtain ⟨θ, st, ρ, s, _, _, q⟩ := q
    exact Aft.scal (d := d) q hd s (r θ H)
theorem sE_var {i : Nat} {x : Str} (hN : X.N[i]? = some x) (hv : Vis X.env.scope x) (hd : (x == ("__debug__" : Str)) = false) (hcd : (x == ("__classdict__" : Str)) = false) :
    PE X (.Name x pos) (tE g false W (ev Φ (.v i))) :=
  PE.imp (pe_var hN hv hd hcd) fun σ H Q q => by
    obtain ⟨θ, st, ρ, s, en, _, q⟩ := q
    simp only [ev] at q
    split at q
    · rename_i d e
      obtain ⟨v, h1, h2⟩ := en i d e
      exact ⟨v, h1, q.val s h2⟩
    · exact q.elim

/-! ### operations -/
theorem one {σ : L2.St} {H : Hp} {Q : VK} {m : Env → Sto → R D} {f : D → Sto → R D} (h : tE g fr W (fun ρ st => (m ρ st).bind f) σ H Q) :
    tE g false W m σ H fun x H1 => ∃ θ st a, StoOk g θ H1 st ∧ Rep g θ H1 a x ∧ Aft g fr θ H1 (W0 W) Q (f a st) := by
  obtain ⟨θ, st, ρ, s, en, l, h⟩ := h
  exact tE_bind s en l h fun d st1 θ1 H1 x x1 s1 e1 r1 h1 => ⟨θ1, st1, d, s1, r1, h1.w0⟩
theorem two {σ : L2.St} {H : Hp} {Q : VK} {m n : Env → Sto → R D} {f : D → D → Sto → R D} (h : tE g fr W (fun ρ st => (m ρ st).bind fun x st1 => (n ρ st1).bind fun y st2 => f x y st2) σ H Q) :
    tE g false W m σ H fun x H1 => tE g false W n σ H1 fun y H2 => ∃ θ st a b, StoOk g θ H2 st ∧ Rep g θ H2 a x ∧ Rep g θ H2 b y ∧ Aft g fr θ H2 (W0 W) Q (f a b st) := by
  obtain ⟨θ, st, ρ, s, en, l, h⟩ := h
  refine tE_bind s en l h fun d st1 θ1 H1 x x1 s1 e1 r1 h1 => ?_
  exact tE_bind s1 e1 l h1 fun d2 st2 θ2 H2 y x2 s2 e2 r2 h2 => ⟨θ2, st2, d, d2, s2, Rep.mono x2 _ _ r1, r2, h2.w0⟩
theorem three {σ : L2.St} {H : Hp} {Q : VK} {m n k : Env → Sto → R D} {f : D → D → D → Sto → R D} (h : tE g fr W (fun ρ st => (m ρ st).bind fun x st1 => (n ρ st1).bind fun y st2 => (k ρ st2).bind fun z st3 => f x y z st3) σ H Q) :
    tE g false W m σ H fun x H1 => tE g false W n σ H1 fun y H2 => tE g false W k σ H2 fun z H3 => ∃ θ st a b c, StoOk g θ H3 st ∧ Rep g θ H3 a x ∧ Rep g θ H3 b y ∧ Rep g θ H3 c z ∧ Aft g fr θ H3 (W0 W) Q (f a b c st) := by
  obtain ⟨θ, st, ρ, s, en, l, h⟩ := h
  refine tE_bind s en l h fun d st1 θ1 H1 x x1 s1 e1 r1 h1 => ?_
  refine tE_bind s1 e1 l h1 fun d2 st2 θ2 H2 y x2 s2 e2 r2 h2 => ?_
  exact tE_bind s2 e2 l h2 fun d3 st3 θ3 H3 z x3 s3 e3 r3 h3 => ⟨θ3, st3, d, d2, d3, s3, Rep.mono x3 _ _ (Rep.mono x2 _ _ r1), Rep.mono x3 _ _ r2, r3, h3.w0⟩

theorem sE_op {op : Operator} {o : O2} (ho : OpR X (binaryOp op) (rO2 g fr (W0 W) o)) (ha : PE X a (tE g false W (ev Φ ea))) (hb : PE X b (tE g false W (ev Φ eb))) : PE X (.BinOp a op b pos) (tE g fr W (ev Φ (.o2 o ea eb))) :=
  PE.imp (pe_op ho ha hb) fun _ _ _ h => two h
theorem sE_cmp {op : CmpOp} {o : O2} (ho : OpR X (compareOp op) (rO2 g fr (W0 W) o)) (ha : PE X a (tE g false W (ev Φ ea))) (hb : PE X b (tE g false W (ev Φ eb))) (hm : behindInMarks op b = false) : PE X (.Compare a [op] [b] pos) (tE g fr W (ev Φ (.o2 o ea eb))) :=
  PE.imp (pe_cmpR ho ha hb hm) fun _ _ _ h => two h
theorem sE_chain {op op' : CmpOp} {o o' : O2} (ho : OpR X (compareOp op) (rO2 g false (W0 W) o)) (ho' : OpR X (compareOp op') (rO2 g fr (W0 W) o')) (ha : PE X a (tE g false W (ev Φ ea))) (hb : PE X b (tE g false W (ev Φ eb))) (hc : PE X c (tE g false W (ev Φ ec)))
    (hm : lastMarks [op, op'] [b, c] = false) : PE X (.Compare a [op, op'] [b, c] pos) (tE g fr W (ev Φ (.chain ea o eb o' ec))) :=
  PE.imp (pe_chain ho ho' ha hb hc hm) fun σ H Q h => by
    obtain ⟨θ, st, ρ, s, en, l, h⟩ := h
    refine tE_bind s en l h fun d st1 θ1 H1 x x1 s1 e1 r1 h1 => ?_
    refine tE_bind s1 e1 l h1 fun d2 st2 θ2 H2 y x2 s2 e2 r2 h2 => ?_
    refine ⟨θ2, st2, d, d2, s2, Rep.mono x2 _ _ r1, r2, ?_⟩
    have h2' : Aft g fr θ2 H2 (fun c dx H' => W c dx σ H') Q ((f2 o d d2 st2).bind fun r st3 => match r with
      | .bl true => (ev Φ ec ρ st3).bind fun z st4 => f2 o' d2 z st4
      | .bl false => .ok (.bl false) st3
      | _ => .no) := h2
    revert h2'
    cases f2 o d d2 st2 with
    | ok r st3 =>
      intro h2'
      refine ⟨fun z => (nomatch z), fun θ3 H3 v x3 s3 r3 => ?_⟩
      replace h2' := Aft.shift h2' x3
      have e3 := e2.mono x3
      have ry := Rep.mono x3 _ _ r2
      cases r with
      | bl k =>
        cases r3
        refine ⟨k, rfl, ?_⟩
        cases k with
        | true =>
          rw [if_pos rfl]
          exact tE_bind s3 e3 l h2' fun d4 st4 θ4 H4 z x4 s4 e4 r4 h4 => ⟨θ4, st4, d2, d4, s4, Rep.mono x4 _ _ ry, r4, h4.w0⟩
        | false =>
          rw [if_neg Bool.false_ne_true]
          exact Aft.scal (d := .bl false) h2' bl_ne s3 (.bl false)
      | _ => exact h2'.elim
    | exc y st3 => exact fun h2' => Aft.w0 (fr := false) (Q := fun _ _ => True) (r := .exc y st3) h2'
    | no => exact fun h2' => h2'
theorem sE_neg (ha : PE X a (tE g false W (ev Φ ea))) : PE X (.UnaryOp .USub a pos) (tE g fr W (ev Φ (.o1 .neg ea))) :=
  PE.imp (pe_un (r := rO1 g fr (W0 W) .neg) (fun pins s σ H x v Q I r h => by
    obtain ⟨θ, st, d, so, rd, h⟩ := h
    simp only [f1] at h
    split at h
    · cases rd
      exact un_neg pins s σ H _ v Q I r ⟨_, rfl, h.scal int_ne so (.int _)⟩
    · exact h.elim) ha) fun _ _ _ h => one h
theorem sE_not (hg : X.K = g.K) (ha : PE X a (tE g false W (ev Φ ea))) : PE X (.UnaryOp .Not a pos) (tE g fr W (ev Φ (.o1 .not ea))) :=
  PE.imp (pe_notT ha) fun σ H Q h => by
    obtain ⟨θ, st, ρ, s, en, l, h⟩ := h
    refine tE_bind s en l h fun d st1 θ1 H1 x x1 s1 e1 r1 h1 => ?_
    simp only [f1] at h1
    split at h1
    · rename_i b hb
      exact ⟨b, hg ▸ truth_rep s1 r1 hb, Aft.scal (d := .bl (!b)) h1 bl_ne s1 (.bl _)⟩
    · exact h1.elim
theorem sE_and {rest : List Expr} (ha : PE X a (tE g false W (ev Φ ea))) (hb : PE X (.BoolOp .And (b :: rest) pos) (tE g fr W (ev Φ eb))) : PE X (.BoolOp .And (a :: b :: rest) pos) (tE g fr W (ev Φ (.and ea eb))) :=
  PE.imp (pe_and ha hb) fun σ H Q h => by
    obtain ⟨θ, st, ρ, s, en, l, h⟩ := h
    refine tE_bind s en l h fun d st1 θ1 H1 x x1 s1 e1 r1 h1 => ?_
    cases d with
    | bl k =>
      cases r1
      refine ⟨k, rfl, ?_⟩
      cases k with
      | true => rw [if_pos rfl]; exact ⟨θ1, st1, ρ, s1, e1, l, h1⟩
      | false => rw [if_neg Bool.false_ne_true]; exact Aft.scal (d := .bl false) h1 bl_ne s1 (.bl _)
    | _ => exact h1.elim
theorem sE_or {rest : List Expr} (ha : PE X a (tE g false W (ev Φ ea))) (hb : PE X (.BoolOp .Or (b :: rest) pos) (tE g fr W (ev Φ eb))) : PE X (.BoolOp .Or (a :: b :: rest) pos) (tE g fr W (ev Φ (.or ea eb))) :=
  PE.imp (pe_or ha hb) fun σ H Q h => by
    obtain ⟨θ, st, ρ, s, en, l, h⟩ := h
    refine tE_bind s en l h fun d st1 θ1 H1 x x1 s1 e1 r1 h1 => ?_
    cases d with
    | bl k =>
      cases r1
      refine ⟨k, rfl, ?_⟩
      cases k with
      | false => rw [if_neg Bool.false_ne_true]; exact ⟨θ1, st1, ρ, s1, e1, l, h1⟩
      | true => rw [if_pos rfl]; exact Aft.scal (d := .bl true) h1 bl_ne s1 (.bl _)
    | _ => exact h1.elim

/-! ### tests -/
theorem sT_truth (hg : X.K = g.K) (ha : PE X a (tE g false W (ev Φ ea))) (he : ∀ whole, isTrue a X.env whole = (do let v ← whole; standAt a.pos; holding [v] (truthy v))) : PT X a (tB g W (tst Φ ea)) :=
  PT.imp (pt_truth ha he) fun σ H Q h => by
    obtain ⟨θ, st, ρ, s, en, l, h⟩ := h
    refine tE_bindB s en l h fun d st1 θ1 H1 x x1 s1 e1 r1 h1 => ?_
    cases hb : truth st1 d with
    | none => rw [hb] at h1; exact h1.elim
    | some b =>
      rw [hb] at h1
      exact ⟨b, hg ▸ truth_rep s1 r1 hb, h1 θ1 H1 .refl s1⟩
theorem sT_not (ha : PT X a (tB g W (tst Φ ea))) : PT X (.UnaryOp .Not a pos) (tB g W (tst Φ (.o1 .not ea))) :=
  PT.imp (pt_not ha) fun σ H Q h => by
    obtain ⟨θ, st, ρ, s, en, l, h⟩ := h
    refine ⟨θ, st, ρ, s, en, l, ?_⟩
    simp only [tst, ev] at h ⊢
    cases q : ev Φ ea ρ st with
    | ok d st1 =>
      rw [q] at h
      simp only [R.bind, f1] at h ⊢
      cases hb : truth st1 d with
      | none => rw [hb] at h; exact h
      | some b => rw [hb] at h; exact h
    | exc y st1 => rw [q] at h; exact h
    | no => rw [q] at h; exact h
/-- a test, then the rest -/
theorem tB_ite {σ : L2.St} {H : Hp} {Q : Bool → Hp → Prop} {m : Env → Sto → R Bool} (h : tB g W (fun ρ st => (ev Φ ec ρ st).bind fun x st1 => match truth st1 x with
      | some true => tst Φ ea ρ st1
      | some false => tst Φ eb ρ st1
      | none => .no) σ H Q) : tB g W (tst Φ ec) σ H fun k H1 => if k = true then tB g W (tst Φ ea) σ H1 Q else tB g W (tst Φ eb) σ H1 Q := by
  obtain ⟨θ, st, ρ, s, en, l, h⟩ := h
  refine ⟨θ, st, ρ, s, en, l, ?_⟩
  dsimp only at h
  simp only [tst]
  cases q : ev Φ ec ρ st with
  | ok d st1 =>
    rw [q] at h
    simp only [R.bind] at h ⊢
    cases hb : truth st1 d with
    | none => rw [hb] at h; exact h
    | some k =>
      rw [hb] at h
      cases k with
      | true => exact fun θ' H' x' s' => (show tB g W (tst Φ ea) σ H' Q from ⟨θ', st1, ρ, s', en.mono x', l, AftB.shift h x'⟩)
      | false => exact fun θ' H' x' s' => (show tB g W (tst Φ eb) σ H' Q from ⟨θ', st1, ρ, s', en.mono x', l, AftB.shift h x'⟩)
  | exc y st1 => rw [q] at h; exact h
  | no => rw [q] at h; exact h
theorem tst_ite (ρ : Env) (st : Sto) : tst Φ (.ite ec ea eb) ρ st = (ev Φ ec ρ st).bind fun x st1 => match truth st1 x with
      | some true => tst Φ ea ρ st1
      | some false => tst Φ eb ρ st1
      | none => .no := by
  simp only [tst, ev]
  cases q : ev Φ ec ρ st with
  | ok d st1 =>
    simp only [R.bind]
    cases hb : truth st1 d with
    | none => rfl
    | some k => cases k <;> rfl
  | exc y st1 => rfl
  | no => rfl
theorem tB_c {σ : L2.St} {H : Hp} {Q : Bool → Hp → Prop} {k : Bool} (h : tB g W (tst Φ (.c (.bl k))) σ H Q) : Q k H := by
  obtain ⟨θ, st, ρ, s, en, l, h⟩ := h
  exact h θ H .refl s
theorem sT_and1 (ha : PT X a (tB g W (tst Φ ea))) : PW X (.BoolOp .And [a] pos) (tB g W (tst Φ ea)) := pw_and1 ha
theorem sT_or1 (ha : PT X a (tB g W (tst Φ ea))) : PW X (.BoolOp .Or [a] pos) (tB g W (tst Φ ea)) := pw_or1 ha
theorem sT_and {rest : List Expr} (ha : PT X a (tB g W (tst Φ ea))) (hb : PW X (.BoolOp .And (b :: rest) pos) (tB g W (tst Φ eb))) : PW X (.BoolOp .And (a :: b :: rest) pos) (tB g W (tst Φ (.ite ea eb (.c (.bl false))))) :=
  PW.imp (pw_and ha hb) fun σ H Q h => by
    rw [show tst Φ (.ite ea eb (.c (.bl false))) = _ from funext fun ρ => funext fun st => tst_ite ρ st] at h
    obtain ⟨θ, st, ρ, s, en, l, h⟩ := tB_ite (m := tst Φ ea) h
    refine ⟨θ, st, ρ, s, en, l, ?_⟩
    revert h
    cases tst Φ ea ρ st with
    | ok k st1 =>
      intro h θ' H' x' s'
      have := h θ' H' x' s'
      cases k with
      | true => exact this
      | false => exact tB_c this
    | exc y st1 => exact fun h => h
    | no => exact fun h => h
theorem sT_or {rest : List Expr} (ha : PT X a (tB g W (tst Φ ea))) (hb : PW X (.BoolOp .Or (b :: rest) pos) (tB g W (tst Φ eb))) : PW X (.BoolOp .Or (a :: b :: rest) pos) (tB g W (tst Φ (.ite ea (.c (.bl true)) eb))) :=
  PW.imp (pw_or ha hb) fun σ H Q h => by
    rw [show tst Φ (.ite ea (.c (.bl true)) eb) = _ from funext fun ρ => funext fun st => tst_ite ρ st] at h
    obtain ⟨θ, st, ρ, s, en, l, h⟩ := tB_ite (m := tst Φ ea) h
    refine ⟨θ, st, ρ, s, en, l, ?_⟩
    revert h
    cases tst Φ ea ρ st with
    | ok k st1 =>
      intro h θ' H' x' s'
      have := h θ' H' x' s'
      cases k with
      | true => exact tB_c this
      | false => exact this
    | exc y st1 => exact fun h => h
    | no => exact fun h => h
def isCmp (o : O2) : Bool := match o with
  | .eq => true | .ne => true | .lt => true | .le => true | .gt => true | .ge => true | .isIn => true | .notIn => true | .is => true | .isNot => true
  | _ => false
theorem of_bl {st st' : Sto} {x : Option D} {d : D} (h : R.of st x = .ok d st') (hx : ∀ d, x = some d → ∃ k, d = .bl k) : ∃ k, d = .bl k := by
  cases x with
  | none => cases h
  | some y => cases h; exact hx _ rfl
theorem map_bl {o : Option Bool} {f : Bool → Bool} {d : D} (h : o.map (fun b => D.bl (f b)) = some d) : ∃ k, d = .bl k := by
  cases o with
  | none => cases h
  | some b => cases h; exact ⟨_, rfl⟩
theorem cmp_bl {o : O2} (ho : isCmp o = true) {x y d : D} {st st' : Sto} (h : f2 o x y st = .ok d st') : ∃ k, d = .bl k := by
  cases o <;> (first | cases ho | skip) <;> simp only [f2] at h
  · exact of_bl h fun d e => map_bl (f := id) e
  · exact of_bl h fun d e => map_bl e
  · exact of_bl h fun d e => map_bl (f := id) e
  · exact of_bl h fun d e => map_bl e
  · exact of_bl h fun d e => map_bl (f := id) e
  · exact of_bl h fun d e => map_bl e
  · split at h
    · cases h; exact ⟨_, rfl⟩
    · cases h
    · split at h
      · split at h
        · cases h; exact ⟨_, rfl⟩
        · cases h
      · exact of_bl h fun d e => map_bl (f := id) e
  · split at h
    · cases h; exact ⟨_, rfl⟩
    · cases h
    · split at h
      · split at h
        · cases h; exact ⟨_, rfl⟩
        · cases h
      · exact of_bl h fun d e => map_bl e
  · split at h
    · cases h; exact ⟨_, rfl⟩
    · split at h
      · cases h; exact ⟨_, rfl⟩
      · cases h
    · cases h
  · split at h
    · cases h; exact ⟨_, rfl⟩
    · split at h
      · cases h; exact ⟨_, rfl⟩
      · cases h
    · cases h
end
end MP
end

section
set_option Elab.async false
set_option linter.all false
set_option maxRecDepth 100000
/-! MP: tests of comparisons, argument lists, displays, calls of built-ins, subscripts. -/
namespace MP
open PySem PySem.Spec PyProof.Rows L2
theorem R.bind_ok {α β : Type} {r : R α} {f : α → Sto → R β} {b : β} {st : Sto} (h : r.bind f = .ok b st) : ∃ a st1, r = .ok a st1 ∧ f a st1 = .ok b st := by
  cases r with
  | ok a st1 => exact ⟨a, st1, rfl, h⟩
  | exc y st1 => cases h
  | no => cases h
section
variable {g : GC} {fr : Bool} {W : WX} {X : Cx} {Φ : Phi} {a b c e o : Expr} {es : List Expr} {ea eb ec el : E} {pos p p2 p3 : Pos}
theorem tB_tE {σ : L2.St} {H : Hp} {Q : Bool → Hp → Prop} (hb : ∀ ρ st d st', ev Φ ea ρ st = .ok d st' → ∃ k, d = .bl k) (h : tB g W (tst Φ ea) σ H Q) :
    tE g false W (ev Φ ea) σ H fun x H' => ∃ k, x = .bl k ∧ Q k H' := by
  obtain ⟨θ, st, ρ, s, en, l, h⟩ := h
  refine ⟨θ, st, ρ, s, en, l, ?_⟩
  simp only [tst] at h
  cases q : ev Φ ea ρ st with
  | ok d st1 =>
    rw [q] at h
    obtain ⟨k, rfl⟩ := hb _ _ _ _ q
    refine ⟨(fun z => nomatch z), fun θ' H' v x' s' r' => ?_⟩
    cases r'
    exact ⟨k, rfl, h θ' H' x' s'⟩
  | exc y st1 => rw [q] at h; exact h
  | no => rw [q] at h; exact h
theorem sT_cmp {op : CmpOp} {o : O2} (hc : isCmp o = true) (ho : OpR X (compareOp op) (rO2 g false (W0 W) o)) (ha : PE X a (tE g false W (ev Φ ea))) (hb : PE X b (tE g false W (ev Φ eb))) (hm : behindInMarks op b = false) :
    PT X (.Compare a [op] [b] pos) (tB g W (tst Φ (.o2 o ea eb))) :=
  PT.imp (pt_cmpR ho ha hb hm) fun _ _ _ h => two (tB_tE (fun ρ st d st' h => by
    simp only [ev] at h
    obtain ⟨_, _, _, h⟩ := R.bind_ok h
    obtain ⟨_, _, _, h⟩ := R.bind_ok h
    exact cmp_bl hc h) h)
theorem chain_bl {o o' : O2} (hc' : isCmp o' = true) (ρ : Env) (st : Sto) (d : D) (st' : Sto) (h : ev Φ (.chain ea o eb o' ec) ρ st = .ok d st') : ∃ k, d = .bl k := by
  simp only [ev] at h
  obtain ⟨_, _, _, h⟩ := R.bind_ok h
  obtain ⟨_, _, _, h⟩ := R.bind_ok h
  obtain ⟨r, _, _, h⟩ := R.bind_ok h
  cases r with
  | bl k =>
    cases k with
    | true =>
      obtain ⟨_, _, _, h⟩ := R.bind_ok h
      exact cmp_bl hc' h
    | false => cases h; exact ⟨_, rfl⟩
  | _ => cases h
/-- the reading of a chain -/
theorem chain_t {σ : L2.St} {H : Hp} {Q : VK} {o o' : O2} (h : tE g fr W (ev Φ (.chain ea o eb o' ec)) σ H Q) :
    tChain (rO2 g false (W0 W) o) (rO2 g fr (W0 W) o') (tE g false W (ev Φ ea)) (tE g false W (ev Φ eb)) (tE g false W (ev Φ ec)) σ H Q := by
  obtain ⟨θ, st, ρ, s, en, l, h⟩ := h
  refine tE_bind s en l h fun d st1 θ1 H1 x x1 s1 e1 r1 h1 => ?_
  refine tE_bind s1 e1 l h1 fun d2 st2 θ2 H2 y x2 s2 e2 r2 h2 => ?_
  refine ⟨θ2, st2, d, d2, s2, Rep.mono x2 _ _ r1, r2, ?_⟩
  have h2' : Aft g fr θ2 H2 (fun c dx H' => W c dx σ H') Q ((f2 o d d2 st2).bind fun r st3 => match r with
    | .bl true => (ev Φ ec ρ st3).bind fun z st4 => f2 o' d2 z st4
    | .bl false => .ok (.bl false) st3
    | _ => .no) := h2
  revert h2'
  cases f2 o d d2 st2 with
  | ok r st3 =>
    intro h2'
    refine ⟨(fun z => nomatch z), fun θ3 H3 v x3 s3 r3 => ?_⟩
    replace h2' := Aft.shift h2' x3
    have e3 := e2.mono x3
    have ry := Rep.mono x3 _ _ r2
    cases r with
    | bl k =>
      cases r3
      refine ⟨k, rfl, ?_⟩
      cases k with
      | true =>
        rw [if_pos rfl]
        exact tE_bind s3 e3 l h2' fun d4 st4 θ4 H4 z x4 s4 e4 r4 h4 => ⟨θ4, st4, d2, d4, s4, Rep.mono x4 _ _ ry, r4, h4.w0⟩
      | false =>
        rw [if_neg Bool.false_ne_true]
        exact Aft.scal (d := .bl false) h2' bl_ne s3 (.bl false)
    | _ => exact h2'.elim
  | exc y st3 => exact fun h2' => Aft.w0 (fr := false) (Q := fun _ _ => True) (r := .exc y st3) h2'
  | no => exact fun h2' => h2'
theorem sT_chain {op op' : CmpOp} {o o' : O2} (hc' : isCmp o' = true) (ho : OpR X (compareOp op) (rO2 g false (W0 W) o)) (ho' : OpR X (compareOp op') (rO2 g false (W0 W) o')) (ha : PE X a (tE g false W (ev Φ ea))) (hb : PE X b (tE g false W (ev Φ eb))) (hc : PE X c (tE g false W (ev Φ ec)))
    (hm : lastMarks [op, op'] [b, c] = false) : PT X (.Compare a [op, op'] [b, c] pos) (tB g W (tst Φ (.chain ea o eb o' ec))) :=
  PT.imp (pt_chain ho ho' ha hb hc hm) fun _ _ _ h => chain_t (tB_tE (chain_bl hc') h)
theorem sE_ite (hc : PT X c (tB g W (tst Φ ec))) (ha : PE X a (tE g fr W (ev Φ ea))) (hb : PE X b (tE g fr W (ev Φ eb))) : PE X (.IfExp c a b pos) (tE g fr W (ev Φ (.ite ec ea eb))) :=
  PE.imp (pe_ifExp hc ha hb) fun σ H Q h => by
    obtain ⟨θ, st, ρ, s, en, l, h⟩ := h
    refine ⟨θ, st, ρ, s, en, l, ?_⟩
    simp only [ev] at h
    simp only [tst]
    cases q : ev Φ ec ρ st with
    | ok d st1 =>
      rw [q] at h
      simp only [R.bind] at h ⊢
      cases hb : truth st1 d with
      | none => rw [hb] at h; exact h.elim
      | some k =>
        rw [hb] at h
        cases k with
        | true => exact fun θ' H' x' s' => (show tE g fr W (ev Φ ea) σ H' Q from ⟨θ', st1, ρ, s', en.mono x', l, Aft.shift h x'⟩)
        | false => exact fun θ' H' x' s' => (show tE g fr W (ev Φ eb) σ H' Q from ⟨θ', st1, ρ, s', en.mono x', l, Aft.shift h x'⟩)
    | exc y st1 => rw [q] at h; exact h
    | no => rw [q] at h; exact h.elim

/-! ### argument lists -/
def plainE : Expr → Bool
  | .Starred _ _ => false
  | _ => true
theorem star_plain {env : PySem.Env} (h : plainE e = true) : starEach (e :: es) env = (false, eval e env) :: starEach es env := by
  cases e <;> first | rfl | cases h
theorem plain_any {env : PySem.Env} : ∀ {es : List Expr}, es.all plainE = true → (backTo pos (starEach es env)).any (·.1) = false
  | [], _ => rfl
  | e :: es, h => by
    rw [List.all_cons, Bool.and_eq_true] at h
    rw [star_plain h.1]
    show (false || (backTo pos (starEach es env)).any (·.1)) = false
    rw [plain_any h.2]
    rfl
theorem plain_few {env : PySem.Env} : ∀ {es : List Expr}, es.all plainE = true → (backTo pos (starEach es env)).all (fun x => !x.1) = true
  | [], _ => rfl
  | e :: es, h => by
    rw [List.all_cons, Bool.and_eq_true] at h
    rw [star_plain h.1]
    show (!false && (backTo pos (starEach es env)).all (fun x => !x.1)) = true
    rw [plain_few h.2]
    rfl
theorem sA_nil : PA X [] (tL g W (ev Φ .nil)) :=
  PA.imp pa_nil fun σ H Q h => by
    obtain ⟨θ, st, ρ, s, en, l, xs, e, h⟩ := h
    cases e
    exact h θ H [] .refl s .nil
theorem AftL.cons {σ : L2.St} {H : Hp} {θ : Th} {Q : List V → Hp → Prop} {r : R D} {ys : List D} {us : List V} (ru : RepL g θ H ys us)
    (h : AftL g θ H (fun c dx H' => W c dx σ H') Q (r.bind fun ds st2 => match ds with
      | .tup xs => .ok (.tup (ys ++ xs)) st2
      | _ => .no)) : AftL g θ H (fun c dx H' => W c dx σ H') (fun vs H' => Q (us ++ vs) H') r := by
  cases r with
  | ok ds st2 =>
    cases ds with
    | tup xs =>
      obtain ⟨zs, e, h⟩ := h
      cases e
      exact ⟨xs, rfl, fun θ' H' vs x' s' r' => h θ' H' (us ++ vs) x' s' ((RepL.mono x' _ _ ru).append r')⟩
    | _ => exact False.elim h
  | exc y st1 => exact h
  | no => exact h
theorem sA_cons (hp : plainE e = true) (ha : PE X e (tE g false W (ev Φ ea))) (hr : PA X es (tL g W (ev Φ el))) : PA X (e :: es) (tL g W (ev Φ (.cons ea el))) :=
  PA.imp (pa_cons ha hr (star_plain hp)) fun σ H Q h => by
    obtain ⟨θ, st, ρ, s, en, l, h⟩ := h
    refine tE_bindL s en l h fun d st1 θ1 H1 x x1 s1 e1 r1 h1 => ?_
    exact ⟨θ1, st1, ρ, s1, e1, l, AftL.cons (ys := [d]) (us := [x]) (.one r1) h1⟩
theorem sA_star (hK : X.K = g.K) (ha : PE X e (tE g false W (ev Φ ea))) (hr : PA X es (tL g W (ev Φ el))) : PA X (.Starred e p :: es) (tL g W (ev Φ (.star ea el))) :=
  PA.imp (StX.pa_star ha hr rfl) fun σ H Q h => by
    obtain ⟨θ, st, ρ, s, en, l, h⟩ := h
    refine tE_bindL s en l h fun d st1 θ1 H1 x x1 s1 e1 r1 h1 => ?_
    cases hq : sq st1 d with
    | none => simp only [hq] at h1; exact h1.elim
    | some ys =>
      simp only [hq] at h1
      obtain ⟨a, vs, rfl, hh, rr⟩ := sq_rep s1 r1 hq
      exact ⟨a, vs, rfl, by rw [hK]; exact hh.symm, θ1, st1, ρ, s1, e1, l, AftL.cons rr h1⟩

theorem AftL_imp {σ : L2.St} {H : Hp} {θ : Th} {Q Q' : List V → Hp → Prop} {r : R D} (i : ∀ vs H1, Q vs H1 → Q' vs H1) (h : AftL g θ H (fun c dx H' => W c dx σ H') Q r) : AftL g θ H (fun c dx H' => W c dx σ H') Q' r := by
  cases r with
  | ok ds st2 =>
    obtain ⟨xs, e, h⟩ := h
    exact ⟨xs, e, fun θ' H' vs x' s' r' => i _ _ (h θ' H' vs x' s' r')⟩
  | exc y st1 => exact h
  | no => exact h

/-! ### displays -/
theorem tL_of {σ : L2.St} {H : Hp} {Q : VK} {f : List D → Sto → R D} (h : tE g fr W (fun ρ st => (ev Φ el ρ st).bind fun ds st1 => match ds with
      | .tup xs => f xs st1
      | _ => .no) σ H Q) : tL g W (ev Φ el) σ H fun vs H1 => ∃ θ st xs, StoOk g θ H1 st ∧ RepL g θ H1 xs vs ∧ Aft g fr θ H1 (W0 W) Q (f xs st) := by
  obtain ⟨θ, st, ρ, s, en, l, h⟩ := h
  exact tL_bind s en l h (fun d st1 _ hd => by cases d <;> first | rfl | exact absurd rfl (hd _)) fun ds st1 θ1 H1 xs x1 s1 e1 r1 h1 => ⟨θ1, st1, ds, s1, r1, h1.w0⟩
theorem sE_tup {k : Nat} (ha : PA X es (tL g W (ev Φ el))) : PE X (.Tuple es k pos) (tE g fr W (ev Φ (.tup el))) :=
  PE.imp (pe_tup ha) fun σ H Q h => by
    obtain ⟨θ, st, ρ, s, en, l, h⟩ := tL_of h
    refine ⟨θ, st, ρ, s, en, l, ?_⟩
    refine AftL_imp ?_ h
    rintro vs H1 ⟨θ1, st1, xs, s1, r1, h1⟩
    split at h1
    · rename_i hz
      exact ⟨by rw [← r1.length]; exact hz, fun p hp => Aft.tup' h1 s1 r1 hp⟩
    · exact h1.elim
theorem sE_lst (ha : PA X es (tL g W (ev Φ el))) : PE X (.List es pos) (tE g fr W (ev Φ (.lst el))) :=
  PE.imp (pe_lst ha) fun σ H Q h => by
    obtain ⟨θ, st, ρ, s, en, l, h⟩ := tL_of h
    refine ⟨θ, st, ρ, s, en, l, ?_⟩
    refine AftL_imp ?_ h
    rintro vs H1 ⟨θ1, st1, xs, s1, r1, h1⟩
    split at h1
    · rename_i hz
      exact ⟨by rw [← r1.length]; exact hz, fun p hp => Aft.lst h1 s1 r1 hp⟩
    · exact h1.elim
end
end MP
end

section
set_option Elab.async false
set_option linter.all false
set_option maxRecDepth 100000
/-! MP: new places, calls of built-ins, methods, subscripts, dict displays. -/
namespace MP
open PySem PySem.Spec PyProof.Rows L2
section
variable {g : GC} {fr : Bool} {W : WX} {X : Cx} {Φ : Phi} {a b c e o : Expr} {es : List Expr} {ea eb ec el : E} {pos p p2 p3 apos cpos : Pos} {x name : Str} {T id : String}
theorem Aft_imp {θ : Th} {H : Hp} {W : WK} {Q Q' : VK} {r : R D} (i : ∀ v H1, Q v H1 → Q' v H1) (h : Aft g fr θ H W Q r) : Aft g fr θ H W Q' r := by
  cases r with
  | ok d st =>
    refine ⟨h.1, ?_⟩
    cases fr with
    | false => exact fun θ' H' v x s r => i _ _ (h.2 θ' H' v x s r)
    | true => exact fun xs e θ' H' vs p x s r hp => i _ _ (h.2 xs e θ' H' vs p x s r hp)
  | exc y st => exact h
  | no => exact h
/-! ### new places -/
theorem new_t {σ : L2.St} {H : Hp} {Q : VK} (h : tE g false W (ev Φ (.new ea)) σ H Q) : tE g true W (ev Φ ea) σ H Q := by
  obtain ⟨θ, st, ρ, s, en, l, h⟩ := h
  refine ⟨θ, st, ρ, s, en, l, ?_⟩
  simp only [ev] at h
  cases q : ev Φ ea ρ st with
  | ok d st1 =>
    rw [q] at h
    simp only [R.bind] at h
    cases d with
    | lst xs =>
      refine ⟨fun _ => ⟨xs, rfl⟩, fun ys ey θ' H' vs p x' s' r' hp => ?_⟩
      cases ey
      exact h.2 (θ'.add p) _ (.ref p) (x'.trans (ext_add hp)) (s'.add hp (.lst upd_same (RepL.mono (ext_add hp) _ _ r'))) (.ref (s'.last p))
    | _ => exact h.elim
  | exc y st1 => rw [q] at h; exact h
  | no => rw [q] at h; exact h.elim
theorem sE_new (ha : PE X e (tE g true W (ev Φ ea))) : PE X e (tE g false W (ev Φ (.new ea))) := PE.imp ha fun _ _ _ h => new_t h

/-! ### calls of built-ins -/
theorem tA1 {σ : L2.St} {H : Hp} {Q : VK} {o : O1} (h : tE g fr W (ev Φ (.o1 o ea)) σ H Q) : tCB (rC1 g fr (W0 W) o) (tCons (tE g false W (ev Φ ea)) tNil) σ H Q := by
  have h := one (m := ev Φ ea) (f := fun x st1 => f1 o x st1) h
  obtain ⟨θ, st, ρ, s, en, l, h⟩ := h
  exact ⟨θ, st, ρ, s, en, l, Aft_imp (fun v H1 q => ⟨v, rfl, q⟩) h⟩
theorem tA2 {σ : L2.St} {H : Hp} {Q : VK} {o : O2} (h : tE g fr W (ev Φ (.o2 o ea eb)) σ H Q) : tCB (rC2 g fr (W0 W) o) (tCons (tE g false W (ev Φ ea)) (tCons (tE g false W (ev Φ eb)) tNil)) σ H Q := by
  have h := two (m := ev Φ ea) (n := ev Φ eb) (f := fun x y st1 => f2 o x y st1) h
  obtain ⟨θ, st, ρ, s, en, l, h⟩ := h
  refine ⟨θ, st, ρ, s, en, l, Aft_imp (fun v H1 q => ?_) h⟩
  obtain ⟨θ, st, ρ, s, en, l, h⟩ := q
  exact ⟨θ, st, ρ, s, en, l, Aft_imp (fun v2 H2 q => ⟨v, v2, rfl, q⟩) h⟩
theorem sE_b1 {o : O1} (hc : CallR X (.builtin id) (rC1 g fr (W0 W) o)) (hg : Gl X x) (hm : X.mg x = none) (hv : bootBuiltins x = some (.builtin id)) (hn : x ≠ "__name__") (hdb : (x == ("__debug__" : Str)) = false) (hp : plainE a = true)
    (ha : PE X a (tE g false W (ev Φ ea))) : PE X (.Call (.Name x p) [a] [] pos) (tE g fr W (ev Φ (.o1 o ea))) :=
  PE.imp (pe_callB hc hg hm hv (pa_cons ha pa_nil (star_plain hp)) hn hdb (star_plain hp) rfl) fun _ _ _ h => tA1 h
theorem sE_t1 {o : O1} (hc : CallR X (.type id) (rC1 g fr (W0 W) o)) (hg : Gl X x) (hm : X.mg x = none) (hv : bootBuiltins x = some (.type id)) (hn : x ≠ "__name__") (hdb : (x == ("__debug__" : Str)) = false) (hp : plainE a = true)
    (ha : PE X a (tE g false W (ev Φ ea))) : PE X (.Call (.Name x p) [a] [] pos) (tE g fr W (ev Φ (.o1 o ea))) :=
  PE.imp (pe_callTy hc hg hm hv (pa_cons ha pa_nil (star_plain hp)) hn hdb (star_plain hp) rfl) fun _ _ _ h => tA1 h
theorem sE_b2 {o : O2} (hc : CallR X (.builtin id) (rC2 g fr (W0 W) o)) (hg : Gl X x) (hm : X.mg x = none) (hv : bootBuiltins x = some (.builtin id)) (hn : x ≠ "__name__") (hdb : (x == ("__debug__" : Str)) = false) (hp : plainE a = true) (hq : plainE b = true)
    (ha : PE X a (tE g false W (ev Φ ea))) (hb : PE X b (tE g false W (ev Φ eb))) : PE X (.Call (.Name x p) [a, b] [] pos) (tE g fr W (ev Φ (.o2 o ea eb))) :=
  PE.imp (pe_callB hc hg hm hv (pa_cons ha (pa_cons hb pa_nil (star_plain hq)) (star_plain hp)) hn hdb (star_plain hp) (plain_any (by rw [List.all_cons, hq]; rfl))) fun _ _ _ h => tA2 h

/-! ### methods -/
theorem ty_rep {θ : Th} {st : Sto} {H : Hp} {d : D} {v : V} (hK : X.K = g.K) (s : StoOk g θ H st) (r : Rep g θ H d v) : (isTy .lst st d = true → tyV X.K "list" v H) ∧ (isTy .str st d = true → tyV X.K "str" v H) := by
  refine ⟨fun h => ?_, fun h => ?_⟩
  · unfold isTy at h
    split at h
    · next e => cases e
    · cases r with
      | lst h1 _ => exact .inl ⟨rfl, _, by rw [hK]; exact h1.to⟩
    · cases r with
      | rol h1 _ => exact .inl ⟨rfl, _, by rw [hK]; exact h1.to⟩
    · rename_i n _ _
      split at h
      · rename_i xs e
        obtain ⟨a, e1, r1⟩ := s.obj _ _ e
        cases r with
        | ref h1 =>
          rw [h1] at e1
          cases e1
          cases r1 with
          | lst h2 _ => exact .inl ⟨rfl, _, .inl (.inl h2)⟩
      · cases h
    · next e => cases e
    · next e => cases e
    · cases h
  · unfold isTy at h
    split at h <;> first | (next e => cases e) | skip
    · cases r
      rfl
    · cases h
theorem met {σ : L2.St} {H : Hp} {Q : VK} {t : Ty} {m : Env → Sto → R D} {k : Env → D → Sto → R D} {tyP : V → Hp → Prop} {Rr : V → Hp → Prop} (ht : ∀ θ st H d v, StoOk g θ H st → Rep g θ H d v → isTy t st d = true → tyP v H)
    (hk : ∀ ρ d st θ H v, StoOk g θ H st → EnvOk g θ H ρ σ → ρ.length ≤ σ.length → Rep g θ H d v → Aft g fr θ H (fun c dx H' => W c dx σ H') Q (k ρ d st) → Rr v H)
    (h : tE g fr W (fun ρ st => (m ρ st).bind fun x st1 => if isTy t st1 x then k ρ x st1 else .no) σ H Q) : tE g false W m σ H fun x H1 => tyP x H1 ∧ Rr x H1 := by
  obtain ⟨θ, st, ρ, s, en, l, h⟩ := h
  refine tE_bind s en l h fun d st1 θ1 H1 x x1 s1 e1 r1 h1 => ?_
  split at h1
  · rename_i hty
    exact ⟨ht _ _ _ _ _ s1 r1 hty, hk _ _ _ _ _ _ s1 e1 l r1 h1⟩
  · exact h1.elim
theorem sE_m1 {t : Ty} {o' : O1} (ht : ∀ θ st H d v, StoOk g θ H st → Rep g θ H d v → isTy t st d = true → tyV X.K T v H) (pa : PlainAttrs T) (slot : Slot T name id) (hty : typeOf (.builtin id) = pure (.type "method_descriptor")) (hm : MtR X id (rM1 g fr (W0 W) o'))
    (hbase : attributeBase o name X.env (eval o X.env) = eval o X.env) (hline : (apos.endLine == cpos.line) = true) (ho : PE X o (tE g false W (ev Φ ea))) : PE X (.Call (.Attribute o name apos) [] [] cpos) (tE g fr W (ev Φ (.m1 t o' ea))) :=
  PE.imp (pe_bm0 pa slot hty hm ho hbase hline) fun σ H Q h => met ht (fun ρ d st θ H v s en l r h => ⟨rfl, θ, st, d, s, r, h.w0⟩) h
theorem sE_m2 {t : Ty} {o' : O2} (ht : ∀ θ st H d v, StoOk g θ H st → Rep g θ H d v → isTy t st d = true → tyV X.K T v H) (pa : PlainAttrs T) (slot : Slot T name id) (hty : typeOf (.builtin id) = pure (.type "method_descriptor")) (hm : MtR X id (rM2 g fr (W0 W) o'))
    (hbase : attributeBase o name X.env (eval o X.env) = eval o X.env) (hline : (apos.endLine == cpos.line) = true) (hp : plainE b = true) (ho : PE X o (tE g false W (ev Φ ea))) (hb : PE X b (tE g false W (ev Φ eb))) :
    PE X (.Call (.Attribute o name apos) [b] [] cpos) (tE g fr W (ev Φ (.m2 t o' ea eb))) :=
  PE.imp (pe_bm pa slot hty hm ho (pa_cons hb pa_nil (star_plain hp)) hbase (by rw [plain_few (by rw [List.all_cons, hp]; rfl)]; rfl) hline (star_plain hp) rfl) fun σ H Q h => met ht (fun ρ d st θ H v s en l r h => by
    refine tE_bind s en l h fun d2 st2 θ2 H2 y x2 s2 e2 r2 h2 => ?_
    exact ⟨y, rfl, θ2, st2, d, d2, s2, Rep.mono x2 _ _ r, r2, h2.w0⟩) h

/-! ### subscripts -/
theorem sE_ix (xg : Xg g X) (hs : PlainIx b) (ha : PE X a (tE g false W (ev Φ ea))) (hb : PE X b (tE g false W (ev Φ eb))) : PE X (.Subscript a b pos) (tE g false W (ev Φ (.o2 .ix ea eb))) :=
  PE.imp (pe_ix (o2_ix xg) ha hb hs) fun _ _ _ h => two h
theorem tE_imp {σ : L2.St} {H : Hp} {Q Q' : VK} {m : Env → Sto → R D} (i : ∀ v H1, Q v H1 → Q' v H1) (h : tE g fr W m σ H Q) : tE g fr W m σ H Q' := by
  obtain ⟨θ, st, ρ, s, en, l, h⟩ := h
  exact ⟨θ, st, ρ, s, en, l, Aft_imp i h⟩
def PartV (x : V) (o : Option Int) : Prop := (x = .non ∧ o = none) ∨ ∃ i, x = .int i ∧ o = some i
/-- a part of a slice: left out, or any expression -/
def tPartO (t : TE) : TO := fun σ H Q => t σ H fun x H1 => ∀ o, PartV x o → Q o H1
theorem po_any (h : PE X e (tE g false W (ev Φ ea))) : PO X (some e) (tPartO (tE g false W (ev Φ (.o1 .idx ea)))) := by
  refine ⟨fun pins s σ H Q I hw => ?_⟩
  rw [evalPart_some]
  have hw := one (m := ev Φ ea) (f := fun x st1 => f1 .idx x st1) hw
  refine thn (h.run pins s σ H _ I hw) fun u s1 ⟨x, H1, I1, r1, q1⟩ => ?_
  obtain ⟨θ, st, d, so, rd, q⟩ := q1
  simp only [f1] at q
  split at q
  · cases rd
    obtain ⟨t, rfl⟩ := r1
    exact ⟨some _, H1, I1, .int _ t, q.2 θ H1 _ .refl so (.int _) _ (.inr ⟨_, rfl, rfl⟩)⟩
  · cases rd
    cases (show u = Value.none from r1)
    exact ⟨none, H1, I1, .none, q.2 θ H1 _ .refl so .non _ (.inl ⟨rfl, rfl⟩)⟩
  · exact q.elim
theorem po_left : PO X none (tPartO (tE g false W (ev Φ (.c .non)))) := ⟨fun pins s σ H Q I h => by
  rw [evalPart_none]
  obtain ⟨θ, st, ρ, s', en, l, h⟩ := h
  exact wpAny_pure ⟨none, H, I, .none, h.2 θ H .non .refl s' .non _ (.inl ⟨rfl, rfl⟩)⟩⟩
theorem part_opt {θ : Th} {H : Hp} {d : D} {x : V} {o : Option Int} (r : Rep g θ H d x) (h : PartV x o) : optI d = some o := by
  rcases h with ⟨rfl, rfl⟩ | ⟨i, rfl, rfl⟩
  · cases r; rfl
  · cases r; rfl
theorem sE_slice {lo hi : Option Expr} (xg : Xg g X) (ha : PE X a (tE g false W (ev Φ ea))) (hl : PO X lo (tPartO (tE g false W (ev Φ eb)))) (hh : PO X hi (tPartO (tE g false W (ev Φ ec)))) :
    PE X (.Subscript a (.Slice lo hi none p2) pos) (tE g fr W (ev Φ (.o3 .slice ea eb ec))) :=
  PE.imp (pe_slice (o3_slice (fr := fr) (W := W0 W) xg) ha hl hh) fun σ H Q h => by
    refine tE_imp (fun x H1 q => tE_imp (fun y H2 q o ho => tE_imp (fun z H3 q u hu => ?_) q) q) (three (m := ev Φ ea) (n := ev Φ eb) (k := ev Φ ec) (f := fun x y z st => f3 .slice x y z st) h)
    obtain ⟨θ, st, a, b, c, s, ra, rb, rc, h⟩ := q
    exact ⟨θ, st, a, b, c, s, ra, part_opt rb ho, part_opt rc hu, h⟩
theorem sE_rev {k : Nat} (hK : X.K = g.K) (ha : PE X a (tE g false W (ev Φ ea))) : PE X (.Subscript a (.Slice none none (some (.UnaryOp .USub (.Constant (.int 1) k apos) p2)) p3) pos) (tE g fr W (ev Φ (.o1 .rev ea))) :=
  PE.imp (pe_revL ha) fun σ H Q h => tE_imp (fun x H1 q => by
    obtain ⟨θ, st, d, s, rd, h⟩ := q
    simp only [f1] at h
    split at h
    · rename_i xs e
      obtain ⟨a, vs, rfl, h1, r1⟩ := top_rep s rd e
      exact ⟨a, vs, rfl, .inl (.inl h1), fun p hp => Aft.lst h s r1.reverse hp⟩
    · exact h.elim) (one (m := ev Φ ea) (f := fun x st1 => f1 .rev x st1) h)

/-! ### dict displays -/
/-- the value of a key -/
def kVal : D → V
  | .int i => .int i
  | .str s => .str (sOf s)
  | _ => .non
def listE : List E → E
  | [] => .nil
  | e :: r => .cons e (listE r)
def trsOf (g : GC) (W : WX) (Φ : Phi) : List D → List E → List (TE × TE)
  | k :: ks, e :: es => (tC (kVal k), tE g false W (ev Φ e)) :: trsOf g W Φ ks es
  | _, _ => []
theorem tPairs_imp {σ : L2.St} {Q Q' : List (V × V) → Hp → Prop} (i : ∀ ps H', Q ps H' → Q' ps H') : ∀ {ks : List D} {es : List E} {H : Hp}, tPairs (trsOf g W Φ ks es) σ H Q → tPairs (trsOf g W Φ ks es) σ H Q'
  | [], [], _, h => i _ _ h
  | [], _ :: _, _, h => i _ _ h
  | _ :: _, [], _, h => i _ _ h
  | k :: ks, e :: es, _, h => tE_imp (fun _ _ q => tPairs_imp (ks := ks) (es := es) (fun _ _ q => i _ _ q) q) h
theorem pairs_of {W : WX} {σ : L2.St} : ∀ {ks : List D} {es : List E} {θ : Th} {st : Sto} {ρ : Env} {H : Hp} {Q : List V → Hp → Prop}, ks.length = es.length → StoOk g θ H st → EnvOk g θ H ρ σ → ρ.length ≤ σ.length →
    AftL g θ H (fun c dx H' => W c dx σ H') Q (ev Φ (listE es) ρ st) → tPairs (trsOf g W Φ ks es) σ H fun ps H' => ∃ vs, vs.length = ks.length ∧ ps = (ks.map kVal).zip vs ∧ Q vs H'
  | [], [], θ, st, ρ, H, Q, _, s, en, l, h => by
    obtain ⟨xs, e, h⟩ := h
    cases e
    exact ⟨[], rfl, rfl, h θ H [] .refl s .nil⟩
  | [], _ :: _, _, _, _, _, _, h, _, _, _, _ => by cases h
  | _ :: _, [], _, _, _, _, _, h, _, _, _, _ => by cases h
  | k :: ks, e :: es, θ, st, ρ, H, Q, hl, s, en, l, h => by
    show tE g false W (ev Φ e) σ H fun y H2 => tPairs (trsOf g W Φ ks es) σ H2 _
    refine tE_bindL s en l h fun d st1 θ1 H1 x x1 s1 e1 r1 h1 => ?_
    refine tPairs_imp ?_ (pairs_of (ks := ks) (by simpa using hl) s1 e1 l (AftL.cons (ys := [d]) (us := [x]) (.one r1) h1))
    rintro ps H' ⟨vs, h1, h2, q⟩
    exact ⟨x :: vs, by simp [h1], by rw [h2]; rfl, q⟩
def keysE : List D → List (Option Expr) → Bool
  | [], [] => true
  | .int i :: ks, some (.Constant (.int j) _ _) :: es => decide (i = j) && keysE ks es
  | .str s :: ks, some (.Constant (.str x) _ _) :: es => decide (sOf s = x) && keysE ks es
  | _, _ => false
inductive PEs (X : Cx) (g : GC) (W : WX) (Φ : Phi) : List Expr → List E → Prop
  | nil : PEs X g W Φ [] []
  | cons {e : Expr} {m : E} {es : List Expr} {ms : List E} : PE X e (tE g false W (ev Φ m)) → PEs X g W Φ es ms → PEs X g W Φ (e :: es) (m :: ms)
theorem pps_of : ∀ {ks : List D} {es : List (Option Expr)} {vs : List Expr} {ms : List E}, keysE ks es = true → es.length = vs.length → PEs X g W Φ vs ms → PPs X pos es vs (trsOf g W Φ ks ms)
  | [], [], [], _, _, _, .nil => pps_nil
  | [], [], _ :: _, _, _, h, _ => by cases h
  | [], _ :: _, _, _, h, _, _ => by cases h
  | .int i :: ks, some (.Constant (.int j) _ _) :: es, v :: vs, _, h, hl, .cons hv hr => by
    simp only [keysE, Bool.and_eq_true, decide_eq_true_eq] at h
    obtain ⟨rfl, h⟩ := h
    exact pps_cons pe_int hv (pps_of h (by simpa using hl) hr)
  | .str s :: ks, some (.Constant (.str x) _ _) :: es, v :: vs, _, h, hl, .cons hv hr => by
    simp only [keysE, Bool.and_eq_true, decide_eq_true_eq] at h
    obtain ⟨rfl, h⟩ := h
    exact pps_cons pe_str hv (pps_of h (by simpa using hl) hr)
  | _ :: _, _ :: _, [], _, _, hl, _ => by cases hl
end
end MP
end

section
set_option Elab.async false
set_option linter.all false
set_option maxRecDepth 100000
/-! MP: dict displays, targets, what is walked, comprehensions. -/
namespace MP
open PySem PySem.Spec PyProof.Rows L2
section
variable {g : GC} {fr : Bool} {W : WX} {X : Cx} {Φ : Phi} {a b c e o : Expr} {es : List Expr} {ea eb ec el : E} {pos p p2 p3 apos cpos : Pos} {x name : Str}

/-! ### dict displays -/
theorem putK_new {k : Key} {v : V} {kvs : List (Key × V)} (h : ∀ p ∈ kvs, p.1 ≠ k) : L2.putK kvs k v = kvs ++ [(k, v)]  := by
  unfold L2.putK
  rw [if_neg]
  intro q
  obtain ⟨p, hp, e⟩ := List.any_eq_true.mp q
  exact h p hp (of_decide_eq_true e)
theorem mergeK_nd : ∀ {more kvs : List (Key × V)}, (kvs ++ more).Pairwise (fun p q => p.1 ≠ q.1) → mergeK kvs more = kvs ++ more
  | [], kvs, _ => by simp [mergeK]
  | p :: r, kvs, h => by
    have h' : (kvs ++ p :: r).Pairwise (fun p q => p.1 ≠ q.1) := h
    have e : L2.putK kvs p.1 p.2 = kvs ++ [p] := putK_new fun q hq => (List.pairwise_append.mp h).2.2 q hq p List.mem_cons_self
    have e2 : kvs ++ p :: r = (kvs ++ [p]) ++ r := by simp
    rw [e2] at h'
    show mergeK (L2.putK kvs p.1 p.2) r = _
    rw [e, mergeK_nd h', e2]
/-- the pairs of a display -/
def kvsOf (ks : List D) (vs : List V) : List (Key × V) := ((ks.map fun k => (keyOf k).getD (.inl 0)).zip vs)
theorem kvsOf_key : ∀ {ks : List D} {vs : List V}, ks.all isKey = true → vs.length = ks.length → ks.map keyOf = (kvsOf ks vs).map (fun p => some p.1)
  | [], _, _, _ => by simp [kvsOf]
  | k :: ks, [], _, h => by cases h
  | k :: ks, v :: vs, h, hl => by
    rw [List.all_cons, Bool.and_eq_true] at h
    have := kvsOf_key (ks := ks) (vs := vs) h.2 (by simpa using hl)
    show keyOf k :: ks.map keyOf = some ((keyOf k).getD (.inl 0)) :: (kvsOf ks vs).map _
    rw [this]
    cases k <;> first | rfl | (cases h.1)
theorem kvsOf_val : ∀ {ks : List D} {vs : List V}, vs.length = ks.length → (kvsOf ks vs).map (·.2) = vs
  | [], [], _ => rfl
  | [], _ :: _, h => by cases h
  | k :: ks, [], h => by cases h
  | k :: ks, v :: vs, hl => by
    show v :: (kvsOf ks vs).map _ = _
    rw [kvsOf_val (by simpa using hl)]
theorem kvsOf_kv : ∀ {ks : List D} {vs : List V}, ks.all isKey = true → vs.length = ks.length → (ks.map kVal).zip vs = (kvsOf ks vs).map fun kv => (kV kv.1, kv.2)
  | [], _, _, _ => by simp [kvsOf]
  | k :: ks, [], _, h => by cases h
  | k :: ks, v :: vs, h, hl => by
    rw [List.all_cons, Bool.and_eq_true] at h
    have := kvsOf_kv (ks := ks) (vs := vs) h.2 (by simpa using hl)
    show (kVal k, v) :: (ks.map kVal).zip vs = (kV ((keyOf k).getD (.inl 0)), v) :: (kvsOf ks vs).map _
    rw [this]
    cases k <;> first | rfl | (cases h.1)
theorem kvsOf_nd : ∀ {ks : List D} {vs : List V}, ks.all isKey = true → ks.Nodup → vs.length = ks.length → (kvsOf ks vs).Pairwise (fun p q => p.1 ≠ q.1)
  | [], _, _, _, _ => by simp [kvsOf]
  | k :: ks, [], _, _, h => by cases h
  | k :: ks, v :: vs, h, hn, hl => by
    rw [List.all_cons, Bool.and_eq_true] at h
    rw [List.nodup_cons] at hn
    show ((((keyOf k).getD (.inl 0)), v) :: kvsOf ks vs).Pairwise _
    refine List.pairwise_cons.mpr ⟨fun q hq z => ?_, kvsOf_nd h.2 hn.2 (by simpa using hl)⟩
    have h1 := kvsOf_key (ks := ks) (vs := vs) h.2 (by simpa using hl)
    have h2 : some q.1 ∈ ks.map keyOf := by rw [h1]; exact List.mem_map.mpr ⟨q, hq, rfl⟩
    obtain ⟨k2, hk2, e2⟩ := List.mem_map.mp h2
    have : k2 = k := by
      refine keyOf_inj e2 ?_
      have z : (keyOf k).getD (.inl 0) = q.1 := z
      rw [← z]
      cases k <;> first | rfl | (cases h.1)
    exact hn.1 (by rw [← this]; exact hk2)
theorem RepX.bare {θ : Th} {H : Hp} {y : D} {c : Value} {dx : Option Addr} {p : Addr} (r : RepX g (θ.hide p) H y c dx) : RepX g θ H y c dx := by
  cases y with
  | obj ci fs ds =>
    obtain ⟨C, h1, h2, h3⟩ := r
    refine ⟨C, h1, h2, h3.imp id ?_⟩
    rintro ⟨d, vs, e1, e2, e3, e4, e5⟩
    exact ⟨d, vs, e1, e2, notin_hide e3, e4, RepL.to .bare _ _ e5⟩
  | _ => exact r
/-- the reading of a display, the dict worked on meanwhile -/
theorem disp_of {σ : L2.St} {H : Hp} {Q : VK} {ks : List D} {ms : List E} {θ : Th} {st : Sto} {ρ : Env} (hl : ks.length = ms.length) (s : StoOk g θ H st) (en : EnvOk g θ H ρ σ) (l : ρ.length ≤ σ.length)
    (hnk : ks.all isKey = true ∧ ks.Nodup ∧ ks.length ≤ 15)
    (h : match ev Φ (listE ms) ρ st with
      | .ok ds st1 => ∃ xs, ds = .tup xs ∧ ∀ (θ' : Th) (H' : Hp) (vs : List V) (p : Addr), Ext θ θ' H H' → StoOk g θ' H' st1 → RepL g θ' H' xs vs → vs.length = ks.length → H' p = none → Q (.ref p) (upd H' p (.dK (kvsOf ks vs)))
      | .exc y st1 => ∀ (θ' : Th) (H' : Hp) (c : Value) (dx : Option Addr), Ext θ θ' H H' → StoOk g θ' H' st1 → RepX g θ' H' y c dx → W c dx σ H'
      | .no => False) : tDisp (trsOf g W Φ ks ms) σ H Q := by
  intro p hp
  have s1 := s.hide (u := .dK []) hp
  have e1 : EnvOk g (θ.hide p) (upd H p (.dK [])) ρ σ := fun i d e => let ⟨v, h1, h2⟩ := en i d e; ⟨v, h1, h2.hid hp⟩
  refine tPairs_imp ?_ (pairs_of (W := W) (Q := fun vs H2 => vs.length = ks.length → H2 p = some (.dK []) ∧ Q (.ref p) (upd H2 p (.dK (kvsOf ks vs)))) hl s1 e1 l ?_)
  · rintro ps H' ⟨vs, h1, h2, q⟩
    have q := q h1
    refine ⟨q.1, kvsOf ks vs, by rw [h2, kvsOf_kv hnk.1 h1], ?_, ?_⟩
    · have := congrArg List.length (kvsOf_val h1)
      rw [List.length_map] at this
      rw [this, h1]; exact hnk.2.2
    · have := mergeK_nd (more := kvsOf ks vs) (kvs := []) (kvsOf_nd hnk.1 hnk.2.1 h1)
      rw [this]
      exact q.2
  · cases q : ev Φ (listE ms) ρ st with
    | ok ds st1 =>
      rw [q] at h
      obtain ⟨xs, rfl, h⟩ := h
      refine ⟨xs, rfl, fun η H2 vs x2 s2 r2 hv => ?_⟩
      obtain ⟨θ', rfl, x3, hpv, hid⟩ := x2.era hp s
      refine ⟨hpv, ?_⟩
      have := h θ' (era H2 p) vs p x3 (s2.era hid) (RepL.to .era _ _ r2) hv era_same
      have e : upd (era H2 p) p (.dK (kvsOf ks vs)) = upd H2 p (.dK (kvsOf ks vs)) := by
        funext b
        by_cases z : b = p
        · rw [z, upd_same, upd_same]
        · rw [upd_ne z, upd_ne z, era_ne z]
      rw [e] at this
      exact this
    | exc y st1 =>
      rw [q] at h
      intro η H' c dx x2 s2 rx
      obtain ⟨θ', rfl, x3⟩ := x2.bare hp
      exact h θ' H' c dx x3 s2.bare rx.bare
    | no => rw [q] at h; exact h
theorem sE_dic {ks : List D} {keys : List (Option Expr)} {vals : List Expr} {ms : List E} (hk : keysE ks keys = true) (hl : keys.length = vals.length) (hm : ks.length = ms.length) (h0 : keys ≠ []) (hv : PEs X g W Φ vals ms) (hks : keys.length = ks.length) (h15 : keys.length ≤ 15) (hall : keys.all (·.isSome) = true)
    (hn : ks.all isKey = true ∧ ks.Nodup) : PE X (.Dict keys vals pos) (tE g false W (ev Φ (.newd (.dic ks (listE ms))))) :=
  PE.imp (pe_disp (pps_of hk hl hv) hall hl h0 h15) fun σ H Q h => by
    obtain ⟨θ, st, ρ, s, en, l, h⟩ := h
    refine disp_of hm s en l ⟨hn.1, hn.2, by rw [← hks]; exact h15⟩ ?_
    simp only [ev] at h
    cases q : ev Φ (listE ms) ρ st with
    | ok ds st1 =>
      rw [q] at h
      simp only [R.bind] at h
      cases ds with
      | tup xs =>
        refine ⟨xs, rfl, fun θ' H' vs p x' s' r' hvs hp => ?_⟩
        simp only at h
        split at h
        · rename_i d1 ks1 vs1 he
          split at he
          · cases he
            refine h.2 (θ'.add p) _ (.ref p) (x'.trans (ext_add hp)) (s'.add hp (.dic upd_same (kvsOf_key hn.1 hvs) ?_)) (.ref (s'.last p))
            rw [kvsOf_val hvs]
            exact RepL.mono (ext_add hp) _ _ r'
          · cases he
        · rename_i he
          split at he <;> cases he
        · exact h.elim
      | _ => exact h.elim
    | exc y st1 => rw [q] at h; exact h
    | no => rw [q] at h; exact h.elim
theorem sE_dic0 : PE X (.Dict [] [] pos) (tE g false W (ev Φ (.newd (.dic [] .nil)))) :=
  PE.imp pe_dnewK fun σ H Q h p hp => by
    obtain ⟨θ, st, ρ, s, en, l, h⟩ := h
    refine h.2 (θ.add p) _ (.ref p) (ext_add hp) (s.add hp (.dic upd_same rfl .nil)) (.ref (s.last p))
end
end MP
end

section
set_option Elab.async false
set_option linter.all false
set_option maxRecDepth 100000
/-! MP: targets, what is walked, comprehensions. -/
namespace MP
open PySem PySem.Spec PyProof.Rows L2
section
variable {g : GC} {fr : Bool} {W : WX} {X : Cx} {Φ : Phi} {a b c e o : Expr} {es : List Expr} {ea eb ec el : E} {pos p p2 p3 apos cpos : Pos} {x name : Str}
theorem EnvOk.to {θ θ' : Th} {H H' : Hp} {ρ : Env} {σ : L2.St} (h : EnvOk g θ H ρ σ) (m : Mv θ θ' H H') : EnvOk g θ' H' ρ σ := fun i d e => let ⟨v, h1, h2⟩ := h i d e; ⟨v, h1, Rep.to m _ _ h2⟩
theorem Ext.mv {θ θ' : Th} {H H' : Hp} (x : Ext θ θ' H H') : Mv θ θ' H H' := ⟨fun a u h e => ⟨x.fz h e, x.notin h (by rw [e]; exact fun z => nomatch z)⟩, fun _ _ h => x.get h⟩
theorem Mv.trans {θ θ1 θ2 : Th} {H H1 H2 : Hp} (a : Mv θ θ1 H H1) (b : Mv θ1 θ2 H1 H2) : Mv θ θ2 H H2 := ⟨fun x u h e => b.keep x u (a.keep x u h e).2 (a.keep x u h e).1, fun n x h => b.pl n x (a.pl n x h)⟩
theorem Mv.rfl' {θ : Th} {H : Hp} : Mv θ θ H H := ⟨fun _ _ h e => ⟨e, h⟩, fun _ _ h => h⟩

/-! ### targets -/
def tG (g : GC) (t : T) : TG := fun v σ H Q => ∃ θ st ρ d ρ', StoOk g θ H st ∧ EnvOk g θ H ρ σ ∧ ρ.length ≤ σ.length ∧ Rep g θ H d v ∧ bindT t d ρ = some ρ' ∧
  ∀ σ', EnvOk g θ H ρ' σ' → ρ'.length ≤ σ'.length → σ'.length = σ.length → (∀ i, i ∉ t.slots → σ'[i]? = σ[i]?) → Q σ' H
def tGs (g : GC) (t : T) : TGs := fun vs σ H Q => ∃ θ st ρ ds ρ', StoOk g θ H st ∧ EnvOk g θ H ρ σ ∧ ρ.length ≤ σ.length ∧ RepL g θ H ds vs ∧ bindTs t ds ρ = some ρ' ∧
  ∀ σ', EnvOk g θ H ρ' σ' → ρ'.length ≤ σ'.length → σ'.length = σ.length → (∀ i, i ∉ t.slots → σ'[i]? = σ[i]?) → Q σ' H
theorem PGs.imp {X : Cx} {ts : List Expr} {t t' : TGs} (h : PGs X ts t) (i : ∀ vs σ H Q, t' vs σ H Q → t vs σ H Q) : PGs X ts t' := ⟨fun pins s σ H vs us Q I r q => h.run pins s σ H vs us Q I r (i vs σ H Q q)⟩
theorem sG_name {i : Nat} (hN : X.N.Nodup) (hi : X.N[i]? = some x) (hx : Loc X.env.scope x) (hf : X.fn x = true ∨ X.env.scope.names.lookup x = some .local) : PG X (.Name x pos) (tG g (.nm i)) :=
  PG.imp (pg_name hN hi hx hf) fun v σ H Q h => by
    obtain ⟨θ, st, ρ, d, ρ', s, en, l, r, e, k⟩ := h
    simp only [bindT] at e
    split at e
    · rename_i hlt
      cases e
      refine k (σ.set i (some v)) (en.set l r) (by rw [List.length_set, List.length_set]; exact l) (by rw [List.length_set]) fun j hj => ?_
      rw [List.getElem?_set_ne]
      intro z
      exact hj (by rw [← z]; simp [T.slots])
    · cases e
theorem sG_nil : PGs X [] (tGs g .nil) :=
  PGs.imp pgs_nil fun vs σ H Q h => by
    obtain ⟨θ, st, ρ, ds, ρ', s, en, l, r, e, k⟩ := h
    cases ds with
    | nil =>
      cases r
      simp only [bindTs] at e
      cases e
      exact ⟨rfl, k σ en l rfl fun _ _ => rfl⟩
    | cons d ds => simp [bindTs] at e
theorem asg_plain {env : PySem.Env} (h : plainE e = true) : (assignEach (e :: es) env) = (false, assign e env) :: assignEach es env := by
  cases e <;> first | rfl | cases h
theorem asg_len {env : PySem.Env} : ∀ {es : List Expr}, (assignEach es env).length = es.length
  | [] => rfl
  | e :: es => by
    cases e <;> (show ((_ :: assignEach es env) : List _).length = _; rw [List.length_cons, List.length_cons, asg_len])
theorem asg_star {env : PySem.Env} : ∀ {es : List Expr}, es.all plainE = true → (assignEach es env).findIdx? (·.1) = none
  | [], _ => rfl
  | e :: es, h => by
    rw [List.all_cons, Bool.and_eq_true] at h
    rw [asg_plain h.1, List.findIdx?_cons, asg_star h.2]
    rfl
theorem sG_cons {t r : T} (hp : plainE e = true) (h1 : PG X e (tG g t)) (h2 : PGs X es (tGs g r)) : PGs X (e :: es) (tGs g (.cons t r)) :=
  PGs.imp (pgs_cons h1 h2 (by rw [asg_plain hp]; rfl)) fun vs σ H Q h => by
    obtain ⟨θ, st, ρ, ds, ρ', s, en, l, rr, e, k⟩ := h
    cases ds with
    | nil => simp [bindTs] at e
    | cons d ds =>
      cases rr with
      | cons r1 r2 =>
        simp only [bindTs] at e
        split at e
        · rename_i ρ1 e1
          refine ⟨_, _, rfl, θ, st, ρ, d, ρ1, s, en, l, r1, e1, fun σ' en' l' hl' hs' => ?_⟩
          refine ⟨θ, st, ρ1, ds, ρ', s, en', l', r2, e, fun σ2 en2 l2 hl2 hs2 => k σ2 en2 l2 (hl2.trans hl') fun i hi => ?_⟩
          simp only [T.slots, List.mem_append, not_or] at hi
          rw [hs2 i hi.2, hs' i hi.1]
        · cases e
theorem sG_tup {k : Nat} {t : T} (xg : Xg g X) (ht : (∀ i, t ≠ .nm i)) (hp : es.all plainE = true) (h : PGs X es (tGs g t)) (hlen : ∀ ds ρ ρ', bindTs t ds ρ = some ρ' → ds.length = es.length) : PG X (.Tuple es k pos) (tG g t) :=
  PG.imp (pg_tup xg.calm h asg_len (asg_star hp)) fun v σ H Q h => by
    obtain ⟨θ, st, ρ, d, ρ', s, en, l, r, e, kk⟩ := h
    have hd : ∃ ds, d = .tup ds ∧ bindTs t ds ρ = some ρ' := by
      cases t with
      | nm i => exact absurd rfl (ht i)
      | nil => cases d <;> simp [bindT] at e; exact ⟨_, rfl, e⟩
      | cons a b => cases d <;> simp [bindT] at e; exact ⟨_, rfl, e⟩
    obtain ⟨ds, rfl, e2⟩ := hd
    cases r with
    | tup h1 h2 => exact ⟨_, _, rfl, by rw [xg.hK]; exact h1.to, by rw [← h2.length]; exact hlen _ _ _ e2, θ, st, ρ, ds, ρ', s, en, l, h2, e2, kk⟩

/-! ### what is walked -/
/-- the walk gives what the items are -/
def Feed (g : GC) (θ : Th) (H : Hp) (gd : Sto → Bool) (xs : List D) (J : It) : Prop := ∀ (θ1 : Th) (H1 : Hp) (s : Sto), Mv θ θ1 H H1 → StoOk g θ1 H1 s → gd s = true →
  (∀ i d, xs[i]? = some d → J.go i H1 ∧ ∀ x H2, J.yld i H1 x H2 → Ext θ1 θ1 H1 H2 ∧ StoOk g θ1 H2 s ∧ Rep g θ1 H2 d x) ∧ J.stop xs.length H1
def AftI (g : GC) (θ : Th) (H : Hp) (W : WK) (R' : It → Hp → Prop) : R D → Prop
  | .ok d st => ∃ xs, items st d = some xs ∧ ∀ (θ' : Th) (H' : Hp) (J : It), Ext θ θ' H H' → StoOk g θ' H' st → Feed g θ' H' (gdOf d st) xs J → R' J H'
  | .exc x st => ∀ (θ' : Th) (H' : Hp) (c : Value) (dx : Option Addr), Ext θ θ' H H' → StoOk g θ' H' st → RepX g θ' H' x c dx → W c dx H'
  | .no => False
def tI (g : GC) (W : WX) (m : Env → Sto → R D) : TI := fun σ H R' => ∃ θ st ρ, StoOk g θ H st ∧ EnvOk g θ H ρ σ ∧ ρ.length ≤ σ.length ∧ AftI g θ H (fun c dx H' => W c dx σ H') R' (m ρ st)
theorem feed_list {θ : Th} {H : Hp} {st : Sto} {d : D} {xs : List D} {a : Addr} {K : PySem.W.Frag} (h : ∀ (θ1 : Th) (H1 : Hp) (s : Sto), Mv θ θ1 H H1 → StoOk g θ1 H1 s → gdOf d st s = true → ∃ vs, SqL K H1 a vs ∧ RepL g θ1 H1 xs vs) : Feed g θ H (gdOf d st) xs (Itl K a) := by
  intro θ1 H1 s m so hg
  obtain ⟨vs, h1, h2⟩ := h θ1 H1 s m so hg
  refine ⟨fun i d' e => ?_, ⟨vs, h1, by rw [h2.length]; exact Nat.le_refl _⟩⟩
  obtain ⟨v, e1, r1⟩ := h2.get e
  refine ⟨⟨vs, v, h1, e1⟩, fun y H2 hy => ?_⟩
  obtain ⟨rfl, hy⟩ := hy
  have := hy vs h1
  rw [e1] at this
  cases this
  exact ⟨.refl, so, r1⟩
theorem feed_tup {θ : Th} {H : Hp} {gd : Sto → Bool} {xs : List D} {a : Addr} {K : PySem.W.Frag} (h : ∀ (θ1 : Th) (H1 : Hp), Mv θ θ1 H H1 → ∃ vs, SqT K H1 a vs ∧ RepL g θ1 H1 xs vs) : Feed g θ H gd xs (Itt K a) := by
  intro θ1 H1 s m so hg
  obtain ⟨vs, h1, h2⟩ := h θ1 H1 m
  refine ⟨fun i d' e => ?_, ⟨vs, h1, by rw [h2.length]; exact Nat.le_refl _⟩⟩
  obtain ⟨v, e1, r1⟩ := h2.get e
  refine ⟨⟨vs, v, h1, e1⟩, fun y H2 hy => ?_⟩
  obtain ⟨rfl, hy⟩ := hy
  have := hy vs h1
  rw [e1] at this
  cases this
  exact ⟨.refl, so, r1⟩
theorem feed_str {θ : Th} {H : Hp} {gd : Sto → Bool} {z : Tx} : Feed g θ H gd (chars z) (Its (sOf z)) := by
  intro θ1 H1 s m so hg
  refine ⟨fun i d e => ?_, ?_⟩
  · unfold chars at e
    rw [List.getElem?_map] at e
    cases hz : z[i]? with
    | none => rw [hz] at e; cases e
    | some c =>
      rw [hz] at e
      cases e
      refine ⟨show i < z.toArray.size by simpa using (List.getElem?_eq_some_iff.mp hz).1, fun y H2 hy => ?_⟩
      obtain ⟨rfl, c', e1, rfl⟩ := hy
      have : c' = c := by
        have e1 : (z.toArray)[i]? = some c' := e1
        rw [List.getElem?_toArray, hz] at e1
        exact (Option.some.inj e1).symm
      subst this
      exact ⟨.refl, so, .str [c']⟩
  · show z.toArray.size ≤ (chars z).length
    simp [chars]
theorem feed_range {θ : Th} {H : Hp} {gd : Sto → Bool} {i j : Int} : Feed g θ H gd (rangeL i j) (Itr i (j - i).toNat) := by
  intro θ1 H1 s m so hg
  refine ⟨fun n d e => ?_, by show (j - i).toNat ≤ (rangeL i j).length; simp [rangeL]⟩
  have hn : n < (j - i).toNat := by
    have := (List.getElem?_eq_some_iff.mp e).1
    simpa [rangeL] using this
  refine ⟨hn, fun y H2 hy => ?_⟩
  obtain ⟨rfl, rfl⟩ := hy
  have : d = .int (i + n) := by
    unfold rangeL at e
    rw [List.getElem?_map, List.getElem?_range hn] at e
    exact (Option.some.inj e).symm
  subst this
  exact ⟨.refl, so, .int _⟩
/-- an iterator of one object, just made -/
theorem pie_one {tg : Expr} {pins : List (Addr × Obj)} {σ : L2.St} {H : Hp} {s : Shared} {R' : It → Hp → Prop} {E' : Value → Shared → Prop} {J : It} {tn : Nat → Heap → Prop} {o : Obj} (I : Inv X pins σ H s) (ht : Turn X.prog X.w X.K tg J [s.heap.objs.size] s.heap.objs.size tn) (h0 : tn 0 (s.heap.push o)) (q : R' J H) :
    PIE X pins σ tg R' (.ref s.heap.objs.size) { s with heap := s.heap.push o } := by
  refine ⟨_, _, tn, J, H, rfl, I.kept (t' := s.toks) fun b ob e => Heap.get?_push_of_some _ e, ht, h0, fun b hb => ?_, q⟩
  rw [List.mem_singleton.mp hb]
  exact I.fpOk (Nat.le_refl _) (I.hok.fresh (Nat.le_refl _))
/-- any expression that is walked -/
theorem sI_any {tg : Expr} (xg : Xg g X) (he : PE X e (tE g false W (ev Φ ea))) : PI X tg e (tI g W (ev Φ ea)) := by
  refine ⟨fun pins s σ H R' I h => ?_⟩
  obtain ⟨θ, st, ρ, so, en, l, h⟩ := h
  have hw : tE g false W (ev Φ ea) σ H fun v H1 => ∃ θ1 st1 d xs, StoOk g θ1 H1 st1 ∧ Rep g θ1 H1 d v ∧ items st1 d = some xs ∧ ∀ J, Feed g θ1 H1 (gdOf d st1) xs J → R' J H1 := by
    refine ⟨θ, st, ρ, so, en, l, ?_⟩
    revert h
    cases ev Φ ea ρ st with
    | ok d st1 =>
      rintro ⟨xs, hx, h⟩
      exact ⟨(fun z => nomatch z), fun θ' H' v x' s' r' => ⟨θ', st1, d, xs, s', r', hx, fun J f => h θ' H' J x' s' f⟩⟩
    | exc y st1 => exact fun h => h
    | no => exact fun h => h
  refine thn (he.run pins s σ H _ I hw) fun u s1 q1 => ?_
  obtain ⟨v, H1, I1, rv, θ1, st1, d, xs, s1', rd, hx, hR⟩ := q1
  have lst : ∀ (a : Addr) (vs : List V), v = .ref a → SqL g.K H1 a vs → R' (Itl g.K a) H1 → wpAny (model X.prog X.w) X.A (pyIter u) (PIE X pins σ tg R') X.xe s1 := by
    intro a vs ev hs q
    subst ev
    cases rv
    rw [← xg.hK] at hs q
    obtain ⟨its, _, pl, _⟩ := I1.list hs
    refine wpAny_pyIter_list pl.isList ?_
    exact pie_one (E' := X.xe) I1 (turn_list a _) ⟨_, Heap.get?_push_size _ rfl, rfl, rfl⟩ q
  have tup : ∀ (a : Addr) (vs : List V), v = .ref a → SqT g.K H1 a vs → R' (Itt g.K a) H1 → wpAny (model X.prog X.w) X.A (pyIter u) (PIE X pins σ tg R') X.xe s1 := by
    intro a vs ev hs q
    subst ev
    cases rv
    rw [← xg.hK] at hs q
    obtain ⟨its, _, pl, _⟩ := I1.tuple hs
    refine wpAny_pyIter_tuple (show s1.heap.IsTuple a its.toArray from pl) ?_
    exact pie_one (E' := X.xe) I1 (turn_tuple a _) ⟨_, Heap.get?_push_size _ rfl, rfl, rfl⟩ q
  cases d with
  | str z =>
    simp only [items] at hx
    split at hx
    · cases hx
      cases rd
      obtain ⟨t, rfl⟩ := rv
      have q := hR _ feed_str
      cases hc : (sOf z).cps.all (· < 128) with
      | false => exact wpAny_pyIter_wide hc (pie_one (E' := X.xe) I1 (turn_str _ (sOf z) t "str_iterator" (.inr rfl)) ⟨_, Heap.get?_push_size _ rfl, rfl, rfl⟩ q)
      | true => exact wpAny_pyIter_ascii hc (pie_one (E' := X.xe) I1 (turn_str _ (sOf z) t "str_ascii_iterator" (.inl rfl)) ⟨_, Heap.get?_push_size _ rfl, rfl, rfl⟩ q)
    · cases hx
  | tup ys =>
    cases hx
    cases rd with
    | tup h1 h2 => exact tup _ _ rfl h1.to (hR _ (feed_tup fun θ2 H2 m => ⟨_, SqTf.to (g := g) (θ := θ2) (h1.imp (fun q => m.rd q.2 q.1) id), RepL.to m _ _ h2⟩))
  | lst ys =>
    cases hx
    cases rd with
    | lst h1 h2 => exact lst _ _ rfl h1.to (hR _ (feed_list fun θ2 H2 _ m _ _ => ⟨_, .inl (.inl (m.keep _ _ h1.2 h1.1).1), RepL.to m _ _ h2⟩))
  | rol ys =>
    cases hx
    cases rd with
    | rol h1 h2 => exact lst _ _ rfl h1.to (hR _ (feed_list fun θ2 H2 _ m _ _ => ⟨_, SqLr.to (g := g) (θ := θ2) (h1.imp (fun q => m.rd q.2 q.1) id), RepL.to m _ _ h2⟩))
  | ref n =>
    cases rd with
    | ref h1 =>
      simp only [items] at hx
      split at hx
      · rename_i ys e
        cases hx
        obtain ⟨a, e1, r1⟩ := s1'.obj _ _ e
        rw [h1] at e1
        cases e1
        cases r1 with
        | lst h2 h3 =>
          refine lst _ _ rfl (.inl (.inl h2)) (hR _ (feed_list fun θ2 H2 s2 m so2 hg => ?_))
          have hg : s2[n]? = some (.lst xs) := by
            simp only [gdOf, decide_eq_true_eq] at hg
            rw [hg, e]
          obtain ⟨a2, e2, r2⟩ := so2.obj _ _ hg
          rw [m.pl _ _ h1] at e2
          cases e2
          cases r2 with
          | lst h4 h5 => exact ⟨_, .inl (.inl h4), h5⟩
      · cases hx
  | _ => cases hx
theorem tI_range {σ : L2.St} {H : Hp} {R' : It → Hp → Prop} (h : tI g W (ev Φ (.range ea eb)) σ H R') :
    tE g false W (ev Φ ea) σ H fun x H1 => tE g false W (ev Φ eb) σ H1 fun y H2 => ∃ i j : Int, x = .int i ∧ y = .int j ∧ (-(2 ^ 62) ≤ i ∧ i < 2 ^ 62 ∧ -(2 ^ 62) ≤ j ∧ j < 2 ^ 62) ∧ R' (Itr i (j - i).toNat) H2 := by
  obtain ⟨θ, st, ρ, s, en, l, h⟩ := h
  simp only [ev] at h
  refine ⟨θ, st, ρ, s, en, l, ?_⟩
  cases qa : ev Φ ea ρ st with
  | exc y st1 => rw [qa] at h; exact h
  | no => rw [qa] at h; exact h
  | ok d st1 =>
    rw [qa] at h
    simp only [R.bind] at h
    refine ⟨(fun z => nomatch z), fun θ1 H1 x x1 s1 r1 => ⟨θ1, st1, ρ, s1, en.mono x1, l, ?_⟩⟩
    cases qb : ev Φ eb ρ st1 with
    | exc y st2 => rw [qb] at h; exact fun θ2 H2 c dx x2 => h θ2 H2 c dx (x1.trans x2)
    | no => rw [qb] at h; exact h
    | ok d2 st2 =>
      rw [qb] at h
      simp only at h
      refine ⟨(fun z => nomatch z), fun θ2 H2 y x2 s2 r2 => ?_⟩
      cases d with
      | int i =>
        cases d2 with
        | int j =>
          simp only at h
          split at h
          · rename_i hz
            simp only [Bool.and_eq_true, rgOk, decide_eq_true_eq] at hz
            cases r1
            cases r2
            obtain ⟨xs, e, h⟩ := h
            cases e
            exact ⟨i, j, rfl, rfl, ⟨hz.1.1.1, hz.1.1.2, hz.1.2.1, hz.1.2.2⟩, h θ2 H2 _ (x1.trans x2) s2 feed_range⟩
          · exact h.elim
        | _ => exact h.elim
      | _ => exact h.elim
theorem sI_range1 {tg : Expr} (hg : Gl X "range") (hm : X.mg "range" = none) (hp : plainE a = true) (ha : PE X a (tE g false W (ev Φ ea))) : PI X tg (.Call (.Name "range" p) [a] [] pos) (tI g W (ev Φ (.range (.c (.int 0)) ea))) :=
  PI.imp (pi_range1 hg hm (pa_cons ha pa_nil (star_plain hp)) (star_plain hp)) fun σ H R' h => by
    obtain ⟨θ, st, ρ, s, en, l, h⟩ := tI_range h
    obtain ⟨θ, st, ρ, s, en, l, h⟩ := h.2 θ H (.int 0) .refl s (.int 0)
    refine ⟨θ, st, ρ, s, en, l, Aft_imp (fun y H2 q => ?_) h⟩
    obtain ⟨i, j, e, rfl, hz, q⟩ := q
    cases e
    exact ⟨j, rfl, hz.2.2.1, hz.2.2.2, by simpa using q⟩
theorem sI_range2 {tg : Expr} (hg : Gl X "range") (hm : X.mg "range" = none) (hp : plainE a = true) (hp2 : plainE b = true) (ha : PE X a (tE g false W (ev Φ ea))) (hb : PE X b (tE g false W (ev Φ eb))) :
    PI X tg (.Call (.Name "range" p) [a, b] [] pos) (tI g W (ev Φ (.range ea eb))) :=
  PI.imp (pi_range2 hg hm (pa_cons ha (pa_cons hb pa_nil (star_plain hp2)) (star_plain hp)) (by rw [star_plain hp, star_plain hp2]; rfl) (star_plain hp2)) fun σ H R' h => by
    refine tE_imp (fun x H1 q => tE_imp (fun y H2 q => ?_) q) (tI_range h)
    obtain ⟨i, j, rfl, rfl, hz, q⟩ := q
    exact ⟨i, j, rfl, hz, q⟩
end
end MP
end

section
set_option Elab.async false
set_option linter.all false
set_option maxRecDepth 100000
/-! MP: comprehensions. -/
namespace MP
open PySem PySem.Spec PyProof.Rows L2
theorem lcL_or (gd : Sto → Bool) (bd : D → Sto → R (List D)) : ∀ (xs : List D) (st : Sto), (∃ ys st', lcL gd bd xs st = .ok ys st') ∨ lcL gd bd xs st = .no
  | [], st => by
    unfold lcL
    split
    · exact .inl ⟨_, _, rfl⟩
    · exact .inr rfl
  | x :: r, st => by
    unfold lcL
    split
    · cases bd x st with
      | ok ys st' =>
        simp only
        rcases lcL_or gd bd r st' with ⟨zs, st2, e⟩ | e
        · rw [e]; exact .inl ⟨_, _, rfl⟩
        · rw [e]; exact .inr rfl
      | exc y st' => exact .inr rfl
      | no => exact .inr rfl
    · exact .inr rfl
theorem lcL_cons {gd : Sto → Bool} {bd : D → Sto → R (List D)} {x : D} {xs zs : List D} {st st2 : Sto} (h : lcL gd bd (x :: xs) st = .ok zs st2) : gd st = true ∧ ∃ ys st' ws, bd x st = .ok ys st' ∧ lcL gd bd xs st' = .ok ws st2 ∧ zs = ys ++ ws := by
  unfold lcL at h
  split at h
  · rename_i hg
    refine ⟨hg, ?_⟩
    cases q : bd x st with
    | ok ys st' =>
      rw [q] at h
      simp only at h
      rcases lcL_or gd bd xs st' with ⟨ws, st3, e⟩ | e
      · rw [e] at h
        cases h
        exact ⟨ys, st', ws, rfl, e, rfl⟩
      · rw [e] at h; cases h
    | exc y st' => rw [q] at h; cases h
    | no => rw [q] at h; cases h
  · cases h
theorem lcL_nil {gd : Sto → Bool} {bd : D → Sto → R (List D)} {zs : List D} {st st2 : Sto} (h : lcL gd bd [] st = .ok zs st2) : gd st = true ∧ zs = [] ∧ st2 = st := by
  unfold lcL at h
  split at h
  · rename_i hg
    cases h
    exact ⟨hg, rfl, rfl⟩
  · cases h
theorem lcB_ok {t : T} {ρ : Env} {c : Env → Sto → R Bool} {e : Env → Sto → R D} {x : D} {st st2 : Sto} {ys : List D} (h : lcB t ρ c e x st = .ok ys st2) :
    ∃ ρ' b st1, bindT t x ρ = some ρ' ∧ c ρ' st = .ok b st1 ∧ ((b = true ∧ ∃ y, e ρ' st1 = .ok y st2 ∧ ys = [y]) ∨ (b = false ∧ ys = [] ∧ st2 = st1)) := by
  unfold lcB at h
  split at h
  · rename_i ρ' e1
    obtain ⟨b, st1, e2, h⟩ := R.bind_ok h
    refine ⟨ρ', b, st1, e1, e2, ?_⟩
    cases b with
    | true =>
      obtain ⟨y, st3, e3, h⟩ := R.bind_ok h
      cases h
      exact .inl ⟨rfl, y, e3, rfl⟩
    | false =>
      cases h
      exact .inr ⟨rfl, rfl, rfl⟩
  · cases h
theorem wipe_in {σ σ' : L2.St} {vs : List Nat} (hl : σ'.length = σ.length) (h : ∀ i, i ∉ vs → σ'[i]? = σ[i]?) : wipe σ' vs = wipe σ vs := by
  refine List.ext_getElem? fun i => ?_
  by_cases hi : i ∈ vs
  · have aux : ∀ (σ : L2.St) (ws : List Nat), i ∈ ws → (wipe σ ws)[i]? = if i < σ.length then some none else none := by
      intro σ ws
      induction ws with
      | nil => intro z; cases z
      | cons w ws ih =>
        intro z
        unfold wipe
        by_cases hw : w = i
        · subst hw
          by_cases hlt : w < (wipe σ ws).length
          · rw [List.getElem?_set_self hlt, if_pos (by rwa [wipe_length] at hlt)]
          · rw [List.getElem?_eq_none (by rw [List.length_set]; exact Nat.le_of_not_lt hlt), if_neg (by rwa [wipe_length] at hlt)]
        · rw [List.getElem?_set_ne hw]
          exact ih ((List.mem_cons.mp z).resolve_left fun e => hw e.symm)
    rw [aux _ _ hi, aux _ _ hi, hl]
  · rw [wipe_out hi, wipe_out hi, h i hi]
def WF : WX := fun _ _ _ _ => False
section
variable {g : GC} {fr : Bool} {W : WX} {X : Cx} {Φ : Phi} {elt tg iter : Expr} {ifs : List Expr} {scope : Scope} {own : List (Str × Nat)} {pos : Pos} {ei ec ee : E} {t : T}
theorem wipe_wipe (σ : L2.St) (vs : List Nat) : wipe (wipe σ vs) vs = wipe σ vs := wipe_in (wipe_length σ vs) fun i hi => wipe_out hi
/-- the reading of a comprehension -/
theorem lc_t (hown : own.map (·.2) = t.slots) {σ : L2.St} {H : Hp} {Q : VK} (h : tE g fr W (ev Φ (.lc t ei ec ee)) σ H Q) : tLc (tI g W (ev Φ ei)) (tG g t) (tB g WF (tst Φ ec)) (tE g false WF (ev Φ ee)) (own.map (·.2)) σ H Q := by
  obtain ⟨θ, st, ρ, s, en, l, h⟩ := h
  simp only [ev] at h
  refine ⟨θ, st, ρ, s, en, l, ?_⟩
  cases qi : ev Φ ei ρ st with
  | exc y st1 => rw [qi] at h; exact h
  | no => rw [qi] at h; exact h.elim
  | ok d st1 =>
    rw [qi] at h
    simp only [R.bind] at h
    cases hx : items st1 d with
    | none => rw [hx] at h; exact h.elim
    | some xs =>
      rw [hx] at h
      simp only at h
      refine ⟨xs, hx, fun θ0 H0 J x0 s0 feed D hD => ?_⟩
      generalize hB : lcB t (wipeE ρ t.slots) (fun ρ st => (ev Φ ec ρ st).bind fun x st1 => R.of st1 (truth st1 x)) (ev Φ ee) = bd at h
      rcases lcL_or (gdOf d st1) bd xs st1 with ⟨zs, stf, e⟩ | e
      · rw [e] at h
        simp only at h
        split at h
        · rename_i hz
          -- the walk
          let Pv : Nat → Hp → Prop := fun i Hc => ∃ θc stc Ec acc accV ys, StoOk g θc Ec stc ∧ Ec D = none ∧ Ext θ0 θc H0 Ec ∧ Hc = upd Ec D (.lst accV) ∧ RepL g θc Ec acc accV ∧ lcL (gdOf d st1) bd (xs.drop i) stc = .ok ys stf ∧ acc ++ ys = zs
          refine ⟨fun i m Hc => m = xs.length - i ∧ i ≤ xs.length ∧ Pv i Hc, ⟨xs.length, by simp, Nat.zero_le _, θ0, st1, H0, [], [], zs, s0, hD, .refl, rfl, .nil, e, rfl⟩, ?_⟩
          rintro i m Hc ⟨rfl, hi, θc, stc, Ec, acc, accV, ys, sc, hEc, xc, rfl, ra, el, ez⟩
          have sh := sc.hide (u := .lst accV) hEc
          have mv0 : Mv θc (θc.hide D) Ec (upd Ec D (.lst accV)) := (Mv.hide hEc).trans (ext_new hEc).mv
          have mv : Mv θ0 (θc.hide D) H0 (upd Ec D (.lst accV)) := xc.mv.trans mv0
          by_cases hlt : i < xs.length
          · right
            rw [List.drop_eq_getElem_cons hlt] at el
            obtain ⟨hgd, y1, st2, ws, e1, e2, rfl⟩ := lcL_cons el
            obtain ⟨fd, _⟩ := feed _ _ _ mv sh hgd
            obtain ⟨hgo, hy⟩ := fd i xs[i] (List.getElem?_eq_getElem hlt)
            refine ⟨hgo, Pv (i + 1), fun H' p => ⟨xs.length - (i + 1), by omega, rfl, hlt, p⟩, fun x H2 hyl => ?_⟩
            obtain ⟨x2, s2, r2⟩ := hy x H2 hyl
            rw [← hB] at e1
            obtain ⟨ρ', b, st3, eb, ec', hb⟩ := lcB_ok e1
            rw [hown]
            have en2 : EnvOk g (θc.hide D) H2 (wipeE ρ t.slots) (wipe σ t.slots) := (((en.mono x0).to mv).mono x2).wipe _
            refine ⟨θc.hide D, stc, wipeE ρ t.slots, xs[i], ρ', s2, en2, by rw [wipeE_length, wipe_length]; exact l, r2, eb, fun σ' en' l' hl' hs' => ?_⟩
            refine ⟨(wipe_in hl' hs').trans (wipe_wipe _ _), θc.hide D, stc, ρ', s2, en', l', ?_⟩
            rw [show tst Φ ec ρ' stc = .ok b st3 from ec']
            intro θ3 H3 x3 s3
            have en3 := en'.mono x3
            rcases hb with ⟨rfl, yv, ey, rfl⟩ | ⟨rfl, rfl, rfl⟩
            · rw [if_pos rfl]
              refine ⟨θ3, st3, ρ', s3, en3, l', ?_⟩
              rw [ey]
              refine ⟨(fun z => nomatch z), fun θ4 H4 v x4 s4 r4 => ?_⟩
              obtain ⟨θ5, rfl, x5, hD5, hid⟩ := ((x2.trans x3).trans x4).era hEc sc
              have s5 := s4.era hid
              have r5 : Rep g θ5 (era H4 D) yv v := Rep.to .era _ _ r4
              refine ⟨accV, hD5, ?_, θ5, st2, era H4 D, acc ++ [yv], accV ++ [v], ws, s5, era_same, xc.trans x5, ?_, (RepL.mono x5 _ _ ra).append (.one r5), e2, by rw [← ez]; simp⟩
              · have hlen := congrArg List.length ez
                rw [List.length_append, List.length_append, List.length_cons, List.length_nil] at hlen
                rw [← ra.length]
                omega
              · funext q
                by_cases z : q = D
                · rw [z, upd_same, upd_same]
                · rw [upd_ne z, upd_ne z, era_ne z]
            · rw [if_neg Bool.false_ne_true]
              obtain ⟨θ5, rfl, x5, hD5, hid⟩ := (x2.trans x3).era hEc sc
              refine ⟨θ5, _, era H3 D, acc, accV, ws, s3.era hid, era_same, xc.trans x5, (era_upd hD5).symm, RepL.mono x5 _ _ ra, e2, by rw [← ez]; simp⟩
          · have hn : i = xs.length := by omega
            subst hn
            left
            rw [List.drop_length] at el
            obtain ⟨hgd, rfl, rfl⟩ := lcL_nil el
            obtain ⟨_, stop⟩ := feed _ _ _ mv sh hgd
            rw [List.append_nil] at ez
            subst ez
            exact ⟨stop, OkV.new h.2 (x0.trans xc) sc ra hEc⟩
        · exact h.elim
      · rw [e] at h; exact h.elim
theorem sE_lc (xx : XX g W X) (hi : PI X tg iter (tI g W (ev Φ ei))) (ok : BlkOk X.N X.env.scope scope own) (hown : own.map (·.2) = t.slots)
    (hg : ∀ (s : Shared) (H : Hp) (C : Addr) (cl : List (Str × Addr)) (fp : List Addr), PG (X.blk s H scope (compEnvC scope cl C X.env) fp) tg (tG g t))
    (ht : ∀ (s : Shared) (H : Hp) (C : Addr) (cl : List (Str × Addr)) (fp : List Addr), PTs (X.blk s H scope (compEnvC scope cl C X.env) fp) ifs (tB g WF (tst Φ ec)))
    (he : ∀ (s : Shared) (H : Hp) (C : Addr) (cl : List (Str × Addr)) (fp : List Addr), PE (X.blk s H scope (compEnvC scope cl C X.env) fp) elt (tE g false WF (ev Φ ee))) (hs : ∀ x, foldedSetIterable iter X.env x = pure x) :
    PE X (.ListComp elt [⟨tg, iter, ifs, 0⟩] scope pos) (tE g fr W (ev Φ (.lc t ei ec ee))) :=
  PE.imp (pe_lc xx.calm xx.nd hi ok hg ht he hs) fun σ H Q h => lc_t hown h
end
end MP
end

section
set_option Elab.async false
set_option linter.all false
set_option maxRecDepth 100000
/-! MP: statements. -/
namespace MP
open PySem PySem.Spec PyProof.Rows L2
section
variable {g : GC} {fr : Bool} {W : WX} {X : Cx} {Φ : Phi} {a b c e o tg iter : Expr} {es : List Expr} {ea eb ec ei el : E} {sa sb : S} {pos p p2 p3 apos cpos : Pos} {x y z name : Str} {t : T} {st1 : Stmt} {sts sts2 : List Stmt}
theorem noswap (hv : match e with | .ListComp .. => False | .SetComp .. => False | .DictComp .. => False | _ => True) {tg : Option Expr} {ln : Nat} {env : PySem.Env} : swapsWith e tg ln env = pure false := by
  cases e <;> first | rfl | exact hv.elim
theorem noswapS (h : swapsWith e (some tg) pos.line X.env = pure false) : swapsWithSole [tg] e pos.line X.env = pure false := h

theorem asg_t {D : Ends} {σ : L2.St} {H : Hp} {te : TE} (ht : ∀ Q, tE g fr W (ev Φ ea) σ H Q → te σ H Q) (hfr : fr = false) (h : tS g W (exS Φ (.asg t ea)) D σ H) : tAsg te (tG g t) D σ H := by
  subst hfr
  refine ht _ ?_
  obtain ⟨θ, st, ρ, s, en, l, h⟩ := h
  simp only [exS] at h
  refine tE_bindS s en l h fun d st1 θ1 H1 x x1 s1 e1 r1 h1 => ?_
  split at h1
  · rename_i ρ' eb
    exact ⟨θ1, st1, ρ, d, ρ', s1, e1, l, r1, eb, fun σ' en' l' hl' _ => h1 θ1 H1 σ' .refl s1 en' l' hl'⟩
  · exact h1.elim
theorem sS_asg (he : PE X e (tE g false W (ev Φ ea))) (hg : PG X tg (tG g t)) (hs : swapsWith e (some tg) pos.line X.env = pure false) (hw : swappedStores [tg] e X.env = pure none) (hp : plainE tg = true) : PS X (.Assign [tg] e pos) (tS g W (exS Φ (.asg t ea))) :=
  PS.imp (ps_asg he hg (noswapS hs) hw (by rw [asg_plain hp]; rfl)) fun D σ H h => asg_t (te := tE g false W (ev Φ ea)) (fun _ q => q) rfl h
theorem sS_set {i : Nat} (hN : X.N.Nodup) (hi : X.N[i]? = some x) (hx : Loc X.env.scope x) (hf : X.fn x = true ∨ X.env.scope.names.lookup x = some .local) (he : PE X e (tE g false W (ev Φ ea))) (hs : swapsWith e (some (.Name x p)) pos.line X.env = pure false) : PS X (.Assign [.Name x p] e pos) (tS g W (exS Φ (.asg (.nm i) ea))) :=
  PS.imp (ps_set hN hi hx he hs hf) fun D σ H h => by
    refine tE_imp (fun v H1 q => ?_) (asg_t (te := tE g false W (ev Φ ea)) (fun _ q => q) rfl h)
    obtain ⟨θ, st, ρ, d, ρ', s, en, l, r, e, k⟩ := q
    simp only [bindT] at e
    split at e
    · rename_i hlt
      cases e
      refine k (σ.set i (some v)) (en.set l r) (by rw [List.length_set, List.length_set]; exact l) (by rw [List.length_set]) fun j hj => ?_
      rw [List.getElem?_set_ne]
      intro z
      exact hj (by rw [← z]; simp [T.slots])
    · cases e
theorem gName_of {i : Nat} {v : V} {σ : L2.St} {H : Hp} {Q : L2.St → Hp → Prop} (q : tG g (.nm i) v σ H Q) : gName i v σ H Q := by
  obtain ⟨θ, st, ρ, d, ρ', s, en, l, r, e, k⟩ := q
  simp only [bindT] at e
  split at e
  · rename_i hlt
    cases e
    refine k (σ.set i (some v)) (en.set l r) (by rw [List.length_set, List.length_set]; exact l) (by rw [List.length_set]) fun j hj => ?_
    rw [List.getElem?_set_ne]
    intro z
    exact hj (by rw [← z]; simp [T.slots])
  · cases e
/-- statements, one after another -/
theorem sSs_nil : PSs X [] (tS g W (exS Φ .skip)) :=
  PSs.imp pss_nil fun D σ H h => by
    obtain ⟨θ, st, ρ, s, en, l, h⟩ := h
    exact h θ H σ .refl s en l rfl
theorem sSs_cons (h1 : PS X st1 (tS g W (exS Φ sa))) (h2 : PSs X sts (tS g W (exS Φ sb))) : PSs X (st1 :: sts) (tS g W (exS Φ (.seq sa sb))) :=
  PSs.imp (pss_cons h1 h2) fun D σ H h => by
    obtain ⟨θ, st, ρ, s, en, l, h⟩ := h
    refine ⟨θ, st, ρ, s, en, l, ?_⟩
    simp only [exS] at h
    cases q : exS Φ sa ρ st with
    | ok f st2 =>
      rw [q] at h
      cases f with
      | next ρ' => exact fun θ' H' σ' x' s' en' l' hl' => ⟨θ', st2, ρ', s', en', l', by rw [hl']; exact AftS.shift h x'⟩
      | ret d => exact h
    | exc y st2 => rw [q] at h; exact h
    | no => rw [q] at h; exact h
theorem sS_pass : PS X (.Pass pos) (tS g W (exS Φ .skip)) :=
  PS.imp ps_pass fun D σ H h => by
    obtain ⟨θ, st, ρ, s, en, l, h⟩ := h
    exact h θ H σ .refl s en l rfl
theorem sS_ex (he : PE X e (tE g false W (ev Φ ea))) (hs : swapsWith e none pos.line X.env = pure false) : PS X (.Expr e pos) (tS g W (exS Φ (.ex ea))) :=
  PS.imp (ps_expr he hs) fun D σ H h => by
    obtain ⟨θ, st, ρ, s, en, l, h⟩ := h
    exact tE_bindS s en l h fun d st1 θ1 H1 x x1 s1 e1 r1 h1 => h1 θ1 H1 σ .refl s1 e1 l rfl
theorem sS_ret (he : PE X e (tE g false W (ev Φ ea))) : PS X (.Return (some e) pos) (tS g W (exS Φ (.ret ea))) :=
  PS.imp (ps_ret he) fun D σ H h => by
    obtain ⟨θ, st, ρ, s, en, l, h⟩ := h
    exact tE_bindS s en l h fun d st1 θ1 H1 x x1 s1 e1 r1 h1 => h1 θ1 H1 x .refl s1 r1
theorem sS_if (hc : PT X c (tB g W (tst Φ ec))) (ha : PSs X sts (tS g W (exS Φ sa))) (hb : PSs X sts2 (tS g W (exS Φ sb))) : PS X (.If c sts sts2 pos) (tS g W (exS Φ (.ite ec sa sb))) :=
  PS.imp (ps_if hc ha hb) fun D σ H h => by
    obtain ⟨θ, st, ρ, s, en, l, h⟩ := h
    refine ⟨θ, st, ρ, s, en, l, ?_⟩
    simp only [exS] at h
    cases q : tst Φ ec ρ st with
    | ok k st2 =>
      rw [q] at h
      cases k with
      | true => exact fun θ' H' x' s' => (show tS g W (exS Φ sa) D σ H' from ⟨θ', st2, ρ, s', en.mono x', l, AftS.shift h x'⟩)
      | false => exact fun θ' H' x' s' => (show tS g W (exS Φ sb) D σ H' from ⟨θ', st2, ρ, s', en.mono x', l, AftS.shift h x'⟩)
    | exc y st2 => rw [q] at h; exact fun θ' H' c dx x' s' r' => h θ' H' σ c dx x' s' r'
    | no => rw [q] at h; exact h.elim
/-- a for -/
theorem sS_for (xg : Xg g X) (hp : PassesOwn (model X.prog X.w) X.A X.env X.xe) (hi : PI X tg iter (tI g W (ev Φ ei))) (hg : PG X tg (tG g t)) (hb : PSs X sts (tS g W (exS Φ sb))) (hs : ∀ x, foldedSetIterable iter X.env x = pure x) :
    PS X (.For tg iter sts [] pos) (tS g W (exS Φ (.for_ t ei sb))) :=
  PS.imp (ps_for hp xg.calm hi hg hb hs) fun D σ H h => by
    obtain ⟨θ, st, ρ, s, en, l, h⟩ := h
    simp only [exS] at h
    refine ⟨θ, st, ρ, s, en, l, ?_⟩
    cases qi : ev Φ ei ρ st with
    | exc y st1 => rw [qi] at h; exact fun θ' H' c dx x' s' r' => h θ' H' σ c dx x' s' r'
    | no => rw [qi] at h; exact h
    | ok d st1 =>
      rw [qi] at h
      simp only [R.bind] at h
      cases hx : items st1 d with
      | none => rw [hx] at h; exact h.elim
      | some xs =>
        rw [hx] at h
        simp only at h
        refine ⟨xs, hx, fun θ0 H0 J x0 s0 feed => ?_⟩
        generalize hB : forB t (exS Φ sb) = bd at h
        let Pv : Nat → L2.St → Hp → Prop := fun i σc Hc => ∃ θc stc ρc, StoOk g θc Hc stc ∧ EnvOk g θc Hc ρc σc ∧ ρc.length ≤ σc.length ∧ σc.length = σ.length ∧ Mv θ0 θc H0 Hc ∧ AftS g θc Hc W σ.length D (forL (gdOf d st1) bd (xs.drop i) ρc stc)
        refine ⟨fun i m σc Hc => m = xs.length - i ∧ i ≤ xs.length ∧ Pv i σc Hc, ⟨xs.length, by simp, Nat.zero_le _, θ0, st1, ρ, s0, en.mono x0, l, rfl, .rfl', AftS.shift h x0⟩, ?_⟩
        rintro i m σc Hc ⟨rfl, hi, θc, stc, ρc, sc, ec, lc, hlc, mv, ac⟩
        by_cases hlt : i < xs.length
        · right
          rw [List.drop_eq_getElem_cons hlt] at ac
          unfold forL at ac
          split at ac
          · rename_i hgd
            obtain ⟨fd, _⟩ := feed _ _ _ mv sc hgd
            obtain ⟨hgo, hy⟩ := fd i xs[i] (List.getElem?_eq_getElem hlt)
            refine ⟨hgo, Pv (i + 1), fun σ' H' p => ⟨xs.length - (i + 1), by omega, rfl, hlt, p⟩, fun x H2 hyl => ?_⟩
            obtain ⟨x2, s2, r2⟩ := hy x H2 hyl
            rw [show bd xs[i] ρc stc = _ from (congrFun (congrFun (congrFun hB _) _) _).symm] at ac
            simp only [forB] at ac
            cases eb : bindT t xs[i] ρc with
            | none => rw [eb] at ac; exact ac.elim
            | some ρ' =>
              rw [eb] at ac
              simp only at ac
              refine ⟨θc, stc, ρc, xs[i], ρ', s2, ec.mono x2, lc, r2, eb, fun σ' en' l' hl' _ => ?_⟩
              refine ⟨θc, stc, ρ', s2, en', l', ?_⟩
              cases qb : exS Φ sb ρ' stc with
              | ok f st3 =>
                rw [qb] at ac
                cases f with
                | next ρ2 => exact fun θ3 H3 σ3 x3 s3 en3 l3 hl3 => ⟨θ3, st3, ρ2, s3, en3, l3, hl3.trans (hl'.trans hlc), mv.trans (x2.trans x3).mv, AftS.shift ac (x2.trans x3)⟩
                | ret d => exact fun θ3 H3 v x3 => ac θ3 H3 v (x2.trans x3)
              | exc y st3 => rw [qb] at ac; exact fun θ3 H3 σ3 c dx x3 => ac θ3 H3 σ3 c dx (x2.trans x3)
              | no => rw [qb] at ac; exact ac
          · exact ac.elim
        · have hn : i = xs.length := by omega
          subst hn
          left
          rw [List.drop_length] at ac
          unfold forL at ac
          split at ac
          · rename_i hgd
            obtain ⟨_, stop⟩ := feed _ _ _ mv sc hgd
            exact ⟨stop, ac θc Hc σc .refl sc ec lc hlc⟩
          · exact ac.elim
/-- a while -/
theorem sS_while (hp : PassesOwn (model X.prog X.w) X.A X.env X.xe) (hc : PT X c (tB g W (tst Φ ec))) (hb : PSs X sts (tS g W (exS Φ sb))) : PS X (.While c sts [] pos) (tS g W (exS Φ (.whl ec sb))) :=
  PS.imp (ps_while hp hc hb) fun D σ H h => by
    obtain ⟨θ, st, ρ, s, en, l, h⟩ := h
    simp only [exS] at h
    generalize whlFuel = n at h
    refine ⟨fun m σc Hc => ∃ θc stc ρc, StoOk g θc Hc stc ∧ EnvOk g θc Hc ρc σc ∧ ρc.length ≤ σc.length ∧ σc.length = σ.length ∧ AftS g θc Hc W σ.length D (whlN (tst Φ ec) (exS Φ sb) m ρc stc), ⟨n, θ, st, ρ, s, en, l, rfl, h⟩, ?_⟩
    rintro m σc Hc ⟨θc, stc, ρc, sc, en', lc, hlc, ac⟩
    cases m with
    | zero => exact ac.elim
    | succ m =>
      unfold whlN at ac
      refine ⟨θc, stc, ρc, sc, en', lc, ?_⟩
      cases qc : tst Φ ec ρc stc with
      | ok k st2 =>
        rw [qc] at ac
        intro θ2 H2 x2 s2
        cases k with
        | true =>
          rw [if_pos rfl]
          simp only at ac
          refine ⟨fun σ' H' => ∃ θ3 st3 ρ3, StoOk g θ3 H' st3 ∧ EnvOk g θ3 H' ρ3 σ' ∧ ρ3.length ≤ σ'.length ∧ σ'.length = σ.length ∧ AftS g θ3 H' W σ.length D (whlN (tst Φ ec) (exS Φ sb) m ρ3 st3), fun σ' H' q => ⟨m, Nat.lt_succ_self m, q⟩, θ2, st2, ρc, s2, en'.mono x2, lc, ?_⟩
          cases qb : exS Φ sb ρc st2 with
          | ok f st3 =>
            rw [qb] at ac
            cases f with
            | next ρ2 => exact fun θ3 H3 σ3 x3 s3 en3 l3 hl3 => ⟨θ3, st3, ρ2, s3, en3, l3, hl3.trans hlc, AftS.shift ac (x2.trans x3)⟩
            | ret d => exact fun θ3 H3 v x3 => ac θ3 H3 v (x2.trans x3)
          | exc y st3 => rw [qb] at ac; exact fun θ3 H3 σ3 c dx x3 => ac θ3 H3 σ3 c dx (x2.trans x3)
          | no => rw [qb] at ac; exact ac
        | false =>
          rw [if_neg Bool.false_ne_true]
          exact ac θ2 H2 σc x2 s2 (en'.mono x2) lc hlc
      | exc y st2 => rw [qc] at ac; exact fun θ' H' c dx x' s' r' => ac θ' H' σc c dx x' s' r'
      | no => rw [qc] at ac; exact ac.elim
/-- several names at once -/
theorem par_names : ∀ {l : List Nat} {xs : List D} {ρ ρ' : Env}, bindTs (l.foldr (fun i r => .cons (.nm i) r) .nil) xs ρ = some ρ' → ∀ {θ : Th} {H : Hp} {σ : L2.St} {vs : List V}, EnvOk g θ H ρ σ → ρ.length ≤ σ.length → RepL g θ H xs vs →
    vs.length = l.length ∧ ∃ σ', σ' = (l.zip vs).foldl (fun σ iv => σ.set iv.1 (some iv.2)) σ ∧ EnvOk g θ H ρ' σ' ∧ ρ'.length ≤ σ'.length ∧ σ'.length = σ.length
  | [], xs, ρ, ρ', e, θ, H, σ, vs, en, l, r => by
    cases xs with
    | nil =>
      cases r
      simp only [List.foldr, bindTs] at e
      cases e
      exact ⟨rfl, σ, rfl, en, l, rfl⟩
    | cons d ds => simp [bindTs] at e
  | i :: is, xs, ρ, ρ', e, θ, H, σ, vs, en, l, r => by
    cases xs with
    | nil => simp [bindTs] at e
    | cons d ds =>
      cases r with
      | @cons _ v _ vs r1 r2 =>
        simp only [List.foldr, bindTs, bindT] at e
        split at e
        · rename_i ρ1 e1
          split at e1
          · cases e1
            obtain ⟨h1, σ', h2, h3, h4, h5⟩ := par_names (l := is) e (en.set l r1) (by rw [List.length_set, List.length_set]; exact l) r2
            exact ⟨by simp [h1], σ', h2, h3, h4, by rw [h5, List.length_set]⟩
          · cases e1
        · cases e
theorem par_t {D : Ends} {σ : L2.St} {H : Hp} {l : List Nat} (h : tS g W (exS Φ (.par (l.foldr (fun i r => .cons (.nm i) r) .nil) el)) D σ H) :
    tL g W (ev Φ el) σ H fun vs H1 => vs.length = l.length ∧ D.nx ((l.zip vs).foldl (fun σ iv => σ.set iv.1 (some iv.2)) σ) H1 := by
  obtain ⟨θ, st, ρ, s, en, l', h⟩ := h
  simp only [exS] at h
  refine ⟨θ, st, ρ, s, en, l', ?_⟩
  cases q : ev Φ el ρ st with
  | ok d st2 =>
    rw [q] at h
    cases d with
    | tup xs =>
      simp only [R.bind] at h
      split at h
      · rename_i ρ' e
        refine ⟨xs, rfl, fun θ' H' vs x' s' r' => ?_⟩
        obtain ⟨h1, σ', h2, h3, h4, h5⟩ := par_names e (en.mono x') l' r'
        exact ⟨h1, by rw [← h2]; exact h θ' H' σ' x' s' h3 h4 h5⟩
      · exact h.elim
    | _ => exact h.elim
  | exc y st2 => rw [q] at h; exact fun θ' H' c dx x' s' r' => h θ' H' σ c dx x' s' r'
  | no => rw [q] at h; exact h
theorem sS_par2 {i j : Nat} {px py pt : Pos} {kt k2 pt2} (xg : Xg g X) (hN : X.N.Nodup) (hi : X.N[i]? = some x) (hj : X.N[j]? = some y) (hij : i ≠ j) (hx : X.env.scope.names.lookup x = some .local) (hy : X.env.scope.names.lookup y = some .local) (ha : PA X [a, b] (tL g W (ev Φ el)))
    (hw : swappedStores [.Tuple [.Name x px, .Name y py] kt pt] (.Tuple [a, b] k2 pt2) X.env = pure (some [x, y])) : PS X (.Assign [.Tuple [.Name x px, .Name y py] kt pt] (.Tuple [a, b] k2 pt2) pos) (tS g W (exS Φ (.par (.cons (.nm i) (.cons (.nm j) .nil)) el))) :=
  PS.imp (ps_par xg.calm hN hi hj hij hx hy ha hw rfl) fun D σ H h => by
    obtain ⟨θ, st, ρ, s, en, l, h⟩ := par_t (l := [i, j]) h
    refine ⟨θ, st, ρ, s, en, l, AftL_imp (fun vs H1 q => ?_) h⟩
    obtain ⟨hl, q⟩ := q
    match vs, hl with
    | [v, w'], _ => exact ⟨v, w', rfl, q⟩
theorem sS_par3 {i j k : Nat} {px py pz pt : Pos} {kt k2 pt2} (xg : Xg g X) (hN : X.N.Nodup) (hi : X.N[i]? = some x) (hj : X.N[j]? = some y) (hk : X.N[k]? = some z) (hij : i ≠ j) (hik : i ≠ k) (hjk : j ≠ k) (hx : X.env.scope.names.lookup x = some .local) (hy : X.env.scope.names.lookup y = some .local) (hz : X.env.scope.names.lookup z = some .local)
    (ha : PA X [a, b, c] (tL g W (ev Φ el))) (hw : swappedStores [.Tuple [.Name x px, .Name y py, .Name z pz] kt pt] (.Tuple [a, b, c] k2 pt2) X.env = pure (some [x, y, z])) :
    PS X (.Assign [.Tuple [.Name x px, .Name y py, .Name z pz] kt pt] (.Tuple [a, b, c] k2 pt2) pos) (tS g W (exS Φ (.par (.cons (.nm i) (.cons (.nm j) (.cons (.nm k) .nil))) el))) :=
  PS.imp (ps_par3 xg.calm hN hi hj hk hij hik hjk hx hy hz ha hw rfl) fun D σ H h => by
    obtain ⟨θ, st, ρ, s, en, l, h⟩ := par_t (l := [i, j, k]) h
    refine ⟨θ, st, ρ, s, en, l, AftL_imp (fun vs H1 q => ?_) h⟩
    obtain ⟨hl, q⟩ := q
    match vs, hl with
    | [u, v, w'], _ => exact ⟨u, v, w', rfl, q⟩
end
end MP
end

section
set_option Elab.async false
set_option linter.all false
set_option maxRecDepth 100000
/-! MP: o[i] = e. -/
namespace MP
open PySem PySem.Spec PyProof.Rows L2
section
variable {g : GC} {fr : Bool} {W : WX} {X : Cx} {Φ : Phi} {a b c e o i tg iter : Expr} {es : List Expr} {ea eb ec ei el eo : E} {sa sb : S} {pos p p2 p3 apos cpos : Pos} {x y z name : Str} {t : T} {st1 : Stmt} {sts sts2 : List Stmt}
theorem keys_any {k : D} {q : Key} (hk : keyOf k = some q) : ∀ {ks : List D} {kvs : List (Key × V)}, ks.map keyOf = kvs.map (fun p => some p.1) → ((kvs.any fun kv => decide (kv.1 = q)) = true ↔ k ∈ ks)
  | [], [], _ => by simp
  | [], _ :: _, h => by simp at h
  | _ :: _, [], h => by simp at h
  | d :: ks, kv :: kvs, h => by
    simp only [List.map_cons, List.cons.injEq] at h
    rw [List.any_cons, Bool.or_eq_true, keys_any hk h.2, decide_eq_true_eq, List.mem_cons]
    constructor
    · rintro (z | z)
      · left
        exact keyOf_inj hk (by rw [h.1, z])
      · exact .inr z
    · rintro (z | z)
      · left
        rw [z, h.1] at hk
        exact Option.some.inj hk
      · exact .inr z
theorem put_keys {k : D} {q : Key} {v : V} (hk : keyOf k = some q) {ks : List D} {kvs : List (Key × V)} (h : ks.map keyOf = kvs.map (fun p => some p.1)) : (putK k ks).map keyOf = (L2.putK kvs q v).map (fun p => some p.1) := by
  unfold putK L2.putK
  by_cases z : k ∈ ks
  · rw [if_pos z, if_pos ((keys_any hk h).mpr z), h, List.map_map]
    apply List.map_congr_left
    intro kv _
    simp only [Function.comp]
    split <;> rfl
  · rw [if_neg z, if_neg fun y => z ((keys_any hk h).mp y), List.map_append, List.map_append, h]
    simp [hk]
theorem put_vals {θ : Th} {H : Hp} {k d : D} {q : Key} {v : V} (hk : keyOf k = some q) (rv : Rep g θ H d v) {ks ds : List D} {kvs : List (Key × V)} (h : ks.map keyOf = kvs.map (fun p => some p.1)) (r : RepL g θ H ds (kvs.map (·.2))) :
    RepL g θ H (putV k d ks ds) ((L2.putK kvs q v).map (·.2)) := by
  unfold putV L2.putK
  by_cases z : k ∈ ks
  · rw [if_pos z, if_pos ((keys_any hk h).mpr z), List.map_map]
    clear z
    induction ks generalizing kvs ds with
    | nil =>
      cases kvs with
      | nil => exact .nil
      | cons p r => simp at h
    | cons k1 ks ih =>
      cases kvs with
      | nil => simp at h
      | cons p kvs =>
        simp only [List.map_cons, List.cons.injEq] at h
        rw [List.map_cons] at r
        cases r with
        | @cons d1 _ ds' _ r1 r2 =>
          refine .cons ?_ (ih h.2 r2)
          simp only [Function.comp]
          by_cases zz : k1 = k
          · rw [if_pos zz, if_pos]
            · exact rv
            · rw [zz, hk] at h
              exact (Option.some.inj h.1).symm
          · rw [if_neg zz, if_neg]
            · exact r1
            · intro y
              exact zz (keyOf_inj (by rw [h.1, y]) hk)
  · rw [if_neg z, if_neg fun y => z ((keys_any hk h).mp y), List.map_append]
    exact r.append (.one rv)
def rSet (g : GC) : TSet := fun o i v H Q => ∃ θ st x y d st', StoOk g θ H st ∧ Rep g θ H x o ∧ Rep g θ H y i ∧ Rep g θ H d v ∧ setR x y d st = some st' ∧ ∀ H', Ext θ θ H H' → StoOk g θ H' st' → Q H'
theorem set_any (xg : Xg g X) : PSet X (rSet g) := by
  intro pins s σ H o i v ov iv u Q I ro ri rv h
  obtain ⟨θ, st, x, y, d, st', so, rx, ry, rd, e, k⟩ := h
  unfold setR at e
  split at e
  · rename_i n
    cases rx with
    | ref hn =>
      rename_i l
      have hl : l ∈ θ.pl := List.mem_of_getElem? hn
      split at e
      · rename_i xs hx
        obtain ⟨l', e1, r1⟩ := so.obj _ _ hx
        rw [hn] at e1
        cases e1
        cases r1 with
        | lst h1 h2 =>
          split at e
          · rename_i j
            cases ry
            cases hj : ixN xs.length j with
            | none => rw [hj] at e; cases e
            | some m =>
              rw [hj] at e
              cases e
              refine set_list pins s σ H _ _ v ov iv u Q I ro ri rv ⟨_, _, j, m, rfl, rfl, h1, by rw [← h2.length]; exact hj, ?_⟩
              have x1 := fun u => ext_set (H := H) (u := u) hl
              exact k _ (x1 _) (so.put hn (.lst upd_same (RepL.set (Rep.mono (x1 _) _ _ rd) m (RepL.mono (x1 _) _ _ h2))))
          · cases e
      · rename_i ks vs hx
        obtain ⟨l', e1, r1⟩ := so.obj _ _ hx
        rw [hn] at e1
        cases e1
        cases r1 with
        | dic h1 h2 h3 =>
          split at e
          · rename_i hz
            cases e
            rw [Bool.and_eq_true, decide_eq_true_eq] at hz
            obtain ⟨q, hq, rfl⟩ := key_rep ry hz.1
            cases (show ov = Value.ref l from ro)
            have x1 := fun u => ext_set (H := H) (u := u) hl
            have hlen := congrArg List.length h2
            rw [List.length_map, List.length_map] at hlen
            refine d_setItem xg.hu1 I (DPut.k h1 (by rw [← hlen]; exact hz.2)) ri rv fun s' I' => ⟨_, I', ?_⟩
            exact k _ (x1 _) (so.put hn (.dic upd_same (put_keys hq h2) (put_vals hq (Rep.mono (x1 _) _ _ rd) h2 (RepL.mono (x1 _) _ _ h3))))
          · cases e
      · cases e
  · cases e
def noSlice : Expr → Bool
  | .Slice .. => false
  | _ => true
theorem asg_sub (h : noSlice i = true) {env : PySem.Env} (v : Value) : assign (.Subscript o i p) env v = (do
    let ov ← holding [v] (eval o env)
    let iv ← holding [v, ov] (eval i env)
    standAt p
    holding [v, ov, iv] (setItem ov iv v)
    release [v, ov, iv] []) := by
  cases i <;> first | rfl | cases h
theorem plainIx (h : noSlice i = true) : PlainIx i := by
  intro u v
  cases i <;> first | rfl | cases h
theorem sS_seti (xg : Xg g X) (hn : noSlice i = true) (he : PE X e (tE g false W (ev Φ ea))) (ho : PE X o (tE g false W (ev Φ eo))) (hi : PE X i (tE g false W (ev Φ ei))) (hs : swapsWith e (some (.Subscript o i p)) pos.line X.env = pure false) (hw : swappedStores [.Subscript o i p] e X.env = pure none) :
    PS X (.Assign [.Subscript o i p] e pos) (tS g W (exS Φ (.seti eo ei ea))) :=
  PS.imp (ps_asg he (pg_sub ho hi (set_any xg) (asg_sub hn)) (noswapS hs) hw rfl) fun D σ H h => by
    obtain ⟨θ, st, ρ, s, en, l, h⟩ := h
    simp only [exS] at h
    refine tE_bindS s en l h fun d st1 θ1 H1 v x1 s1 e1 r1 h1 => ?_
    refine tE_bindS s1 e1 l h1 fun d2 st2 θ2 H2 v2 x2 s2 e2 r2 h2 => ?_
    refine tE_bindS s2 e2 l h2 fun d3 st3 θ3 H3 v3 x3 s3 e3 r3 h3 => ?_
    split at h3
    · rename_i st4 e4
      exact ⟨θ3, st3, d2, d3, d, st4, s3, Rep.mono x3 _ _ r2, r3, Rep.mono x3 _ _ (Rep.mono x2 _ _ r1), e4, fun H' x' s' => h3 θ3 H' σ x' s' (e3.mono x') l rfl⟩
    · exact h3.elim
end
end MP
end

section
set_option Elab.async false
set_option linter.all false
set_option maxRecDepth 100000
/-! MP: calls; a def keeps its promise. -/
namespace MP
open PySem PySem.Spec PyProof.Rows L2
/-! ### what was made within is dropped -/
def Th.cut (θ : Th) (n : Nat) : Th := ⟨θ.pl.take n, θ.hid⟩
section
variable {g : GC} {θ θ' : Th} {H H' : Hp} {st st' : Sto} {n : Nat}
theorem cut_notin {a : Addr} (h : a ∉ θ) : a ∉ θ.cut n := fun z => h (z.elim (fun z => .inl (List.mem_of_mem_take z)) .inr)
mutual
theorem Rep.cut : ∀ (d : D) (v : V), d.under n = true → Rep g θ H d v → Rep g (θ.cut n) H d v
  | .non, _, _, h => by cases h; exact .non
  | .bl b, _, _, h => by cases h; exact .bl b
  | .int i, _, _, h => by cases h; exact .int i
  | .str s, _, _, h => by cases h; exact .str s
  | .tup xs, _, u, h => by
    cases h with
    | tup h1 h3 => exact .tup (h1.imp (fun q => ⟨q.1, cut_notin q.2⟩) id) (RepL.cut xs _ u h3)
  | .lst xs, _, u, h => by
    cases h with
    | lst h1 h3 => exact .lst ⟨h1.1, cut_notin h1.2⟩ (RepL.cut xs _ u h3)
  | .rol xs, _, u, h => by
    cases h with
    | rol h1 h3 => exact .rol (h1.imp (fun q => ⟨q.1, cut_notin q.2⟩) id) (RepL.cut xs _ u h3)
  | .dic ks vs, _, u, h => by
    cases h with
    | dic h1 h2 h3 h4 =>
      rw [D.under, Bool.and_eq_true] at u
      exact .dic h1 (cut_notin h2) h3 (RepL.cut vs _ u.2 h4)
  | .obj c fs vs, _, u, h => by
    cases h with
    | obj h1 h2 h3 h4 h5 => exact .obj h1 h2 (cut_notin h3) h4 (RepL.cut vs _ u h5)
  | .ref m, _, u, h => by
    cases h with
    | ref h1 =>
      refine .ref ?_
      show (θ.pl.take n)[m]? = _
      rw [List.getElem?_take_of_lt (of_decide_eq_true u)]
      exact h1
  | .fn f, _, _, h => by
    cases h with
    | fn h1 => exact .fn h1
theorem RepL.cut : ∀ (ds : List D) (vs : List V), unders n ds = true → RepL g θ H ds vs → RepL g (θ.cut n) H ds vs
  | [], _, _, h => by cases h; exact .nil
  | d :: ds, _, u, h => by
    rw [unders, Bool.and_eq_true] at u
    cases h with
    | cons h1 h2 => exact .cons (Rep.cut d _ u.1 h1) (RepL.cut ds _ u.2 h2)
end
theorem keys_under {n : Nat} : ∀ (ks : List D) (kvs : List (Key × V)), ks.map keyOf = kvs.map (fun p => some p.1) → unders n ks = true
  | [], _, _ => rfl
  | k :: ks, [], h => by simp at h
  | k :: ks, p :: kvs, h => by
    simp only [List.map_cons, List.cons.injEq] at h
    rw [unders, keys_under ks kvs h.2]
    cases k <;> first | rfl | (simp [keyOf] at h)
mutual
theorem Rep.isUnder : ∀ (d : D) (v : V), Rep g θ H d v → d.under θ.pl.length = true
  | .non, _, h => rfl
  | .bl b, _, h => rfl
  | .int i, _, h => rfl
  | .str s, _, h => rfl
  | .tup xs, _, h => by
    cases h with
    | tup h1 h3 => exact RepL.isUnder xs _ h3
  | .lst xs, _, h => by
    cases h with
    | lst h1 h3 => exact RepL.isUnder xs _ h3
  | .rol xs, _, h => by
    cases h with
    | rol h1 h3 => exact RepL.isUnder xs _ h3
  | .dic ks vs, _, h => by
    cases h with
    | dic h1 h2 h3 h4 =>
      rw [D.under, Bool.and_eq_true]
      exact ⟨keys_under _ _ h3, RepL.isUnder vs _ h4⟩
  | .obj c fs vs, _, h => by
    cases h with
    | obj h1 h2 h3 h4 h5 => exact RepL.isUnder vs _ h5
  | .ref m, _, h => by
    cases h with
    | ref h1 => exact decide_eq_true (List.getElem?_eq_some_iff.mp h1).1
  | .fn f, _, h => rfl
theorem RepL.isUnder : ∀ (ds : List D) (vs : List V), RepL g θ H ds vs → unders θ.pl.length ds = true
  | [], _, h => rfl
  | d :: ds, _, h => by
    cases h with
    | cons h1 h2 => rw [unders, Rep.isUnder d _ h1, RepL.isUnder ds _ h2]; rfl
end
theorem RepO.isUnder {o : O} {a : Addr} (r : RepO g θ H o a) : o.under θ.pl.length = true := by
  cases r with
  | lst h1 h2 => exact RepL.isUnder _ _ h2
  | dic h1 h2 h3 =>
    rw [O.under, Bool.and_eq_true]
    exact ⟨keys_under _ _ h2, RepL.isUnder _ _ h3⟩
  | ins h1 h2 h3 h4 => exact RepL.isUnder _ _ h4
theorem RepO.cut {o : O} {a : Addr} (u : o.under n = true) (r : RepO g θ H o a) : RepO g (θ.cut n) H o a := by
  cases r with
  | lst h1 h2 => exact .lst h1 (RepL.cut _ _ u h2)
  | dic h1 h2 h3 =>
    rw [O.under, Bool.and_eq_true] at u
    exact .dic h1 h2 (RepL.cut _ _ u.2 h3)
  | ins h1 h2 h3 h4 => exact .ins h1 h2 h3 (RepL.cut _ _ u h4)
theorem Ext.cut (x : Ext θ θ' H H') : Ext θ (θ'.cut θ.pl.length) H H' := by
  obtain ⟨new, e, f⟩ := x.pre
  refine ⟨⟨[], ?_, by simp⟩, x.hid, x.keep, x.there⟩
  show θ'.pl.take θ.pl.length = _
  rw [e, List.take_left, List.append_nil]
theorem StoOk.cut (s0 : StoOk g θ H st) (x : Ext θ θ' H H') (s : StoOk g θ' H' st') (ho : oldOk st.length st st' = true) (hl : st.length ≤ st'.length) : StoOk g (θ'.cut st.length) H' (st'.take st.length) := by
  refine ⟨?_, s.nd.sublist (List.take_sublist _ _), fun a ha => ⟨(s.hd a ha).1, fun z => (s.hd a ha).2 (List.mem_of_mem_take z)⟩, fun m o e => ?_⟩
  · show (θ'.pl.take st.length).length = _
    rw [List.length_take, List.length_take, s.len]
  · have hm : m < st.length := by
      have := (List.getElem?_eq_some_iff.mp e).1
      rw [List.length_take] at this
      omega
    rw [List.getElem?_take_of_lt hm] at e
    obtain ⟨a, e1, r⟩ := s.obj m o e
    refine ⟨a, by show (θ'.pl.take st.length)[m]? = _; rw [List.getElem?_take_of_lt hm]; exact e1, r.cut ?_⟩
    have := List.all_eq_true.mp ho m (List.mem_range.mpr hm)
    rw [e, Bool.or_eq_true, decide_eq_true_eq] at this
    rcases this with z | z
    · obtain ⟨a2, _, r2⟩ := s0.obj m o z.symm
      have := r2.isUnder
      rw [s0.len] at this
      exact this
    · exact z
/-- the value that a call leaves -/
theorem gc_ok {W : WK} {Q : VK} {d : D} {v : V} (s0 : StoOk g θ H st) (x : Ext θ θ' H H') (s : StoOk g θ' H' st') (r : Rep g θ' H' d v) (h : After g θ H W Q (gc st.length st d st')) : Q v H' := by
  unfold gc at h
  split at h
  · exact h.2 θ' H' v x s r
  · split at h
    · rename_i hz
      simp only [Bool.and_eq_true, decide_eq_true_eq] at hz
      have hl := s0.len
      have x' := x.cut
      rw [hl] at x'
      refine h.2 _ H' v x' (s0.cut x s hz.1.2 hz.2) ?_
      have hu := hz.1.1
      cases d with
      | ref m =>
        by_cases hm : m < st.length
        · have el : leave st.length st' (.ref m) = .ref m := if_pos hm
          rw [el] at hu ⊢
          exact Rep.cut _ _ hu r
        · have el : leave st.length st' (.ref m) = match st'[m]? with
            | some (.lst xs) => .lst xs
            | _ => .ref m := if_neg hm
          rw [el] at hu ⊢
          cases e : st'[m]? with
          | none => rw [e] at hu; exact Rep.cut _ _ hu r
          | some o =>
            rw [e] at hu
            cases o with
            | lst xs =>
              cases r with
              | ref h1 =>
                obtain ⟨a, e1, r1⟩ := s.obj _ _ e
                rw [h1] at e1
                cases e1
                cases r1 with
                | lst h2 h3 =>
                  refine .lst ⟨h2, ?_⟩ (RepL.cut _ _ hu h3)
                  rintro (z | z)
                  · obtain ⟨i, hi⟩ := List.getElem?_of_mem z
                    have hlt : i < st.length := by
                      have := (List.getElem?_eq_some_iff.mp hi).1
                      have e5 : (θ'.cut st.length).pl.length = min st.length θ'.pl.length := List.length_take
                      rw [e5] at this
                      omega
                    have hi : (θ'.pl.take st.length)[i]? = _ := hi
                    rw [List.getElem?_take_of_lt hlt] at hi
                    obtain ⟨h4, q4⟩ := List.getElem?_eq_some_iff.mp hi
                    obtain ⟨h5, q5⟩ := List.getElem?_eq_some_iff.mp h1
                    have := (List.getElem_inj s.nd).mp (q4.trans q5.symm)
                    omega
                  · exact (s.hd _ z).2 (List.mem_of_getElem? h1)
            | _ => exact Rep.cut _ _ hu r
      | _ => exact Rep.cut _ _ hu r
    · exact h.elim
end

/-! ### promises -/
structure FnG (P : Program) (w : World) (K : PySem.W.Frag) (mg : Str → Option Value) (base : Heap) (k : Nat) (f : Addr) (fd : FuncData) (ps : List Str) (sp : Sp) : Prop where
  len : ∀ vs H Q E, sp vs H Q E → vs.length = ps.length
  run : ∀ (A : Around) (outer : List PySem.Env) (s : Shared) (H : Hp) (args : Args) (us : List Value) (vs : List V) (Q : VK) (E : XK), Room k A → A.guards = some [] → Env0 P w K mg base A outer s H → BindsTo s fd args (ps.zip us) → Vals vs us → sp vs H Q E →
    codeAny (model P w) A (.call (.ref f) args) (CR (L2.CX P w) outer P w H s Q E) s
/-- a def's promise: what the language's run does -/
def spOf (g : GC) (Φ : Phi) (np : Nat) (f : Nat) : Sp := fun vs H Q E => vs.length = np ∧ ∃ θ st ds, StoOk g θ H st ∧ RepL g θ H ds vs ∧ After g θ H E Q (Φ f ds st)

section
variable {g : GC} {fr : Bool} {W : WX} {X : Cx} {Φ : Phi} {k np f : Nat} {fa : Addr} {fd : FuncData} {ps ks : List Str} {x : Str} {p pos : Pos} {e : Expr} {es : List Expr} {kws : List Keyword} {el : E}
/-- the callee runs -/
theorem run_g {sp : Sp} (F : FnG X.prog X.w X.K X.mg X.base k fa fd ps sp) (hr : Room k X.A) (xx : XX g W X) {pins : List (Addr × Obj)} {σ : L2.St} {H : Hp} {s : Shared} {Q : VK} {args : Args} {us : List Value} {vs : List V} (I : Inv X pins σ H s) (r : Vals vs us)
    (hb : us.length = ps.length → BindsTo s fd args (ps.zip us)) (h : sp vs H Q (fun c dx H' => W c dx σ H')) : wpAny (model X.prog X.w) X.A (call (.ref fa) args.pos args.kw) (EP X pins σ Q) X.xe s := by
  have hl : us.length = ps.length := by rw [← r.length]; exact F.len _ _ _ _ h
  refine wpAny_call (codeAny_mono (F.run X.A X.stack s H args us vs Q _ hr xx.gd I.env0 (hb hl) r h) fun res s' hq => ?_)
  match res, hq with
  | .ok (.ret u), hq => exact I.after hq
  | .error y, hq => exact xx.tk y s' (XE.of_call I (fun _ _ _ z => z) hq)
/-- the arguments in the parameters' order -/
def pickV (p : List Nat) (vs : List V) : List V := if p.isEmpty then vs else p.map fun i => vs.getD i .non
def pickU (p : List Nat) (vs : List Value) : List Value := if p.isEmpty then vs else p.map fun i => vs.getD i .none
theorem valsPick {vs : List V} {us : List Value} (r : Vals vs us) (p : List Nat) : Vals (pickV p vs) (pickU p us) := by
  unfold pickV pickU
  split
  · exact r
  · induction p with
    | nil => exact .nil
    | cons i is ih =>
      refine .cons ?_ (by
        by_cases z : is.isEmpty = true
        · rw [List.isEmpty_iff.mp z]; exact .nil
        · exact ih z)
      show RelV (vs.getD i .non) (us.getD i .none)
      rw [List.getD_eq_getElem?_getD, List.getD_eq_getElem?_getD]
      cases e : vs[i]? with
      | none => rw [Vals.none_of r e]; exact rfl
      | some v =>
        obtain ⟨u, e2, r2⟩ := r.get e
        rw [e2]
        exact r2
theorem RepL.pick {θ : Th} {H : Hp} {ds : List D} {vs : List V} (r : RepL g θ H ds vs) (p : List Nat) : RepL g θ H (pick p ds) (pickV p vs) := by
  unfold MP.pick pickV
  split
  · exact r
  · induction p with
    | nil => exact .nil
    | cons i is ih =>
      refine .cons ?_ (by
        by_cases z : is.isEmpty = true
        · rw [List.isEmpty_iff.mp z]; exact .nil
        · exact ih z)
      show Rep g θ H (ds.getD i .non) (vs.getD i .non)
      rw [List.getD_eq_getElem?_getD, List.getD_eq_getElem?_getD]
      cases e : ds[i]? with
      | none =>
        have : vs[i]? = none := by
          rw [List.getElem?_eq_none_iff] at e ⊢
          rw [← r.length]; exact e
        rw [this]
        exact .non
      | some v =>
        obtain ⟨u, e2, r2⟩ := r.get e
        rw [e2]
        exact r2
/-- how a call with n places and the keywords ks binds: perm, then the defaults -/
def Bd (K : PySem.W.Frag) (fd : FuncData) (ps : List Str) (n : Nat) (ks : List Str) (perm : List Nat) (ds : List Value) : Prop :=
  ∀ (s : Shared) (us ws : List Value), K.In s.heap → us.length = n → ws.length = ks.length → BindsTo s fd ⟨us, ks.zip ws⟩ (ps.zip (pickU perm (us ++ ws) ++ ds))
def listLen : E → Option Nat
  | .nil => some 0
  | .cons _ r => (listLen r).map (· + 1)
  | _ => none
theorem ev_len : ∀ (l : E) {n : Nat} {ρ : Env} {st st' : Sto} {xs : List D}, listLen l = some n → ev Φ l ρ st = .ok (.tup xs) st' → xs.length = n
  | .nil, n, ρ, st, st', xs, h, e => by
    cases h
    simp only [ev] at e
    cases e
    rfl
  | .cons a r, n, ρ, st, st', xs, h, e => by
    simp only [listLen] at h
    cases hr : listLen r with
    | none => rw [hr] at h; cases h
    | some m =>
      rw [hr] at h
      cases h
      simp only [ev] at e
      obtain ⟨d, st1, _, e⟩ := R.bind_ok e
      obtain ⟨ds, st2, e2, e⟩ := R.bind_ok e
      cases ds with
      | tup ys =>
        cases e
        rw [List.length_cons, ev_len r hr e2]
      | _ => cases e
/-- the reading of a call's arguments -/
theorem tL_call {σ : L2.St} {H : Hp} {Q : VK} {kl : E} {perm : List Nat} {ds : List D} {n m : Option Nat} (hn : ∀ i, n = some i → listLen el = n) (hm : ∀ i, m = some i → listLen kl = m) (h : tE g false W (ev Φ (.call f el kl perm ds)) σ H Q) :
    tL g W (ev Φ el) σ H fun vs H1 => (∀ i, n = some i → vs.length = i) ∧ tL g W (ev Φ kl) σ H1 fun ws H2 => (∀ i, m = some i → ws.length = i) ∧ ∃ θ st xs, StoOk g θ H2 st ∧ RepL g θ H2 xs (vs ++ ws) ∧ Aft g false θ H2 (fun c dx H' => W c dx σ H') Q (Φ f (pick perm xs ++ ds) st) := by
  obtain ⟨θ, st, ρ, s, en, l, h⟩ := h
  simp only [ev] at h
  refine ⟨θ, st, ρ, s, en, l, ?_⟩
  cases q : ev Φ el ρ st with
  | exc y st1 => rw [q] at h; exact h
  | no => rw [q] at h; exact h
  | ok d st1 =>
    rw [q] at h
    cases d with
    | tup xs =>
      simp only [R.bind] at h
      refine ⟨xs, rfl, fun θ1 H1 vs x1 s1 r1 => ⟨fun i hi => by rw [← r1.length]; exact ev_len el ((hn i hi).trans hi) q, θ1, st1, ρ, s1, en.mono x1, l, ?_⟩⟩
      cases q2 : ev Φ kl ρ st1 with
      | exc y st2 => rw [q2] at h; exact fun θ2 H2 c dx x2 => h θ2 H2 c dx (x1.trans x2)
      | no => rw [q2] at h; exact h
      | ok d2 st2 =>
        rw [q2] at h
        cases d2 with
        | tup ys =>
          exact ⟨ys, rfl, fun θ2 H2 ws x2 s2 r2 => ⟨fun i hi => by rw [← r2.length]; exact ev_len kl ((hm i hi).trans hi) q2, θ2, st2, xs ++ ys, s2, (RepL.mono x2 _ _ r1).append r2, Aft.shift h (x1.trans x2)⟩⟩
        | _ => exact h.elim
    | _ => exact h.elim
theorem fin_call {σ : L2.St} {H : Hp} {s : Shared} {Q : VK} {pins : List (Addr × Obj)} {perm : List Nat} {ds : List D} {dvs : List V} {us ws dus : List Value} {vs zs : List V} {n : Nat} (F : FnG X.prog X.w X.K X.mg X.base k fa fd ps (spOf g Φ ps.length f)) (hr : Room k X.A) (xx : XX g W X)
    (hb : Bd X.K fd ps n ks perm dus) (hd : Vals dvs dus) (hds : ∀ θ H, RepL g θ H ds dvs) (hnp : (∀ xs st, (pick perm xs ++ ds).length ≠ ps.length → Φ f (pick perm xs ++ ds) st = .no)) (hl : vs.length = n) (hlk : zs.length = ks.length) (I : Inv X pins σ H s) (r : Vals vs us) (rz : Vals zs ws)
    (h : ∃ θ st xs, StoOk g θ H st ∧ RepL g θ H xs (vs ++ zs) ∧ Aft g false θ H (fun c dx H' => W c dx σ H') Q (Φ f (pick perm xs ++ ds) st)) : wpAny (model X.prog X.w) X.A (call (.ref fa) us (ks.zip ws)) (EP X pins σ Q) X.xe s := by
  obtain ⟨θ, st, xs, so, rr, q⟩ := h
  have rp : RepL g θ H (pick perm xs ++ ds) (pickV perm (vs ++ zs) ++ dvs) := (rr.pick perm).append (hds θ H)
  have hlen : (pick perm xs ++ ds).length = ps.length := by
    by_cases z : (pick perm xs ++ ds).length = ps.length
    · exact z
    · rw [hnp xs st z] at q; exact q.elim
  refine run_g F hr xx (args := ⟨us, ks.zip ws⟩) I ((valsPick (r.append rz) perm).append hd) (fun _ => hb s us ws I.kIn (by rw [← r.length]; exact hl) (by rw [← rz.length]; exact hlk)) ⟨by rw [← rp.length]; exact hlen, θ, st, _, so, rp, q⟩
theorem tL_nil {σ : L2.St} {H : Hp} {Q : List V → Hp → Prop} (h : tL g W (ev Φ .nil) σ H Q) : Q [] H := by
  obtain ⟨θ, st, ρ, s, en, l, xs, e, h⟩ := h
  cases e
  exact h θ H [] .refl s .nil
/-- f(a, ..) -/
theorem sE_call {perm : List Nat} {ds : List D} {dvs : List V} {dus : List Value} (F : FnG X.prog X.w X.K X.mg X.base k fa fd ps (spOf g Φ ps.length f)) (hr : Room k X.A) (xx : XX g W X) (hg : Gl X x) (hm : X.mg x = some (.ref fa)) (hk : PySem.W.keepIn X.K (.ref fa) = true)
    (hb : Bd X.K fd ps (e :: es).length [] perm dus) (hd : Vals dvs dus) (hds : ∀ θ H, RepL g θ H ds dvs) (hnp : (∀ xs st, (pick perm xs ++ ds).length ≠ ps.length → Φ f (pick perm xs ++ ds) st = .no))
    (hdb : (x == ("__debug__" : Str)) = false) (hp : (e :: es).all plainE = true) (hn : listLen el = some (e :: es).length) (ha : PA X (e :: es) (tL g W (ev Φ el))) :
    PE X (.Call (.Name x p) (e :: es) [] pos) (tE g false W (ev Φ (.call f el .nil perm ds))) := by
  refine ⟨fun pins s σ H Q I h => ?_⟩
  refine wpAny_Call_Name_kw (ld_glob I hg hm ?_ hdb)
  rw [List.all_cons, Bool.and_eq_true] at hp
  refine PySem.W.callWith_K (h₀ := X.base) I.ok.mod.kin hk (thn (ha.run pos pins s σ H _ I (tL_call (n := some (e :: es).length) (m := some 0) (fun i _ => hn) (fun _ _ => rfl) h)) fun us s1 q => ?_) (star_plain hp.1) (plain_any hp.2)
  obtain ⟨vs, H1, I1, r, hl, q⟩ := q
  exact ⟨I1.kIn, fin_call F hr xx hb hd hds hnp (hl _ rfl) rfl I1 r .nil (tL_nil q).2⟩
/-- f() -/
theorem sE_call0 {perm : List Nat} {ds : List D} {dvs : List V} {dus : List Value} (F : FnG X.prog X.w X.K X.mg X.base k fa fd ps (spOf g Φ ps.length f)) (hr : Room k X.A) (xx : XX g W X) (hg : Gl X x) (hm : X.mg x = some (.ref fa)) (hk : PySem.W.keepIn X.K (.ref fa) = true)
    (hb : Bd X.K fd ps 0 [] perm dus) (hd : Vals dvs dus) (hds : ∀ θ H, RepL g θ H ds dvs) (hnp : (∀ xs st, (pick perm xs ++ ds).length ≠ ps.length → Φ f (pick perm xs ++ ds) st = .no))
    (hdb : (x == ("__debug__" : Str)) = false) : PE X (.Call (.Name x p) [] [] pos) (tE g false W (ev Φ (.call f .nil .nil perm ds))) := by
  refine ⟨fun pins s σ H Q I h => ?_⟩
  refine wpAny_Call_Name_kw (ld_glob I hg hm ?_ hdb)
  have h := tL_nil (tL_call (n := some 0) (m := some 0) (fun _ _ => rfl) (fun _ _ => rfl) h)
  exact PySem.W.callWith_K0 I.kIn hk (fin_call (us := []) (ws := []) F hr xx hb hd hds hnp (h.1 _ rfl) rfl I .nil .nil (tL_nil h.2).2)
/-- keywords: the list of their values -/
theorem sK_nil : PK X [] (tL g W (ev Φ .nil)) := ⟨fun pos pins s σ H Q I h => pk_nil.run pos pins s σ H Q I (tL_nil h)⟩
theorem sK_cons {ea : E} {nm : Option Str} {kp : Pos} (ha : PE X e (tE g false W (ev Φ ea))) (hr : PK X kws (tL g W (ev Φ el))) : PK X (⟨nm, e, kp⟩ :: kws) (tL g W (ev Φ (.cons ea el))) :=
  ⟨fun pos pins s σ H Q I h => (pk_cons ha hr).run pos pins s σ H Q I (by
    obtain ⟨θ, st, ρ, s, en, l, h⟩ := h
    refine tE_bindL s en l h fun d st1 θ1 H1 x x1 s1 e1 r1 h1 => ?_
    exact ⟨θ1, st1, ρ, s1, e1, l, AftL.cons (ys := [d]) (us := [x]) (.one r1) h1⟩)⟩
def kwNames : List Keyword → Option (List Str)
  | [] => some []
  | ⟨some n, _, _⟩ :: r => (kwNames r).map (n :: ·)
  | _ => none
theorem kw_facts {pos : Pos} {env : PySem.Env} : ∀ {kws : List Keyword} {ks : List Str}, kwNames kws = some ks → (backToKw pos (keywordEach kws env)).all (·.1.isSome) = true ∧ (backToKw pos (keywordEach kws env)).filterMap (·.1) = ks ∧ (backToKw pos (keywordEach kws env)).any (·.1.isNone) = false
  | [], ks, h => by cases h; exact ⟨rfl, rfl, rfl⟩
  | ⟨some n, e, kp⟩ :: r, ks, h => by
    simp only [kwNames] at h
    cases hr : kwNames r with
    | none => rw [hr] at h; cases h
    | some js =>
      rw [hr] at h
      cases h
      obtain ⟨h1, h2, h3⟩ := kw_facts (pos := pos) (env := env) hr
      refine ⟨?_, ?_, ?_⟩
      · show (true && (backToKw pos (keywordEach r env)).all (·.1.isSome)) = true
        rw [h1]; rfl
      · show n :: (backToKw pos (keywordEach r env)).filterMap (·.1) = _
        rw [h2]
      · show (false || (backToKw pos (keywordEach r env)).any (·.1.isNone)) = false
        rw [h3]; rfl
  | ⟨none, e, kp⟩ :: r, ks, h => by cases h
/-- f(a, .., k = b, ..) -/
theorem sE_callK {kl : E} {perm : List Nat} {ds : List D} {dvs : List V} {dus : List Value} (F : FnG X.prog X.w X.K X.mg X.base k fa fd ps (spOf g Φ ps.length f)) (hr : Room k X.A) (xx : XX g W X) (hg : Gl X x) (hm : X.mg x = some (.ref fa)) (hk : PySem.W.keepIn X.K (.ref fa) = true)
    (hb : Bd X.K fd ps (e :: es).length ks perm dus) (hd : Vals dvs dus) (hds : ∀ θ H, RepL g θ H ds dvs) (hnp : (∀ xs st, (pick perm xs ++ ds).length ≠ ps.length → Φ f (pick perm xs ++ ds) st = .no))
    (hdb : (x == ("__debug__" : Str)) = false) (hp : (e :: es).all plainE = true) (hn : listLen el = some (e :: es).length) (hkn : kwNames kws = some ks) (hkl : listLen kl = some ks.length) (ha : PA X (e :: es) (tL g W (ev Φ el))) (hkw : PK X kws (tL g W (ev Φ kl))) :
    PE X (.Call (.Name x p) (e :: es) kws pos) (tE g false W (ev Φ (.call f el kl perm ds))) := by
  refine ⟨fun pins s σ H Q I h => ?_⟩
  refine wpAny_Call_Name_kw (ld_glob I hg hm ?_ hdb)
  obtain ⟨k1, k2, k3⟩ := kw_facts (pos := pos) (env := X.env) hkn
  have hp' := hp
  rw [List.all_cons, Bool.and_eq_true] at hp
  refine PySem.W.callWith_KW (h₀ := X.base) I.ok.mod.kin hk k1 (thn (ha.run pos pins s σ H _ I (tL_call (n := some (e :: es).length) (m := some ks.length) (fun i _ => hn) (fun _ _ => hkl) h)) fun us s1 q => ?_) (by rw [plain_any hp', k3]; rfl) (star_plain hp.1)
  obtain ⟨vs, H1, I1, r, hl, q⟩ := q
  refine thn (hkw.run pos pins s1 σ H1 _ I1 q) fun ws s2 q2 => ?_
  obtain ⟨zs, H2, I2, rz, hl2, q2⟩ := q2
  rw [k2]
  exact ⟨I2.kIn, fin_call F hr xx hb hd hds hnp (hl _ rfl) (hl2 _ rfl) I2 r rz q2⟩
theorem sE_callK0 {kl : E} {perm : List Nat} {ds : List D} {dvs : List V} {dus : List Value} (F : FnG X.prog X.w X.K X.mg X.base k fa fd ps (spOf g Φ ps.length f)) (hr : Room k X.A) (xx : XX g W X) (hg : Gl X x) (hm : X.mg x = some (.ref fa)) (hk : PySem.W.keepIn X.K (.ref fa) = true)
    (hb : Bd X.K fd ps 0 ks perm dus) (hd : Vals dvs dus) (hds : ∀ θ H, RepL g θ H ds dvs) (hnp : (∀ xs st, (pick perm xs ++ ds).length ≠ ps.length → Φ f (pick perm xs ++ ds) st = .no))
    (hdb : (x == ("__debug__" : Str)) = false) (hkn : kwNames kws = some ks) (hkl : listLen kl = some ks.length) (hkw : PK X kws (tL g W (ev Φ kl))) :
    PE X (.Call (.Name x p) [] kws pos) (tE g false W (ev Φ (.call f .nil kl perm ds))) := by
  refine ⟨fun pins s σ H Q I h => ?_⟩
  refine wpAny_Call_Name_kw (ld_glob I hg hm ?_ hdb)
  obtain ⟨k1, k2, k3⟩ := kw_facts (pos := pos) (env := X.env) hkn
  have h := tL_nil (tL_call (n := some 0) (m := some ks.length) (fun _ _ => rfl) (fun _ _ => hkl) h)
  refine PySem.W.callWith_KW0 (h₀ := X.base) I.ok.mod.kin hk k1 (thn (hkw.run pos pins s σ H _ I h.2) fun ws s2 q2 => ?_) (by rw [k3]; rfl)
  obtain ⟨zs, H2, I2, rz, hl2, q2⟩ := q2
  rw [k2]
  exact ⟨I2.kIn, fin_call (us := []) F hr xx hb hd hds hnp (h.1 _ rfl) (hl2 _ rfl) I2 .nil rz q2⟩
end
end MP
end

section
set_option Elab.async false
set_option linter.all false
set_option maxRecDepth 100000
set_option maxHeartbeats 2000000
/-! MP: a def of the text keeps its promise. -/
namespace MP
open PySem PySem.Spec PyProof.Rows L2
/-- what the body's context is told -/
structure BodyX (g : GC) (Pr : Program) (w : World) (K : PySem.W.Frag) (mg : Str → Option Value) (base : Heap) (n : Nat) (N : List Str) (scope : Scope) (E : XK) (X : Cx) : Prop extends XX g (fun c d _ H => E c d H) X where
  pr : X.prog = Pr
  w' : X.w = w
  K' : X.K = K
  mg' : X.mg = mg
  base' : X.base = base
  N' : X.N = N
  sc : X.env.scope = scope
  fn : ∀ x, X.fn x = true
  room : Room n X.A
  pass : PassesOwn (model X.prog X.w) X.A X.env X.xe
section
variable {g : GC} {Pr : Program} {w : World} {K : PySem.W.Frag} {mg : Str → Option Value} {base : Heap} {n : Nat} {fa : Addr} {name qual : Str} {params : Arguments} {body : List Stmt} {scope : Scope} {dV kV doc pm cdv ct oc : Value} {an od : Option Addr} {osl : Array (Option Value)} {N ps : List Str}
theorem fn_g {sp : Sp} (lk : K.lookup fa = some ⟨oc, od, .func (PySem.W.fnOf name qual params body scope dV kV doc pm an cdv ct), osl⟩) (hcd : PySem.W.codeIn K cdv qual = true) (S : FnScope N ps scope) (len : ∀ vs H Q E, sp vs H Q E → vs.length = ps.length)
    (hb : ∀ (A : Around) (outer : List PySem.Env) (s : Shared) (H : Hp) (vs : List V) (Q : VK) (E : XK), Room n (A.deeper (envOfC qual scope s.heap.objs.size fa cdv)) → A.guards = some [] → sp vs H Q E →
      ∃ t, PSs (cxOf (L2.CX Pr w) Pr w K mg base N qual scope fa cdv A outer s H E) body t ∧ t { nx := fun _ H' => Q .non H', rt := Q } (L2.start N vs) H) :
    FnG Pr w K mg base (n + 1) fa (PySem.W.fnOf name qual params body scope dV kV doc pm an cdv ct) ps sp := by
  refine ⟨len, fun A outer s H args us vs Q E room gd e0 bt rv hsp => ?_⟩
  have kin : K.In s.heap := e0.mod.kin.keeps fun b ob e => (e0.bs b ob e).1
  have nolim : s.heap.NoLimit := e0.mod.nolimit.keeps fun b ob e => (e0.bs b ob e).1
  have kinds : ∀ y ∈ ps.zip us, scope.names.lookup y.1 = some .local ∨ (scope.names.lookup y.1 = some .cell ∧ ((cellsFrom (s.heap.objs.size + 1) scope.names []).lookup y.1).isSome = true) := by
    rintro ⟨m, v⟩ hy
    exact (S.par m (List.of_mem_zip hy).1).imp id fun q => ⟨q, PySem.W.cellsFrom_some _ _ _ (.inl q)⟩
  refine codeAny_call_function room.depth (kin _ _ lk) rfl S.co S.gen rfl (PySem.W.codeRec_of kin hcd) (bt _ _ _ _ ?_)
  refine wpAny_newFunctionEnv_cells S.kind kinds fun env he sB inC => ?_
  subst he
  refine ⟨nolim.keeps inC.toInCall.keep, codeAny_func ?_⟩
  obtain ⟨t, bodyT, start0⟩ := hb A outer s H vs Q E (room.deeper _) gd hsp
  have Inv0 : Inv (cxOf (L2.CX Pr w) Pr w K mg base N qual scope fa cdv A outer s H E) [] (L2.start N vs) H sB := inv_start S room.hd e0 (len _ _ _ _ hsp) rv inC
  have done : ∀ {σ' : L2.St} {H' : Hp} {v : V} {u : Value} {sE : Shared}, Inv (cxOf (L2.CX Pr w) Pr w K mg base N qual scope fa cdv A outer s H E) [] σ' H' sE → RelV v u → Q v H' → CE outer Pr w H s Q u sE :=
    fun {σ' H' v u sE} J r q => ⟨v, H', J.os, J.bare, J.base, J.hok, r, q⟩
  refine wpAny_mono (bodyT.run [] sB (L2.start N vs) H _ Inv0 start0) (fun fl sE hs => ?_) fun _ _ hs => hs
  cases fl with
  | next =>
    obtain ⟨_, _, J, q⟩ := hs
    exact done (v := V.non) (u := Value.none) J rfl q
  | brk =>
    obtain ⟨_, _, _, q⟩ := hs
    exact q.elim
  | cont =>
    obtain ⟨_, _, _, q⟩ := hs
    exact q.elim
  | ret u =>
    obtain ⟨v, _, _, J, r, q⟩ := hs
    exact done J r q
theorem env_start {θ : Th} {H : Hp} {ds : List D} {vs : List V} (r : RepL g θ H ds vs) (m : Nat) : EnvOk g θ H (ds.map some ++ List.replicate m none) (L2.start N vs) := by
  intro i d e
  by_cases hi : i < ds.length
  · rw [List.getElem?_append_left (by rw [List.length_map]; exact hi), List.getElem?_map] at e
    cases hd : ds[i]? with
    | none => rw [hd] at e; cases e
    | some d' =>
      rw [hd] at e
      cases e
      obtain ⟨v, h1, h2⟩ := r.get hd
      refine ⟨v, ?_, h2⟩
      unfold L2.start
      rw [List.getElem?_append_left (by rw [List.length_map, ← r.length]; exact hi), List.getElem?_map, h1]
      rfl
  · rw [List.getElem?_append_right (by rw [List.length_map]; omega), List.getElem?_replicate] at e
    split at e <;> cases e
/-- one def -/
theorem def_g {PP : Pg} {fi : Nat} {F : FD} (lk : K.lookup fa = some ⟨oc, od, .func (PySem.W.fnOf name qual params body scope dV kV doc pm an cdv ct), osl⟩) (hcd : PySem.W.codeIn K cdv qual = true) (S : FnScope N ps scope) (hP : PP fi = some F) (hnp : F.np = ps.length) (hns : F.ns = N.length) (hK : K = g.K)
    (hb : ∀ (X : Cx) (E : XK), BodyX g Pr w K mg base n N scope E X → PSs X body (tS g (fun c d _ H => E c d H) (exS (run PP n) F.body))) :
    FnG Pr w K mg base (n + 1) fa (PySem.W.fnOf name qual params body scope dV kV doc pm an cdv ct) ps (spOf g (run PP (n + 1)) ps.length fi) := by
  refine fn_g lk hcd S (fun _ _ _ _ h => h.1) fun A outer s H vs Q E room gd hsp => ⟨_, hb _ E ?_, ?_⟩
  · exact {
      hK := hK
      calm := rfl
      gd := gd
      un := by have := room.un; show (A.deeper _).units + 100 < cLine; omega
      tk := L2.takes_of rfl rfl rfl rfl
      nd := S.nd
      kind := S.kind
      pr := rfl
      w' := rfl
      K' := rfl
      mg' := rfl
      base' := rfl
      N' := rfl
      sc := rfl
      fn := fun _ => rfl
      room := room
      pass := L2.passes_of rfl }
  · obtain ⟨hl, θ, st, ds, so, rr, h⟩ := hsp
    have hpl : ps.length ≤ N.length := by have := congrArg List.length S.pre; rw [List.length_take] at this; omega
    have hdl : ds.length = F.np := by rw [rr.length, hl, hnp]
    have hsl : (L2.start N vs).length = N.length := by
      unfold L2.start
      rw [List.length_append, List.length_map, List.length_replicate]
      omega
    refine ⟨θ, st, ds.map some ++ List.replicate (F.ns - F.np) none, so, env_start rr _, ?_, ?_⟩
    · rw [hsl, List.length_append, List.length_map, List.length_replicate, hdl, hns, hnp]
      omega
    · unfold run at h
      rw [hP] at h
      simp only at h
      rw [if_pos hdl] at h
      revert h
      cases exS (run PP n) F.body (ds.map some ++ List.replicate (F.ns - F.np) none) st with
      | ok f st' =>
        cases f with
        | next ρ' =>
          intro h θ' H' σ' x' s' _ _ _
          simp only at h
          split at h
          · exact h.2 θ' H' .non x' s' .non
          · exact gc_ok so x' s' .non h
        | ret d =>
          intro h θ' H' v x' s' r'
          simp only at h
          split at h
          · exact h.2 θ' H' v x' s' r'
          · exact gc_ok so x' s' r' h
      | exc y st' => exact fun h θ' H' σ' c dx x' s' r' => h θ' H' c dx x' s' r'
      | no => exact fun h => h
theorem def_0 {PP : Pg} {fi : Nat} {fd : FuncData} {k : Nat} : FnG Pr w K mg base k fa fd ps (spOf g (run PP 0) ps.length fi) :=
  ⟨fun _ _ _ _ h => h.1, fun _ _ _ _ _ _ _ _ _ _ _ _ _ _ h => by
    obtain ⟨_, _, _, _, _, _, h⟩ := h
    exact h.elim⟩
theorem run_len {PP : Pg} {fi k : Nat} {F : FD} (hP : PP fi = some F) {ds : List D} {st : Sto} (h : ds.length ≠ F.np) : run PP k fi ds st = .no := by
  cases k with
  | zero => rfl
  | succ k =>
    unfold run
    rw [hP]
    simp only
    rw [if_neg h]
end
end MP
end

section
set_option Elab.async false
set_option linter.all false
set_option maxRecDepth 100000
/-! MP: list(range(..)). -/
namespace MP
open PySem PySem.Spec PyProof.Rows L2
section
variable {g : GC} {fr : Bool} {W : WX} {X : Cx} {Φ : Phi} {a b : Expr} {ea eb : E} {pos p p2 pos2 : Pos}
theorem rangeL_rep {θ : Th} {H : Hp} (i j : Int) : RepL g θ H (rangeL i j) (rgV i j) := by
  unfold rangeL rgV
  generalize List.range (j - i).toNat = l
  induction l with
  | nil => exact .nil
  | cons x r ih => exact .cons (.int _) ih
theorem tE_listRg {σ : L2.St} {H : Hp} {Q : VK} (h : tE g fr W (ev Φ (.o1 .list (.range ea eb))) σ H Q) :
    tE g false W (ev Φ ea) σ H fun x H1 => tE g false W (ev Φ eb) σ H1 fun y H2 => ∃ i j : Int, x = .int i ∧ y = .int j ∧ RgOk i j ∧ ∀ q, H2 q = none → Q (.ref q) (upd H2 q (.lst (rgV i j))) := by
  obtain ⟨θ, st, ρ, s, en, l, h⟩ := h
  simp only [ev] at h
  refine ⟨θ, st, ρ, s, en, l, ?_⟩
  cases qa : ev Φ ea ρ st with
  | exc y st1 => rw [qa] at h; exact h
  | no => rw [qa] at h; exact h
  | ok d st1 =>
    rw [qa] at h
    simp only [R.bind] at h
    refine ⟨(fun z => nomatch z), fun θ1 H1 x x1 s1 r1 => ⟨θ1, st1, ρ, s1, en.mono x1, l, ?_⟩⟩
    cases qb : ev Φ eb ρ st1 with
    | exc y st2 => rw [qb] at h; exact fun θ2 H2 c dx x2 => h θ2 H2 c dx (x1.trans x2)
    | no => rw [qb] at h; exact h
    | ok d2 st2 =>
      rw [qb] at h
      simp only at h
      refine ⟨(fun z => nomatch z), fun θ2 H2 y x2 s2 r2 => ?_⟩
      cases d with
      | int i =>
        cases d2 with
        | int j =>
          simp only at h
          by_cases hz : (rgOk i && rgOk j && decide ((j - i).toNat ≤ sizeLine)) = true
          · rw [if_pos hz] at h
            simp only [Bool.and_eq_true, rgOk, decide_eq_true_eq] at hz
            cases r1
            cases r2
            have h2 := Aft.shift h (x1.trans x2)
            exact ⟨i, j, rfl, rfl, ⟨hz.1.1.1, hz.1.1.2, hz.1.2.1, hz.1.2.2, hz.2⟩, fun q hq => Aft.lst h2 s2 (rangeL_rep i j) hq⟩
          · rw [if_neg hz] at h
            exact h.elim
        | _ => exact h.elim
      | _ => exact h.elim
theorem sE_listRg1 (xg : Xg g X) (gl : Gl X "list") (ml : X.mg "list" = none) (hg : Gl X "range") (hm : X.mg "range" = none) (hp : plainE a = true) (ha : PE X a (tE g false W (ev Φ ea))) :
    PE X (.Call (.Name "list" p) [.Call (.Name "range" p2) [a] [] pos2] [] pos) (tE g fr W (ev Φ (.o1 .list (.range (.c (.int 0)) ea)))) :=
  PE.imp (pe_listRg xg.calm gl ml (prg_1 hg hm ha (star_plain hp)) rfl) fun σ H Q h => by
    obtain ⟨θ, st, ρ, s, en, l, h⟩ := tE_listRg h
    obtain ⟨θ, st, ρ, s, en, l, h⟩ := h.2 θ H (.int 0) .refl s (.int 0)
    refine ⟨θ, st, ρ, s, en, l, Aft_imp (fun y H2 q => ?_) h⟩
    obtain ⟨i, j, e, rfl, hz, q⟩ := q
    cases e
    exact ⟨j, rfl, hz, q⟩
theorem sE_listRg2 (xg : Xg g X) (gl : Gl X "list") (ml : X.mg "list" = none) (hg : Gl X "range") (hm : X.mg "range" = none) (hp : plainE a = true) (hp2 : plainE b = true) (ha : PE X a (tE g false W (ev Φ ea))) (hb : PE X b (tE g false W (ev Φ eb))) :
    PE X (.Call (.Name "list" p) [.Call (.Name "range" p2) [a, b] [] pos2] [] pos) (tE g fr W (ev Φ (.o1 .list (.range ea eb)))) :=
  PE.imp (pe_listRg xg.calm gl ml (prg_2 hg hm ha hb (star_plain hp) (star_plain hp2) (by rw [star_plain hp2]; rfl)) rfl) fun σ H Q h => by
    refine tE_imp (fun x H1 q => tE_imp (fun y H2 q => ?_) q) (tE_listRg h)
    obtain ⟨i, j, rfl, rfl, hz, q⟩ := q
    exact ⟨i, j, rfl, rfl, hz, q⟩
end
end MP
end

section
set_option Elab.async false
set_option linter.all false
set_option maxRecDepth 100000
set_option maxHeartbeats 3200000
/-! MP: sets of flat keys of any kind: made of a list, walked, sorted. -/
namespace MP
open PySem PySem.Spec PyProof.Rows L2
section
variable {P : Program} {w : World} {K : Type} [DecidableEq K] {kd : PySem.KeyKind P w K}
/-- beside the library's word for a set: its table rises, and its order may be asked -/
def Goes (w : World) (h : Heap) (a : Addr) : Prop := ∃ o es ep t, h.get? a = some o ∧ o.data = .set es ep t ∧ Ris t.place.toList ∧ (w.params.followText "set-order" = true ∨ t.led = true)
def GSet (kd : PySem.KeyKind P w K) (h : Heap) (a : Addr) (S : K → Bool) (n : Nat) : Prop := h.SetOf kd a S n ∧ Goes w h a
theorem GSet.keep {h h' : Heap} {a : Addr} {S : K → Bool} {n : Nat} (g : GSet kd h a S n) (k : ∀ o, h.get? a = some o → h'.get? a = some o) : GSet kd h' a S n := by
  obtain ⟨⟨o, es, ep, t, e, r⟩, o2, es2, ep2, t2, e2, r2⟩ := g
  exact ⟨⟨o, es, ep, t, k o e, r⟩, o2, es2, ep2, t2, k o2 e2, r2⟩
/-- the parts, of one record -/
theorem GSet.parts {h : Heap} {a : Addr} {S : K → Bool} {n : Nat} (g : GSet kd h a S n) : ∃ o es ep t, h.get? a = some o ∧ o.ExactSet ∧ o.data = .set es ep t ∧ ElemsOf kd es.toList ∧ (∀ k, S k = true ↔ ∃ e ∈ es.toList, kd.is k e.2 = true) ∧
    es.size < scanBound ∧ t.fits es.size = true ∧ es.size = n ∧ Ris t.place.toList ∧ (w.params.followText "set-order" = true ∨ t.led = true) := by
  obtain ⟨⟨o, es, ep, t, e1, e2, e3, e4, e5, e6, e7, e8⟩, o', es', ep', t', f1, f2, f3, f4⟩ := g
  rw [e1] at f1
  cases f1
  rw [e3] at f2
  cases f2
  exact ⟨o, es, ep, t, e1, e2, e3, e4, e5, e6, e7, e8, f3, f4⟩
theorem GSet.mk' {h : Heap} {a : Addr} {S : K → Bool} {n : Nat} {o : Obj} {es : Array (Int × Value)} {ep : Nat} {t : SetTable} (e1 : h.get? a = some o) (e2 : o.ExactSet) (e3 : o.data = .set es ep t) (e4 : ElemsOf kd es.toList)
    (e5 : ∀ k, S k = true ↔ ∃ e ∈ es.toList, kd.is k e.2 = true) (e6 : es.size < scanBound) (e7 : t.fits es.size = true) (e8 : es.size = n) (e9 : Ris t.place.toList) (e10 : w.params.followText "set-order" = true ∨ t.led = true) : GSet kd h a S n :=
  ⟨⟨o, es, ep, t, e1, e2, e3, e4, e5, e6, e7, e8⟩, o, es, ep, t, e1, e3, e9, e10⟩
/-- the record after a store -/
theorem put_at {h : Heap} {a : Addr} {o : Obj} {es es' : Array (Int × Value)} {ep : Nat} {t t' : SetTable} (e : h.get? a = some o) (d : o.data = .set es ep t) : (h.update a (Obj.putSet es' t')).get? a = some { o with data := .set es' (ep + 1) t' } := by
  have z := Heap.get?_update_self (Obj.putSet es' t') e (by rw [putSet_of es' t' d]; rfl)
  rwa [putSet_of es' t' d] at z
variable {A : Around} {E : Value → Shared → Prop} {s : Shared} {a : Addr} {S S' : K → Bool} {n : Nat}
/-- the end of an add: stored, and the table laid anew where it is too full -/
theorem add_end {gv : Bool → Sem Unit} (silent : ∀ (b : Bool) (s' : Shared) (Q' : Unit → Shared → Prop), Q' () s' → wpAny (model P w) A (gv b) Q' E s') {o : Obj} {es ez : Array (Int × Value)} {ep : Nat} {t tz : SetTable} (e : s.heap.get? a = some o) (ex : o.ExactSet) (d : o.data = .set es ep t)
    (el : ElemsOf kd ez.toList) (mem : ∀ k, S' k = true ↔ ∃ e ∈ ez.toList, kd.is k e.2 = true) (few : ez.size < scanBound) (fit : tz.fits ez.size = true) (up : Ris tz.place.toList) (led : w.params.followText "set-order" = true ∨ tz.led = true) {dm : Bool} {R' : Option Bool → Shared → Prop}
    (fin : ∀ h', Heap.SameBut a s.heap h' → GSet kd h' a S' ez.size → R' (some true) { s with heap := h' }) :
    wpAny (model P w) A (do
        storeSet a ez tz
        if (!dm && tz.tooFull) = true then do
            gv (relayAll tz ez (SetTable.grown ez.size)).2.2
            storeSet a (relayAll tz ez (SetTable.grown ez.size)).1 (relayAll tz ez (SetTable.grown ez.size)).2.1
            pure (some true)
          else pure (some true)) R' E s := by
  have first := put_at (es' := ez) (t' := tz) e d
  have only := Heap.SameBut.update s.heap a (Obj.putSet ez tz)
  refine wpAny_bind (wpAny_storeSet_of e d ?_ (fits_of_scanBound few))
  split
  · have r1 := relayAll_perm tz ez (SetTable.grown ez.size)
    have r2 := relayAll_fits tz ez (SetTable.grown ez.size)
    have r3 := relayAll_ris tz ez (SetTable.grown ez.size)
    have r4 := relayAll_led tz ez (SetTable.grown ez.size)
    revert r1 r2 r3 r4
    generalize relayAll tz ez (SetTable.grown ez.size) = laid
    obtain ⟨ey, ty, b⟩ := laid
    intro r1 r2 r3 r4
    dsimp only at r1 r2 r3 r4 ⊢
    have same : ey.size = ez.size := by simpa using r1.length_eq
    have few2 : ey.size < scanBound := same ▸ few
    refine wpAny_bind (silent _ _ _ (wpAny_bind (wpAny_storeSet_of first rfl (wpAny_pure ?_) (fits_of_scanBound few2))))
    refine fin _ (only.trans (Heap.SameBut.update _ a _)) (.mk' (put_at first rfl) ex rfl (el.perm r1) (fun k => (mem k).trans ?_) few2 r2 same r3 (led.imp_right fun z => r4.trans z))
    exact ⟨fun ⟨x, h1, h2⟩ => ⟨x, r1.mem_iff.mpr h1, h2⟩, fun ⟨x, h1, h2⟩ => ⟨x, r1.mem_iff.mp h1, h2⟩⟩
  · exact wpAny_pure (fin _ only (.mk' first ex rfl el mem few fit rfl up led))
theorem add_key {k : K} {x : Value} {Q : Bool → Shared → Prop} (is : kd.is k x = true) (sc : x.scannable = true) (g : GSet kd s.heap a S n) (room : n + 1 < scanBound)
    (fin : ∀ h', Heap.SameBut a s.heap h' → GSet kd h' a (fun j => S j || decide (j = k)) (if S k then n else n + 1) → Q (!S k) { s with heap := h' }) : wpAny (model P w) A (setAddHashed a x (kd.hash k)) Q E s := by
  obtain ⟨o, es, ep, t, e, ex, d, el, mem, few, fit, size, up, led⟩ := g.parts
  unfold setAddHashed setAddHashedIn
  refine wpAny_holding (wpAny_bind (wpAny_setState_of e d fit ?_))
  dsimp only
  rw [byScan_of sc few el]
  simp only [↓reduceIte]
  unfold setAddByScan
  refine wpAny_bind (wpAny_bind (wpAny_rule (wpAny_bind (wpAny_setScan_of is e d fit el ?_))))
  cases at0 : List.findIdx? (fun e => kd.is k e.2) es.toList with
  | some j =>
    obtain ⟨jl, ji, _⟩ := List.findIdx?_eq_some_iff_getElem.mp at0
    have there : S k = true := (mem k).mpr ⟨_, List.getElem_mem jl, ji⟩
    have z := fin s.heap (Heap.SameBut.refl a s.heap) (.mk' e ex d el (fun i => by
      rw [← mem i, Bool.or_eq_true, decide_eq_true_eq]
      exact ⟨fun q => q.elim id fun q => q ▸ there, .inl⟩) few fit (by rw [there]; exact size) up led)
    rw [there] at z
    exact wpAny_pure (wpAny_pure z)
  | none =>
    have away : S k = false := by
      cases q : S k with
      | false => rfl
      | true =>
        obtain ⟨y, y1, y2⟩ := (mem k).mp q
        have := List.findIdx?_eq_none_iff.mp at0 y y1
        exact absurd y2 (by rw [this]; exact Bool.false_ne_true)
    have p1 := layNew_perm t es (kd.hash k) x
    have p2 := layNew_fits t es (kd.hash k) x
    have p3 := layNew_ris t es (kd.hash k) x up
    have p4 := layNew_led t es (kd.hash k) x
    dsimp only
    revert p1 p2 p3 p4
    generalize layNew t es (kd.hash k) x = laid
    obtain ⟨ez, tz, dm, gv⟩ := laid
    intro p1 p2 p3 p4
    dsimp only at p1 p2 p3 p4 ⊢
    rw [Array.toList_push] at p1
    have size1 : ez.size = n + 1 := by
      have := p1.length_eq
      rw [List.length_append, List.length_singleton, Array.length_toList, Array.length_toList, size] at this
      exact this
    have few1 : ez.size < scanBound := size1 ▸ room
    have el1 : ElemsOf kd ez.toList := (el.push is sc).perm p1
    have mem1 := mem_push_iff is mem p1
    have led1 : w.params.followText "set-order" = true ∨ tz.led = true := led.imp_right fun z => p4.trans z
    have last : ∀ h', Heap.SameBut a s.heap h' → GSet kd h' a (fun j => S j || decide (j = k)) ez.size → Q true { s with heap := h' } := fun h' z1 z2 => by
      have := fin h' z1
      rw [away] at this
      exact this (by rw [size1] at z2; exact z2)
    have quiet : ∀ (b : Bool) {s' : Shared} {Q' : Unit → Shared → Prop}, Q' () s' → wpAny (model P w) A (match b with | true => rule "set.scan.the-table-gave-way" | false => pure ()) Q' E s' := fun b _ _ q => by
      cases b
      · exact wpAny_pure q
      · exact wpAny_rule q
    refine wpAny_bind (quiet _ ?_)
    split
    · rw [hashByValue_scannable 8 sc]
      refine wpAny_bind (wpAny_pure ?_)
      refine add_end (fun b s' Q' q => by cases b <;> first | exact wpAny_pure q | exact wpAny_rule q) e ex d el1 mem1 few1 ?_ ?_ ?_ fun h' z1 z2 => wpAny_pure (last h' z1 z2)
      · split <;> first | exact p2 | exact SetTable.fits_plain_off p2
      · split <;> exact p3
      · split <;> exact led1
    · refine wpAny_bind (wpAny_pure ?_)
      simp only [↓reduceIte]
      exact add_end (fun b s' Q' q => by cases b <;> first | exact wpAny_pure q | exact wpAny_rule q) e ex d el1 mem1 few1 p2 p3 led1 fun h' z1 z2 => wpAny_pure (last h' z1 z2)
theorem set0_at {h : Heap} (e : h.get? a = some { cls := .type "set", dict := none, data := .set #[] 0 (.fresh 0 0 (!w.params.followText "set-order")) }) : GSet kd h a (fun _ => false) 0 :=
  .mk' e ⟨rfl, rfl, rfl⟩ rfl (fun _ z => by simp at z) (fun k => by simp) (by decide) rfl rfl List.Pairwise.nil (by
    cases z : w.params.followText "set-order" with
    | true => exact .inl rfl
    | false => exact .inr rfl)
theorem GSet.like {h : Heap} {S' : K → Bool} (g : GSet kd h a S n) (e : ∀ k, S' k = S k) : GSet kd h a S' n := by
  rw [show S' = S from funext e]
  exact g
/-- the members, each once -/
def Once (us : List K) (S : K → Bool) (n : Nat) : Prop := us.Nodup ∧ us.length = n ∧ ∀ k, k ∈ us ↔ S k = true
/-- what has come of the first i -/
def Upto (kd : PySem.KeyKind P w K) (h : Heap) (b : Addr) (ks : List K) (i : Nat) : Prop := ∃ us c, c ≤ i ∧ Once us (fun k => decide (k ∈ ks.take i)) c ∧ GSet kd h b (fun k => decide (k ∈ ks.take i)) c
theorem take_more {ks : List K} {i : Nat} {k : K} (e : ks[i]? = some k) (j : K) : (decide (j ∈ ks.take i) || decide (j = k)) = decide (j ∈ ks.take (i + 1)) := by
  rw [List.take_add_one, e, Option.toList, Bool.eq_iff_iff]
  simp
/-- a set is filled with what an iterator gives -/
theorem fill {I b : Addr} {fps wrs : List Addr} {GG : Array GenState → Array GenState → Prop} {m : Nat} {PV : Nat → Value → Prop} {Si : Nat → Shared → Prop} {R' : Result → Shared → Prop} {ks : List K} (wk : WalksS P w A.in1 I fps wrs GG m PV Si) (away : b ∉ fps) (len : m = ks.length) (room : ks.length + 1 < scanBound)
    (val : ∀ i v, PV i v → ∃ k, ks[i]? = some k ∧ kd.is k v = true ∧ v.scannable = true) : ∀ (j i : Nat) (s : Shared), m - i = j → i ≤ m → Si i s → Upto kd s.heap b ks i →
      (∀ s', Moved (b :: wrs) GG s s' → Upto kd s'.heap b ks m → R' (.ok (.ret .none)) s') → codeAny (model P w) A (.builtin "set.update.loop" ⟨[.ref b, .ref I], []⟩) R' s := by
  have notW : b ∉ wrs := fun z => away (wk.sub b z)
  have kept : ∀ {s s' : Shared} {i : Nat}, Moved wrs GG s s' → Upto kd s.heap b ks i → Upto kd s'.heap b ks i := fun mv ⟨us, c, h1, h2, h3⟩ => ⟨us, c, h1, h2, h3.keep fun o e => mv.heap b o notW e⟩
  have wide : ∀ {s s' : Shared}, Moved wrs GG s s' → Moved (b :: wrs) GG s s' := fun mv => mv.mono fun _ z => List.mem_cons_of_mem _ z
  intro j
  induction j with
  | zero =>
    intro i s ej ei at0 up fin
    obtain rfl : i = m := by omega
    refine codeAny_builtin F.entry_set_update_loop ?_
    rw [Around.under_plainId F.plain_set_update_loop _]
    exact wpAny_bind (wk.done s _ _ at0 fun s' mv => wpAny_pure (fin s' (wide mv) (kept mv up)))
  | succ j more =>
    intro i s ej ei at0 up fin
    have il : i < m := by omega
    refine codeAny_builtin F.entry_set_update_loop ?_
    rw [Around.under_plainId F.plain_set_update_loop _]
    refine wpAny_bind (wk.item i s _ _ il at0 fun v s' pv at1 mv => ?_)
    obtain ⟨k, kat, kis, ksc⟩ := val i v pv
    obtain ⟨us, c, cl, on, g⟩ := kept mv up
    show wpAny _ A.in1 (holding [v] (setAdd b v) >>= _) _ _ s'
    refine wpAny_bind (wpAny_holding ?_)
    unfold setAdd
    refine wpAny_holding (wpAny_bind (kd.pyHash (k := k) kis ?_))
    refine add_key (s := { s' with toks := s'.toks + 1 }) kis ksc g (by omega) fun h' only g2 => ?_
    have up2 : Upto kd h' b ks (i + 1) := by
      obtain ⟨o1, o2, o3⟩ := on
      have o3 : ∀ k, k ∈ us ↔ decide (k ∈ ks.take i) = true := o3
      have mem := o3 k
      by_cases z : k ∈ us
      · refine ⟨us, c, by omega, ⟨o1, o2, fun q => ?_⟩, ?_⟩
        · show q ∈ us ↔ decide (q ∈ ks.take (i + 1)) = true
          rw [← take_more kat, Bool.or_eq_true, ← o3 q, decide_eq_true_eq]
          exact ⟨.inl, fun y => y.elim id fun y => y ▸ z⟩
        · rw [if_pos (mem.mp z)] at g2
          exact g2.like fun q => (take_more kat q).symm
      · refine ⟨us ++ [k], c + 1, by omega, ⟨?_, by rw [List.length_append, o2]; rfl, fun q => ?_⟩, ?_⟩
        · rw [List.nodup_append]
          exact ⟨o1, by simp, fun x hx y hy e => z (by rw [List.mem_singleton.mp hy] at e; rw [← e]; exact hx)⟩
        · show q ∈ us ++ [k] ↔ decide (q ∈ ks.take (i + 1)) = true
          rw [← take_more kat, Bool.or_eq_true, ← o3 q, decide_eq_true_eq, List.mem_append, List.mem_singleton]
        · rw [if_neg fun y => z (mem.mpr y)] at g2
          exact g2.like fun q => (take_more kat q).symm
    have other : ∀ x o, x ≠ b → s'.heap.get? x = some o → h'.get? x = some o := fun x o z e => (only.2 x z).trans e
    refine wpAny_pure ⟨plainId_quiet F.plain_set_update_loop _, more (i + 1) _ (by omega) il (wk.frame _ s' _ _ at1 (Nat.le_succ _) fun x hx o e => other x o (fun z => away (z ▸ hx)) e) up2 fun s2 mv2 last => ?_⟩
    exact fin s2 (Moved.trans wk.gtrans ((wide mv).then_heap (Nat.le_succ _) fun x o z e => other x o (fun y => z (y ▸ List.mem_cons_self)) e) mv2) last
end
end MP
end

section
set_option Elab.async false
set_option linter.all false
set_option maxRecDepth 100000
set_option maxHeartbeats 3200000
/-! MP: set(list). -/
namespace MP
open PySem PySem.Spec PyProof.Rows L2
section
variable {P : Program} {w : World} {K : Type} [DecidableEq K] {kd : PySem.KeyKind P w K} {A : Around} {E : Value → Shared → Prop} {s : Shared}
/-- what set(..) leaves -/
def Made (kd : PySem.KeyKind P w K) (s : Shared) (ks : List K) (s' : Shared) : Prop := ∃ h' tk, s' = { s with heap := h', toks := tk } ∧ Upto kd h' s.heap.objs.size ks ks.length ∧ ∀ b o, s.heap.get? b = some o → h'.get? b = some o
theorem make_set {l : Addr} {its : Array Value} {ks : List K} {Q : Value → Shared → Prop} (calm : A.handled = none) (at0 : s.heap.IsList l its) (len : its.size = ks.length) (val : ∀ (i : Nat) (v : Value), its[i]? = some v → ∃ k, ks[i]? = some k ∧ kd.is k v = true ∧ v.scannable = true)
    (room : ks.length + 1 < scanBound) (fin : ∀ s', Made kd s ks s' → Q (.ref s.heap.objs.size) s') : wpAny (model P w) A (call (.type "set") [.ref l]) Q E s := by
  have facts := F.called_set
  obtain ⟨c, tl, mro⟩ := facts.mro
  have made := facts.made
  have sub := facts.sub
  have notTy := facts.notType
  have can := facts.canCreate
  have tcall := F.typeCall_set_1 (.ref l)
  have objS : (s.heap.push { cls := .type "set", dict := none, data := .set #[] 0 (.fresh 0 0 (!w.params.followText "set-order")) }).get? s.heap.objs.size = some { cls := .type "set", dict := none, data := .set #[] 0 (.fresh 0 0 (!w.params.followText "set-order")) } := Heap.get?_push_size _ rfl
  have tyS : Shared.TypeIs { s with heap := s.heap.push { cls := .type "set", dict := none, data := .set #[] 0 (.fresh 0 0 (!w.params.followText "set-order")) } } (.ref s.heap.objs.size) "set" := ⟨_, objS, rfl⟩
  refine wpAny_call (codeAny_of_tree ?_)
  show wpAny _ _ (callAny (.type "set") _) _ _ _
  refine wpAny_pure ⟨Code.quiet_builtin _ (by decide +kernel), codeAny_builtin F.entry_type_call ?_⟩
  rw [Around.under_plain (weight_type_call_type "set" [.ref l] []) rfl]
  repeat (any_goals (first | assumption | wp_step))
  refine codeAny_mono (code_set_led1 (.ref l) (E := E) (Q₁ := fun obj s1 => obj = .ref s.heap.objs.size ∧ s1 = { s with heap := s.heap.push { cls := .type "set", dict := none, data := .set #[] 0 (.fresh 0 0 (!w.params.followText "set-order")) } }) ⟨rfl, rfl⟩) fun r s1 got => ?_
  cases r with
  | error e => exact got
  | ok fl =>
    cases fl with
    | next => exact got.elim
    | brk => exact got.elim
    | cont => exact got.elim
    | ret obj =>
      obtain ⟨rfl, rfl⟩ := got
      have look := facts.init.lookup
      have bind := facts.init.bind (.ref s.heap.objs.size)
      repeat (any_goals (first | assumption | wp_step))
      refine codeAny_mono (codeAny_call_builtin (R := wants (fun r s2 => r = .none ∧ Made kd s ks s2) E) facts.init.plain F.entry_set_init (check_set_init_1 tyS ?_)) fun r2 s2 got2 => ?_
      · obtain ⟨⟨oc, od, oda, os⟩, e, ec, n, ed⟩ := at0
        simp only at ec ed
        subst ec ed
        have e1 : (s.heap.push { cls := .type "set", dict := none, data := .set #[] 0 (.fresh 0 0 (!w.params.followText "set-order")) }).get? l = some { cls := .type "list", dict := od, data := .seq its n, slots := os } := Heap.get?_push_of_some _ e
        have l1 : (s.heap.push { cls := .type "set", dict := none, data := .set #[] 0 (.fresh 0 0 (!w.params.followText "set-order")) }).IsList l its := ⟨_, e1, rfl, n, rfl⟩
        have sb1 := F.sub_list_set
        have sb2 := F.sub_list_frozenset
        have noD : (Value.type "list" == Value.type "dict") = false := by decide
        unfold Builtin.«set.__init__» noKeywords Builtin.Frozenset.updateFrom
        generalize keepIter : pyIter = it0
        wp_walk
        subst keepIter
        refine wpAny_pyIter_list l1 (wpAny_bind (wpAny_runValue ?_))
        have lLt : l < s.heap.objs.size := Heap.lt_size e
        have sz1 : (s.heap.push { cls := .type "set", dict := none, data := .set #[] 0 (.fresh 0 0 (!w.params.followText "set-order")) }).objs.size = s.heap.objs.size + 1 := Heap.size_push ..
        have lNe : l ≠ (s.heap.push { cls := .type "set", dict := none, data := .set #[] 0 (.fresh 0 0 (!w.params.followText "set-order")) }).objs.size := by rw [sz1]; exact Nat.ne_of_lt (Nat.lt_succ_of_lt lLt)
        have calm3 : A.in1.in1.in1.handled = none := by simp [calm]
        refine fill (kd := kd) (ks := ks) ((Walks.list calm3 _ l lNe its).toS) ?_ len room val (its.size - 0) 0 _ (by omega) (Nat.zero_le _) ⟨⟨_, Heap.get?_push_size _ rfl, rfl, rfl⟩, (l1.push _)⟩ ?_ ?_
        · rw [sz1]
          simp only [List.mem_cons, List.not_mem_nil, or_false, not_or]
          exact ⟨Nat.ne_of_lt (Nat.lt_succ_self _), Nat.ne_of_gt lLt⟩
        · refine ⟨[], 0, Nat.le_refl _, ⟨List.nodup_nil, rfl, fun k => by simp⟩, ?_⟩
          exact (set0_at (Heap.get?_push_of_some _ objS)).like fun k => by simp
        · intro s' mv up
          obtain ⟨h', g', d', tk', os'⟩ := s'
          obtain rfl : g' = s.gens := mv.gens
          obtain rfl : d' = s.drawn := mv.drawn
          obtain rfl : os' = s.os := mv.os
          show wpAny _ _ _ _ _ _
          refine wpAny_pure ?_
          show wpAny _ _ (ret Value.none) _ _ _
          rw [len] at up
          refine wpAny_pure ⟨rfl, h', tk', rfl, up, fun b o q => ?_⟩
          have bl : b < s.heap.objs.size := Heap.lt_size q
          refine mv.heap b o ?_ (Heap.get?_push_of_some _ (Heap.get?_push_of_some _ q))
          rw [sz1]
          simp only [List.mem_cons, List.not_mem_nil, or_false, not_or]
          exact ⟨Nat.ne_of_lt bl, Nat.ne_of_lt (Nat.lt_succ_of_lt bl)⟩
      · cases r2 with
        | error e => exact got2
        | ok fl2 =>
          cases fl2 with
          | next => exact got2.elim
          | brk => exact got2.elim
          | cont => exact got2.elim
          | ret r =>
            obtain ⟨rfl, m⟩ := got2
            repeat (any_goals (first | assumption | wp_step))
            exact fin _ m
end
end MP
end

section
set_option Elab.async false
set_option linter.all false
set_option maxRecDepth 100000
set_option maxHeartbeats 1000000
/-! MP: sorted(list). -/
namespace MP
open PySem PySem.Spec PyProof.Rows L2
/-- partners follow an order -/
theorem RepL.perm {g : GC} {θ : Th} {H : Hp} {vs ws : List V} (p : vs.Perm ws) : ∀ {ds : List D}, RepL g θ H ds vs → ∃ es, es.Perm ds ∧ RepL g θ H es ws := by
  induction p with
  | nil => exact fun r => ⟨_, List.Perm.refl _, r⟩
  | cons x p ih =>
    intro ds r
    cases r with
    | cons r1 r2 =>
      obtain ⟨es, e1, e2⟩ := ih r2
      exact ⟨_, e1.cons _, .cons r1 e2⟩
  | swap x y l =>
    intro ds r
    cases r with
    | cons r1 r2 =>
      cases r2 with
      | cons r3 r4 => exact ⟨_, List.Perm.swap _ _ _, .cons r3 (.cons r1 r4)⟩
  | trans p1 p2 ih1 ih2 =>
    intro ds r
    obtain ⟨es, e1, e2⟩ := ih1 r
    obtain ⟨fs, f1, f2⟩ := ih2 e2
    exact ⟨fs, f1.trans e1, f2⟩
theorem vals_perm {us ws : List Value} (p : us.Perm ws) : ∀ {xs : List V}, Vals xs us → ∃ ys, ys.Perm xs ∧ Vals ys ws := by
  induction p with
  | nil => exact fun r => ⟨_, List.Perm.refl _, r⟩
  | cons x p ih =>
    intro xs r
    cases r with
    | cons r1 r2 =>
      obtain ⟨es, e1, e2⟩ := ih r2
      exact ⟨_, e1.cons _, .cons r1 e2⟩
  | swap x y l =>
    intro xs r
    cases r with
    | cons r1 r2 =>
      cases r2 with
      | cons r3 r4 => exact ⟨_, List.Perm.swap _ _ _, .cons r3 (.cons r1 r4)⟩
  | trans p1 p2 ih1 ih2 =>
    intro xs r
    obtain ⟨es, e1, e2⟩ := ih1 r
    obtain ⟨fs, f1, f2⟩ := ih2 e2
    exact ⟨fs, f1.trans e1, f2⟩
theorem intsOf_is : ∀ {xs : List D} {ns : List Int}, intsOf xs = some ns → xs = ns.map .int
  | [], _, h => by cases h; rfl
  | x :: xs, ns, h => by
    cases x <;> simp only [intsOf] at h <;> try cases h
    cases q : intsOf xs with
    | none => rw [q] at h; cases h
    | some ms =>
      rw [q] at h
      cases h
      rw [intsOf_is q]
      rfl
theorem texts_is : ∀ {xs : List D} {ns : List Tx}, texts xs = some ns → xs = ns.map .str
  | [], _, h => by cases h; rfl
  | x :: xs, ns, h => by
    cases x <;> simp only [texts] at h <;> try cases h
    cases q : texts xs with
    | none => rw [q] at h; cases h
    | some ms =>
      rw [q] at h
      cases h
      rw [texts_is q]
      rfl
theorem ints_sorted {ns ms : List Int} (p : ms.Perm ns) (s : ms.Pairwise (· ≤ ·)) : ms.map D.int = sortL (ns.map .int) := by
  refine sortL_is (z := .int 0) (fun y hy => ?_) (p.map _) ?_
  · obtain ⟨i, _, rfl⟩ := List.mem_map.mp hy
    rfl
  · rw [List.pairwise_map]
    refine s.imp fun {a b} h => ?_
    simp only [leD, D.lt]
    rw [decide_eq_false (by omega)]
theorem ltCps_eq : ∀ a b : Tx, ltCps a b = ltT a b
  | [], [] => rfl
  | [], _ :: _ => rfl
  | _ :: _, [] => rfl
  | a :: r, b :: q => by
    simp only [ltCps, ltT]
    by_cases e : a = b
    · subst e
      simp [ltCps_eq r q]
    · have h1 : (a == b) = false := beq_eq_false_iff_ne.mpr e
      simp [e, ltCps_eq r q]
theorem rising_pair : ∀ {ss : List Str} {p : Str}, risingS p ss = true → (p :: ss).Pairwise (fun a b => ltT b.cps.toList a.cps.toList = false)
  | [], p, _ => List.pairwise_singleton _ _
  | x :: ss, p, h => by
    simp only [risingS, Bool.and_eq_true, Bool.not_eq_true'] at h
    have ih := rising_pair h.2
    have h1 : ltT x.cps.toList p.cps.toList = false := by rw [← ltCps_eq]; exact h.1
    refine List.pairwise_cons.mpr ⟨fun y hy => ?_, ih⟩
    rcases List.mem_cons.mp hy with e | e
    · rw [e]; exact h1
    · have h2 := (List.pairwise_cons.mp ih).1 y e
      cases q : ltT y.cps.toList p.cps.toList with
      | false => rfl
      | true =>
        rcases ltT_tri x.cps.toList p.cps.toList with z | z | z
        · rw [z.1] at h1; cases h1
        · rw [ltT_trans _ _ _ q z.2] at h2; cases h2
        · rw [z.1, q] at h2; cases h2
theorem texts_sorted {ns : List Tx} {ts : List Str} (p : ts.Perm (ns.map sOf)) (s : sortedS ts = true) : ∃ ms : List Tx, ts = ms.map sOf ∧ ms.map D.str = sortL (ns.map .str) := by
  have hp : (ts.map fun z => z.cps.toList).Perm ns := by
    have := p.map fun z : Str => z.cps.toList
    rw [List.map_map] at this
    have e : ns.map ((fun z : Str => z.cps.toList) ∘ sOf) = ns := by
      rw [show ((fun z : Str => z.cps.toList) ∘ sOf) = id from funext fun z => by simp, List.map_id]
    rw [e] at this
    exact this
  refine ⟨ts.map fun z => z.cps.toList, ?_, sortL_is (z := .str []) (fun y hy => ?_) (hp.map _) ?_⟩
  · rw [List.map_map]
    rw [show (sOf ∘ fun z : Str => z.cps.toList) = id from funext fun z => by cases z; simp [sOf], List.map_id]
  · obtain ⟨i, _, rfl⟩ := List.mem_map.mp hy
    rfl
  · rw [List.map_map, List.pairwise_map]
    have hs : ts.Pairwise (fun a b => ltT b.cps.toList a.cps.toList = false) := by
      cases ts with
      | nil => exact List.Pairwise.nil
      | cons x r => exact rising_pair s
    refine hs.imp fun {a b} h => ?_
    simp only [leD, D.lt, Function.comp]
    rw [h]
theorem isPair_fun {h : Heap} {v : Value} {x y x' y' : Int} (a : Srt.IsPair h v x y) (b : Srt.IsPair h v x' y') : x = x' ∧ y = y' := by
  obtain ⟨a1, o1, t1, u1, n1, e1, g1, _, d1⟩ := a
  obtain ⟨a2, o2, t2, u2, n2, e2, g2, _, d2⟩ := b
  rw [e1] at e2
  cases e2
  rw [g1] at g2
  cases g2
  rw [d1] at d2
  cases d2
  exact ⟨rfl, rfl⟩
open Classical in
/-- the ints of a pair that stands in the heap -/
noncomputable def pairAt (h : Heap) (v : Value) : Int × Int := if z : ∃ p : Int × Int, Srt.IsPair h v p.1 p.2 then z.choose else (0, 0)
theorem pairAt_is {h : Heap} {v : Value} {x y : Int} (a : Srt.IsPair h v x y) : pairAt h v = (x, y) := by
  unfold pairAt
  have z : ∃ p : Int × Int, Srt.IsPair h v p.1 p.2 := ⟨(x, y), a⟩
  rw [dif_pos z]
  obtain ⟨e1, e2⟩ := isPair_fun z.choose_spec a
  exact Prod.ext e1 e2
theorem pairsI_is : ∀ {xs : List D} {ps : List (Int × Int)}, pairsI xs = some ps → xs = ps.map fun p => .tup [.int p.1, .int p.2]
  | [], _, h => by cases h; rfl
  | x :: xs, ps, h => by
    unfold pairsI at h
    split at h
    · rename_i heq; cases heq
    · rename_i heq
      cases heq
      cases q : pairsI xs with
      | none => rw [q] at h; cases h
      | some ms =>
        rw [q] at h
        cases h
        rw [pairsI_is q]
        rfl
    · cases h
theorem pairs_back {es : List D} {ps : List (Int × Int)} (p : es.Perm (ps.map fun p => .tup [.int p.1, .int p.2])) : ∃ qs : List (Int × Int), es = qs.map fun p => .tup [.int p.1, .int p.2] := by
  have h : ∀ e ∈ es, ∃ q : Int × Int, e = .tup [.int q.1, .int q.2] := fun e he => by
    obtain ⟨q, _, rfl⟩ := List.mem_map.mp (p.mem_iff.mp he)
    exact ⟨q, rfl⟩
  clear p
  induction es with
  | nil => exact ⟨[], rfl⟩
  | cons e es ih =>
    obtain ⟨qs, rfl⟩ := ih fun x hx => h x (List.mem_cons_of_mem _ hx)
    obtain ⟨q, rfl⟩ := h e List.mem_cons_self
    exact ⟨q :: qs, rfl⟩
section
variable {g : GC} {fr : Bool} {W : WK} {X : Cx}
theorem pair_in {pins : List (Addr × Obj)} {σ : L2.St} {H : Hp} {s : Shared} {θ : Th} {v : V} {u : Value} {a b : Int} (hK : X.K = g.K) (I : Inv X pins σ H s) (r : Rep g θ H (.tup [.int a, .int b]) v) (rv : RelV v u) : Srt.IsPair s.heap u a b := by
  cases r with
  | tup h1 h2 =>
    cases h2 with
    | cons r1 h2 =>
      cases h2 with
      | cons r2 h2 =>
        cases h2
        cases r1
        cases r2
        cases rv
        have hs := h1.to
        rw [← hK] at hs
        obtain ⟨its, rr, ⟨o, e, ec, n, ed⟩, _⟩ := I.tuple hs
        obtain ⟨u1, u2, rfl, q1, q2⟩ := vals2 rr
        obtain ⟨t1, rfl⟩ := q1
        obtain ⟨t2, rfl⟩ := q2
        exact ⟨_, o, t1, t2, n, rfl, e, ec, ed⟩
theorem pairs_all {pins : List (Addr × Obj)} {σ : L2.St} {H : Hp} {s : Shared} {θ : Th} (hK : X.K = g.K) (I : Inv X pins σ H s) : ∀ {ps : List (Int × Int)} {vs : List V} {us : List Value}, RepL g θ H (ps.map fun p => .tup [.int p.1, .int p.2]) vs → Vals vs us →
    us.map (pairAt s.heap) = ps ∧ ∀ u ∈ us, Srt.IsPair s.heap u (pairAt s.heap u).1 (pairAt s.heap u).2
  | [], vs, us, r, rv => by
    cases r
    cases rv
    exact ⟨rfl, fun _ z => nomatch z⟩
  | p :: ps, vs, us, r, rv => by
    rw [List.map_cons] at r
    cases r with
    | cons r1 r2 =>
      cases rv with
      | cons q1 q2 =>
        have ip := pair_in hK I r1 q1
        have e := pairAt_is ip
        obtain ⟨h1, h2⟩ := pairs_all hK I r2 q2
        refine ⟨by rw [List.map_cons, h1, e], fun u hu => ?_⟩
        rcases List.mem_cons.mp hu with z | z
        · rw [z, e]; exact ip
        · exact h2 u z
theorem c1_sorted (xg : Xg g X) : CallR X (.builtin "sorted") (rC1 g fr W .sorted) := by
  intro pins s σ H vs us Q I rv h
  obtain ⟨v, rfl, θ, st, d, so, rd, h⟩ := h
  simp only [f1] at h
  obtain ⟨d', e, h⟩ := h.of
  cases hl : lsq st d with
  | none => rw [hl] at e; cases e
  | some xs =>
    rw [hl] at e
    obtain ⟨a, ws, rfl, hH, rr⟩ := lsq_rep so rd hl
    have hS : SqL X.K H a ws := .inl (.inl hH)
    simp only [Option.bind, sortD] at e
    split at e
    · rename_i hz
      cases e
      cases hi : intsOf xs with
      | some ns =>
        have ews := ints_rep rr hi
        subst ews
        refine cr_sortedI pins s σ H _ us Q I rv ⟨a, ns, rfl, hS, fun ms p pm sm hp => ?_⟩
        have e := ints_sorted pm sm
        rw [← intsOf_is hi] at e
        rw [← e] at h
        exact h.lst so (ints_repL ms) hp
      | none =>
        cases ht : texts xs with
        | some ts =>
          have ews := texts_rep rr ht
          subst ews
          obtain ⟨its, rl, pl, hsz⟩ := I.list hS
          obtain ⟨u, rfl, ru⟩ := vals1 rv
          cases ru
          refine sorted_strsAny pl.isList rl.strs (by rw [← rl.length]; exact hsz) fun out ss h1 h2 h3 => ?_
          obtain ⟨ms, rfl, e⟩ := texts_sorted h2 h3
          rw [← texts_is ht] at e
          rw [← e] at h
          obtain ⟨ep, at1⟩ := sortedAll_at s.heap its out
          have hp : H (s.heap.objs.size + 1) = none := I.hok.fresh (Nat.le_succ _)
          refine ⟨.ref _, _, I.laid (t' := s.toks) (o := .lst ((ms.map sOf).map V.str)) (fun _ _ => sortedAll_old) (Nat.le_succ _) ⟨?_, out.toList, ep, vals_of_strs h1, at1⟩, rfl, h.lst so (strs_repL ms) hp⟩
          rw [List.length_map, h2.length_eq, ← List.length_map (f := V.str)]
          exact hsz
        | none =>
          cases hp : pairsI xs with
          | none =>
            simp only [flatKeys, hi, ht, hp] at hz
            cases hz
          | some ps =>
            have exs := pairsI_is hp
            subst exs
            obtain ⟨its, rl, pl, hsz⟩ := I.list hS
            obtain ⟨u, rfl, ru⟩ := vals1 rv
            cases ru
            obtain ⟨m1, m2⟩ := pairs_all xg.hK I rr rl
            refine SrtO.sorted_pairsO (k := pairAt s.heap) pl.isList (by rw [← rl.length]; exact hsz) m2 fun h' d out s1 s2 kp hd hn => ?_
            obtain ⟨n, hn⟩ := hn
            obtain ⟨ys, p1, p2⟩ := vals_perm s2.perm.symm rl
            obtain ⟨es, p3, p4⟩ := RepL.perm p1.symm rr
            have ees : es = sortL (ps.map fun p => .tup [.int p.1, .int p.2]) := by
              refine sortL_is (z := .tup [.int 0, .int 0]) (fun y hy => ?_) p3 ?_
              · obtain ⟨i, _, rfl⟩ := List.mem_map.mp hy
                rfl
              · obtain ⟨qs, rfl⟩ := pairs_back p3
                obtain ⟨k1, _⟩ := pairs_all xg.hK I p4 p2
                have s3 : (out.map (pairAt s.heap)).Pairwise fun p q => SrtO.lexB q p = false := by
                  rw [List.pairwise_map]
                  exact s1
                rw [k1] at s3
                rw [List.pairwise_map]
                refine s3.imp fun {a b} h => ?_
                have h := SrtO.lexB_no.mp h
                simp only [leD, D.lt, lts, D.int.injEq]
                by_cases e : b.1 = a.1
                · rw [if_pos e]
                  by_cases e2 : b.2 = a.2
                  · rw [if_pos e2]
                  · rw [if_neg e2, decide_eq_false (by omega)]
                · rw [if_neg e, decide_eq_false (by omega)]
            rw [← ees] at h
            have hpd : H d = none := I.hok.fresh hd
            refine ⟨.ref d, _, I.laid (t' := s.toks) (o := .lst ys) kp hd ⟨?_, out, n, p2, hn⟩, rfl, h.lst so p4 hpd⟩
            rw [p1.length_eq]
            exact hsz
    · cases e
end
end MP
end

section
set_option Elab.async false
set_option linter.all false
set_option maxRecDepth 100000
set_option maxHeartbeats 1000000
/-! MP: sorted(set(list)), len(set(list)). -/
namespace MP
open PySem PySem.Spec PyProof.Rows L2
/-- a set of flat keys at a: those of the list -/
def SetGO (P : Program) (w : World) (a : Addr) (ks : List Key) : HO := .ext fun h => Upto (mixKind P w) h a ks ks.length
section
variable {P : Program} {w : World} {h h' : Heap} {a : Addr} {ks : List Key} {H : Hp}
theorem upto_keep (u : Upto (mixKind P w) h a ks ks.length) (k : ∀ o, h.get? a = some o → h'.get? a = some o) : Upto (mixKind P w) h' a ks ks.length := by
  obtain ⟨us, c, h1, h2, h3⟩ := u
  exact ⟨us, c, h1, h2, h3.keep k⟩
theorem setGO_new (u : Upto (mixKind P w) h a ks ks.length) : ObjOk P w H h a (SetGO P w a ks) := by
  have there : ∃ o, h.get? a = some o := by
    obtain ⟨_, _, _, _, ⟨⟨o, _, _, _, e, _⟩, _⟩⟩ := u
    exact ⟨o, e⟩
  exact ⟨u, there, fun _ _ p k => upto_keep p k⟩
/-- the members, by their records -/
theorem upto_parts {K : Type} [DecidableEq K] {kd : PySem.KeyKind P w K} {ks : List K} (u : Upto kd h a ks ks.length) : ∃ (us : List K) (o : Obj) (es : Array (Int × Value)) (ep : Nat) (t : SetTable), us.Nodup ∧ (∀ k : K, k ∈ us ↔ k ∈ ks) ∧ h.get? a = some o ∧ o.ExactSet ∧ o.data = .set es ep t ∧ us.length = es.size ∧ (∀ e ∈ es.toList, ∃ k, kd.is k e.2 = true) ∧ (∀ k : K, k ∈ ks ↔ ∃ e ∈ es.toList, kd.is k e.2 = true) ∧
    es.size < scanBound ∧ t.fits es.size = true ∧ Ris t.place.toList ∧ (w.params.followText "set-order" = true ∨ t.led = true) := by
  obtain ⟨us, c, _, ⟨h1, h2, h3⟩, g⟩ := u
  obtain ⟨o, es, ep, t, e1, e2, e3, e4, e5, e6, e7, e8, e9, e10⟩ := g.parts
  rw [List.take_length] at h3 e5
  refine ⟨us, o, es, ep, t, h1, fun k => ⟨fun z => of_decide_eq_true ((h3 k).mp z), fun z => (h3 k).mpr (decide_eq_true z)⟩, e1, e2, e3, h2.trans e8.symm, fun e he => ?_, fun k => ?_, e6, e7, e9, e10⟩
  · obtain ⟨⟨k, hk, _⟩, _⟩ := e4 e he
    exact ⟨k, hk⟩
  · exact ⟨fun z => (e5 k).mp (decide_eq_true z), fun z => of_decide_eq_true ((e5 k).mpr z)⟩
end
section
variable {X : Cx}
theorem keys_at {ks : List Key} {us : List Value} (r : Vals (ks.map kV) us) (i : Nat) (v : Value) (e : us.toArray[i]? = some v) : ∃ k, ks[i]? = some k ∧ keyIs k v = true ∧ v.scannable = true := by
  rw [List.getElem?_toArray] at e
  obtain ⟨x, hx, rx⟩ : ∃ x, (ks.map kV)[i]? = some x ∧ RelV x v := by
    have hl : i < (ks.map kV).length := by rw [r.length]; exact (List.getElem?_eq_some_iff.mp e).1
    obtain ⟨u, hu, ru⟩ := r.get (List.getElem?_eq_getElem hl)
    rw [e] at hu
    cases hu
    exact ⟨_, List.getElem?_eq_getElem hl, ru⟩
  rw [List.getElem?_map] at hx
  cases hk : ks[i]? with
  | none => rw [hk] at hx; cases hx
  | some k =>
    rw [hk] at hx
    cases hx
    refine ⟨k, rfl, ?_, key_scan rx⟩
    cases k with
    | inl j => obtain ⟨t, rfl⟩ := rx; exact keyIs_int j t
    | inr z => obtain ⟨t, rfl⟩ := rx; exact keyIs_str z t
theorem cr_setG (calm : X.calm = true) : CallR X (.type "set") (fun xs H Q => ∃ l ks, xs = [V.ref l] ∧ SqL X.K H l (ks.map kV) ∧ ks.length + 1 < scanBound ∧ ∀ p, H p = none → Q (.ref p) (upd H p (SetGO X.prog X.w p ks))) := by
  intro pins s σ H xs us Q I r h
  obtain ⟨l, ks, rfl, hs, room, q⟩ := h
  obtain ⟨u, rfl, ru⟩ := vals1 r
  cases ru
  obtain ⟨its, rv, pl, hz⟩ := I.list hs
  refine make_set (kd := mixKind X.prog X.w) (ks := ks) (I.ok.hd calm) pl.isList (by rw [List.size_toArray, ← rv.length, List.length_map]) (keys_at rv) room fun s' m => ?_
  obtain ⟨h', tk, rfl, up, keep⟩ := m
  exact ⟨.ref _, _, I.laid (t' := tk) (h' := h') keep (Nat.le_refl _) (setGO_new up), rfl, q _ (I.hok.fresh (Nat.le_refl _))⟩
theorem cr_lenG : CallR X (.builtin "len") (fun xs H Q => ∃ p ks, xs = [V.ref p] ∧ H p = some (SetGO X.prog X.w p ks) ∧ ∀ us : List Key, us.Nodup → (∀ k, k ∈ us ↔ k ∈ ks) → Q (.int us.length) H) := by
  intro pins s σ H xs us Q I r h
  obtain ⟨p, ks, rfl, hp, q⟩ := h
  obtain ⟨u, rfl, ru⟩ := vals1 r
  cases ru
  have up : Upto (mixKind X.prog X.w) s.heap p ks ks.length := (I.hok p _ hp).1
  obtain ⟨ms, o, es, ep, t, h1, h2, e1, e2, e3, e4, _, _, few, fit, _, _⟩ := upto_parts up
  have lt63 : (es.size : Int) < 2 ^ 63 := by
    have : es.size < 4096 := few
    omega
  have z := q ms h1 h2
  rw [e4] at z
  exact call_len_set e1 e2 e3 fit lt63 ⟨.int es.size, H, (I.tok _).tok _, ⟨_, rfl⟩, z⟩
/-- the list that sorted(..) makes of a set's members -/
theorem sort_members {P : Program} {w : World} {A : Around} {E : Value → Shared → Prop} {s : Shared} {a : Addr} {o : Obj} {es : Array (Int × Value)} {ep : Nat} {t : SetTable} {Q : Value → Shared → Prop} (calm : A.handled = none) (e1 : s.heap.get? a = some o) (e2 : o.ExactSet) (e3 : o.data = .set es ep t) (few : es.size < scanBound) (fit : t.fits es.size = true)
    (up : Ris t.place.toList) (led : w.params.followText "set-order" = true ∨ t.led = true)
    (fin : ∀ (s1 : Shared) (vs : List Value), (∀ b u, s.heap.get? b = some u → s1.heap.get? b = some u) → s.heap.objs.size ≤ s1.heap.objs.size → s1.gens = s.gens → s1.os = s.os → vs.Perm (es.toList.map (·.2)) → ∀ A' : Around,
      wpAny (model P w) A' (Builtin.«list.sort» ⟨[.ref s1.heap.objs.size], []⟩) (fun r s2 => ∃ v, r = .done (.ret v) ∧ Q (.ref s1.heap.objs.size) s2) E { s1 with heap := s1.heap.push (seqObj "list" vs.toArray 0) }) :
    wpAny (model P w) A (call (.builtin "sorted") [.ref a]) Q E s := by
  refine Calls.call_function_entry kind_sorted plain_sorted entry_sorted (args_sorted1 _) ?_
  unfold Builtin.«sorted»
  refine wpAny_bind (m := checkCount "sorted" 1 1 _) (wpAny_pure (wpAny_bind ?_))
  refine collect_set (A := A.in1) calm ⟨o, e1, e2.1, e3⟩ fit few up led fun s1 vs k1 k2 k3 k4 pm => ?_
  have small : vs.length ≤ sizeLine := by
    rw [pm.length_eq, List.length_map, Array.length_toList]
    exact fits_of_scanBound few
  refine wpAny_bind (wpAny_newList (wpAny_bind (wpAny_holding ?_)) small)
  have new : (s1.heap.push (seqObj "list" vs.toArray 0)).get? s1.heap.objs.size = some (seqObj "list" vs.toArray 0) := Heap.get?_push_size _ rfl
  refine wpAny_call_entry slot_list_sort ⟨_, new, rfl⟩ entry_list_sort (wpAny_mono (fin s1 vs k1 k2 k3 k4 pm _) (fun r s2 h => ?_) fun _ _ h => h) (args_list_sort _)
  obtain ⟨v, rfl, h⟩ := h
  exact ⟨v, rfl, wpAny_pure ⟨_, rfl, h⟩⟩
/-- behind the sorting: a new list -/
theorem sorted_inv {pins : List (Addr × Obj)} {σ : L2.St} {H : Hp} {s s1 : Shared} {vs : List Value} {out : Array Value} {ys : List V} (I : Inv X pins σ H s) (k1 : ∀ b u, s.heap.get? b = some u → s1.heap.get? b = some u) (k2 : s.heap.objs.size ≤ s1.heap.objs.size) (k3 : s1.gens = s.gens) (k4 : s1.os = s.os)
    (r : Vals ys out.toList) (small : ys.length ≤ sizeLine) : Inv X pins σ (upd H s1.heap.objs.size (.lst ys)) { s1 with heap := sortedHeap (s1.heap.push (seqObj "list" vs.toArray 0)) s1.heap.objs.size vs out } := by
  have new : (s1.heap.push (seqObj "list" vs.toArray 0)).get? s1.heap.objs.size = some (seqObj "list" vs.toArray 0) := Heap.get?_push_size _ rfl
  obtain ⟨c, hc⟩ := sortedHeap_at (vs := vs) (out := out) new
  have keep : ∀ b u, s.heap.get? b = some u → (sortedHeap (s1.heap.push (seqObj "list" vs.toArray 0)) s1.heap.objs.size vs out).get? b = some u := by
    intro b u e
    have e1 := k1 b u e
    have lt := Heap.lt_size e1
    rw [sortedHeap_old (Nat.ne_of_lt lt) (by rw [Heap.size_push]; exact Nat.lt_succ_of_lt lt)]
    exact Heap.get?_push_of_some _ e1
  have free : H s1.heap.objs.size = none := I.hok.fresh k2
  exact I.call' (ch := []) k4 (Un.laid keep k2 free) (I.hok.laid keep k2 ⟨small, out.toList, c, r, hc⟩) (by rw [k3]; exact I.bare) fun _ z => nomatch z
theorem only_l {α β : Type} : ∀ {l : List (Sum α β)}, (∀ k ∈ l, ∃ i, k = .inl i) → ∃ is : List α, l = is.map .inl
  | [], _ => ⟨[], rfl⟩
  | x :: l, h => by
    obtain ⟨i, rfl⟩ := h x List.mem_cons_self
    obtain ⟨is, rfl⟩ := only_l fun k hk => h k (List.mem_cons_of_mem _ hk)
    exact ⟨i :: is, rfl⟩
theorem only_r {α β : Type} : ∀ {l : List (Sum α β)}, (∀ k ∈ l, ∃ i, k = .inr i) → ∃ is : List β, l = is.map .inr
  | [], _ => ⟨[], rfl⟩
  | x :: l, h => by
    obtain ⟨i, rfl⟩ := h x List.mem_cons_self
    obtain ⟨is, rfl⟩ := only_r fun k hk => h k (List.mem_cons_of_mem _ hk)
    exact ⟨i :: is, rfl⟩
theorem key_int {k : Key} {v : Value} (h : keyIs k v = true) (i : Int) (e : k = .inl i) : ∃ t, v = .int i t := by
  subst e
  rcases keyIs_shape h with ⟨j, t, e1, e2⟩ | ⟨x, t, e1, _⟩
  · cases e1; exact ⟨t, e2⟩
  · cases e1
theorem key_str {k : Key} {v : Value} (h : keyIs k v = true) (i : Str) (e : k = .inr i) : ∃ t, v = .str i t := by
  subst e
  rcases keyIs_shape h with ⟨j, t, e1, e2⟩ | ⟨x, t, e1, e2⟩
  · cases e1
  · cases e1; exact ⟨t, e2⟩
theorem keyIs_inj {j k : Key} {v : Value} (a : keyIs j v = true) (b : keyIs k v = true) : j = k := by
  rcases keyIs_shape a with ⟨i, t, rfl, rfl⟩ | ⟨i, t, rfl, rfl⟩ <;> rcases keyIs_shape b with ⟨i', t', rfl, e⟩ | ⟨i', t', rfl, e⟩ <;> cases e <;> rfl
/-- values that are keys -/
theorem keys_of {es : List (Int × Value)} {vs : List Value} (pm : vs.Perm (es.map (·.2))) {ks : List Key} (h : ∀ e ∈ es, ∃ k, keyIs k e.2 = true) (m : ∀ k : Key, k ∈ ks ↔ ∃ e ∈ es, keyIs k e.2 = true) : ∃ ms : List Key, Vals (ms.map kV) vs ∧ ∀ k, k ∈ ms ↔ k ∈ ks := by
  have hv : ∀ v ∈ vs, ∃ k ∈ ks, keyIs k v = true := fun v hv => by
    obtain ⟨e, he, rfl⟩ := List.mem_map.mp (pm.mem_iff.mp hv)
    obtain ⟨k, hk⟩ := h e he
    exact ⟨k, (m k).mpr ⟨e, he, hk⟩, hk⟩
  have back : ∀ k ∈ ks, ∃ v ∈ vs, keyIs k v = true := fun k hk => by
    obtain ⟨e, he, q⟩ := (m k).mp hk
    exact ⟨e.2, pm.mem_iff.mpr (List.mem_map.mpr ⟨e, he, rfl⟩), q⟩
  clear pm h m
  have one : ∃ ms : List Key, Vals (ms.map kV) vs ∧ (∀ k ∈ ms, k ∈ ks) ∧ ∀ v ∈ vs, ∃ k ∈ ms, keyIs k v = true := by
    clear back
    induction vs with
    | nil => exact ⟨[], .nil, (fun _ z => nomatch z), (fun _ z => nomatch z)⟩
    | cons v vs ih =>
      obtain ⟨ms, h1, h2, h3⟩ := ih fun x hx => hv x (List.mem_cons_of_mem _ hx)
      obtain ⟨k, hk, q⟩ := hv v List.mem_cons_self
      refine ⟨k :: ms, .cons ?_ h1, fun x hx => ?_, fun x hx => ?_⟩
      · cases k with
        | inl i => obtain ⟨t, rfl⟩ := key_int q i rfl; exact ⟨t, rfl⟩
        | inr i => obtain ⟨t, rfl⟩ := key_str q i rfl; exact ⟨t, rfl⟩
      · rcases List.mem_cons.mp hx with e | e
        · rw [e]; exact hk
        · exact h2 x e
      · rcases List.mem_cons.mp hx with e | e
        · exact ⟨k, List.mem_cons_self, by rw [e]; exact q⟩
        · obtain ⟨j, j1, j2⟩ := h3 x e
          exact ⟨j, List.mem_cons_of_mem _ j1, j2⟩
  obtain ⟨ms, h1, h2, h3⟩ := one
  refine ⟨ms, h1, fun k => ⟨h2 k, fun hk => ?_⟩⟩
  obtain ⟨v, q1, q2⟩ := back k hk
  obtain ⟨j, j1, j2⟩ := h3 v q1
  have : j = k := keyIs_inj j2 q2
  rw [← this]; exact j1
theorem nodup_map {α β : Type} {f : α → β} {l : List α} (h : (l.map f).Nodup) : l.Nodup := List.Pairwise.of_map f (fun _ _ ne e => ne (congrArg f e)) h
theorem cr_sortedG (calm : X.calm = true) : CallR X (.builtin "sorted") (fun xs H Q => ∃ p ks, xs = [V.ref p] ∧ H p = some (SetGO X.prog X.w p ks) ∧
    ((∃ ns : List Int, ks = ns.map .inl ∧ ∀ ms : List Int, ms.Nodup → (∀ i, i ∈ ms ↔ i ∈ ns) → ms.Pairwise (· ≤ ·) → ∀ q, H q = none → Q (.ref q) (upd H q (.lst (ms.map V.int)))) ∨
      ∃ ts : List Str, ks = ts.map .inr ∧ ∀ ms : List Str, ms.Nodup → (∀ x, x ∈ ms ↔ x ∈ ts) → sortedS ms = true → ∀ q, H q = none → Q (.ref q) (upd H q (.lst (ms.map V.str))))) := by
  intro pins s σ H xs us Q I r h
  obtain ⟨p, ks, rfl, hp, h⟩ := h
  obtain ⟨u, rfl, ru⟩ := vals1 r
  cases ru
  have up : Upto (mixKind X.prog X.w) s.heap p ks ks.length := (I.hok p _ hp).1
  obtain ⟨cs, o, es, ep, t, h1, h2, e1, e2, e3, e4, e5, e6, few, fit, ris, led⟩ := upto_parts up
  refine sort_members (I.ok.hd calm) e1 e2 e3 few fit ris led fun s1 vs k1 k2 k3 k4 pm A' => ?_
  obtain ⟨ms, m1, m2⟩ := keys_of pm e5 e6
  have hlen : ms.length = cs.length := by
    have := m1.length
    rw [List.length_map, pm.length_eq, List.length_map] at this
    have sz : es.toList.length = es.size := Array.length_toList
    omega
  have once : ms.Nodup := (fill_perm h1 (fun k hk => (m2 k).mpr ((h2 k).mp hk)) hlen).nodup_iff.mp h1
  have small : vs.length ≤ sizeLine := by
    rw [pm.length_eq, List.length_map, Array.length_toList]
    exact fits_of_scanBound few
  have new : (s1.heap.push (seqObj "list" vs.toArray 0)).get? s1.heap.objs.size = some (seqObj "list" vs.toArray 0) := Heap.get?_push_size _ rfl
  have free : H s1.heap.objs.size = none := I.hok.fresh k2
  rcases h with ⟨ns, rfl, h⟩ | ⟨ts, rfl, h⟩
  · obtain ⟨is, rfl⟩ : ∃ is : List Int, ms = is.map .inl := only_l fun k hk => by
      obtain ⟨i, _, rfl⟩ := List.mem_map.mp ((m2 k).mp hk)
      exact ⟨i, rfl⟩
    have mem : ∀ i : Int, i ∈ is ↔ i ∈ ns := fun i => by
      have := m2 (.inl i)
      simpa using this
    rw [List.map_map] at m1
    have m1 : Vals (is.map V.int) vs := m1
    refine list_sort_treeAny new m1.ints small fun out ns' a1 a2 a3 => ⟨_, rfl, ?_⟩
    have nd : ns'.Nodup := a2.nodup_iff.mpr (nodup_map once)
    refine ⟨.ref s1.heap.objs.size, _, sorted_inv I k1 k2 k3 k4 (vals_of_ints a1) (by rw [List.length_map, a2.length_eq, ← List.length_map (f := V.int), m1.length]; exact small), rfl, h ns' nd (fun i => a2.mem_iff.trans (mem i)) a3 _ free⟩
  · obtain ⟨is, rfl⟩ : ∃ is : List Str, ms = is.map .inr := only_r fun k hk => by
      obtain ⟨i, _, rfl⟩ := List.mem_map.mp ((m2 k).mp hk)
      exact ⟨i, rfl⟩
    have mem : ∀ i : Str, i ∈ is ↔ i ∈ ts := fun i => by
      have := m2 (.inr i)
      simpa using this
    rw [List.map_map] at m1
    have m1 : Vals (is.map V.str) vs := m1
    refine list_sort_treeKAny strKind_oneLt new m1.strs.keysOf (fun v1 v2 rest e => keyKind_strs (by rw [← e]; exact m1.strs)) small fun st' hp' hs' => ?_
    obtain ⟨ns', a1, a2, a3⟩ := sorted_out_str m1.strs hp' hs'
    have nd : ns'.Nodup := a2.nodup_iff.mpr (nodup_map once)
    refine ⟨_, rfl, .ref s1.heap.objs.size, _, sorted_inv I k1 k2 k3 k4 (vals_of_strs a1) (by rw [List.length_map, a2.length_eq, ← List.length_map (f := V.str), m1.length]; exact small), rfl, h ns' nd (fun i => a2.mem_iff.trans (mem i)) a3 _ free⟩
end
end MP
end

section
set_option Elab.async false
set_option linter.all false
set_option maxRecDepth 100000
set_option maxHeartbeats 1000000
/-! MP: sorted(set(..)) and len(set(..)) as forms. -/
namespace MP
open PySem PySem.Spec PyProof.Rows L2
theorem ints_only : ∀ {l : List D} {ns : List Int}, (∀ x ∈ l, x ∈ ns.map D.int) → ∃ ms : List Int, l = ms.map .int
  | [], _, _ => ⟨[], rfl⟩
  | x :: l, ns, h => by
    obtain ⟨i, _, rfl⟩ := List.mem_map.mp (h x List.mem_cons_self)
    obtain ⟨ms, rfl⟩ := ints_only fun y hy => h y (List.mem_cons_of_mem _ hy)
    exact ⟨i :: ms, rfl⟩
theorem texts_only : ∀ {l : List D} {ns : List Tx}, (∀ x ∈ l, x ∈ ns.map D.str) → ∃ ms : List Tx, l = ms.map .str
  | [], _, _ => ⟨[], rfl⟩
  | x :: l, ns, h => by
    obtain ⟨i, _, rfl⟩ := List.mem_map.mp (h x List.mem_cons_self)
    obtain ⟨ms, rfl⟩ := texts_only fun y hy => h y (List.mem_cons_of_mem _ hy)
    exact ⟨i :: ms, rfl⟩
theorem dedup_ints (ns : List Int) : ∃ ms : List Int, dedup (ns.map .int) = ms.map .int ∧ ms.Nodup ∧ ∀ i, i ∈ ms ↔ i ∈ ns := by
  obtain ⟨ms, e⟩ := ints_only (l := dedup (ns.map .int)) (ns := ns) fun x hx => dedup_mem.mp hx
  refine ⟨ms, e, ?_, fun i => ?_⟩
  · have := dedup_nodup (ns.map .int)
    rw [e] at this
    exact nodup_map this
  · have := dedup_mem (l := ns.map .int) (x := .int i)
    rw [e] at this
    simpa using this
theorem dedup_texts (ns : List Tx) : ∃ ms : List Tx, dedup (ns.map .str) = ms.map .str ∧ ms.Nodup ∧ ∀ i, i ∈ ms ↔ i ∈ ns := by
  obtain ⟨ms, e⟩ := texts_only (l := dedup (ns.map .str)) (ns := ns) fun x hx => dedup_mem.mp hx
  refine ⟨ms, e, ?_, fun i => ?_⟩
  · have := dedup_nodup (ns.map .str)
    rw [e] at this
    exact nodup_map this
  · have := dedup_mem (l := ns.map .str) (x := .str i)
    rw [e] at this
    simpa using this
theorem nodup_inj {α β : Type} {f : α → β} (hf : ∀ a b, f a = f b → a = b) : ∀ {l : List α}, l.Nodup → (l.map f).Nodup
  | [], _ => List.nodup_nil
  | x :: l, h => by
    obtain ⟨h1, h2⟩ := List.nodup_cons.mp h
    rw [List.map_cons]
    refine List.nodup_cons.mpr ⟨fun z => ?_, nodup_inj hf h2⟩
    obtain ⟨y, hy, e⟩ := List.mem_map.mp z
    exact h1 (by rw [← hf _ _ e]; exact hy)
section
variable {g : GC} {fr : Bool} {W : WX} {X : Cx} {Φ : Phi} {e : Expr} {ea : E} {p p2 pos pos2 : Pos}
theorem inr_sOf (a b : Tx) (h : (Sum.inr (sOf a) : Key) = Sum.inr (sOf b)) : a = b := sOf_inj (Sum.inr.inj h)
theorem set_args {θ : Th} {H : Hp} {xs : List D} {vs : List V} (r : RepL g θ H xs vs) (h : flatKeys xs = true) : ∃ ks : List Key, vs = ks.map kV ∧ ks.length = xs.length ∧
    ((∃ ns : List Int, xs = ns.map .int ∧ ks = ns.map .inl) ∨ ∃ ts : List Tx, xs = ts.map .str ∧ ks = ts.map fun t => .inr (sOf t)) := by
  unfold flatKeys at h
  cases hi : intsOf xs with
  | some ns =>
    have e := intsOf_is hi
    have ev := ints_rep r hi
    refine ⟨ns.map .inl, by rw [ev, List.map_map]; rfl, by rw [e]; simp, .inl ⟨ns, e, rfl⟩⟩
  | none =>
    cases ht : texts xs with
    | none => rw [hi, ht] at h; cases h
    | some ts =>
      have e := texts_is ht
      have ev := texts_rep r ht
      refine ⟨ts.map fun t => .inr (sOf t), by rw [ev, List.map_map, List.map_map]; rfl, by rw [e]; simp, .inr ⟨ts, e, rfl⟩⟩
theorem small_scan {n : Nat} (h : n < 4000) : n + 1 < scanBound := by
  show n + 1 < 4096
  omega
theorem sE_sortset (xg : Xg g X) (g1 : Gl X "sorted") (m1 : X.mg "sorted" = none) (g2 : Gl X "set") (m2 : X.mg "set" = none) (hp : plainE e = true) (ha : PE X e (tE g false W (ev Φ ea))) :
    PE X (.Call (.Name "sorted" p) [.Call (.Name "set" p2) [e] [] pos2] [] pos) (tE g fr W (ev Φ (.o1 .sortset ea))) :=
  PE.imp (pe_callB (cr_sortedG xg.calm) g1 m1 boot_sorted (pa_cons (pe_callTy (cr_setG xg.calm) g2 m2 boot_set (pa_cons ha pa_nil (star_plain hp)) (by decide) (by decide) (star_plain hp) rfl) pa_nil rfl) (by decide) (by decide) rfl rfl) fun σ H Q h => by
    refine tE_imp (fun v H1 q => ?_) (one (m := ev Φ ea) (f := fun x st => f1 .sortset x st) h)
    obtain ⟨θ, st, d, s, rd, h⟩ := q
    simp only [f1] at h
    obtain ⟨d', e1, h⟩ := h.of
    cases hl : lsq st d with
    | none => rw [hl] at e1; cases e1
    | some xs =>
      rw [hl] at e1
      simp only [Option.bind] at e1
      split at e1
      · rename_i hz
        rw [Bool.and_eq_true, decide_eq_true_eq] at hz
        cases e1
        obtain ⟨l, vs, rfl, hH, rr⟩ := lsq_rep s rd hl
        obtain ⟨ks, rfl, hlen, hk⟩ := set_args rr hz.2
        refine ⟨l, ks, rfl, .inl (.inl hH), small_scan (by rw [hlen]; exact hz.1), fun q hq => ⟨q, ks, rfl, upd_same, ?_⟩⟩
        have h2 := Aft.shift h (ext_new (u := SetGO X.prog X.w q ks) hq)
        have s2 := s.new (u := SetGO X.prog X.w q ks) hq
        rcases hk with ⟨ns, rfl, rfl⟩ | ⟨ts, rfl, rfl⟩
        · refine .inl ⟨ns, rfl, fun ms nd mem srt q' hq' => ?_⟩
          obtain ⟨ds, e1, e2, e3⟩ := dedup_ints ns
          have e4 : ms.map D.int = sortL (dedup (ns.map .int)) := by
            rw [e1]
            exact ints_sorted (once_perm nd e2 fun i => (mem i).trans (e3 i).symm) srt
          rw [← e4] at h2
          exact h2.lst s2 (ints_repL ms) hq'
        · refine .inr ⟨ts.map sOf, by rw [List.map_map]; rfl, fun ms nd mem srt q' hq' => ?_⟩
          obtain ⟨ds, e1, e2, e3⟩ := dedup_texts ts
          have pm : ms.Perm (ds.map sOf) := once_perm nd (nodup_inj (fun a b => sOf_inj) e2) fun x => (mem x).trans (by
            constructor
            · intro z
              obtain ⟨y, hy, rfl⟩ := List.mem_map.mp z
              exact List.mem_map.mpr ⟨y, (e3 y).mpr hy, rfl⟩
            · intro z
              obtain ⟨y, hy, rfl⟩ := List.mem_map.mp z
              exact List.mem_map.mpr ⟨y, (e3 y).mp hy, rfl⟩)
          obtain ⟨ws, rfl, e4⟩ := texts_sorted pm srt
          rw [← e1] at e4
          rw [← e4] at h2
          exact h2.lst s2 (strs_repL ws) hq'
      · cases e1
theorem sE_lenset (xg : Xg g X) (g1 : Gl X "len") (m1 : X.mg "len" = none) (g2 : Gl X "set") (m2 : X.mg "set" = none) (hp : plainE e = true) (ha : PE X e (tE g false W (ev Φ ea))) :
    PE X (.Call (.Name "len" p) [.Call (.Name "set" p2) [e] [] pos2] [] pos) (tE g fr W (ev Φ (.o1 .lenset ea))) :=
  PE.imp (pe_callB cr_lenG g1 m1 boot_len (pa_cons (pe_callTy (cr_setG xg.calm) g2 m2 boot_set (pa_cons ha pa_nil (star_plain hp)) (by decide) (by decide) (star_plain hp) rfl) pa_nil rfl) (by decide) (by decide) rfl rfl) fun σ H Q h => by
    refine tE_imp (fun v H1 q => ?_) (one (m := ev Φ ea) (f := fun x st => f1 .lenset x st) h)
    obtain ⟨θ, st, d, s, rd, h⟩ := q
    simp only [f1] at h
    obtain ⟨d', e1, h⟩ := h.of
    cases hl : lsq st d with
    | none => rw [hl] at e1; cases e1
    | some xs =>
      rw [hl] at e1
      simp only [Option.bind] at e1
      split at e1
      · rename_i hz
        rw [Bool.and_eq_true, decide_eq_true_eq] at hz
        cases e1
        obtain ⟨l, vs, rfl, hH, rr⟩ := lsq_rep s rd hl
        obtain ⟨ks, rfl, hlen, hk⟩ := set_args rr hz.2
        refine ⟨l, ks, rfl, .inl (.inl hH), small_scan (by rw [hlen]; exact hz.1), fun q hq => ⟨q, ks, rfl, upd_same, fun us nd mem => ?_⟩⟩
        have h2 := Aft.shift h (ext_new (u := SetGO X.prog X.w q ks) hq)
        have s2 := s.new (u := SetGO X.prog X.w q ks) hq
        have e4 : us.length = (dedup xs).length := by
          rcases hk with ⟨ns, rfl, rfl⟩ | ⟨ts, rfl, rfl⟩
          · obtain ⟨ds, e1, e2, e3⟩ := dedup_ints ns
            rw [e1, List.length_map, ← List.length_map (f := (Sum.inl : Int → Key))]
            refine (once_perm nd (nodup_inj (fun a b => Sum.inl.inj) e2) fun x => (mem x).trans ?_).length_eq
            constructor
            · intro z
              obtain ⟨y, hy, rfl⟩ := List.mem_map.mp z
              exact List.mem_map.mpr ⟨y, (e3 y).mpr hy, rfl⟩
            · intro z
              obtain ⟨y, hy, rfl⟩ := List.mem_map.mp z
              exact List.mem_map.mpr ⟨y, (e3 y).mp hy, rfl⟩
          · obtain ⟨ds, e1, e2, e3⟩ := dedup_texts ts
            rw [e1, List.length_map, ← List.length_map (f := fun t => (Sum.inr (sOf t) : Key))]
            refine (once_perm nd (nodup_inj inr_sOf e2) fun x => (mem x).trans ?_).length_eq
            constructor
            · intro z
              obtain ⟨y, hy, rfl⟩ := List.mem_map.mp z
              exact List.mem_map.mpr ⟨y, (e3 y).mpr hy, rfl⟩
            · intro z
              obtain ⟨y, hy, rfl⟩ := List.mem_map.mp z
              exact List.mem_map.mpr ⟨y, (e3 y).mp hy, rfl⟩
        have h3 : Aft g fr θ (upd H1 q (SetGO X.prog X.w q ks)) (W0 W) Q (R.ok (.int (us.length : Nat)) st) := by
          rw [e4]
          exact h2
        exact h3.scal int_ne s2 (.int _)
      · cases e1
end
end MP
end

section
set_option Elab.async false
set_option linter.all false
set_option maxRecDepth 100000
set_option maxHeartbeats 1000000
/-! MP: enumerate, dict comprehensions, d.get, sorted(dict), constants of the module, raise that is not come to. -/
namespace MP
open PySem PySem.Spec PyProof.Rows L2
theorem enumL_get {i : Nat} {d : D} : ∀ {xs : List D} {n : Nat}, (enumL n xs)[i]? = some d → ∃ x, xs[i]? = some x ∧ d = .tup [.int (n + i : Nat), x] := by
  induction i with
  | zero =>
    intro xs n h
    cases xs with
    | nil => simp [enumL] at h
    | cons x r =>
      simp only [enumL, List.getElem?_cons_zero, Option.some.injEq] at h
      exact ⟨x, rfl, h.symm⟩
  | succ i ih =>
    intro xs n h
    cases xs with
    | nil => simp [enumL] at h
    | cons x r =>
      simp only [enumL, List.getElem?_cons_succ] at h
      obtain ⟨y, h1, h2⟩ := ih h
      refine ⟨y, h1, ?_⟩
      rw [h2, show n + 1 + i = n + (i + 1) by omega]
theorem enumL_len : ∀ (xs : List D) (n : Nat), (enumL n xs).length = xs.length
  | [], _ => rfl
  | x :: r, n => by rw [enumL, List.length_cons, List.length_cons, enumL_len r]
section
variable {g : GC} {fr : Bool} {W : WX} {X : Cx} {Φ : Phi} {a b c e o tg iter kx vx : Expr} {ifs : List Expr} {scope : Scope} {own : List (Str × Nat)} {es elts : List Expr} {ea eb ec ei ke ve el : E} {t : T} {kk : Nat} {pos p p2 p3 apos cpos tpos : Pos} {x name : Str}
theorem feed_enum {θ : Th} {H : Hp} {gd : Sto → Bool} {xs : List D} {a : Addr} {K : PySem.W.Frag} (h : ∀ (θ1 : Th) (H1 : Hp), Mv θ θ1 H H1 → ∃ vs, SqL K H1 a vs ∧ RepL g θ1 H1 xs vs) : Feed g θ H gd (enumL 0 xs) (Ite K a) := by
  intro θ1 H1 s m so hg
  obtain ⟨vs, h1, h2⟩ := h θ1 H1 m
  refine ⟨fun i d e => ?_, ⟨vs, h1, by rw [enumL_len, h2.length]; exact Nat.le_refl _⟩⟩
  obtain ⟨x, e0, rfl⟩ := enumL_get e
  obtain ⟨v, e1, r1⟩ := h2.get e0
  refine ⟨⟨vs, v, h1, e1⟩, fun y H2 hy => ?_⟩
  obtain ⟨T, x', rfl, hT, rfl, hy⟩ := hy
  have := hy vs h1
  rw [e1] at this
  cases this
  rw [Nat.zero_add]
  exact ⟨ext_new hT, so.new hT, .tup (.inl ⟨.inl upd_same, so.fresh hT⟩) (.cons (.int _) (.cons (Rep.mono (ext_new hT) _ _ r1) .nil))⟩
theorem tI_enum {σ : L2.St} {H : Hp} {R' : It → Hp → Prop} (h : tI g W (ev Φ (.enum ea)) σ H R') :
    tE g false W (ev Φ ea) σ H fun x H1 => ∃ a vs, x = .ref a ∧ SqL g.K H1 a vs ∧ R' (Ite g.K a) H1 := by
  obtain ⟨θ, st, ρ, s, en, l, h⟩ := h
  simp only [ev] at h
  refine ⟨θ, st, ρ, s, en, l, ?_⟩
  cases qa : ev Φ ea ρ st with
  | exc y st1 => rw [qa] at h; exact h
  | no => rw [qa] at h; exact h
  | ok d st1 =>
    rw [qa] at h
    simp only [R.bind] at h
    refine ⟨(fun z => nomatch z), fun θ1 H1 x x1 s1 r1 => ?_⟩
    cases d with
    | lst ys =>
      obtain ⟨zs, e, h⟩ := h
      cases e
      cases r1 with
      | lst h1 h2 => exact ⟨_, _, rfl, h1.to, h θ1 H1 _ x1 s1 (feed_enum fun θ2 H2 m => ⟨_, .inl (.inl (m.keep _ _ h1.2 h1.1).1), RepL.to m _ _ h2⟩)⟩
    | _ => exact h.elim
theorem sI_enum (xg : Xg g X) (hg : Gl X "enumerate") (hm : X.mg "enumerate" = none) (hp : plainE a = true) (ha : PE X a (tE g false W (ev Φ ea))) : PI X (.Tuple elts kk tpos) (.Call (.Name "enumerate" p) [a] [] pos) (tI g W (ev Φ (.enum ea))) :=
  PI.imp (pi_enum hg hm (pa_cons ha pa_nil (star_plain hp)) (star_plain hp)) fun σ H R' h => by
    refine tE_imp (fun x H1 q => ?_) (tI_enum h)
    obtain ⟨a, vs, rfl, h1, q⟩ := q
    exact ⟨a, vs, rfl, by rw [xg.hK]; exact h1, by rw [xg.hK]; exact q⟩
/-! ### d.get(k) -/
theorem sE_get (xg : Xg g X) (hbase : attributeBase o "get" X.env (eval o X.env) = eval o X.env) (hline : (apos.endLine == cpos.line) = true) (hp : plainE b = true) (ho : PE X o (tE g false W (ev Φ ea))) (hb : PE X b (tE g false W (ev Φ eb))) :
    PE X (.Call (.Attribute o "get" apos) [b] [] cpos) (tE g false W (ev Φ (.m2 .dic .get ea eb))) :=
  PE.imp (pe_dget1 xg.hu1 ho hb ⟨hbase, by rw [plain_few (by rw [List.all_cons, hp]; rfl)]; rfl, hline, by rw [star_plain hp]; rfl⟩) fun σ H Q h => by
    obtain ⟨θ, st, ρ, s, en, l, h⟩ := h
    simp only [ev] at h
    refine ⟨θ, st, ρ, s, en, l, ?_⟩
    cases qa : ev Φ ea ρ st with
    | exc y st1 => rw [qa] at h; exact h
    | no => rw [qa] at h; exact h
    | ok d st1 =>
      rw [qa] at h
      simp only [R.bind] at h
      split at h
      · rename_i hty
        refine ⟨(fun z => nomatch z), fun θ1 H1 x x1 s1 r1 => ?_⟩
        have hd : ∃ ks vs, dict? st1 d = some (ks, vs) := by
          cases d with
          | dic ks vs => exact ⟨ks, vs, rfl⟩
          | ref n =>
            simp only [isTy] at hty
            cases e1 : st1[n]? with
            | none => rw [e1] at hty; cases hty
            | some u =>
              rw [e1] at hty
              cases u with
              | dic ks vs => exact ⟨ks, vs, by simp [dict?, e1]⟩
              | _ => cases hty
          | _ => cases hty
        obtain ⟨ks, vs, hd⟩ := hd
        obtain ⟨a, kvs, rfl, hrd, _, _⟩ := dict_rep s1 r1 hd
        refine ⟨a, rfl, .inl ⟨kvs, hrd⟩, θ1, st1, ρ, s1, en.mono x1, l, ?_⟩
        cases qb : ev Φ eb ρ st1 with
        | exc y st2 => rw [qb] at h; exact fun θ2 H2 c dx x2 => h θ2 H2 c dx (x1.trans x2)
        | no => rw [qb] at h; exact h
        | ok k st2 =>
          rw [qb] at h
          simp only [f2] at h
          refine ⟨(fun z => nomatch z), fun θ2 H2 y x2 s2 r2 => ?_⟩
          cases hd2 : dict? st2 d with
          | none => rw [hd2] at h; exact h.elim
          | some q =>
            obtain ⟨ks2, vs2⟩ := q
            rw [hd2] at h
            simp only at h
            split at h
            · rename_i hk
              obtain ⟨a2, kvs2, e2, hrd2, hk2, hv2⟩ := dict_rep s2 (Rep.mono x2 _ _ r1) hd2
              cases e2
              obtain ⟨w, dg, hw⟩ := dget_of (st := st2) r2 hk hrd2 hk2 hv2
              refine ⟨w, dg, ?_⟩
              split at hw
              · rename_i e3
                obtain ⟨v, rfl, rv⟩ := hw
                rw [e3] at h
                exact h.2 θ2 H2 v (x1.trans x2) s2 rv
              · rename_i e3
                subst hw
                rw [e3] at h
                exact h.2 θ2 H2 .non (x1.trans x2) s2 .non
            · exact h.elim
      · exact h.elim
/-! ### sorted(dict) -/
theorem c1_sortdic {WK0 : WK} (xg : Xg g X) : CallR X (.builtin "sorted") (rC1 g fr WK0 .sortdic) := by
  intro pins s σ H vs us Q I rv h
  obtain ⟨v, rfl, θ, st, d, so, rd, h⟩ := h
  simp only [f1] at h
  obtain ⟨d', e, h⟩ := h.of
  cases hl : dict? st d with
  | none => rw [hl] at e; cases e
  | some q =>
    obtain ⟨ks, ds⟩ := q
    rw [hl] at e
    obtain ⟨a, kvs, rfl, hrd, hk, _⟩ := dict_rep so rd hl
    simp only [Option.bind] at e
    split at e
    · rename_i hz
      cases e
      rw [Bool.and_eq_true, decide_eq_true_eq] at hz
      obtain ⟨ns, hi⟩ := Option.isSome_iff_exists.mp hz.2
      have hks := intsOf_is hi
      have hkk : kvs.map (·.1) = ns.map Sum.inl := by
        have h1 : (kvs.map (·.1)).map some = (ns.map (Sum.inl : Int → Key)).map some := by
          rw [List.map_map, List.map_map]
          show kvs.map (fun p => some p.1) = _
          rw [← hk, hks, List.map_map]
          rfl
        exact List.map_inj_right (fun a b z => Option.some.inj z) |>.mp h1
      have hln : ns.length < 64 := by
        have := congrArg List.length hks
        rw [List.length_map] at this
        omega
      refine call_sortedDI xg.calm pins s σ H _ us Q I rv ⟨a, kvs, ns, rfl, hrd, hkk, hln, fun ms p pm sm hp => ?_⟩
      have e := ints_sorted pm sm
      rw [← hks] at e
      rw [← e] at h
      exact h.lst so (ints_repL ms) hp
    · cases e
/-! ### constants of the module -/
theorem sE_glob {s : Tx} (hdb : (x == ("__debug__" : Str)) = false) (hg : Gl X x) (hm : ∃ tk, X.mg x = some (.str (sOf s) tk)) : PE X (.Name x pos) (tE g false W (ev Φ (.c (.str s)))) := by
  obtain ⟨tk, hm⟩ := hm
  refine PE.imp (pe_glob (v := .str (sOf s)) hg hm ⟨tk, rfl⟩ (hd := hdb)) fun σ H Q h => ?_
  obtain ⟨θ, st, ρ, so, en, l, h⟩ := h
  exact Aft.val h so (.str s)
/-! ### a raise that is not come to -/
theorem sS_stuck {s : Stmt} : PS X s (tS g W (exS Φ .stuck)) := ⟨fun pins s σ H D I h => by
  obtain ⟨θ, st, ρ, so, en, l, h⟩ := h
  exact h.elim⟩
/-! ### dict comprehensions -/
theorem putK_le (kvs : List (Key × V)) (k : Key) (v : V) : (L2.putK kvs k v).length ≤ kvs.length + 1 := by
  unfold L2.putK
  split
  · rw [List.length_map]; omega
  · rw [List.length_append, List.length_singleton]; omega
/-- name = {..} on one line, the name a local -/
theorem ps_setDc {i : Nat} {y : Str} {py spos : Pos} {wi : TI} {g : TG} {tt : TT} {tk tv : TE} (hc : X.calm = true) (hN : X.N.Nodup) (hy : X.N[i]? = some y) (hyl : X.env.scope.names.lookup y = some .local)
    (hsw : swapsWith (.DictComp kx vx [⟨tg, iter, ifs, 0⟩] scope pos) (some (.Name y py)) spos.line X.env = pure true) (hi : PI X tg iter wi) (ok : BlkOk X.N X.env.scope scope own)
    (hg : ∀ (s : Shared) (H : Hp) (C : Addr) (cl : List (Str × Addr)) (fp : List Addr), PG (X.blk s H scope (compEnvC scope cl C X.env) fp) tg g) (ht : ∀ (s : Shared) (H : Hp) (C : Addr) (cl : List (Str × Addr)) (fp : List Addr), PTs (X.blk s H scope (compEnvC scope cl C X.env) fp) ifs tt)
    (hk : ∀ (s : Shared) (H : Hp) (C : Addr) (cl : List (Str × Addr)) (fp : List Addr), PE (X.blk s H scope (compEnvC scope cl C X.env) fp) kx tk)
    (he : ∀ (s : Shared) (H : Hp) (C : Addr) (cl : List (Str × Addr)) (fp : List Addr), PE (X.blk s H scope (compEnvC scope cl C X.env) fp) vx tv) (hs : ∀ x, foldedSetIterable iter X.env x = pure x) :
    PS X (.Assign [.Name y py] (.DictComp kx vx [⟨tg, iter, ifs, 0⟩] scope pos) spos) (tAsg (tDc wi g tt tk tv (own.map (·.2))) (gName i)) := by
  refine ⟨fun pins s σ H D I h => ?_⟩
  rw [exec_Assign_Name_used _ _ _ _ hsw]
  refine wpAny_bind (wpAny_standAt (wpAny_bind ?_))
  show wpAny _ X.A (do let _ ← comprehension (.DictComp kx vx [⟨tg, iter, ifs, 0⟩] scope pos) scope X.env (firstIterPos [⟨tg, iter, ifs, 0⟩] pos) newDict false (eval iter X.env) (some (assign (.Name y py) X.env))) _ _ s
  have h : tDc wi g tt tk tv (own.map (·.2)) σ H (fun x H1 => gName i x σ H1 D.nx) := h
  refine wpAny_bind (thn (dc_core (Qf := fun _ s' => SP X pins D .next s') hc hN I hi ok hg ht hk he hs h fun L C s' m H' I' q hn f => ?_) fun _ s' hq => wpAny_pure (wpAny_pure hq))
  show wpAny _ _ (assign (.Name y py) X.env (.ref L)) _ _ _
  refine wpAny_assign_Name (store_ok2 (v := V.ref L) I' hN hy (.inl hyl) rfl (fun s2 I2 ⟨a, sb, ha⟩ => ?_) (.inr hyl))
  obtain ⟨f0, f1, f2, f3, f4, f5⟩ := f
  have haC : C ≠ a := by
    rcases ha with z | z
    · rw [z]; exact f1
    · exact fun e => f4 y a z e.symm
  refine ⟨m, hn.sameBut sb haC, fun h3 sb3 => ?_⟩
  exact ⟨_, H', I2.turned (t' := s2.toks) (fun b o hb e => (sb3.2 b hb).trans e) f0 f1 f3 f4 f5, q⟩
theorem dc_t (hown : own.map (·.2) = t.slots) {σ : L2.St} {H : Hp} {Q : VK} (h : tE g false W (ev Φ (.dcomp t ei ec ke ve)) σ H Q) : tDc (tI g W (ev Φ ei)) (tG g t) (tB g WF (tst Φ ec)) (tE g false WF (ev Φ ke)) (tE g false WF (ev Φ ve)) (own.map (·.2)) σ H Q := by
  obtain ⟨θ, st, ρ, s, en, l, h⟩ := h
  simp only [ev] at h
  refine ⟨θ, st, ρ, s, en, l, ?_⟩
  cases qi : ev Φ ei ρ st with
  | exc y st1 => rw [qi] at h; exact h
  | no => rw [qi] at h; exact h.elim
  | ok d st1 =>
    rw [qi] at h
    simp only [R.bind] at h
    cases hx : items st1 d with
    | none => rw [hx] at h; exact h.elim
    | some xs =>
      rw [hx] at h
      simp only at h
      refine ⟨xs, hx, fun θ0 H0 J x0 s0 feed D hD => ?_⟩
      generalize hB : lcB t (wipeE ρ t.slots) (fun ρ st => (ev Φ ec ρ st).bind fun x st1 => R.of st1 (truth st1 x)) (fun ρ st => (ev Φ ke ρ st).bind fun k st1 => (ev Φ ve ρ st1).bind fun v st2 => R.ok (MP.D.tup [k, v]) st2) = bd at h
      rcases lcL_or (gdOf d st1) bd xs st1 with ⟨zs, stf, e⟩ | e
      · rw [e] at h
        simp only at h
        cases hmk : mkD zs [] [] with
        | none => rw [hmk] at h; exact h.elim
        | some q =>
        obtain ⟨ksF, vsF⟩ := q
        rw [hmk] at h
        simp only at h
        split at h
        · rename_i hz
          let Pv : Nat → Hp → Prop := fun i Hc => ∃ θc stc Ec kvs ks vs ys, StoOk g θc Ec stc ∧ Ec D = none ∧ Ext θ0 θc H0 Ec ∧ Hc = upd Ec D (.dK kvs) ∧ ks.map keyOf = kvs.map (fun p => some p.1) ∧ RepL g θc Ec vs (kvs.map (·.2)) ∧ lcL (gdOf d st1) bd (xs.drop i) stc = .ok ys stf ∧ mkD ys ks vs = some (ksF, vsF) ∧ kvs.length + ys.length ≤ zs.length
          refine ⟨fun i m Hc => m = xs.length - i ∧ i ≤ xs.length ∧ Pv i Hc, ⟨xs.length, by simp, Nat.zero_le _, θ0, st1, H0, [], [], [], zs, s0, hD, .refl, rfl, rfl, .nil, e, hmk, by simp⟩, ?_⟩
          rintro i m Hc ⟨rfl, hi, θc, stc, Ec, kvs, ks, vs, ys, sc, hEc, xc, rfl, hkk, ra, el, hmy, hle⟩
          have sh := sc.hide (u := .dK kvs) hEc
          have mv0 : Mv θc (θc.hide D) Ec (upd Ec D (.dK kvs)) := (Mv.hide hEc).trans (ext_new hEc).mv
          have mv : Mv θ0 (θc.hide D) H0 (upd Ec D (.dK kvs)) := xc.mv.trans mv0
          by_cases hlt : i < xs.length
          · right
            rw [List.drop_eq_getElem_cons hlt] at el
            obtain ⟨hgd, y1, st2, ws, e1, e2, rfl⟩ := lcL_cons el
            obtain ⟨fd, _⟩ := feed _ _ _ mv sh hgd
            obtain ⟨hgo, hy⟩ := fd i xs[i] (List.getElem?_eq_getElem hlt)
            refine ⟨hgo, Pv (i + 1), fun H' p => ⟨xs.length - (i + 1), by omega, rfl, hlt, p⟩, fun x H2 hyl => ?_⟩
            obtain ⟨x2, s2, r2⟩ := hy x H2 hyl
            rw [← hB] at e1
            obtain ⟨ρ', b, st3, eb, ec', hb⟩ := lcB_ok e1
            rw [hown]
            have en2 : EnvOk g (θc.hide D) H2 (wipeE ρ t.slots) (wipe σ t.slots) := (((en.mono x0).to mv).mono x2).wipe _
            refine ⟨θc.hide D, stc, wipeE ρ t.slots, xs[i], ρ', s2, en2, by rw [wipeE_length, wipe_length]; exact l, r2, eb, fun σ' en' l' hl' hs' => ?_⟩
            refine ⟨(wipe_in hl' hs').trans (wipe_wipe _ _), θc.hide D, stc, ρ', s2, en', l', ?_⟩
            rw [show tst Φ ec ρ' stc = .ok b st3 from ec']
            intro θ3 H3 x3 s3
            have en3 := en'.mono x3
            rcases hb with ⟨rfl, yv, ey, rfl⟩ | ⟨rfl, rfl, rfl⟩
            · rw [if_pos rfl]
              obtain ⟨kd, st4, ek, ey⟩ := R.bind_ok ey
              obtain ⟨vd, st5, ev', ey⟩ := R.bind_ok ey
              cases ey
              rw [List.singleton_append, mkD] at hmy
              split at hmy
              · rename_i hky
                refine ⟨θ3, st3, ρ', s3, en3, l', ?_⟩
                rw [ek]
                refine ⟨(fun z => nomatch z), fun θ4 H4 kv x4 s4 r4 => ⟨θ4, st4, ρ', s4, en3.mono x4, l', ?_⟩⟩
                rw [ev']
                refine ⟨(fun z => nomatch z), fun θ6 H6 v x6 s6 r6 => ?_⟩
                obtain ⟨q, hq, rfl⟩ := key_rep r4 hky
                obtain ⟨θ5, rfl, x5, hD5, hid⟩ := (((x2.trans x3).trans x4).trans x6).era hEc sc
                have s5 := s6.era hid
                have r5 : Rep g θ5 (era H6 D) vd v := Rep.to .era _ _ r6
                have ra5 := RepL.mono x5 _ _ ra
                rw [List.length_append, List.length_singleton] at hle
                refine ⟨kvs, q, rfl, hD5, by omega, θ5, _, era H6 D, L2.putK kvs q v, MP.putK kd ks, MP.putV kd vd ks vs, ws, s5, era_same, xc.trans x5, ?_, put_keys hq hkk, put_vals hq r5 hkk ra5, e2, hmy, ?_⟩
                · funext z'
                  by_cases z : z' = D
                  · rw [z, upd_same, upd_same]
                  · rw [upd_ne z, upd_ne z, era_ne z]
                · have := putK_le kvs q v
                  omega
              · cases hmy
            · rw [if_neg Bool.false_ne_true]
              obtain ⟨θ5, rfl, x5, hD5, hid⟩ := (x2.trans x3).era hEc sc
              rw [List.nil_append] at hmy hle
              exact ⟨θ5, _, era H3 D, kvs, ks, vs, ws, s3.era hid, era_same, xc.trans x5, (era_upd hD5).symm, hkk, RepL.mono x5 _ _ ra, e2, hmy, hle⟩
          · have hn : i = xs.length := by omega
            subst hn
            left
            rw [List.drop_length] at el
            obtain ⟨hgd, rfl, rfl⟩ := lcL_nil el
            obtain ⟨_, stop⟩ := feed _ _ _ mv sh hgd
            rw [mkD] at hmy
            cases hmy
            exact ⟨stop, h.2 (θc.add D) _ (.ref D) ((x0.trans xc).trans (ext_add hEc)) (sc.add hEc (.dic upd_same hkk (RepL.mono (ext_add hEc) _ _ ra))) (.ref (sc.last D))⟩
        · exact h.elim
      · rw [e] at h; exact h.elim
theorem sE_dcomp (xx : XX g W X) (hi : PI X tg iter (tI g W (ev Φ ei))) (ok : BlkOk X.N X.env.scope scope own) (hown : own.map (·.2) = t.slots)
    (hg : ∀ (s : Shared) (H : Hp) (C : Addr) (cl : List (Str × Addr)) (fp : List Addr), PG (X.blk s H scope (compEnvC scope cl C X.env) fp) tg (tG g t))
    (ht : ∀ (s : Shared) (H : Hp) (C : Addr) (cl : List (Str × Addr)) (fp : List Addr), PTs (X.blk s H scope (compEnvC scope cl C X.env) fp) ifs (tB g WF (tst Φ ec)))
    (hk : ∀ (s : Shared) (H : Hp) (C : Addr) (cl : List (Str × Addr)) (fp : List Addr), PE (X.blk s H scope (compEnvC scope cl C X.env) fp) kx (tE g false WF (ev Φ ke)))
    (he : ∀ (s : Shared) (H : Hp) (C : Addr) (cl : List (Str × Addr)) (fp : List Addr), PE (X.blk s H scope (compEnvC scope cl C X.env) fp) vx (tE g false WF (ev Φ ve))) (hs : ∀ x, foldedSetIterable iter X.env x = pure x) :
    PE X (.DictComp kx vx [⟨tg, iter, ifs, 0⟩] scope pos) (tE g false W (ev Φ (.dcomp t ei ec ke ve))) :=
  PE.imp (pe_dc xx.calm xx.nd hi ok hg ht hk he hs) fun σ H Q h => dc_t hown h
end
end MP
end

section
set_option Elab.async false
set_option linter.all false
set_option maxRecDepth 100000
/-! MP: from the text's syntax to the language. -/
namespace MP
open PySem PySem.Spec PyProof.Rows L2
/-- a function as it is called: its parameters; the calls' patterns (places, keywords, order, defaults) -/
structure Fi where
  id : Nat
  ps : List Str
  cs : List (Nat × List Str × List Nat × List D)
structure Cc where
  N : List Str
  sc : Scope
  fn : List Str
  fns : List (Str × Fi)
  bl : List Str
  nw : List (Nat × Nat)
  gc : List (Str × Tx)

def ixOf (N : List Str) (x : Str) : Option Nat := N.findIdx? fun y => decide (y = x)
theorem ixOf_get {N : List Str} {x : Str} {i : Nat} (h : ixOf N x = some i) : N[i]? = some x := by
  unfold ixOf at h
  obtain ⟨hi, h1, _⟩ := List.findIdx?_eq_some_iff_getElem.mp h
  rw [List.getElem?_eq_getElem hi]
  exact congrArg some (of_decide_eq_true h1)
def visC (sc : Scope) (x : Str) : Bool := match sc.names.lookup x with
  | some .local => true
  | some .cell => true
  | some .free => true
  | _ => false
def locC (sc : Scope) (x : Str) : Bool := match sc.names.lookup x with
  | some .local => true
  | some .cell => true
  | _ => false
def onlyC (sc : Scope) (x : Str) : Bool := match sc.names.lookup x with
  | some .local => true
  | _ => false
def glC (sc : Scope) (x : Str) : Bool := match sc.names.lookup x with
  | some .globalImplicit => true
  | _ => false
theorem visC_ok {sc : Scope} {x : Str} (h : visC sc x = true) : Vis sc x := by
  unfold visC at h
  split at h <;> first | cases h | skip
  · exact .inl (by assumption)
  · exact .inr (.inl (by assumption))
  · exact .inr (.inr (by assumption))
theorem locC_ok {sc : Scope} {x : Str} (h : locC sc x = true) : Loc sc x := by
  unfold locC at h
  split at h <;> first | cases h | skip
  · exact .inl (by assumption)
  · exact .inr (by assumption)
theorem onlyC_ok {sc : Scope} {x : Str} (h : onlyC sc x = true) : sc.names.lookup x = some .local := by
  unfold onlyC at h
  split at h <;> first | assumption | cases h
theorem glC_ok {sc : Scope} {x : Str} (h : glC sc x = true) : sc.names.lookup x = some .globalImplicit := by
  unfold glC at h
  split at h <;> first | assumption | cases h
def nameOk (x : Str) : Bool := !(x == ("__debug__" : Str)) && !(x == ("__classdict__" : Str)) && !(x == ("__name__" : Str))
theorem nameOk_ok {x : Str} (h : nameOk x = true) : (x == ("__debug__" : Str)) = false ∧ (x == ("__classdict__" : Str)) = false ∧ x ≠ "__name__" := by
  simp only [nameOk, Bool.and_eq_true, Bool.not_eq_true'] at h
  exact ⟨h.1.1, h.1.2, fun z => by rw [z] at h; exact absurd h.2 (by simp)⟩

def cConst : Const → Option D
  | .int i => some (.int i)
  | .bool b => some (.bl b)
  | .none => some .non
  | .str s => some (.str s.cps.toList)
  | _ => none
def cOp : Operator → Option O2
  | .Add => some .add | .Sub => some .sub | .Mult => some .mul | .Mod => some .mod | .FloorDiv => some .fdiv | .Pow => some .pow
  | _ => none
def cCmp : CmpOp → O2
  | .Eq => .eq | .NotEq => .ne | .Lt => .lt | .LtE => .le | .Gt => .gt | .GtE => .ge | .Is => .is | .IsNot => .isNot | .In => .isIn | .NotIn => .notIn
theorem cCmp_is (op : CmpOp) : isCmp (cCmp op) = true := by cases op <;> rfl
/-- a fresh list -/
def freshE : E → Bool
  | .lst _ => true
  | .lc _ _ _ _ => true
  | .o1 o _ => match o with
    | .list => true | .sorted => true | .sortset => true | .sortdic => true | .rev => true
    | _ => false
  | .o2 o _ _ => match o with
    | .add => true | .mul => true
    | _ => false
  | .m2 _ o _ _ => match o with
    | .split => true
    | _ => false
  | .o3 o _ _ _ => match o with
    | .slice => true
    | _ => false
  | .ite _ a b => freshE a && freshE b
  | _ => false
/-- built-ins with one argument: a function, a type -/
def cB1 (x : Str) : Option O1 :=
  if x = "len" then some .len else if x = "all" then some .all else if x = "sum" then some .sum else if x = "max" then some .max else if x = "min" then some .min else if x = "repr" then some .repr else if x = "sorted" then some .sorted else none
def cT1 (x : Str) : Option O1 :=
  if x = "tuple" then some .tuple else if x = "list" then some .list else if x = "int" then some .int else if x = "str" then some .str else none
def cB2 (x : Str) : Option O2 :=
  if x = "max" then some .max else if x = "min" then some .min else none
def cM1 (x : Str) : Option (Ty × O1) :=
  if x = "pop" then some (.lst, .pop) else none
def cM2 (x : Str) : Option (Ty × O2) :=
  if x = "append" then some (.lst, .append) else if x = "extend" then some (.lst, .extend) else if x = "join" then some (.str, .join) else if x = "split" then some (.str, .split) else if x = "get" then some (.dic, .get) else none
def baseOk : Expr → Bool
  | .Call _ [] [] _ => false
  | _ => true
theorem baseOk_ok {o : Expr} (h : baseOk o = true) {m : Str} {env : PySem.Env} : attributeBase o m env (eval o env) = eval o env := by
  unfold attributeBase
  split
  · cases h
  · rfl
def isConst : Expr → Option D
  | .Constant c _ _ => cConst c
  | _ => none

section
variable (r : Expr → Option E) (rT : Expr → Option E) (rC : Cc → Expr → Option E) (rCT : Cc → Expr → Option E) (C : Cc)
def cList : List Expr → Option E
  | [] => some .nil
  | .Starred e _ :: es => match r e, cList es with
    | some a, some l => some (.star a l)
    | _, _ => none
  | e :: es => match r e, cList es with
    | some a, some l => some (.cons a l)
    | _, _ => none
def cMany : List Expr → Option (List E)
  | [] => some []
  | e :: es => match r e, cMany es with
    | some a, some l => some (a :: l)
    | _, _ => none
def cKw : List Keyword → Option E
  | [] => some .nil
  | ⟨_, e, _⟩ :: es => match r e, cKw es with
    | some a, some l => some (.cons a l)
    | _, _ => none
def cBool (op : BoolOp) : List Expr → Option E
  | [] => none
  | [e] => r e
  | e :: es => match r e, cBool op es with
    | some a, some b => some (match op with
      | .And => .and a b
      | .Or => .or a b)
    | _, _ => none
def cBoolT (op : BoolOp) : List Expr → Option E
  | [] => none
  | [e] => rT e
  | e :: es => match rT e, cBoolT op es with
    | some a, some b => some (match op with
      | .And => .ite a b (.c (.bl false))
      | .Or => .ite a (.c (.bl true)) b)
    | _, _ => none
def cPart : Option Expr → Option E
  | none => some (.c .non)
  | some e => (r e).map (.o1 .idx)
def isRev : Expr → Bool
  | .Slice none none (some (.UnaryOp .USub (.Constant (.int 1) _ _) _)) _ => true
  | _ => false
def cSub (a b : Expr) : Option E :=
  match b with
  | .Slice lo hi none _ => match r a, cPart r lo, cPart r hi with
    | some x, some y, some z => some (.o3 .slice x y z)
    | _, _, _ => none
  | .Slice none none (some (.UnaryOp .USub (.Constant (.int 1) _ _) _)) _ => (r a).map (.o1 .rev)
  | .Slice _ _ _ _ => none
  | b => match r a, r b with
    | some x, some y => some (.o2 .ix x y)
    | _, _ => none
def cComp (l : Expr) (ops : List CmpOp) (cs : List Expr) : Option E :=
  match ops, cs with
  | [op], [b] => if behindInMarks op b = false then match r l, r b with
    | some x, some y => some (.o2 (cCmp op) x y)
    | _, _ => none else none
  | [op, op'], [b, c] => if lastMarks [op, op'] [b, c] = false then match r l, r b, r c with
    | some x, some y, some z => some (.chain x (cCmp op) y (cCmp op') z)
    | _, _, _ => none else none
  | _, _ => none
/-- targets of names (and tuples of them) -/
def cTg (N : List Str) (sc : Scope) (fn : List Str) : Expr → Option T
  | .Name x _ => if locC sc x && (onlyC sc x || decide (x ∈ fn)) then (ixOf N x).map .nm else none
  | .Tuple es _ _ => cTgs N sc fn es
  | _ => none
where
  cTgs (N : List Str) (sc : Scope) (fn : List Str) : List Expr → Option T
  | [] => some .nil
  | .Name x _ :: es => if locC sc x && (onlyC sc x || decide (x ∈ fn)) then match ixOf N x, cTgs N sc fn es with
    | some i, some t => some (.cons (.nm i) t)
    | _, _ => none else none
  | .Tuple as _ _ :: es => match cTg2 N sc fn as, cTgs N sc fn es with
    | some a, some t => some (.cons a t)
    | _, _ => none
  | _ => none
  cTg2 (N : List Str) (sc : Scope) (fn : List Str) : List Expr → Option T
  | [] => some .nil
  | .Name x _ :: es => if locC sc x && (onlyC sc x || decide (x ∈ fn)) then match ixOf N x, cTg2 N sc fn es with
    | some i, some t => some (.cons (.nm i) t)
    | _, _ => none else none
  | _ => none
def cIter (tp : Bool) : Expr → Option E
  | .Call (.Name x _) [a] [] _ => if x = "enumerate" then (if tp && plainE a && glC C.sc "enumerate" && decide (("enumerate" : Str) ∈ C.bl) then (r a).map .enum else none) else if x = "range" then (if plainE a && glC C.sc "range" && decide (("range" : Str) ∈ C.bl) then (r a).map (.range (.c (.int 0))) else none) else none
  | .Call (.Name x _) [a, b] [] _ => if x = "range" then (if plainE a && plainE b && glC C.sc "range" && decide (("range" : Str) ∈ C.bl) then match r a, r b with
    | some u, some v => some (.range u v)
    | _, _ => none else none) else none
  | _ => none
def isTup : Expr → Bool
  | .Tuple .. => true
  | _ => false
def isRange : Expr → Bool
  | .Call (.Name x _) _ _ _ => decide (x = "range") || decide (x = "zip") || decide (x = "enumerate")
  | _ => false
def noSet : Expr → Bool
  | .Set .. => false
  | _ => true
/-- the context of a comprehension's block -/
def blkOf (scope : Scope) : Cc := { C with sc := relS scope C.sc, fn := (scope.names.filter fun y => decide (y.2 = .cell)).map (·.1) }
def cIfs (rt : Expr → Option E) : List Expr → Option E
  | [] => some (.c (.bl true))
  | [c] => rt c
  | _ => none
def cComp1 (elt : Expr) (gs : List Comprehension) (scope : Scope) : Option E :=
  match gs with
  | [⟨tg, it, ifs, 0⟩] => match cTg C.N (relS scope C.sc) (blkOf C scope).fn tg, (if isRange it then cIter r C (isTup tg) it else if noSet it then r it else none), cIfs (rCT (blkOf C scope)) ifs, rC (blkOf C scope) elt with
    | some t, some i, some c, some e => if blkC C.N C.sc scope (t.slots.map fun i => (C.N.getD i "", i)) then some (.lc t i c e) else none
    | _, _, _, _ => none
  | _ => none
def cDcomp (kx vx : Expr) (gs : List Comprehension) (scope : Scope) : Option E :=
  match gs with
  | [⟨tg, it, ifs, 0⟩] => match cTg C.N (relS scope C.sc) (blkOf C scope).fn tg, (if isRange it then cIter r C (isTup tg) it else if noSet it then r it else none), cIfs (rCT (blkOf C scope)) ifs, rC (blkOf C scope) kx, rC (blkOf C scope) vx with
    | some t, some i, some c, some ke, some ve => if blkC C.N C.sc scope (t.slots.map fun i => (C.N.getD i "", i)) then some (.dcomp t i c ke ve) else none
    | _, _, _, _, _ => none
  | _ => none
def cCallF (x : Str) (args : List Expr) (kws : List Keyword) : Option E :=
  match C.fns.lookup x with
  | some F => match cList r args, cKw r kws, kwNames kws with
    | some l, some k, some ks => if args.all plainE && decide (listLen l = some args.length) && decide (listLen k = some ks.length) then
        match F.cs.find? (fun c => decide (c.1 = args.length) && decide (c.2.1 = ks)) with
        | some c => some (.call F.id l k c.2.2.1 c.2.2.2)
        | none => none
      else none
    | _, _, _ => none
  | none => none
def cSet1 : Expr → Option E
  | .Call (.Name y _) [a] [] _ => if y = "set" then (if plainE a && glC C.sc "set" && decide (("set" : Str) ∈ C.bl) then r a else none) else none
  | _ => none
def cCallN (cpos : Pos) (x : Str) (args : List Expr) (kws : List Keyword) : Option E :=
  if glC C.sc x && nameOk x then
    if decide (x ∈ C.bl) then
      match args, kws with
      | [a], [] => if plainE a then
          match (if x = "list" then cIter r C false a else none) with
          | some m => some (.o1 .list m)
          | none => match cSet1 r C a with
          | some m => if x = "sorted" then some (.o1 .sortset m) else if x = "len" then some (.o1 .lenset m) else none
          | none => if x = "sorted" && decide ((cpos.line, cpos.col + 1000000) ∈ C.nw) then (r a).map (.o1 .sortdic) else match cB1 x with
          | some o => (r a).map (.o1 o)
          | none => match cT1 x with
            | some o => (r a).map (.o1 o)
            | none => none
        else none
      | [a, b], [] => if plainE a && plainE b then
          match cB2 x, r a, r b with
          | some o, some u, some v => some (.o2 o u v)
          | _, _, _ => none
        else none
      | _, _ => none
    else cCallF r C x args kws
  else none
def cCallM (o : Expr) (m : Str) (apos : Pos) (args : List Expr) (cpos : Pos) : Option E :=
  if baseOk o && (apos.endLine == cpos.line) then
    match args with
    | [] => match cM1 m, r o with
      | some (t, op), some a => some (.m1 t op a)
      | _, _ => none
    | [e] => if plainE e then match cM2 m, r o, r e with
        | some (t, op), some a, some b => some (.m2 t op a b)
        | _, _, _ => none
      else none
    | _ => none
  else none
def cDict (keys : List (Option Expr)) (vals : List Expr) : Option E :=
  match keys, vals with
  | [], [] => some (.newd (.dic [] .nil))
  | keys, vals =>
    let ks := keys.map fun k => ((k.bind isConst).getD .non)
    match cMany r vals with
    | some ms => if keysE ks keys && decide (keys.length = vals.length) && decide (ks.length = ms.length) && decide (keys.length = ks.length) && decide (keys.length ≤ 15) && keys.all (·.isSome) && ks.all isKey && decide ks.Nodup then some (.newd (.dic ks (listE ms))) else none
    | none => none
def cE0 (e : Expr) : Option E :=
  match e with
  | .Constant c _ _ => (cConst c).map .c
  | .Name x _ => if visC C.sc x && nameOk x then (ixOf C.N x).map .v else if glC C.sc x && nameOk x then (C.gc.lookup x).map fun s => .c (.str s) else none
  | .BinOp a op b _ => match cOp op, r a, r b with
    | some o, some x, some y => some (.o2 o x y)
    | _, _, _ => none
  | .UnaryOp op a _ => match op with
    | .USub => (r a).map (.o1 .neg)
    | .Not => (r a).map (.o1 .not)
    | _ => none
  | .Compare l ops cs _ => cComp r l ops cs
  | .BoolOp op es _ => cBool r op es
  | .IfExp c a b _ => match rT c, r a, r b with
    | some x, some y, some z => some (.ite x y z)
    | _, _, _ => none
  | .Tuple es _ _ => (cList r es).map .tup
  | .List es _ => (cList r es).map .lst
  | .Subscript a b _ => cSub r a b
  | .ListComp elt gs scope _ => cComp1 r rC rCT C elt gs scope
  | .Dict keys vals _ => cDict r keys vals
  | .DictComp kx vx gs scope _ => cDcomp r rC rCT C kx vx gs scope
  | .Call f args kws cpos => match f with
    | .Name x _ => cCallN r C cpos x args kws
    | .Attribute o m apos => match kws with
      | [] => cCallM r o m apos args cpos
      | _ => none
    | _ => none
  | _ => none
def cTst (e : Expr) : Option E :=
  match e with
  | .UnaryOp op a _ => match op with
    | .Not => (rT a).map (.o1 .not)
    | _ => none
  | .BoolOp op es _ => cBoolT rT op es
  | .Compare l ops cs _ => cComp r l ops cs
  | .IfExp _ _ _ _ => none
  | e => r e
end
/-- what becomes a place -/
def wrapN (C : Cc) (pos : Pos) (m : E) : Option E := if (pos.line, pos.col) ∈ C.nw then (if freshE m then some (.new m) else some m) else some m
mutual
def cE : Nat → Cc → Expr → Option E
  | 0, _, _ => none
  | n + 1, C, e => (cE0 (cE n C) (cT n C) (cE n) (cT n) C e).bind (wrapN C e.pos)
def cT : Nat → Cc → Expr → Option E
  | 0, _, _ => none
  | n + 1, C, e => cTst (cE n C) (cT n C) e
end
end MP
end

section
set_option Elab.async false
set_option linter.all false
set_option maxRecDepth 100000
set_option maxHeartbeats 1000000
/-! MP: the language stands for the text's syntax: expressions. -/
namespace MP
open PySem PySem.Spec PyProof.Rows L2
/-- a function that may be called -/
def FnX (g : GC) (Φ : Phi) (k : Nat) (X : Cx) (x : Str) (F : Fi) : Prop := ∃ (fa : Addr) (fd : FuncData), X.mg x = some (.ref fa) ∧ PySem.W.keepIn X.K (.ref fa) = true ∧ FnG X.prog X.w X.K X.mg X.base k fa fd F.ps (spOf g Φ F.ps.length F.id) ∧
  (∀ c ∈ F.cs, ∃ (dus : List Value) (dvs : List V), Bd X.K fd F.ps c.1 c.2.1 c.2.2.1 dus ∧ Vals dvs dus ∧ ∀ θ H, RepL g θ H c.2.2.2 dvs) ∧ ∀ xs st, xs.length ≠ F.ps.length → Φ F.id xs st = .no
structure CxC (g : GC) (W : WX) (C : Cc) (Φ : Phi) (k : Nat) (X : Cx) : Prop extends XX g W X where
  N' : X.N = C.N
  sc' : X.env.scope = C.sc
  fn' : ∀ x ∈ C.fn, X.fn x = true
  mgB : ∀ x ∈ C.bl, X.mg x = none
  mgC : ∀ x s, C.gc.lookup x = some s → ∃ tk, X.mg x = some (.str (sOf s) tk)
  room : Room k X.A
  fns : ∀ x F, C.fns.lookup x = some F → FnX g Φ k X x F
section
variable {g : GC} {fr : Bool} {W : WX} {X : Cx} {C : Cc} {Φ : Phi} {k : Nat} {a b c e o : Expr} {es : List Expr} {m : E} {pos p p2 p3 apos cpos : Pos} {x name : Str} {r rT : Expr → Option E}
def SndE (g : GC) (W : WX) (Φ : Phi) (X : Cx) (r : Expr → Option E) : Prop := ∀ e m, r e = some m → ∀ fr, (fr = true → freshE m = true) → PE X e (tE g fr W (ev Φ m))
def SndT (g : GC) (W : WX) (Φ : Phi) (X : Cx) (r : Expr → Option E) : Prop := ∀ e m, r e = some m → PT X e (tB g W (tst Φ m))
theorem SndE.f (h : SndE g W Φ X r) (he : r e = some m) : PE X e (tE g false W (ev Φ m)) := h e m he false fun z => nomatch z
theorem nf {m : E} (h : freshE m = false) {fr : Bool} (hf : fr = true → freshE m = true) : fr = false := by
  cases fr with
  | false => rfl
  | true => exact absurd (hf rfl) (by rw [h]; exact Bool.false_ne_true)
theorem snd_list (h : SndE g W Φ X r) (hK : X.K = g.K) : ∀ {es : List Expr} {m : E}, cList r es = some m → PA X es (tL g W (ev Φ m))
  | [], m, e => by
    simp only [cList] at e
    cases e
    exact sA_nil
  | e1 :: es, m, e => by
    unfold cList at e
    split at e
    · rename_i heq; cases heq
    · rename_i heq
      cases heq
      split at e
      · rename_i ea el h1 h2
        cases e
        exact sA_star hK (h.f h1) (snd_list h hK h2)
      · cases e
    · rename_i hns heq
      cases heq
      split at e
      · rename_i ea el h1 h2
        cases e
        refine sA_cons ?_ (h.f h1) (snd_list h hK h2)
        cases e1 <;> first | rfl | exact absurd rfl (hns _ _)
      · cases e
theorem snd_many (h : SndE g W Φ X r) : ∀ {es : List Expr} {ms : List E}, cMany r es = some ms → PEs X g W Φ es ms
  | [], ms, e => by cases e; exact .nil
  | e1 :: es, ms, e => by
    simp only [cMany] at e
    split at e
    · rename_i ea el h1 h2
      cases e
      exact .cons (h.f h1) (snd_many h h2)
    · cases e
theorem snd_kw (h : SndE g W Φ X r) : ∀ {kws : List Keyword} {m : E}, cKw r kws = some m → PK X kws (tL g W (ev Φ m))
  | [], m, e => by cases e; exact sK_nil
  | ⟨nm, e1, kp⟩ :: es, m, e => by
    simp only [cKw] at e
    split at e
    · rename_i ea el h1 h2
      cases e
      exact sK_cons (h.f h1) (snd_kw h h2)
    · cases e
theorem snd_const {cst : Const} {j : Nat} {d : D} (h : cConst cst = some d) : PE X (.Constant cst j pos) (tE g fr W (ev Φ (.c d))) := by
  cases cst <;> simp only [cConst] at h <;> cases h
  · exact sE_const pe_non (fun _ z => nomatch z) fun _ _ => .non
  · exact sE_const pe_bl (fun _ z => nomatch z) fun _ _ => .bl _
  · exact sE_const pe_int (fun _ z => nomatch z) fun _ _ => .int _
  · rename_i s
    refine sE_const (v := .str s) pe_str (fun _ z => nomatch z) fun _ _ => ?_
    have : sOf s.cps.toList = s := by cases s; simp [sOf]
    have q := Rep.str (g := g) (θ := ‹Th›) (H := ‹Hp›) s.cps.toList
    rw [this] at q
    exact q
theorem op_snd {op : Operator} {o : O2} (xg : Xg g X) (h : cOp op = some o) (fr : Bool) (W' : WK) : OpR X (binaryOp op) (rO2 g fr W' o) := by
  cases op <;> simp only [cOp] at h <;> cases h
  · exact o2_add xg
  · exact o2_sub
  · exact o2_mul xg
  · exact o2_mod
  · exact o2_pow
  · exact o2_fdiv
theorem cmp_snd (xg : Xg g X) (op : CmpOp) (fr : Bool) (W' : WK) : OpR X (compareOp op) (rO2 g fr W' (cCmp op)) := by
  cases op
  · exact o2_eq xg
  · exact o2_ne xg
  · exact o2_lt xg
  · exact o2_le xg
  · exact o2_gt xg
  · exact o2_ge xg
  · exact o2_is xg
  · exact o2_isNot xg
  · exact o2_in xg
  · exact o2_notIn xg
theorem snd_comp (xg : Xg g X) (h : SndE g W Φ X r) {ops : List CmpOp} {cs : List Expr} (he : cComp r a ops cs = some m) (fr : Bool) : PE X (.Compare a ops cs pos) (tE g fr W (ev Φ m)) ∧ PT X (.Compare a ops cs pos) (tB g W (tst Φ m)) := by
  unfold cComp at he
  split at he
  · split at he
    · rename_i hm
      split at he
      · rename_i u v h1 h2
        cases he
        exact ⟨sE_cmp (cmp_snd xg _ fr _) (h.f h1) (h.f h2) hm, sT_cmp (cCmp_is _) (cmp_snd xg _ false _) (h.f h1) (h.f h2) hm⟩
      · cases he
    · cases he
  · split at he
    · rename_i hm
      split at he
      · rename_i u v w h1 h2 h3
        cases he
        exact ⟨sE_chain (cmp_snd xg _ false _) (cmp_snd xg _ fr _) (h.f h1) (h.f h2) (h.f h3) hm, sT_chain (cCmp_is _) (cmp_snd xg _ false _) (cmp_snd xg _ false _) (h.f h1) (h.f h2) (h.f h3) hm⟩
      · cases he
    · cases he
  · cases he
theorem snd_bool (h : SndE g W Φ X r) {op : BoolOp} : ∀ {es : List Expr} {m : E}, cBool r op es = some m → ∀ fr, (fr = true → freshE m = true) → PE X (.BoolOp op es pos) (tE g fr W (ev Φ m))
  | [], m, e, _, _ => by cases e
  | [e1], m, e, fr, hf => pe_one (h e1 m e fr hf)
  | e1 :: e2 :: es, m, e, fr, hf => by
    simp only [cBool] at e
    split at e
    · rename_i u v h1 h2
      cases e
      cases op with
      | And =>
        obtain rfl := nf (by rfl) hf
        exact sE_and (h.f h1) (snd_bool h h2 false fun z => nomatch z)
      | Or =>
        obtain rfl := nf (by rfl) hf
        exact sE_or (h.f h1) (snd_bool h h2 false fun z => nomatch z)
    · cases e
theorem snd_boolT (h : SndT g W Φ X rT) {op : BoolOp} : ∀ {es : List Expr} {m : E}, cBoolT rT op es = some m → PW X (.BoolOp op es pos) (tB g W (tst Φ m))
  | [], m, e => by cases e
  | [e1], m, e => by
    cases op with
    | And => exact sT_and1 (h e1 m e)
    | Or => exact sT_or1 (h e1 m e)
  | e1 :: e2 :: es, m, e => by
    simp only [cBoolT] at e
    split at e
    · rename_i u v h1 h2
      cases e
      cases op with
      | And => exact sT_and (h _ _ h1) (snd_boolT h h2)
      | Or => exact sT_or (h _ _ h1) (snd_boolT h h2)
    · cases e
theorem snd_part (h : SndE g W Φ X r) {e : Option Expr} (he : cPart r e = some m) : PO X e (tPartO (tE g false W (ev Φ m))) := by
  cases e with
  | none => cases he; exact po_left
  | some e =>
    simp only [cPart] at he
    cases q : r e with
    | none => rw [q] at he; cases he
    | some u =>
      rw [q] at he
      cases he
      exact po_any (h.f q)
theorem snd_sub (xg : Xg g X) (h : SndE g W Φ X r) (he : cSub r a b = some m) (fr : Bool) (hf : fr = true → freshE m = true) : PE X (.Subscript a b pos) (tE g fr W (ev Φ m)) := by
  unfold cSub at he
  split at he
  · split at he
    · rename_i u v w h1 h2 h3
      cases he
      exact sE_slice xg (h.f h1) (snd_part h h2) (snd_part h h3)
    · cases he
  · cases q : r a with
    | none => rw [q] at he; cases he
    | some u =>
      rw [q] at he
      cases he
      exact sE_rev xg.hK (h.f q)
  · cases he
  · rename_i h1 h2 h3
    split at he
    · rename_i u v q1 q2
      cases he
      obtain rfl := nf (by rfl) hf
      refine sE_ix xg (plainIx ?_) (h.f q1) (h.f q2)
      cases b <;> first | rfl | exact absurd rfl (h3 _ _ _ _)
    · cases he
end
end MP
end

section
set_option Elab.async false
set_option linter.all false
set_option maxRecDepth 100000
set_option maxHeartbeats 1000000
/-! MP: calls, comprehensions; every expression. -/
namespace MP
open PySem PySem.Spec PyProof.Rows L2
section
variable {g : GC} {fr : Bool} {W : WX} {X : Cx} {C : Cc} {Φ : Phi} {k : Nat} {a b c e o : Expr} {es : List Expr} {m : E} {pos p p2 p3 apos cpos : Pos} {x name : Str} {r rT : Expr → Option E}
theorem b1_snd {o : O1} (xg : Xg g X) (h : cB1 x = some o) (fr : Bool) (W' : WK) : ∃ id, bootBuiltins x = some (.builtin id) ∧ CallR X (.builtin id) (rC1 g fr W' o) := by
  unfold cB1 at h
  split at h
  · rename_i e; subst e; cases h; exact ⟨_, boot_len, c1_len xg⟩
  split at h
  · rename_i e; subst e; cases h; exact ⟨_, boot_all, c1_all xg⟩
  split at h
  · rename_i e; subst e; cases h; exact ⟨_, boot_sum, c1_sum xg⟩
  split at h
  · rename_i e; subst e; cases h; exact ⟨_, boot_max, c1_max xg⟩
  split at h
  · rename_i e; subst e; cases h; exact ⟨_, boot_min, c1_min xg⟩
  split at h
  · rename_i e; subst e; cases h; exact ⟨_, boot_repr, c1_repr xg⟩
  split at h
  · rename_i e; subst e; cases h; exact ⟨_, boot_sorted, c1_sorted xg⟩
  · cases h
theorem t1_snd {o : O1} (xg : Xg g X) (h : cT1 x = some o) (fr : Bool) (W' : WK) : ∃ id, bootBuiltins x = some (.type id) ∧ CallR X (.type id) (rC1 g fr W' o) := by
  unfold cT1 at h
  split at h
  · rename_i e; subst e; cases h; exact ⟨_, boot_tuple, c1_tuple xg⟩
  split at h
  · rename_i e; subst e; cases h; exact ⟨_, boot_list, c1_list xg⟩
  split at h
  · rename_i e; subst e; cases h; exact ⟨_, boot_int, c1_int⟩
  split at h
  · rename_i e; subst e; cases h; exact ⟨_, boot_str, c1_str⟩
  · cases h
theorem b2_snd {o : O2} (xg : Xg g X) (h : cB2 x = some o) (fr : Bool) (W' : WK) : ∃ id, bootBuiltins x = some (.builtin id) ∧ CallR X (.builtin id) (rC2 g fr W' o) := by
  unfold cB2 at h
  split at h
  · rename_i e; subst e; cases h; exact ⟨_, boot_max, c2_max xg⟩
  split at h
  · rename_i e; subst e; cases h; exact ⟨_, boot_min, c2_min xg⟩
  · cases h
theorem CxC.gl (cx : CxC g W C Φ k X) (h : glC C.sc x = true) : Gl X x := by
  show X.env.scope.names.lookup x = _
  rw [cx.sc']
  exact glC_ok h
theorem lookup_mem {α : Type} {l : List (Str × α)} {x : Str} {v : α} (h : l.lookup x = some v) : (x, v) ∈ l := PySem.mem_of_lookup h
theorem snd_callF (cx : CxC g W C Φ k X) (h : SndE g W Φ X r) (hg : glC C.sc x = true) (hn : nameOk x = true) {args : List Expr} {kws : List Keyword} (he : cCallF r C x args kws = some m) (fr : Bool) (hf : fr = true → freshE m = true) : PE X (.Call (.Name x p) args kws pos) (tE g fr W (ev Φ m)) := by
  unfold cCallF at he
  split at he
  · rename_i F hF
    split at he
    · rename_i l kl ks h1 h2 h3
      split at he
      · rename_i hz
        simp only [Bool.and_eq_true, decide_eq_true_eq] at hz
        split at he
        · rename_i cs hc
          cases he
          obtain rfl := nf (by rfl) hf
          have hcs := List.find?_some hc
          simp only [Bool.and_eq_true, decide_eq_true_eq] at hcs
          obtain ⟨fa, fd, q1, q2, q3, q4, q5⟩ := cx.fns x F hF
          obtain ⟨dus, dvs, b1, b2, b3⟩ := q4 cs (List.mem_of_find?_eq_some hc)
          rw [hcs.1, hcs.2] at b1
          have q5' : ∀ xs st, (pick cs.2.2.1 xs ++ cs.2.2.2).length ≠ F.ps.length → Φ F.id (pick cs.2.2.1 xs ++ cs.2.2.2) st = .no := fun xs st z => q5 _ st z
          have hd := (nameOk_ok hn).1
          cases kws with
          | nil =>
            cases h3
            cases h2
            cases args with
            | nil =>
              cases h1
              exact sE_call0 q3 cx.room cx.toXX (cx.gl hg) q1 q2 b1 b2 b3 q5' hd
            | cons a as => exact sE_call q3 cx.room cx.toXX (cx.gl hg) q1 q2 b1 b2 b3 q5' hd hz.1.1 hz.1.2 (snd_list h cx.hK h1)
          | cons kw kws =>
            cases args with
            | nil =>
              cases h1
              exact sE_callK0 q3 cx.room cx.toXX (cx.gl hg) q1 q2 b1 b2 b3 q5' hd h3 hz.2 (snd_kw h h2)
            | cons a as => exact sE_callK q3 cx.room cx.toXX (cx.gl hg) q1 q2 b1 b2 b3 q5' hd hz.1.1 hz.1.2 h3 hz.2 (snd_list h cx.hK h1) (snd_kw h h2)
        · cases he
      · cases he
    · cases he
  · cases he
theorem map_some {α β : Type} {f : α → β} {o : Option α} {b : β} (h : o.map f = some b) : ∃ a, o = some a ∧ b = f a := by
  cases o with
  | none => cases h
  | some a => cases h; exact ⟨a, rfl, rfl⟩
theorem set1_parts {e : Expr} (he : cSet1 r C e = some m) : ∃ (y : Unit) (a : Expr) (p q : Pos), e = .Call (.Name "set" p) [a] [] q ∧ plainE a = true ∧ glC C.sc "set" = true ∧ ("set" : Str) ∈ C.bl ∧ r a = some m := by
  unfold cSet1 at he
  split at he
  · split at he
    · rename_i ex
      subst ex
      split at he
      · rename_i hz
        simp only [Bool.and_eq_true, decide_eq_true_eq] at hz
        exact ⟨(), _, _, _, rfl, hz.1.1, hz.1.2, hz.2, he⟩
      · cases he
    · cases he
  · cases he
theorem snd_listIter (cx : CxC g W C Φ k X) (h : SndE g W Φ X r) (gl : Gl X "list") (ml : X.mg "list" = none) (he : cIter r C false e = some m) : PE X (.Call (.Name "list" p) [e] [] pos) (tE g fr W (ev Φ (.o1 .list m))) := by
  unfold cIter at he
  split at he
  · split at he
    · rw [Bool.false_and, Bool.false_and, Bool.false_and, if_neg Bool.false_ne_true] at he
      cases he
    split at he
    · rename_i ex
      subst ex
      split at he
      · rename_i hz
        simp only [Bool.and_eq_true, decide_eq_true_eq] at hz
        obtain ⟨u, hu, rfl⟩ := map_some he
        exact sE_listRg1 cx.toXg gl ml (cx.gl hz.1.2) (cx.mgB _ hz.2) hz.1.1 (h.f hu)
      · cases he
    · cases he
  · split at he
    · rename_i ex
      subst ex
      split at he
      · rename_i hz
        simp only [Bool.and_eq_true, decide_eq_true_eq] at hz
        split at he
        · rename_i u v h1 h2
          cases he
          exact sE_listRg2 cx.toXg gl ml (cx.gl hz.1.2) (cx.mgB _ hz.2) hz.1.1.1 hz.1.1.2 (h.f h1) (h.f h2)
        · cases he
      · cases he
    · cases he
  · cases he
theorem snd_callN (cx : CxC g W C Φ k X) (h : SndE g W Φ X r) {args : List Expr} {kws : List Keyword} (he : cCallN r C pos x args kws = some m) (fr : Bool) (hf : fr = true → freshE m = true) : PE X (.Call (.Name x p) args kws pos) (tE g fr W (ev Φ m)) := by
  unfold cCallN at he
  split at he
  · rename_i hx
    rw [Bool.and_eq_true] at hx
    obtain ⟨hd, _, hnm⟩ := nameOk_ok hx.2
    split at he
    · rename_i hb
      have hm := cx.mgB x (of_decide_eq_true hb)
      split at he
      · split at he
        · rename_i hp
          split at he
          · rename_i mm hmm
            split at hmm
            · rename_i ex
              subst ex
              cases he
              exact snd_listIter cx h (cx.gl hx.1) hm hmm
            · cases hmm
          split at he
          · rename_i mm hmm
            obtain ⟨y, a', p', q', rfl, y1, y2, y3, y4⟩ := set1_parts hmm
            split at he
            · rename_i ex
              subst ex
              cases he
              exact sE_sortset cx.toXg (cx.gl hx.1) hm (cx.gl y2) (cx.mgB _ y3) y1 (h.f y4)
            · split at he
              · rename_i ex
                subst ex
                cases he
                obtain rfl := nf (by rfl) hf
                exact sE_lenset cx.toXg (cx.gl hx.1) hm (cx.gl y2) (cx.mgB _ y3) y1 (h.f y4)
              · cases he
          split at he
          · rename_i hsd
            rw [Bool.and_eq_true, decide_eq_true_eq] at hsd
            obtain ⟨ex, _⟩ := hsd
            subst ex
            obtain ⟨u, hu, rfl⟩ := map_some he
            exact sE_b1 (c1_sortdic (g := g) (fr := fr) cx.toXg) (cx.gl hx.1) hm boot_sorted hnm hd hp (h.f hu)
          split at he
          · rename_i o1 h1
            obtain ⟨u, hu, rfl⟩ := map_some he
            obtain ⟨id, q1, q2⟩ := b1_snd (g := g) cx.toXg h1 fr (W0 W)
            exact sE_b1 q2 (cx.gl hx.1) hm q1 hnm hd hp (h.f hu)
          · split at he
            · rename_i o1 h1
              obtain ⟨u, hu, rfl⟩ := map_some he
              obtain ⟨id, q1, q2⟩ := t1_snd (g := g) cx.toXg h1 fr (W0 W)
              exact sE_t1 q2 (cx.gl hx.1) hm q1 hnm hd hp (h.f hu)
            · cases he
        · cases he
      · split at he
        · rename_i hp
          rw [Bool.and_eq_true] at hp
          split at he
          · rename_i o2 u v h1 h2 h3
            cases he
            obtain ⟨id, q1, q2⟩ := b2_snd (g := g) cx.toXg h1 fr (W0 W)
            exact sE_b2 q2 (cx.gl hx.1) hm q1 hnm hd hp.1 hp.2 (h.f h2) (h.f h3)
          · cases he
        · cases he
      · cases he
    · exact snd_callF cx h hx.1 hx.2 he fr hf
  · cases he
theorem snd_callM (xg : Xg g X) (h : SndE g W Φ X r) {args : List Expr} (he : cCallM r o name apos args cpos = some m) (fr : Bool) (hf : fr = true → freshE m = true) : PE X (.Call (.Attribute o name apos) args [] cpos) (tE g fr W (ev Φ m)) := by
  unfold cCallM at he
  split at he
  · rename_i hz
    rw [Bool.and_eq_true] at hz
    have hb : attributeBase o name X.env (eval o X.env) = eval o X.env := baseOk_ok hz.1
    split at he
    · split at he
      · rename_i t op u h1 h2
        cases he
        unfold cM1 at h1
        split at h1
        · rename_i e1
          subst e1
          cases h1
          obtain rfl := nf (by rfl) hf
          exact sE_m1 (fun θ st H d v s rr ht => (ty_rep xg.hK s rr).1 ht) PySem.F.plainAttrs_list PySem.F.slot_list_pop PySem.F.type_list_pop m_pop hb hz.2 (h.f h2)
        · cases h1
      · cases he
    · split at he
      · rename_i hp
        split at he
        · rename_i t op u v h1 h2 h3
          cases he
          unfold cM2 at h1
          split at h1
          · rename_i e1; subst e1; cases h1
            obtain rfl := nf (by rfl) hf
            exact sE_m2 (fun θ st H d v s rr ht => (ty_rep xg.hK s rr).1 ht) PySem.F.plainAttrs_list PySem.F.slot_list_append PySem.F.type_list_append m_append hb hz.2 hp (h.f h2) (h.f h3)
          split at h1
          · rename_i e1; subst e1; cases h1
            obtain rfl := nf (by rfl) hf
            exact sE_m2 (fun θ st H d v s rr ht => (ty_rep xg.hK s rr).1 ht) PySem.F.plainAttrs_list PySem.F.slot_list_extend PySem.F.type_list_extend m_extend hb hz.2 hp (h.f h2) (h.f h3)
          split at h1
          · rename_i e1; subst e1; cases h1
            exact sE_m2 (fun θ st H d v s rr ht => (ty_rep xg.hK s rr).2 ht) PySem.F.plainAttrs_str PySem.F.slot_str_join PySem.F.type_str_join (m_join xg) hb hz.2 hp (h.f h2) (h.f h3)
          split at h1
          · rename_i e1; subst e1; cases h1
            exact sE_m2 (fun θ st H d v s rr ht => (ty_rep xg.hK s rr).2 ht) PySem.F.plainAttrs_str PySem.F.slot_str_split PySem.F.type_str_split m_split hb hz.2 hp (h.f h2) (h.f h3)
          split at h1
          · rename_i e1; subst e1; cases h1
            obtain rfl := nf (by rfl) hf
            exact sE_get xg hb hz.2 hp (h.f h2) (h.f h3)
          · cases h1
        · cases he
      · cases he
    · cases he
  · cases he
theorem snd_dict (h : SndE g W Φ X r) {keys : List (Option Expr)} {vals : List Expr} (he : cDict r keys vals = some m) (fr : Bool) (hf : fr = true → freshE m = true) : PE X (.Dict keys vals pos) (tE g fr W (ev Φ m)) := by
  unfold cDict at he
  split at he
  · cases he
    obtain rfl := nf (by rfl) hf
    exact sE_dic0
  · rename_i h0
    simp only at he
    split at he
    · rename_i ms hms
      split at he
      · rename_i hz
        simp only [Bool.and_eq_true, decide_eq_true_eq] at hz
        cases he
        obtain rfl := nf (by rfl) hf
        obtain ⟨⟨⟨⟨⟨⟨⟨z1, z2⟩, z3⟩, z4⟩, z5⟩, z6⟩, z7⟩, z8⟩ := hz
        refine sE_dic z1 z2 z3 ?_ (snd_many h hms) z4 z5 z6 ⟨z7, z8⟩
        intro z
        subst z
        refine h0 rfl ?_
        cases vals with
        | nil => rfl
        | cons => cases z2
      · cases he
    · cases he

/-! ### targets -/
theorem tgs_len {N : List Str} {sc : Scope} {fn : List Str} : (∀ {es : List Expr} {t : T}, cTg.cTg2 N sc fn es = some t → (∀ i, t ≠ .nm i) ∧ ∀ ds ρ ρ', bindTs t ds ρ = some ρ' → ds.length = es.length) := by
  intro es
  induction es with
  | nil =>
    intro t h
    cases h
    refine ⟨(fun _ z => nomatch z), fun ds ρ ρ' e => ?_⟩
    cases ds with
    | nil => rfl
    | cons => simp [bindTs] at e
  | cons e es ih =>
    intro t h
    unfold cTg.cTg2 at h
    split at h
    · rename_i heq; cases heq
    · rename_i heq
      cases heq
      split at h
      · split at h
        · rename_i i t' h1 h2
          cases h
          refine ⟨(fun _ z => nomatch z), fun ds ρ ρ' e => ?_⟩
          cases ds with
          | nil => simp [bindTs] at e
          | cons d ds =>
            simp only [bindTs] at e
            split at e
            · rw [List.length_cons, List.length_cons, (ih h2).2 _ _ _ e]
            · cases e
        · cases h
      · cases h
    · cases h
theorem tgs_len1 {N : List Str} {sc : Scope} {fn : List Str} : (∀ {es : List Expr} {t : T}, cTg.cTgs N sc fn es = some t → (∀ i, t ≠ .nm i) ∧ ∀ ds ρ ρ', bindTs t ds ρ = some ρ' → ds.length = es.length) := by
  intro es
  induction es with
  | nil =>
    intro t h
    cases h
    refine ⟨(fun _ z => nomatch z), fun ds ρ ρ' e => ?_⟩
    cases ds with
    | nil => rfl
    | cons => simp [bindTs] at e
  | cons e es ih =>
    intro t h
    have fin : ∀ {a t' : T}, cTg.cTgs N sc fn es = some t' → ∀ ds ρ ρ', bindTs (.cons a t') ds ρ = some ρ' → ds.length = (e :: es).length := by
      intro a t' h2 ds ρ ρ' e
      cases ds with
      | nil => simp [bindTs] at e
      | cons d ds =>
        simp only [bindTs] at e
        split at e
        · rw [List.length_cons, List.length_cons, (ih h2).2 _ _ _ e]
        · cases e
    unfold cTg.cTgs at h
    split at h
    · rename_i heq; cases heq
    · rename_i heq
      cases heq
      split at h
      · split at h
        · rename_i i t' h1 h2
          cases h
          exact ⟨(fun _ z => nomatch z), fin h2⟩
        · cases h
      · cases h
    · rename_i heq
      cases heq
      split at h
      · rename_i i t' h1 h2
        cases h
        exact ⟨(fun _ z => nomatch z), fin h2⟩
      · cases h
    · cases h
theorem CxC.locOk (cx : CxC g W C Φ k X) (h : (locC C.sc x && (onlyC C.sc x || decide (x ∈ C.fn))) = true) : Loc X.env.scope x ∧ (X.fn x = true ∨ X.env.scope.names.lookup x = some .local) := by
  simp only [Bool.and_eq_true, Bool.or_eq_true, decide_eq_true_eq] at h
  rw [cx.sc']
  exact ⟨locC_ok h.1, h.2.elim (fun z => .inr (onlyC_ok z)) fun z => .inl (cx.fn' x z)⟩
theorem snd_tg2 (cx : CxC g W C Φ k X) : ∀ {es : List Expr} {t : T}, cTg.cTg2 C.N C.sc C.fn es = some t → PGs X es (tGs g t) ∧ es.all plainE = true
  | [], t, h => by cases h; exact ⟨sG_nil, rfl⟩
  | e :: es, t, h => by
    unfold cTg.cTg2 at h
    split at h
    · rename_i heq; cases heq
    · rename_i heq
      cases heq
      split at h
      · rename_i hx
        split at h
        · rename_i i t' h1 h2
          cases h
          obtain ⟨l1, l2⟩ := cx.locOk hx
          obtain ⟨p1, p2⟩ := snd_tg2 cx h2
          exact ⟨sG_cons rfl (sG_name cx.nd (by rw [cx.N']; exact ixOf_get h1) l1 l2) p1, by rw [List.all_cons, p2]; rfl⟩
        · cases h
      · cases h
    · cases h
theorem snd_tg1 (cx : CxC g W C Φ k X) : ∀ {es : List Expr} {t : T}, cTg.cTgs C.N C.sc C.fn es = some t → PGs X es (tGs g t) ∧ es.all plainE = true
  | [], t, h => by cases h; exact ⟨sG_nil, rfl⟩
  | e :: es, t, h => by
    unfold cTg.cTgs at h
    split at h
    · rename_i heq; cases heq
    · rename_i heq
      cases heq
      split at h
      · rename_i hx
        split at h
        · rename_i i t' h1 h2
          cases h
          obtain ⟨l1, l2⟩ := cx.locOk hx
          obtain ⟨p1, p2⟩ := snd_tg1 cx h2
          exact ⟨sG_cons rfl (sG_name cx.nd (by rw [cx.N']; exact ixOf_get h1) l1 l2) p1, by rw [List.all_cons, p2]; rfl⟩
        · cases h
      · cases h
    · rename_i heq
      cases heq
      split at h
      · rename_i i t' h1 h2
        cases h
        obtain ⟨p1, p2⟩ := snd_tg1 cx h2
        obtain ⟨q1, q2⟩ := snd_tg2 cx h1
        exact ⟨sG_cons rfl (sG_tup cx.toXg (tgs_len h1).1 q2 q1 (tgs_len h1).2) p1, by rw [List.all_cons, p2]; rfl⟩
      · cases h
    · cases h
theorem snd_tg (cx : CxC g W C Φ k X) {t : T} (h : cTg C.N C.sc C.fn e = some t) : PG X e (tG g t) ∧ plainE e = true := by
  unfold cTg at h
  split at h
  · split at h
    · rename_i hx
      obtain ⟨i, h1, rfl⟩ := map_some h
      obtain ⟨l1, l2⟩ := cx.locOk hx
      exact ⟨sG_name cx.nd (by rw [cx.N']; exact ixOf_get h1) l1 l2, rfl⟩
    · cases h
  · obtain ⟨q1, q2⟩ := snd_tg1 cx h
    exact ⟨sG_tup cx.toXg (tgs_len1 h).1 q2 q1 (tgs_len1 h).2, rfl⟩
  · cases h
end
end MP
end

section
set_option Elab.async false
set_option linter.all false
set_option maxRecDepth 100000
set_option maxHeartbeats 1000000
/-! MP: every expression. -/
namespace MP
open PySem PySem.Spec PyProof.Rows L2
section
variable {g : GC} {fr : Bool} {W : WX} {X : Cx} {C : Cc} {Φ : Phi} {k : Nat} {a b c e o tg : Expr} {es : List Expr} {m : E} {pos p p2 p3 apos cpos : Pos} {x name : Str} {r rT : Expr → Option E}
theorem isTup_is {tg : Expr} (h : isTup tg = true) : ∃ es kk tpos, tg = .Tuple es kk tpos := by
  cases tg <;> first | exact ⟨_, _, _, rfl⟩ | cases h
theorem snd_iter (cx : CxC g W C Φ k X) (h : SndE g W Φ X r) (he : (if isRange e then cIter r C (isTup tg) e else if noSet e then r e else none) = some m) : PI X tg e (tI g W (ev Φ m)) ∧ ∀ v, foldedSetIterable e X.env v = pure v := by
  split at he
  · unfold cIter at he
    split at he
    · split at he
      · rename_i ex
        subst ex
        split at he
        · rename_i hz
          simp only [Bool.and_eq_true, decide_eq_true_eq] at hz
          obtain ⟨u, hu, rfl⟩ := map_some he
          obtain ⟨es, kk, tpos, rfl⟩ := isTup_is hz.1.1.1
          exact ⟨sI_enum cx.toXg (cx.gl hz.1.2) (cx.mgB _ hz.2) hz.1.1.2 (h.f hu), fun _ => rfl⟩
        · cases he
      split at he
      · rename_i ex
        subst ex
        split at he
        · rename_i hz
          simp only [Bool.and_eq_true, decide_eq_true_eq] at hz
          obtain ⟨u, hu, rfl⟩ := map_some he
          exact ⟨sI_range1 (cx.gl hz.1.2) (cx.mgB _ hz.2) hz.1.1 (h.f hu), fun _ => rfl⟩
        · cases he
      · cases he
    · split at he
      · rename_i ex
        subst ex
        split at he
        · rename_i hz
          simp only [Bool.and_eq_true, decide_eq_true_eq] at hz
          split at he
          · rename_i u v h1 h2
            cases he
            exact ⟨sI_range2 (cx.gl hz.1.2) (cx.mgB _ hz.2) hz.1.1.1 hz.1.1.2 (h.f h1) (h.f h2), fun _ => rfl⟩
          · cases he
        · cases he
      · cases he
    · cases he
  · split at he
    · rename_i hn
      refine ⟨sI_any cx.toXg (h.f he), fun v => ?_⟩
      cases e <;> first | rfl | cases hn
    · cases he
theorem blk_cx (cx : CxC g W C Φ k X) {scope : Scope} {own : List (Str × Nat)} (ok : BlkOk C.N C.sc scope own) (s : Shared) (H : Hp) (D : Addr) (cl : List (Str × Addr)) (fp : List Addr) : CxC g WF (blkOf C scope) Φ k (X.blk s H scope (compEnvC scope cl D X.env) fp) where
  hK := cx.hK
  calm := cx.calm
  gd := cx.gd
  un := cx.un
  tk := fun u s' z => by
    obtain ⟨_, _, _, _, _, _, _, _, _, _, _, _, _, _, _, _, q⟩ := z
    exact q.elim
  nd := cx.nd
  kind := ok.kind
  N' := cx.N'
  sc' := by
    show relS scope X.env.scope = relS scope C.sc
    rw [cx.sc']
  fn' := fun x hx => by
    obtain ⟨y, hy, rfl⟩ := List.mem_map.mp hx
    obtain ⟨h1, h2⟩ := List.mem_filter.mp hy
    have := ok.uniq y h1
    rw [of_decide_eq_true h2] at this
    show (scope.names.lookup y.1 == some .cell) = true
    rw [this]
    rfl
  mgB := cx.mgB
  mgC := cx.mgC
  room := cx.room
  fns := cx.fns
theorem PTs.imp {X : Cx} {ifs : List Expr} {t t' : TT} (h : PTs X ifs t) (i : ∀ σ H Q, t' σ H Q → t σ H Q) : PTs X ifs t' := ⟨fun pins s σ H Q I q => h.run pins s σ H Q I (i σ H Q q)⟩
theorem snd_ifs (hT : SndT g W Φ X rT) {ifs : List Expr} (he : cIfs rT ifs = some m) : PTs X ifs (tB g W (tst Φ m)) := by
  unfold cIfs at he
  split at he
  · cases he
    exact PTs.imp pts_nil fun σ H Q h => tB_c h
  · exact pts_one (hT _ _ he)
  · cases he
/-- a comprehension's parts -/
theorem comp_parts {elt : Expr} {gs : List Comprehension} {scope : Scope} {r : Expr → Option E} {rC rCT : Cc → Expr → Option E} (he : cComp1 r rC rCT C elt gs scope = some m) : ∃ tg it ifs t i c e, gs = [⟨tg, it, ifs, 0⟩] ∧ cTg C.N (relS scope C.sc) (blkOf C scope).fn tg = some t ∧
    (if isRange it then cIter r C (isTup tg) it else if noSet it then r it else none) = some i ∧ cIfs (rCT (blkOf C scope)) ifs = some c ∧ rC (blkOf C scope) elt = some e ∧ BlkOk C.N C.sc scope (t.slots.map fun i => (C.N.getD i "", i)) ∧ m = .lc t i c e := by
  unfold cComp1 at he
  split at he
  · split at he
    · rename_i t i c e h1 h2 h3 h4
      split at he
      · rename_i hb
        cases he
        exact ⟨_, _, _, t, i, c, e, rfl, h1, h2, h3, h4, blkOk_by hb, rfl⟩
      · cases he
    · cases he
  · cases he
/-- what is shown of every text at a depth -/
def AllE (g : GC) (Φ : Phi) (k n : Nat) : Prop := ∀ (W : WX) (C : Cc) (X : Cx), CxC g W C Φ k X → SndE g W Φ X (cE n C) ∧ SndT g W Φ X (cT n C)
theorem own_slots {N : List Str} : ∀ {l : List Nat}, (l.map fun i => (N.getD i "", i)).map (·.2) = l
  | [] => rfl
  | i :: l => by
    show i :: _ = _
    rw [own_slots]
theorem snd_lc {n : Nat} (ih : AllE g Φ k n) (cx : CxC g W C Φ k X) {elt : Expr} {gs : List Comprehension} {scope : Scope} (he : cComp1 (cE n C) (cE n) (cT n) C elt gs scope = some m) (fr : Bool) : PE X (.ListComp elt gs scope pos) (tE g fr W (ev Φ m)) := by
  obtain ⟨tg, it, ifs, t, i, c, e, rfl, h1, h2, h3, h4, ok, rfl⟩ := comp_parts he
  obtain ⟨hi, hs⟩ := snd_iter (tg := tg) cx (ih W C X cx).1 h2
  have ok' : BlkOk X.N X.env.scope scope (t.slots.map fun i => (C.N.getD i "", i)) := by rw [cx.N', cx.sc']; exact ok
  exact sE_lc cx.toXX hi ok' own_slots (fun s H D cl fp => (snd_tg (blk_cx cx ok s H D cl fp) h1).1) (fun s H D cl fp => snd_ifs (ih WF _ _ (blk_cx cx ok s H D cl fp)).2 h3)
    (fun s H D cl fp => (ih WF _ _ (blk_cx cx ok s H D cl fp)).1.f h4) hs
theorem dcomp_parts {kx vx : Expr} {gs : List Comprehension} {scope : Scope} {r : Expr → Option E} {rC rCT : Cc → Expr → Option E} (he : cDcomp r rC rCT C kx vx gs scope = some m) : ∃ tg it ifs t i c e1 e2, gs = [⟨tg, it, ifs, 0⟩] ∧ cTg C.N (relS scope C.sc) (blkOf C scope).fn tg = some t ∧
    (if isRange it then cIter r C (isTup tg) it else if noSet it then r it else none) = some i ∧ cIfs (rCT (blkOf C scope)) ifs = some c ∧ rC (blkOf C scope) kx = some e1 ∧ rC (blkOf C scope) vx = some e2 ∧ BlkOk C.N C.sc scope (t.slots.map fun i => (C.N.getD i "", i)) ∧ m = .dcomp t i c e1 e2 := by
  unfold cDcomp at he
  split at he
  · split at he
    · rename_i t i c e1 e2 h1 h2 h3 h4 h5
      split at he
      · rename_i hb
        cases he
        exact ⟨_, _, _, t, i, c, e1, e2, rfl, h1, h2, h3, h4, h5, blkOk_by hb, rfl⟩
      · cases he
    · cases he
  · cases he
theorem dcomp_nf {kx vx : Expr} {gs : List Comprehension} {scope : Scope} {r : Expr → Option E} {rC rCT : Cc → Expr → Option E} (he : cDcomp r rC rCT C kx vx gs scope = some m) : freshE m = false := by
  obtain ⟨_, _, _, _, _, _, _, _, _, _, _, _, _, _, _, rfl⟩ := dcomp_parts he
  rfl
theorem snd_dc {n : Nat} (ih : AllE g Φ k n) (cx : CxC g W C Φ k X) {kx vx : Expr} {gs : List Comprehension} {scope : Scope} (he : cDcomp (cE n C) (cE n) (cT n) C kx vx gs scope = some m) : PE X (.DictComp kx vx gs scope pos) (tE g false W (ev Φ m)) := by
  obtain ⟨tg, it, ifs, t, i, c, e1, e2, rfl, h1, h2, h3, h4, h5, ok, rfl⟩ := dcomp_parts he
  obtain ⟨hi, hs⟩ := snd_iter (tg := tg) cx (ih W C X cx).1 h2
  have ok' : BlkOk X.N X.env.scope scope (t.slots.map fun i => (C.N.getD i "", i)) := by rw [cx.N', cx.sc']; exact ok
  exact sE_dcomp cx.toXX hi ok' own_slots (fun s H D cl fp => (snd_tg (blk_cx cx ok s H D cl fp) h1).1) (fun s H D cl fp => snd_ifs (ih WF _ _ (blk_cx cx ok s H D cl fp)).2 h3)
    (fun s H D cl fp => (ih WF _ _ (blk_cx cx ok s H D cl fp)).1.f h4) (fun s H D cl fp => (ih WF _ _ (blk_cx cx ok s H D cl fp)).1.f h5) hs
theorem snd_E0 {n : Nat} (ih : AllE g Φ k n) (cx : CxC g W C Φ k X) (he : cE0 (cE n C) (cT n C) (cE n) (cT n) C e = some m) (fr : Bool) (hf : fr = true → freshE m = true) : PE X e (tE g fr W (ev Φ m)) := by
  have h := (ih W C X cx).1
  have hT := (ih W C X cx).2
  unfold cE0 at he
  split at he
  · obtain ⟨d, hd, rfl⟩ := map_some he
    exact snd_const hd
  · split at he
    · rename_i hx
      rw [Bool.and_eq_true] at hx
      obtain ⟨i, hi, rfl⟩ := map_some he
      obtain rfl := nf (by rfl) hf
      obtain ⟨q1, q2, _⟩ := nameOk_ok hx.2
      exact sE_var (by rw [cx.N']; exact ixOf_get hi) (by rw [cx.sc']; exact visC_ok hx.1) q1 q2
    · split at he
      · rename_i hx
        rw [Bool.and_eq_true] at hx
        obtain ⟨s, hs, rfl⟩ := map_some he
        obtain rfl := nf (by rfl) hf
        exact sE_glob (nameOk_ok hx.2).1 (cx.gl hx.1) (cx.mgC _ _ hs)
      · cases he
  · split at he
    · rename_i o2 u v h1 h2 h3
      cases he
      exact sE_op (op_snd cx.toXg h1 fr _) (h.f h2) (h.f h3)
    · cases he
  · split at he
    · obtain ⟨u, hu, rfl⟩ := map_some he
      exact sE_neg (h.f hu)
    · obtain ⟨u, hu, rfl⟩ := map_some he
      exact sE_not cx.hK (h.f hu)
    · cases he
  · exact (snd_comp cx.toXg h he fr).1
  · exact snd_bool h he fr hf
  · split at he
    · rename_i u v w h1 h2 h3
      cases he
      have hf' : fr = true → freshE v = true ∧ freshE w = true := fun z => by
        have := hf z
        simp only [freshE, Bool.and_eq_true] at this
        exact this
      exact sE_ite (hT _ _ h1) (h _ _ h2 fr fun z => (hf' z).1) (h _ _ h3 fr fun z => (hf' z).2)
    · cases he
  · obtain ⟨u, hu, rfl⟩ := map_some he
    exact sE_tup (snd_list h cx.hK hu)
  · obtain ⟨u, hu, rfl⟩ := map_some he
    exact sE_lst (snd_list h cx.hK hu)
  · exact snd_sub cx.toXg h he fr hf
  · exact snd_lc ih cx he fr
  · exact snd_dict h he fr hf
  · obtain rfl := nf (dcomp_nf he) hf
    exact snd_dc ih cx he
  · split at he
    · exact snd_callN cx h he fr hf
    · split at he
      · exact snd_callM cx.toXg h he fr hf
      · cases he
    · cases he
  · cases he
theorem all_E : ∀ n, AllE g Φ k n
  | 0 => fun W C X cx => ⟨fun e m h => (by cases h), fun e m h => (by cases h)⟩
  | n + 1 => fun W C X cx => by
    have ih := all_E n
    refine ⟨fun e m he fr hf => ?_, fun e m he => ?_⟩
    · simp only [cE] at he
      cases q : cE0 (cE n C) (cT n C) (cE n) (cT n) C e with
      | none => rw [q] at he; cases he
      | some u =>
        rw [q] at he
        simp only [Option.bind, wrapN] at he
        split at he
        · split at he
          · rename_i hfr
            cases he
            obtain rfl := nf (by rfl) hf
            exact sE_new (snd_E0 ih cx q true fun _ => hfr)
          · cases he
            exact snd_E0 ih cx q fr hf
        · cases he
          exact snd_E0 ih cx q fr hf
    · simp only [cT] at he
      have h := (ih W C X cx).1
      have hT := (ih W C X cx).2
      unfold cTst at he
      split at he
      · split at he
        · obtain ⟨u, hu, rfl⟩ := map_some he
          exact sT_not (hT _ _ hu)
        · cases he
      · exact (snd_boolT hT he).pt
      · exact (snd_comp cx.toXg h he false).2
      · cases he
      · rename_i n1 n2 n3 n4
        refine sT_truth cx.hK (h.f he) ?_
        cases e <;> first
          | exact fun _ => rfl
          | exact absurd rfl (n1 _ _ _)
          | exact absurd rfl (n2 _ _ _)
          | exact absurd rfl (n3 _ _ _ _)
          | exact absurd rfl (n4 _ _ _ _)
end
end MP
end

section
set_option Elab.async false
set_option linter.all false
set_option maxRecDepth 100000
set_option maxHeartbeats 1000000
/-! MP: every statement. -/
namespace MP
open PySem PySem.Spec PyProof.Rows L2
def isComp : Expr → Bool
  | .ListComp .. => true
  | .SetComp .. => true
  | .DictComp .. => true
  | _ => false
section
variable {X : Cx} {a b c e : Expr} {x y z : Str} {px py pz pt pos : Pos} {kt k2 : Nat} {pt2 : Pos}
theorem anyF {f : Expr → Bool} (hf : ∀ e, plainE e = true → f e = false) : ∀ {es : List Expr}, es.all plainE = true → es.any f = false
  | [], _ => rfl
  | e :: es, h => by
    rw [List.all_cons, Bool.and_eq_true] at h
    rw [List.any_cons, hf e h.1, anyF hf h.2]
    rfl
theorem blockK {env : PySem.Env} (hk : env.scope.kind = .function) : env.blockKind = .function := by
  unfold Env.blockKind
  rw [hk]
  rfl
theorem sw2 {env : PySem.Env} (hk : env.scope.kind = .function) (hx : env.scope.names.lookup x = some .local) (hy : env.scope.names.lookup y = some .local) (hl : py.line = px.line) (hxy : x ≠ y) (hp : [a, b].all plainE = true) (hf : [a, b].all (foldedForSure 8) = false) (hc : [a, b].all (constantsAlone 8) = false) :
    swappedStores [.Tuple [.Name x px, .Name y py] kt pt] (.Tuple [a, b] k2 pt2) env = pure (some [x, y]) := by
  have hb := blockK hk
  have kx : env.kindOf x = some .local := hx
  have ky : env.kindOf y = some .local := hy
  unfold swappedStores
  simp only
  rw [anyF (f := _) ?_ hp]
  · simp only [hb, hf, hc, List.filterMap_cons, List.filterMap_nil, kx, ky, List.head?, Option.map, Option.getD, Expr.pos, hl]
    have hyx : (y == x) = false := beq_eq_false_iff_ne.mpr (Ne.symm hxy)
    simp [List.eraseDups_cons, hyx]
  · intro e he
    cases e <;> first | rfl | cases he
theorem sw3 {env : PySem.Env} (hk : env.scope.kind = .function) (hx : env.scope.names.lookup x = some .local) (hy : env.scope.names.lookup y = some .local) (hz : env.scope.names.lookup z = some .local) (hl : py.line = px.line) (hl2 : pz.line = px.line) (hxy : x ≠ y) (hxz : x ≠ z) (hyz : y ≠ z) (hp : [a, b, c].all plainE = true) (hf : [a, b, c].all (foldedForSure 8) = false) (hc : [a, b, c].all (constantsAlone 8) = false) :
    swappedStores [.Tuple [.Name x px, .Name y py, .Name z pz] kt pt] (.Tuple [a, b, c] k2 pt2) env = pure (some [x, y, z]) := by
  have hb := blockK hk
  have kx : env.kindOf x = some .local := hx
  have ky : env.kindOf y = some .local := hy
  have kz : env.kindOf z = some .local := hz
  unfold swappedStores
  simp only
  rw [anyF (f := _) ?_ hp]
  · simp only [hb, hf, hc, List.filterMap_cons, List.filterMap_nil, kx, ky, kz, List.head?, Option.map, Option.getD, Expr.pos, hl, hl2]
    have hyx : (y == x) = false := beq_eq_false_iff_ne.mpr (Ne.symm hxy)
    have hzx : (z == x) = false := beq_eq_false_iff_ne.mpr (Ne.symm hxz)
    have hzy : (z == y) = false := beq_eq_false_iff_ne.mpr (Ne.symm hyz)
    simp [List.eraseDups_cons, hyx, hzx, hzy]
  · intro e he
    cases e <;> first | rfl | cases he
theorem kind_only {env : PySem.Env} {x : Str} : (env.kindOf x == some .local) = onlyC env.scope x := by
  unfold Env.kindOf onlyC
  cases env.scope.names.lookup x with
  | none => rfl
  | some q => cases q <;> rfl
/-- a target that is stored to otherwise than a local name -/
def notOnly (sc : Scope) : Expr → Bool
  | .Name x _ => !onlyC sc x
  | _ => true
theorem fm_short {α β : Type} {f : α → Option β} : ∀ {l : List α}, (l.any fun x => (f x).isNone) = true → (l.filterMap f).length < l.length
  | x :: r, h => by
    rw [List.any_cons, Bool.or_eq_true] at h
    rw [List.filterMap_cons, List.length_cons]
    cases e : f x with
    | none => exact Nat.lt_succ_of_le (List.length_filterMap_le ..)
    | some y =>
      rw [e] at h
      have := fm_short (h.resolve_left (by simp))
      dsimp only
      rw [List.length_cons]
      omega
theorem sw_free {ts vs : List Expr} {env : PySem.Env} (h : ts.any (notOnly env.scope) = true) : swappedStores [.Tuple ts kt pt] (.Tuple vs k2 pt2) env = pure none := by
  have hl : ∀ line : Nat, ((ts.filterMap fun
    | .Name id pos => if env.kindOf id == some .local && pos.line == line then some id else none
    | _ => none).length != ts.length) = true := by
    intro line
    refine bne_iff_ne.mpr (Nat.ne_of_lt (fm_short ?_))
    rw [List.any_eq_true] at h ⊢
    obtain ⟨e, he, h⟩ := h
    refine ⟨e, he, ?_⟩
    cases e <;> first | rfl | skip
    rename_i x p
    rw [notOnly, Bool.not_eq_true'] at h
    simp only [kind_only, h]
    rfl
  unfold swappedStores
  simp only [hl]
  repeat' split
  all_goals first | rfl | skip
  all_goals simp_all
  all_goals
    obtain ⟨x, hx, e⟩ := hl ((Option.map (fun (x : Expr) => x.pos.line) ts.head?).getD 0)
    first
      | (rename_i q; exact absurd e (q.1 x hx))
      | (rename_i q _; exact absurd e (q.1 x hx))
      | (rename_i q _ _; exact absurd e (q.1 x hx))
      | (rename_i q _ _ _; exact absurd e (q.1 x hx))
/-- all of it folded: no swap -/
theorem sw_fold {ts vs : List Expr} {env : PySem.Env} (hf : vs.all (foldedForSure 8) = true) : swappedStores [.Tuple ts kt pt] (.Tuple vs k2 pt2) env = pure none := by
  unfold swappedStores
  simp only [hf]
  repeat' split
  all_goals first | rfl | (rename_i h; exact absurd trivial h) | (rename_i h _; exact absurd trivial h)
theorem sw_not {tg : Expr} {env : PySem.Env} (h : match tg, e with | .Tuple .., .Tuple .. => False | .List .., .Tuple .. => False | _, _ => True) : swappedStores [tg] e env = pure none := by
  unfold swappedStores
  split
  · rename_i heq
    split at heq
    · first
        | (rename_i q; cases q; exact h.elim)
        | (rename_i q _; cases q; exact h.elim)
        | (rename_i _ q _; cases q; exact h.elim)
    · first
        | (rename_i q; cases q; exact h.elim)
        | (rename_i q _; cases q; exact h.elim)
        | (rename_i _ q _; cases q; exact h.elim)
    · cases heq
  · rfl
/-- name = value: does the comprehension store by itself -/
def swapB (sc : Scope) (x : Str) (p : Pos) : Expr → Bool
  | .ListComp _ _ s lp => onlyC sc x && (p.line == lp.line) && !(s.names.any fun (n, k) => n == x && (k == .local || k == .cell))
  | .DictComp _ _ _ s lp => onlyC sc x && (p.line == lp.line) && !(s.names.any fun (n, k) => n == x && (k == .local || k == .cell))
  | _ => false
theorem swapB_ok {env : PySem.Env} {ln : Nat} (hk : env.scope.kind = .function) (hn : match e with | .SetComp .. => False | _ => True) : swapsWith e (some (.Name x px)) ln env = pure (swapB env.scope x px e) := by
  have this : (env.kindOf x == some .local) = (match env.scope.names.lookup x with
    | some .local => true
    | _ => false) := by
    unfold Env.kindOf
    cases env.scope.names.lookup x with
    | none => rfl
    | some q => cases q <;> rfl
  have hb := blockK hk
  cases e <;> first | rfl | exact hn.elim | skip
  all_goals
    unfold swapsWith swapB onlyC
    simp only [hb, Expr.pos]
    rw [this]
    first
      | (simp; done)
      | (simp; rfl)
end
end MP
end

section
set_option Elab.async false
set_option linter.all false
set_option maxRecDepth 100000
set_option maxHeartbeats 1000000
/-! MP: every statement. -/
namespace MP
open PySem PySem.Spec PyProof.Rows L2
section
variable (r rT : Expr → Option E) (rS : Stmt → Option S) (C : Cc)
def cAsgN (x : Str) (v : Expr) : Option S :=
  if locC C.sc x && (onlyC C.sc x || decide (x ∈ C.fn)) then
    match ixOf C.N x, r v with
    | some i, some m => match v with
      | .SetComp .. => none
      | _ => some (.asg (.nm i) m)
    | _, _ => none
  else none
def cAsgT (ts : List Expr) (kt : Nat) (pt : Pos) (v : Expr) : Option S :=
  match v with
  | .Tuple vs k2 pt2 =>
    if vs.all (foldedForSure 8) then match cTg C.N C.sc C.fn (.Tuple ts kt pt), r (.Tuple vs k2 pt2) with
      | some t, some m => some (.asg t m)
      | _, _ => none
    else if ts.any (notOnly C.sc) then match cTg C.N C.sc C.fn (.Tuple ts kt pt), r (.Tuple vs k2 pt2) with
      | some t, some m => some (.asg t m)
      | _, _ => none
    else match ts, vs with
      | [.Name x px, .Name y py], [a, b] => if onlyC C.sc x && onlyC C.sc y && decide (py.line = px.line) && decide (x ≠ y) && [a, b].all plainE && ![a, b].all (constantsAlone 8) then match ixOf C.N x, ixOf C.N y, cList r [a, b] with
        | some i, some j, some l => some (.par (.cons (.nm i) (.cons (.nm j) .nil)) l)
        | _, _, _ => none else none
      | [.Name x px, .Name y py, .Name z pz], [a, b, c] => if onlyC C.sc x && onlyC C.sc y && onlyC C.sc z && decide (py.line = px.line) && decide (pz.line = px.line) && decide (x ≠ y) && decide (x ≠ z) && decide (y ≠ z) && [a, b, c].all plainE && ![a, b, c].all (constantsAlone 8) then match ixOf C.N x, ixOf C.N y, ixOf C.N z, cList r [a, b, c] with
        | some i, some j, some k, some l => some (.par (.cons (.nm i) (.cons (.nm j) (.cons (.nm k) .nil))) l)
        | _, _, _, _ => none else none
      | _, _ => none
  | v => match cTg C.N C.sc C.fn (.Tuple ts kt pt), r v with
    | some t, some m => some (.asg t m)
    | _, _ => none
def cAsg (targets : List Expr) (v : Expr) : Option S :=
  match targets with
  | [.Name x _] => cAsgN r C x v
  | [.Subscript o i _] => if noSlice i then match r o, r i, r v with
    | some u, some w, some m => some (.seti u w m)
    | _, _, _ => none else none
  | [.Tuple ts kt pt] => cAsgT r C ts kt pt v
  | _ => none
def cBlock : List Stmt → Option S
  | [] => some .skip
  | s :: ss => match rS s, cBlock ss with
    | some a, some b => some (.seq a b)
    | _, _ => none
def cS0 (s : Stmt) : Option S :=
  match s with
  | .Assign ts v _ => cAsg r C ts v
  | .Expr e _ => if isComp e then none else (r e).map .ex
  | .Return v _ => match v with
    | some e => (r e).map .ret
    | none => some (.ret (.c .non))
  | .If c a b _ => match rT c, cBlock rS a, cBlock rS b with
    | some x, some y, some z => some (.ite x y z)
    | _, _, _ => none
  | .For t i b els _ => match els with
    | [] => match cTg C.N C.sc C.fn t, (if isRange i then cIter r C (isTup t) i else if noSet i then r i else none), cBlock rS b with
      | some x, some y, some z => some (.for_ x y z)
      | _, _, _ => none
    | _ => none
  | .While c b els _ => match els with
    | [] => match rT c, cBlock rS b with
      | some x, some z => some (.whl x z)
      | _, _ => none
    | _ => none
  | .Pass _ => some .skip
  | .Raise _ _ _ => some .stuck
  | _ => none
end
def cS : Nat → Cc → Stmt → Option S
  | 0, _, _ => none
  | n + 1, C, s => cS0 (cE n C) (cT n C) (cS n C) C s
/-- a def's body -/
def cBody (n : Nat) (C : Cc) (b : List Stmt) : Option S := cBlock (cS n C) b

structure CxS (g : GC) (W : WX) (C : Cc) (Φ : Phi) (k : Nat) (X : Cx) : Prop extends CxC g W C Φ k X where
  pass : PassesOwn (model X.prog X.w) X.A X.env X.xe
section
variable {g : GC} {fr : Bool} {W : WX} {X : Cx} {C : Cc} {Φ : Phi} {k : Nat} {a b c e o tg : Expr} {es : List Expr} {m : S} {pos p p2 p3 apos cpos : Pos} {x name : Str} {r rT : Expr → Option E}
theorem swap_other {t : Expr} {ln : Nat} {env : PySem.Env} (h : match t with | .Name .. => False | _ => True) : swapsWith e (some t) ln env = pure false := by
  cases e <;> first | rfl | (cases t <;> first | rfl | exact h.elim)
theorem swap_plain {t : Option Expr} {ln : Nat} {env : PySem.Env} (h : isComp e = false) : swapsWith e t ln env = pure false := by
  cases e <;> first | rfl | cases h
theorem sS_retN : PS X (.Return none pos) (tS g W (exS Φ (.ret (.c .non)))) :=
  PS.imp ps_retN fun D σ H h => by
    obtain ⟨θ, st, ρ, s, en, l, h⟩ := h
    exact h θ H .non .refl s .non
theorem lc_set {n : Nat} (cx : CxC g W C Φ k X) {elt : Expr} {gs : List Comprehension} {scope : Scope} {mm : E} {i : Nat} (he : cE n C (.ListComp elt gs scope p2) = some mm) (hi : X.N[i]? = some x) (hx : X.env.scope.names.lookup x = some .local)
    (hsw : swapsWith (.ListComp elt gs scope p2) (some (.Name x p)) pos.line X.env = pure true) : PS X (.Assign [.Name x p] (.ListComp elt gs scope p2) pos) (tS g W (exS Φ (.asg (.nm i) mm))) := by
  cases n with
  | zero => cases he
  | succ n =>
    simp only [cE, cE0] at he
    have ih := all_E (g := g) (Φ := Φ) (k := k) n
    cases q : cComp1 (cE n C) (cE n) (cT n) C elt gs scope with
    | none => rw [q] at he; cases he
    | some u =>
      rw [q] at he
      simp only [Option.bind, wrapN] at he
      obtain ⟨tg, it, ifs, t, ei, ec, ee, rfl, h1, h2, h3, h4, ok, rfl⟩ := comp_parts q
      obtain ⟨hit, hs⟩ := snd_iter (tg := tg) cx (ih W C X cx).1 h2
      have ok' : BlkOk X.N X.env.scope scope (t.slots.map fun i => (C.N.getD i "", i)) := by rw [cx.N', cx.sc']; exact ok
      refine PS.imp (ps_setLc cx.calm cx.nd hi hx hsw hit ok' (fun s H D cl fp => (snd_tg (blk_cx cx ok s H D cl fp) h1).1) (fun s H D cl fp => snd_ifs (ih WF _ _ (blk_cx cx ok s H D cl fp)).2 h3)
        (fun s H D cl fp => (ih WF _ _ (blk_cx cx ok s H D cl fp)).1.f h4) hs) fun D σ H h => ?_
      have h' := asg_t (te := tE g false W (ev Φ mm)) (fun _ q => q) rfl h
      have h2 : tE g false W (ev Φ mm) σ H fun v H1 => gName i v σ H1 D.nx := tE_imp (fun v H1 q => gName_of q) h'
      split at he
      · split at he
        · cases he
          exact lc_t own_slots (new_t h2)
        · cases he
          exact lc_t own_slots h2
      · cases he
        exact lc_t own_slots h2
theorem dc_set {n : Nat} (cx : CxC g W C Φ k X) {kx vx : Expr} {gs : List Comprehension} {scope : Scope} {mm : E} {i : Nat} (he : cE n C (.DictComp kx vx gs scope p2) = some mm) (hi : X.N[i]? = some x) (hx : X.env.scope.names.lookup x = some .local)
    (hsw : swapsWith (.DictComp kx vx gs scope p2) (some (.Name x p)) pos.line X.env = pure true) : PS X (.Assign [.Name x p] (.DictComp kx vx gs scope p2) pos) (tS g W (exS Φ (.asg (.nm i) mm))) := by
  cases n with
  | zero => cases he
  | succ n =>
    simp only [cE, cE0] at he
    have ih := all_E (g := g) (Φ := Φ) (k := k) n
    cases q : cDcomp (cE n C) (cE n) (cT n) C kx vx gs scope with
    | none => rw [q] at he; cases he
    | some u =>
      rw [q] at he
      simp only [Option.bind, wrapN] at he
      obtain ⟨tg, it, ifs, t, ei, ec, e1, e2, rfl, h1, h2, h3, h4, h5, ok, rfl⟩ := dcomp_parts q
      obtain ⟨hit, hs⟩ := snd_iter (tg := tg) cx (ih W C X cx).1 h2
      have ok' : BlkOk X.N X.env.scope scope (t.slots.map fun i => (C.N.getD i "", i)) := by rw [cx.N', cx.sc']; exact ok
      refine PS.imp (ps_setDc cx.calm cx.nd hi hx hsw hit ok' (fun s H D cl fp => (snd_tg (blk_cx cx ok s H D cl fp) h1).1) (fun s H D cl fp => snd_ifs (ih WF _ _ (blk_cx cx ok s H D cl fp)).2 h3)
        (fun s H D cl fp => (ih WF _ _ (blk_cx cx ok s H D cl fp)).1.f h4) (fun s H D cl fp => (ih WF _ _ (blk_cx cx ok s H D cl fp)).1.f h5) hs) fun D σ H h => ?_
      have h' := asg_t (te := tE g false W (ev Φ mm)) (fun _ q => q) rfl h
      have h2 : tE g false W (ev Φ mm) σ H fun v H1 => gName i v σ H1 D.nx := tE_imp (fun v H1 q => gName_of q) h'
      have hm : mm = .dcomp t ei ec e1 e2 := by
        split at he
        · cases he; rfl
        · cases he; rfl
      subst hm
      exact dc_t own_slots h2
theorem snd_asgN {n : Nat} (cx : CxC g W C Φ k X) (he : cAsgN (cE n C) C x e = some m) : PS X (.Assign [.Name x p] e pos) (tS g W (exS Φ m)) := by
  unfold cAsgN at he
  split at he
  · rename_i hx
    obtain ⟨l1, l2⟩ := cx.locOk hx
    split at he
    · rename_i i mm hi hm
      have hi' : X.N[i]? = some x := by rw [cx.N']; exact ixOf_get hi
      split at he
      · cases he
      · rename_i n1
        cases he
        have hsw : ∀ ln, swapsWith e (some (.Name x p)) ln X.env = pure (swapB C.sc x p e) := fun ln => by
          rw [← cx.sc']
          refine swapB_ok cx.kind ?_
          cases e <;> first | trivial | exact absurd rfl (n1 _ _ _ _)
        cases hb : swapB C.sc x p e with
        | false => exact sS_set cx.nd hi' l1 l2 ((all_E (k := k) n W C X cx).1.f hm) (by rw [hsw, hb])
        | true =>
          have hb0 := hb
          unfold swapB at hb
          split at hb
          · rename_i elt gs s lp
            simp only [Bool.and_eq_true] at hb
            refine lc_set cx hm hi' (by rw [cx.sc']; exact onlyC_ok hb.1.1) ?_
            rw [hsw, hb0]
          · simp only [Bool.and_eq_true] at hb
            refine dc_set cx hm hi' (by rw [cx.sc']; exact onlyC_ok hb.1.1) ?_
            rw [hsw, hb0]
          · cases hb
    · cases he
  · cases he
theorem snd_asgT {n : Nat} (cx : CxC g W C Φ k X) {ts : List Expr} {kt : Nat} {pt : Pos} (he : cAsgT (cE n C) C ts kt pt e = some m) : PS X (.Assign [.Tuple ts kt pt] e pos) (tS g W (exS Φ m)) := by
  have h := (all_E (g := g) (Φ := Φ) (k := k) n W C X cx).1
  have only : ∀ {y : Str}, onlyC C.sc y = true → X.env.scope.names.lookup y = some .local := fun z => by rw [cx.sc']; exact onlyC_ok z
  have ix : ∀ {y : Str} {i : Nat}, ixOf C.N y = some i → X.N[i]? = some y := fun z => by rw [cx.N']; exact ixOf_get z
  have ne : ∀ {y z : Str} {i j : Nat}, ixOf C.N y = some i → ixOf C.N z = some j → y ≠ z → i ≠ j := fun hy hz d e => d (by
    have h1 := ixOf_get hy
    have h2 := ixOf_get hz
    rw [e, h2] at h1
    exact (Option.some.inj h1).symm)
  unfold cAsgT at he
  split at he
  · rename_i vs k2 pt2
    split at he
    · rename_i hf
      split at he
      · rename_i t mm h1 h2
        cases he
        obtain ⟨g1, g2⟩ := snd_tg cx h1
        exact sS_asg (h.f h2) g1 (swap_plain rfl) (sw_fold hf) g2
      · cases he
    · rename_i hf
      split at he
      · rename_i hfree
        split at he
        · rename_i t mm h1 h2
          cases he
          obtain ⟨g1, g2⟩ := snd_tg cx h1
          exact sS_asg (h.f h2) g1 (swap_plain rfl) (sw_free (by rw [cx.sc']; exact hfree)) g2
        · cases he
      split at he
      · split at he
        · rename_i hz
          simp only [Bool.and_eq_true, decide_eq_true_eq, Bool.not_eq_true'] at hz
          obtain ⟨⟨⟨⟨⟨z1, z2⟩, z3⟩, z4⟩, z5⟩, z6⟩ := hz
          split at he
          · rename_i i j l h1 h2 h3
            cases he
            exact sS_par2 cx.toXg cx.nd (ix h1) (ix h2) (ne h1 h2 z4) (only z1) (only z2) (snd_list h cx.hK h3) (sw2 cx.kind (only z1) (only z2) z3 z4 z5 (Bool.eq_false_iff.mpr hf) z6)
          · cases he
        · cases he
      · split at he
        · rename_i hz
          simp only [Bool.and_eq_true, decide_eq_true_eq, Bool.not_eq_true'] at hz
          obtain ⟨⟨⟨⟨⟨⟨⟨⟨⟨z1, z2⟩, z3⟩, z4⟩, z5⟩, z6⟩, z7⟩, z8⟩, z9⟩, z10⟩ := hz
          split at he
          · rename_i i j l q h1 h2 h3 h4
            cases he
            exact sS_par3 cx.toXg cx.nd (ix h1) (ix h2) (ix h3) (ne h1 h2 z6) (ne h1 h3 z7) (ne h2 h3 z8) (only z1) (only z2) (only z3) (snd_list h cx.hK h4) (sw3 cx.kind (only z1) (only z2) (only z3) z4 z5 z6 z7 z8 z9 (Bool.eq_false_iff.mpr hf) z10)
          · cases he
        · cases he
      · cases he
  · rename_i hn
    split at he
    · rename_i t mm h1 h2
      cases he
      obtain ⟨g1, g2⟩ := snd_tg cx h1
      refine sS_asg (h.f h2) g1 (swap_other trivial) (sw_not ?_) g2
      cases e <;> first | trivial | exact absurd rfl (hn _ _ _)
    · cases he
theorem snd_asg {n : Nat} (cx : CxC g W C Φ k X) {ts : List Expr} (he : cAsg (cE n C) C ts e = some m) : PS X (.Assign ts e pos) (tS g W (exS Φ m)) := by
  have h := (all_E (g := g) (Φ := Φ) (k := k) n W C X cx).1
  unfold cAsg at he
  split at he
  · exact snd_asgN cx he
  · split at he
    · rename_i hns
      split at he
      · rename_i u w mm h1 h2 h3
        cases he
        refine sS_seti cx.toXg hns (h.f h3) (h.f h1) (h.f h2) (swap_other trivial) (sw_not trivial)
      · cases he
    · cases he
  · exact snd_asgT cx he
  · cases he
theorem snd_block {rS : Stmt → Option S} (h : ∀ s m, rS s = some m → PS X s (tS g W (exS Φ m))) : ∀ {ss : List Stmt} {m : S}, cBlock rS ss = some m → PSs X ss (tS g W (exS Φ m))
  | [], m, e => by cases e; exact sSs_nil
  | s :: ss, m, e => by
    simp only [cBlock] at e
    split at e
    · rename_i u v h1 h2
      cases e
      exact sSs_cons (h _ _ h1) (snd_block h h2)
    · cases e
theorem snd_S (cx : CxS g W C Φ k X) : ∀ n (s : Stmt) (m : S), cS n C s = some m → PS X s (tS g W (exS Φ m))
  | 0, s, m, he => by cases he
  | n + 1, s, m, he => by
    have h := (all_E (g := g) (Φ := Φ) (k := k) n W C X cx.toCxC).1
    have hT := (all_E (g := g) (Φ := Φ) (k := k) n W C X cx.toCxC).2
    have ih := snd_S cx n
    simp only [cS] at he
    unfold cS0 at he
    split at he
    · exact snd_asg cx.toCxC he
    · split at he
      · cases he
      · rename_i hc
        obtain ⟨u, hu, rfl⟩ := map_some he
        exact sS_ex (h.f hu) (swap_plain (Bool.eq_false_iff.mpr hc))
    · split at he
      · obtain ⟨u, hu, rfl⟩ := map_some he
        exact sS_ret (h.f hu)
      · cases he
        exact sS_retN
    · split at he
      · rename_i u v w h1 h2 h3
        cases he
        exact sS_if (hT _ _ h1) (snd_block ih h2) (snd_block ih h3)
      · cases he
    · split at he
      · split at he
        · rename_i t u v h1 h2 h3
          cases he
          obtain ⟨i1, i2⟩ := snd_iter cx.toCxC h h2
          exact sS_for cx.toXg cx.pass i1 (snd_tg cx.toCxC h1).1 (snd_block ih h3) i2
        · cases he
      · cases he
    · split at he
      · split at he
        · rename_i u v h1 h2
          cases he
          exact sS_while cx.pass (hT _ _ h1) (snd_block ih h2)
        · cases he
      · cases he
    · cases he
      exact sS_pass
    · cases he
      exact sS_stuck
    · cases he
theorem snd_body (cx : CxS g W C Φ k X) {n : Nat} {ss : List Stmt} {m : S} (h : cBody n C ss = some m) : PSs X ss (tS g W (exS Φ m)) := snd_block (snd_S cx n) h
end
end MP
end

section
set_option Elab.async false
set_option linter.all false
set_option maxRecDepth 100000
set_option maxHeartbeats 1000000
/-! MP: the law's own call. -/
namespace MP
open PySem PySem.Spec PyProof.Rows L2
section
variable {Pr : Program} {w : World} {K : PySem.W.Frag} {mg mb : Str → Option Value} {k : Nat} {fa a : Addr} {fd : FuncData} {x : Str} {sp : Sp} {s1 : Shared} {vs : List Value} {ns : List Int}
/-- what is told at the law's entry: nothing but the script, and that only where it is no object of the written part -/
def OnlyA (K : PySem.W.Frag) (H : Hp) (a : Addr) (ob : Obj) (xs : List V) : Prop := ∀ b, H b = none ∨ (b = a ∧ K.lookup a = none ∧ H b = some (.frz ob (.lst xs)))
theorem law_from {H : Hp} {ob : Obj} (hob : ob = { cls := .type "list", data := .seq vs.toArray }) (kin : K.In s1.heap) (nsm : s1.heap.Ns mainGlobals mg) (nsb : s1.heap.Ns builtinsNs mb) (bb : ∀ y : Str, y ≠ "__name__" → mb y = bootBuiltins y) (nolim : s1.heap.NoLimit) (nog : s1.gens = #[])
    (ha : s1.heap.get? a = some ob) (only : OnlyA K H a ob (ns.map V.int)) (hok : HOk Pr w H s1.heap) (room : Room k callerA) (F : ∀ base : Heap, K.In base → base.Ns mainGlobals mg → FnG Pr w K mg base k fa fd [x] sp) (bind1 : ∀ (s : Shared) (u : Value), BindsTo s fd ⟨[u], []⟩ [(x, u)])
    (hsp : sp [.ref a] H (fun v _ => v = .bl true) fun _ _ _ => False) :
    codeAny (model Pr w) callerA (.call (.ref fa) ⟨[.ref a], []⟩) (fun r s' => r = .ok (.ret (.bool true)) ∧ OldK s1.heap s'.heap ∧ s'.os = s1.os ∧ AllBare s'.gens) s1 := by
  have isA : ∀ b u, H b = some u → b = a ∧ K.lookup a = none ∧ u = .frz ob (.lst (ns.map V.int)) := fun b u e => by
    rcases only b with z | ⟨z1, z2, z3⟩
    · rw [z] at e; cases e
    · rw [z3] at e
      exact ⟨z1, z2, (Option.some.inj e).symm⟩
  have dictNone : ∀ {b : Addr} {o : Obj} {es : Array DictEntry} {ep : Nat}, s1.heap.get? b = some o → o.data = .dict es ep → H b = none := by
    intro b o es ep e d
    cases q : H b with
    | none => rfl
    | some u =>
      obtain ⟨rfl, _, _⟩ := isA b u q
      rw [ha, hob] at e
      cases e
      cases d
  have under : ∀ {b : Addr} {m : Str → Option Value}, s1.heap.Ns b m → (hidT s1.heap H).Ns b m := by
    rintro b m ⟨o, es, ep, e, d, rest⟩
    exact ⟨o, es, ep, hidT_get e (dictNone e d), d, rest⟩
  have kin' : K.In (hidT s1.heap H) := by
    intro b o e
    refine hidT_get (kin b o e) ?_
    cases q : H b with
    | none => rfl
    | some u =>
      obtain ⟨rfl, z, _⟩ := isA b u q
      rw [z] at e
      cases e
  have nolim' : (hidT s1.heap H).NoLimit := by
    obtain ⟨mc, n1, n2⟩ := nolim
    exact ⟨mc, under n1, n2⟩
  have start0 : Env0 Pr w K mg (hidT s1.heap H) callerA [] s1 H := {
    frames := rfl
    mod := ⟨kin', under nsm, ⟨mb, under nsb, bb⟩, nolim'⟩
    bs := fun b o e => of_hidT e
    bsz := Nat.le_of_eq (hidT_size _ _)
    funs := trivial
    frf := fun b hb => nomatch (show b ∈ ([] : List Addr) from hb)
    hok := hok
    bare := .of_eq nog }
  have called := (F _ kin' (under nsm)).run callerA [] s1 H ⟨[.ref a], []⟩ [.ref a] [.ref a] _ _ room rfl start0 (bind1 s1 (.ref a)) (.cons rfl .nil) hsp
  refine codeAny_mono called fun res s2 h => ?_
  match res, h with
  | .ok (.ret u), h =>
    obtain ⟨v, H2, os, bare, un, hok2, rv, q⟩ := h
    cases (show v = .bl true from q)
    cases (show u = Value.bool true from rv)
    refine ⟨rfl, OldK.of_keep fun b o e => ?_, os, bare⟩
    cases q2 : H b with
    | none => exact un.keep b o e q2 (fun z => nomatch (show b ∈ ([] : List Addr) from z)) (fun z => nomatch z)
    | some u =>
      obtain ⟨rfl, _, rfl⟩ := isA b u q2
      have old := (hok b _ q2).1
      have new := (hok2 b _ (un.frzs b ob _ q2)).1
      rw [old] at e
      cases e
      exact new
  | .error e, h =>
    obtain ⟨_, _, _, _, _, _, _, _, _, _, _, _, q⟩ := h
    exact (show False from q).elim
theorem law_g (kin : K.In s1.heap) (nsm : s1.heap.Ns mainGlobals mg) (nsb : s1.heap.Ns builtinsNs mb) (bb : ∀ y : Str, y ≠ "__name__" → mb y = bootBuiltins y) (nolim : s1.heap.NoLimit) (nog : s1.gens = #[])
    (ha : s1.heap.get? a = some { cls := .type "list", data := .seq vs.toArray }) (hi : IntsAre vs ns) (hl : ns.length ≤ sizeLine) (room : Room k callerA) (F : ∀ base : Heap, K.In base → base.Ns mainGlobals mg → FnG Pr w K mg base k fa fd [x] sp)
    (bind1 : ∀ (s : Shared) (u : Value), BindsTo s fd ⟨[u], []⟩ [(x, u)]) (hsp : ∀ H : Hp, SqL K H a (ns.map V.int) → sp [.ref a] H (fun v _ => v = .bl true) fun _ _ _ => False) :
    codeAny (model Pr w) callerA (.call (.ref fa) ⟨[.ref a], []⟩) (fun r s' => r = .ok (.ret (.bool true)) ∧ OldK s1.heap s'.heap ∧ s'.os = s1.os ∧ AllBare s'.gens) s1 := by
  have iv := vals_ints hi
  cases hk : K.lookup a with
  | some o =>
    have e := kin a o hk
    rw [ha] at e
    cases e
    refine law_from (H := fun _ => none) (ns := ns) rfl kin nsm nsb bb nolim nog ha (fun _ => .inl rfl) (fun b u z => nomatch (show (none : Option HO) = some u from z)) room F bind1 (hsp _ ?_)
    exact .inr ⟨_, vs.toArray, _, hk, rfl, rfl, rfl, by rw [List.size_toArray, hi.length]; exact hl, by simpa using iv⟩
  | none =>
    have hw : ∀ b, b ≠ a → (fun b => if b = a then some (HO.frz { cls := .type "list", data := .seq vs.toArray } (.lst (ns.map V.int))) else none) b = none := fun b hb => if_neg hb
    refine law_from (ns := ns) (H := fun b => if b = a then some (.frz { cls := .type "list", data := .seq vs.toArray } (.lst (ns.map V.int))) else none) rfl kin nsm nsb bb nolim nog ha (fun b => ?_) (fun b u z => ?_) room F bind1 (hsp _ (.inl (.inr ⟨_, if_pos rfl⟩)))
    · by_cases hb : b = a
      · exact .inr ⟨hb, hk, if_pos hb⟩
      · exact .inl (if_neg hb)
    · by_cases hb : b = a
      · subst hb
        have z' := (if_pos rfl).symm.trans z
        cases z'
        exact ⟨ha, by rw [List.length_map]; exact hl, vs, _, iv, ha⟩
      · have z' := (hw b hb).symm.trans z
        cases z'
end
theorem walk_g {l : PySem.W.OpenLaw} {n k : Nat} {q : Program} {loose : List Str} {XP : (Str → Option Value) → Heap → Prop} {YP : World → Heap → Prop} {d : DefRec} {K : Params → PySem.W.Frag} {sp : World → Sp} {x : Str} (hn : l.most = some n) (hn2 : n ≤ sizeLine) (hdf : d.params.defaults = []) (room : Room k callerA)
    (hY : ∀ (w : World) (h : Heap), YP w h → (K w.params).In h)
    (F : ∀ (w : World) (mg : Str → Option Value) (fa : Addr) (h : Heap), (K w.params).In h → h.Ns mainGlobals mg → mg d.name = some (.ref fa) →
      ∃ fd : FuncData, (∀ (s : Shared) (u : Value), BindsTo s fd ⟨[u], []⟩ [(x, u)]) ∧ ∀ base : Heap, (K w.params).In base → base.Ns mainGlobals mg → FnG l.prog w (K w.params) mg base k fa fd [x] (sp w))
    (hsp : ∀ (w : World) (H : Hp) (a : Addr) (ns : List Int), ns.length ≤ n → SqL (K w.params) H a (ns.map V.int) → sp w [.ref a] H (fun v _ => v = .bl true) fun _ _ _ => False) :
    PySem.W.WalkO q loose XP YP l.row.toRowW d [] (fun f vs => PySem.call f vs) :=
  Att.attach_call hn hdf fun w s0 s1 mg mb fa o pm cd doc a vs ns G Y ho hd hcd hmg hobj hints hlen hg => by
    have kin := hY w _ Y
    obtain ⟨fd, b1, b2⟩ := F w mg fa _ kin G.T.g hmg
    exact law_g kin G.T.g G.T.b G.T.builtins G.T.nolimit hg hobj hints (Nat.le_trans hlen hn2) room b2 b1 fun H hS => hsp w H a ns hlen hS
/-- the law's promise from the language's run -/
theorem sp_law {g : GC} {PP : Pg} {n fi : Nat} {H : Hp} {a : Addr} {ns : List Int} (hS : SqL g.K H a (ns.map V.int)) (h : ∃ st, run PP n fi [.rol (ns.map .int)] [] = .ok (.bl true) st) : spOf g (run PP n) 1 fi [.ref a] H (fun v _ => v = .bl true) fun _ _ _ => False := by
  obtain ⟨st, h⟩ := h
  refine ⟨rfl, ⟨[], []⟩, [], [.rol (ns.map .int)], ⟨rfl, .nil, (fun _ z => nomatch z), fun _ _ z => (by simp at z)⟩, .cons (.rol ?_ (ints_repL ns)) .nil, ?_⟩
  · rcases hS with z | z
    · exact .inl ⟨z, fun y => y.elim (fun y => nomatch y) fun y => nomatch y⟩
    · exact .inr fun _ => .inr z
  · rw [h]
    exact ⟨(fun z => nomatch z), fun θ' H' v x' s' r' => by cases r'; rfl⟩
end MP
end

section
set_option Elab.async false
set_option linter.all false
set_option maxRecDepth 100000
set_option maxHeartbeats 1000000
/-! MP: a text of defs. -/
namespace MP
open PySem PySem.Spec PyProof.Rows L2
/-- a def of the text -/
structure Ent where
  name : Str
  st : Stmt
  N : List Str
  nw : List (Nat × Nat)
  fi : Fi
  keep : Bool
  body : S
def fisOf (tab : List Ent) : List (Str × Fi) := tab.map fun e => (e.name, e.fi)
def ccOf (tab : List Ent) (bl : List Str) (gcs : List (Str × Tx)) (e : Ent) : Cc := ⟨e.N, L2.defScope e.st, e.N, fisOf tab, bl, e.nw, gcs⟩
def pgOf (tab : List Ent) : Pg := fun i => (tab.find? fun e => e.fi.id == i).map fun e => ⟨e.fi.ps.length, e.N.length, e.keep, e.body⟩
/-- the def stands in the written part -/
def Has (K : PySem.W.Frag) (mg : Str → Option Value) (e : Ent) (fa : Addr) (fd : FuncData) : Prop := mg e.name = some (.ref fa) ∧ PySem.W.keepIn K (.ref fa) = true ∧ ∃ (oc : Value) (od : Option Addr) (kV doc pm : Value) (an : Option Addr) (cdv ct : Value) (osl : Array (Option Value)),
  fd = PySem.W.fnOf e.name e.name (L2.defArgs e.st) (L2.defBody e.st) (L2.defScope e.st) .none kV doc pm an cdv ct ∧ K.lookup fa = some ⟨oc, od, .func fd, osl⟩ ∧ PySem.W.codeIn K cdv e.name = true
theorem has_mk {K : PySem.W.Frag} {h : Heap} {mg : Str → Option Value} {e : Ent} {fa : Addr} {oc kV doc pm cdv ct : Value} {od an : Option Addr} {osl : Array (Option Value)} (X : K.In h) (G : h.Ns mainGlobals mg) (a : PySem.W.nsIn K mainGlobals e.name = some (some (.ref fa)))
    (l : K.lookup fa = some ⟨oc, od, .func (PySem.W.fnOf e.name e.name (L2.defArgs e.st) (L2.defBody e.st) (L2.defScope e.st) .none kV doc pm an cdv ct), osl⟩) (c : PySem.W.codeIn K cdv e.name = true) (k : PySem.W.keepIn K (.ref fa) = true) :
    Has K mg e fa (PySem.W.fnOf e.name e.name (L2.defArgs e.st) (L2.defBody e.st) (L2.defScope e.st) .none kV doc pm an cdv ct) := ⟨PySem.W.mg_of X G a, k, oc, od, kV, doc, pm, an, cdv, ct, osl, rfl, l, c⟩
/-- how the calls bind -/
def BdE (e : Ent) (c : Nat × List Str × List Nat × List D) : Prop := ∀ (K : PySem.W.Frag) (kV doc pm : Value) (an : Option Addr) (cdv ct : Value), ∃ (dus : List Value) (dvs : List V), Bd K (PySem.W.fnOf e.name e.name (L2.defArgs e.st) (L2.defBody e.st) (L2.defScope e.st) .none kV doc pm an cdv ct) e.fi.ps c.1 c.2.1 c.2.2.1 dus ∧
  Vals dvs dus ∧ ∀ g θ H, RepL g θ H c.2.2.2 dvs
/-- what is looked at in the text -/
structure Text (tab : List Ent) (bl : List Str) (gcs : List (Str × Tx)) : Prop where
  scope : ∀ e ∈ tab, FnScope e.N e.fi.ps (L2.defScope e.st)
  body : ∀ e ∈ tab, cBody 60 (ccOf tab bl gcs e) (L2.defBody e.st) = some e.body
  bind : ∀ e ∈ tab, ∀ c ∈ e.fi.cs, BdE e c
  own : ∀ e ∈ tab, pgOf tab e.fi.id = some ⟨e.fi.ps.length, e.N.length, e.keep, e.body⟩
theorem look_mem {tab : List Ent} {x : Str} {F : Fi} (h : (fisOf tab).lookup x = some F) : ∃ e ∈ tab, e.name = x ∧ e.fi = F := by
  have := lookup_mem h
  obtain ⟨e, he, q⟩ := List.mem_map.mp this
  cases q
  exact ⟨e, he, rfl, rfl⟩
section
variable {g : GC} {Pr : Program} {w : World} {K : PySem.W.Frag} {mg : Str → Option Value} {base : Heap} {tab : List Ent} {bl : List Str} {gcs : List (Str × Tx)}
theorem text_g (T : Text tab bl gcs) (hK : K = g.K) (has : ∀ e ∈ tab, ∃ fa fd, Has K mg e fa fd) (hbl : ∀ x ∈ bl, mg x = none) (hgc : ∀ c ∈ gcs, ∃ tk, mg c.1 = some (.str (sOf c.2) tk)) : ∀ n, ∀ e ∈ tab, ∀ fa fd, Has K mg e fa fd → FnG Pr w K mg base n fa fd e.fi.ps (spOf g (run (pgOf tab) n) e.fi.ps.length e.fi.id)
  | 0, e, he, fa, fd, h => def_0
  | n + 1, e, he, fa, fd, h => by
    have ih := text_g T hK has hbl hgc n
    obtain ⟨_, _, oc, od, kV, doc, pm, an, cdv, ct, osl, rfl, lk, cd⟩ := h
    refine def_g lk cd (T.scope e he) (T.own e he) rfl rfl hK fun X E bx => ?_
    refine snd_body (C := ccOf tab bl gcs e) (k := n) ?_ (T.body e he)
    exact {
      toXX := bx.toXX
      N' := bx.N'
      sc' := bx.sc
      fn' := fun x _ => bx.fn x
      mgB := fun x hx => by rw [bx.mg']; exact hbl x hx
      mgC := fun x s hs => by rw [bx.mg']; exact hgc (x, s) (lookup_mem hs)
      room := bx.room
      fns := fun x F hF => by
        obtain ⟨e2, he2, rfl, rfl⟩ := look_mem hF
        obtain ⟨fa2, fd2, h2⟩ := has e2 he2
        have F2 := ih e2 he2 fa2 fd2 h2
        obtain ⟨m1, m2, oc2, od2, kV2, doc2, pm2, an2, cdv2, ct2, osl2, rfl, _, _⟩ := h2
        refine ⟨fa2, _, by rw [bx.mg']; exact m1, by rw [bx.K']; exact m2, by rw [bx.pr, bx.w', bx.K', bx.mg', bx.base']; exact F2, fun c hc => ?_, fun xs st hl => ?_⟩
        · obtain ⟨dus, dvs, b1, b2, b3⟩ := T.bind e2 he2 c hc X.K kV2 doc2 pm2 an2 cdv2 ct2
          exact ⟨dus, dvs, b1, b2, b3 g⟩
        · exact run_len (T.own e2 he2) hl
      pass := bx.pass }
end
def gcOf (K : PySem.W.Frag) : GC := ⟨K, fun _ => none, fun _ => none, fun _ => Str.empty⟩
/-- a law whose text is such: from what its own run gives -/
theorem law_of {l : PySem.W.OpenLaw} {n k : Nat} {q : Program} {loose : List Str} {XP : (Str → Option Value) → Heap → Prop} {YP : World → Heap → Prop} {d : DefRec} {K : Params → PySem.W.Frag} {tab : List Ent} {bl : List Str} {gcs : List (Str × Tx)} {e : Ent} (T : Text tab bl gcs) (he : e ∈ tab) (hps : e.fi.ps = [("script" : Str)]) (hname : e.name = d.name)
    (hn : l.most = some n) (hn2 : n ≤ sizeLine) (hdf : d.params.defaults = []) (room : Room k callerA) (hY : ∀ (w : World) (h : Heap), YP w h → (K w.params).In h)
    (hbd : ∀ (kV doc pm : Value) (an : Option Addr) (cdv ct u : Value), bindArgs (PySem.W.fnOf e.name e.name (L2.defArgs e.st) (L2.defBody e.st) (L2.defScope e.st) .none kV doc pm an cdv ct) ⟨[u], []⟩ = pure [(("script" : Str), u)])
    (F : ∀ (w : World) (mg : Str → Option Value) (h : Heap), (K w.params).In h → h.Ns mainGlobals mg → (∀ e ∈ tab, ∃ fa fd, Has (K w.params) mg e fa fd) ∧ (∀ x ∈ bl, mg x = none) ∧ ∀ c ∈ gcs, ∃ tk, mg c.1 = some (.str (sOf c.2) tk))
    (runs : ∀ ns : List Int, ns.length ≤ n → ∃ st, run (pgOf tab) k e.fi.id [.rol (ns.map .int)] [] = .ok (.bl true) st) :
    PySem.W.WalkO q loose XP YP l.row.toRowW d [] (fun f vs => PySem.call f vs) :=
  walk_g (x := "script") (sp := fun w => spOf (gcOf (K w.params)) (run (pgOf tab) k) 1 e.fi.id) hn hn2 hdf room hY (fun w mg fa h X G hm => by
    obtain ⟨has, hbl, hgc⟩ := F w mg h X G
    obtain ⟨fa', fd, hh⟩ := has e he
    have e1 : fa' = fa := by
      have := hh.1
      rw [hname, hm] at this
      exact (Value.ref.inj (Option.some.inj this)).symm
    subst e1
    refine ⟨fd, fun s u => ?_, fun base _ _ => ?_⟩
    · obtain ⟨_, _, oc, od, kV, doc, pm, an, cdv, ct, osl, rfl, _, _⟩ := hh
      exact .of_eq (hbd kV doc pm an cdv ct u)
    · have := text_g (g := gcOf (K w.params)) (Pr := l.prog) (w := w) (base := base) T rfl has hbl hgc k e he fa' fd hh
      rw [hps] at this
      exact this) fun w H a ns hl hS => sp_law hS (runs ns hl)
end MP
end

section
set_option Elab.async false
set_option linter.all false
set_option maxRecDepth 100000
/-! MP: laws of what the texts do, with no program in sight. -/
namespace MP
open PySem

/-! ### plain data -/
mutual
/-- ints, texts of signs, rows of such -/
def D.cl : D → Bool
  | .non => true
  | .int _ => true
  | .str s => s.all fun c => decide (c < 0x110000)
  | .tup xs => cls xs
  | .lst xs => cls xs
  | _ => false
def cls : List D → Bool
  | [] => true
  | x :: r => x.cl && cls r
end
mutual
def D.dp : D → Nat
  | .tup xs => dps xs + 1
  | .lst xs => dps xs + 1
  | _ => 0
def dps : List D → Nat
  | [] => 0
  | x :: r => max x.dp (dps r)
end
mutual
def D.wt : D → Nat
  | .int _ => 64
  | .str s => s.length
  | .tup xs => wts xs
  | .lst xs => wts xs
  | _ => 0
def wts : List D → Nat
  | [] => 0
  | x :: r => x.wt + 1 + wts r
end
mutual
/-- its ints are short -/
def D.sm : D → Bool
  | .int i => decide (i.natAbs < 10 ^ 12)
  | .tup xs => sms xs
  | .lst xs => sms xs
  | _ => true
def sms : List D → Bool
  | [] => true
  | x :: r => x.sm && sms r
end
mutual
theorem pd_cl : ∀ d : D, d.cl = true → ∃ p, d.pd = some p ∧ p.canLay0 = true ∧ p.depth = d.dp
  | .non, _ => ⟨.none, rfl, rfl, rfl⟩
  | .int i, _ => ⟨.int i, rfl, rfl, rfl⟩
  | .str s, h => ⟨.str ⟨s.toArray⟩, rfl, by
      rw [D.cl] at h
      rw [PyData.canLay0]
      unfold PyData.strOk
      simpa using h, rfl⟩
  | .tup xs, h => by
    rw [D.cl] at h
    obtain ⟨ps, e, h1, h2⟩ := pds_cl xs h
    exact ⟨.tuple ps, by rw [D.pd, e]; rfl, by rw [PyData.canLay0]; exact h1, by rw [PyData.depth, h2, D.dp]⟩
  | .lst xs, h => by
    rw [D.cl] at h
    obtain ⟨ps, e, h1, h2⟩ := pds_cl xs h
    exact ⟨.list ps, by rw [D.pd, e]; rfl, by rw [PyData.canLay0]; exact h1, by rw [PyData.depth, h2, D.dp]⟩
theorem pds_cl : ∀ xs : List D, cls xs = true → ∃ ps, pds xs = some ps ∧ PyData.canLayAll0 ps = true ∧ PyData.depthAll ps = dps xs
  | [], _ => ⟨[], rfl, rfl, rfl⟩
  | x :: r, h => by
    rw [cls, Bool.and_eq_true] at h
    obtain ⟨p, e, h1, h2⟩ := pd_cl x h.1
    obtain ⟨ps, e', h1', h2'⟩ := pds_cl r h.2
    exact ⟨p :: ps, by rw [pds, e, e'], by rw [PyData.canLayAll0, h1, h1']; rfl, by rw [PyData.depthAll, h2, h2', dps]⟩
end
mutual
theorem eqv_cl : ∀ (a b : D) (p q : PyData), a.cl = true → b.cl = true → a.pd = some p → b.pd = some q → PyData.eqv p q = decide (a = b)
  | .non, b, p, q, _, hb, e, f => by
    cases e
    cases b with
    | non => cases f; simp [PyData.eqv]
    | int j => cases f; simp [PyData.eqv]
    | str j => cases f; simp [PyData.eqv]
    | tup ys =>
      rw [D.pd] at f
      obtain ⟨qs, _, rfl⟩ := Option.map_eq_some_iff.mp f
      simp [PyData.eqv]
    | lst ys =>
      rw [D.pd] at f
      obtain ⟨qs, _, rfl⟩ := Option.map_eq_some_iff.mp f
      simp [PyData.eqv]
    | _ => simp [D.cl] at hb
  | .int i, b, p, q, _, hb, e, f => by
    cases e
    cases b with
    | non => cases f; simp [PyData.eqv]
    | int j => cases f; rw [PyData.eqv]; by_cases z : i = j <;> simp [z]
    | str j => cases f; simp [PyData.eqv]
    | tup ys =>
      rw [D.pd] at f
      obtain ⟨qs, _, rfl⟩ := Option.map_eq_some_iff.mp f
      simp [PyData.eqv]
    | lst ys =>
      rw [D.pd] at f
      obtain ⟨qs, _, rfl⟩ := Option.map_eq_some_iff.mp f
      simp [PyData.eqv]
    | _ => simp [D.cl] at hb
  | .str i, b, p, q, _, hb, e, f => by
    cases e
    cases b with
    | non => cases f; simp [PyData.eqv]
    | int j => cases f; simp [PyData.eqv]
    | str j =>
      cases f
      rw [PyData.eqv, Bool.eq_iff_iff]
      simp
    | tup ys =>
      rw [D.pd] at f
      obtain ⟨qs, _, rfl⟩ := Option.map_eq_some_iff.mp f
      simp [PyData.eqv]
    | lst ys =>
      rw [D.pd] at f
      obtain ⟨qs, _, rfl⟩ := Option.map_eq_some_iff.mp f
      simp [PyData.eqv]
    | _ => simp [D.cl] at hb
  | .tup xs, b, p, q, ha, hb, e, f => by
    rw [D.pd] at e
    obtain ⟨ps, e1, rfl⟩ := Option.map_eq_some_iff.mp e
    cases b with
    | tup ys =>
      rw [D.pd] at f
      obtain ⟨qs, f1, rfl⟩ := Option.map_eq_some_iff.mp f
      rw [D.cl] at ha hb
      rw [PyData.eqv, eqvs_cl xs ys ps qs ha hb e1 f1]
      simp
    | lst ys =>
      rw [D.pd] at f
      obtain ⟨qs, f1, rfl⟩ := Option.map_eq_some_iff.mp f
      simp [PyData.eqv]
    | _ => simp_all [D.cl, D.pd] <;> (subst f; simp [PyData.eqv])
  | .lst xs, b, p, q, ha, hb, e, f => by
    rw [D.pd] at e
    obtain ⟨ps, e1, rfl⟩ := Option.map_eq_some_iff.mp e
    cases b with
    | lst ys =>
      rw [D.pd] at f
      obtain ⟨qs, f1, rfl⟩ := Option.map_eq_some_iff.mp f
      rw [D.cl] at ha hb
      rw [PyData.eqv, eqvs_cl xs ys ps qs ha hb e1 f1]
      simp
    | tup ys =>
      rw [D.pd] at f
      obtain ⟨qs, f1, rfl⟩ := Option.map_eq_some_iff.mp f
      simp [PyData.eqv]
    | _ => simp_all [D.cl, D.pd] <;> (subst f; simp [PyData.eqv])
  | .bl _, _, _, _, ha, _, _, _ => by simp [D.cl] at ha
  | .rol _, _, _, _, ha, _, _, _ => by simp [D.cl] at ha
  | .dic _ _, _, _, _, ha, _, _, _ => by simp [D.cl] at ha
  | .obj _ _ _, _, _, _, ha, _, _, _ => by simp [D.cl] at ha
  | .ref _, _, _, _, ha, _, _, _ => by simp [D.cl] at ha
  | .fn _, _, _, _, ha, _, _, _ => by simp [D.cl] at ha
theorem eqvs_cl : ∀ (a b : List D) (p q : List PyData), cls a = true → cls b = true → pds a = some p → pds b = some q → PyData.eqvAll p q = decide (a = b)
  | [], [], p, q, _, _, e, f => by
    simp only [pds, Option.some.injEq] at e f
    subst e; subst f; simp [PyData.eqvAll]
  | [], y :: b, p, q, _, hb, e, f => by
    rw [cls, Bool.and_eq_true] at hb
    obtain ⟨q1, f1, _⟩ := pd_cl y hb.1
    obtain ⟨qs, f2, _⟩ := pds_cl b hb.2
    simp only [pds, f1, f2, Option.some.injEq] at e f
    subst e; subst f; simp [PyData.eqvAll]
  | x :: a, [], p, q, ha, _, e, f => by
    rw [cls, Bool.and_eq_true] at ha
    obtain ⟨q1, f1, _⟩ := pd_cl x ha.1
    obtain ⟨qs, f2, _⟩ := pds_cl a ha.2
    simp only [pds, f1, f2, Option.some.injEq] at e f
    subst e; subst f; simp [PyData.eqvAll]
  | x :: a, y :: b, p, q, ha, hb, e, f => by
    rw [cls, Bool.and_eq_true] at ha hb
    obtain ⟨p1, e1, _⟩ := pd_cl x ha.1
    obtain ⟨ps, e2, _⟩ := pds_cl a ha.2
    obtain ⟨q1, f1, _⟩ := pd_cl y hb.1
    obtain ⟨qs, f2, _⟩ := pds_cl b hb.2
    simp only [pds, f1, f2, e1, e2, Option.some.injEq] at e f
    subst e; subst f
    rw [PyData.eqvAll, eqv_cl x y p1 q1 ha.1 hb.1 e1 f1, eqvs_cl a b ps qs ha.2 hb.2 e2 f2]
    simp
end
mutual
theorem pd_sm : ∀ (d : D) (p : PyData), d.pd = some p → d.sm = true → p.intsShort 13 = true ∧ p.showable = true ∧ p.weight ≤ d.wt
  | .non, p, e, _ => by cases e; exact ⟨rfl, rfl, Nat.zero_le _⟩
  | .bl _, p, e, _ => by cases e; exact ⟨rfl, rfl, Nat.zero_le _⟩
  | .int i, p, e, h => by
    cases e
    simp only [D.sm, decide_eq_true_eq] at h
    have hl : i.natAbs.log2 < 64 := by
      by_cases z : i.natAbs = 0
      · rw [z]; decide
      · rw [Nat.log2_lt z]; exact Nat.lt_trans h (by decide)
    refine ⟨?_, ?_, ?_⟩
    · simp only [PyData.intsShort, decide_eq_true_eq]
      have := int_text_length_le10 (a := i) (k := 12) (by decide) h
      have e1 : (PyData.int i).shown.length = (toString i).length := ofString_length _
      omega
    · simp only [PyData.showable, decide_eq_true_eq]; omega
    · simp only [PyData.weight, D.wt]; split <;> omega
  | .str s, p, e, _ => by
    cases e
    exact ⟨rfl, rfl, by simp [PyData.weight, D.wt]⟩
  | .tup xs, p, e, h => by
    rw [D.pd] at e
    obtain ⟨ps, e1, rfl⟩ := Option.map_eq_some_iff.mp e
    rw [D.sm] at h
    obtain ⟨h1, h2, h3⟩ := pds_sm xs ps e1 h
    exact ⟨by rw [PyData.intsShort]; exact h1, by rw [PyData.showable]; exact h2, by rw [PyData.weight, D.wt]; exact h3⟩
  | .lst xs, p, e, h => by
    rw [D.pd] at e
    obtain ⟨ps, e1, rfl⟩ := Option.map_eq_some_iff.mp e
    rw [D.sm] at h
    obtain ⟨h1, h2, h3⟩ := pds_sm xs ps e1 h
    exact ⟨by rw [PyData.intsShort]; exact h1, by rw [PyData.showable]; exact h2, by rw [PyData.weight, D.wt]; exact h3⟩
  | .rol _, _, e, _ => by cases e
  | .dic _ _, _, e, _ => by cases e
  | .obj _ _ _, _, e, _ => by cases e
  | .ref _, _, e, _ => by cases e
  | .fn _, _, e, _ => by cases e
theorem pds_sm : ∀ (d : List D) (p : List PyData), pds d = some p → sms d = true → PyData.intsShortAll 13 p = true ∧ PyData.showableAll p = true ∧ PyData.weightAll p ≤ wts d
  | [], p, e, _ => by cases e; exact ⟨rfl, rfl, Nat.le_refl _⟩
  | x :: r, p, e, h => by
    rw [pds] at e
    split at e
    · rename_i a b e1 e2
      cases e
      rw [sms, Bool.and_eq_true] at h
      obtain ⟨h1, h2, h3⟩ := pd_sm x a e1 h.1
      obtain ⟨h1', h2', h3'⟩ := pds_sm r b e2 h.2
      exact ⟨by rw [PyData.intsShortAll, h1, h1']; rfl, by rw [PyData.showableAll, h2, h2']; rfl, by rw [PyData.weightAll, wts]; omega⟩
    · cases e
end
/-- == of plain data -/
theorem eqP_cl {st : Sto} {a b a' b' : D} (ta : top st a = a') (tb : top st b = b') (ha : a'.cl = true) (hb : b'.cl = true) (da : a'.dp ≤ 64) (db : b'.dp ≤ 64) : eqP st a b = some (decide (a' = b')) := by
  obtain ⟨p, e, h1, h2⟩ := pd_cl a' ha
  obtain ⟨q, f, g1, g2⟩ := pd_cl b' hb
  unfold eqP
  rw [ta, tb, e, f]
  simp only [okPd, SeqAt.shaped, h1, g1, h2, g2, da, db, decide_true, Bool.and_self, if_true]
  rw [eqv_cl a' b' p q ha hb e f]
/-- data has a repr -/
theorem repr_cl {st : Sto} {a a' : D} (ta : top st a = a') (ha : a'.cl = true) (da : a'.dp ≤ 64) (sa : a'.sm = true) (wa : a'.wt ≤ 2 ^ 20) : ∃ t, reprD st a = some t := by
  obtain ⟨p, e, h1, h2⟩ := pd_cl a' ha
  obtain ⟨g1, g2, g3⟩ := pd_sm a' p e sa
  have hl : PyData.layable0 p = true := by
    unfold PyData.layable0
    rw [h1, h2, decide_eq_true da, decide_eq_true (Nat.le_trans g3 wa)]
    rfl
  have hz : p.shown.length ≤ sizeLine := by
    have := PyData.shown_le 13 (by decide) p (PyData.leavesShort_of_canLay0 13 p h1 g1)
    have e1 : (2 : Nat) ^ 20 = 1048576 := by decide
    have e2 : sizeLine = 16777216 := rfl
    omega
  unfold reprD
  rw [ta, e]
  simp only [okPd, SeqAt.shaped, h1, h2, da, g2, hz, decide_true, Bool.and_self, if_true]
  exact ⟨_, rfl⟩
theorem reprD_top {st st' : Sto} {a b : D} (h : top st a = top st' b) : reprD st a = reprD st' b := by unfold reprD; rw [h]
/-- x in a row of plain data -/
theorem inD_cl {st : Sto} {x : D} {xs : List D} (hx : x.cl = true) (hs : cls xs = true) (tx : top st x = x) (dx : x.dp ≤ 60) (ds : dps xs ≤ 60) : inD st x (.tup xs) = some (decide (x ∈ xs)) ∧ inD st x (.lst xs) = some (decide (x ∈ xs)) := by
  obtain ⟨p, e, h1, h2⟩ := pd_cl x hx
  obtain ⟨ps, f, g1, g2⟩ := pds_cl xs hs
  have key : (ps.any fun z => PyData.eqv z p) = decide (x ∈ xs) := by
    clear g1 g2 ds
    induction xs generalizing ps with
    | nil => simp only [pds, Option.some.injEq] at f; subst f; simp
    | cons y r ih =>
      rw [cls, Bool.and_eq_true] at hs
      obtain ⟨q, e1, _⟩ := pd_cl y hs.1
      obtain ⟨qs, e2, _⟩ := pds_cl r hs.2
      simp only [pds, e1, e2, Option.some.injEq] at f
      subst f
      rw [List.any_cons, ih hs.2 qs e2, eqv_cl y x q p hs.1 hx e1 e]
      rw [Bool.eq_iff_iff, Bool.or_eq_true, decide_eq_true_eq, decide_eq_true_eq, decide_eq_true_eq, List.mem_cons]
      exact ⟨fun z => z.imp Eq.symm id, fun z => z.imp Eq.symm id⟩
  have o1 : okPd (.tuple ps) = true := by
    unfold okPd SeqAt.shaped
    rw [PyData.canLay0, PyData.depth, g1, g2, decide_eq_true (show dps xs + 1 ≤ 64 by omega)]
    rfl
  have o2 : okPd (.list ps) = true := by
    unfold okPd SeqAt.shaped
    rw [PyData.canLay0, PyData.depth, g1, g2, decide_eq_true (show dps xs + 1 ≤ 64 by omega)]
    rfl
  have o3 : okPd p = true := by
    unfold okPd SeqAt.shaped
    rw [h1, h2, decide_eq_true (show x.dp ≤ 64 by omega)]
    rfl
  have t1 : (top st (.tup xs)).pd = some (.tuple ps) := by show (D.tup xs).pd = _; rw [D.pd, f]; rfl
  have t2 : (top st (.lst xs)).pd = some (.list ps) := by show (D.lst xs).pd = _; rw [D.pd, f]; rfl
  constructor
  · unfold inD
    rw [t1, tx, e]
    dsimp only
    rw [o1, o3, key]
    rfl
  · unfold inD
    rw [t2, tx, e]
    dsimp only
    rw [o2, o3, key]
    rfl
theorem cls_all {xs : List D} : cls xs = true ↔ ∀ x ∈ xs, x.cl = true := by
  induction xs with
  | nil => simp [cls]
  | cons x r ih => simp [cls, ih]
theorem sms_all {xs : List D} : sms xs = true ↔ ∀ x ∈ xs, x.sm = true := by
  induction xs with
  | nil => simp [sms]
  | cons x r ih => simp [sms, ih]
theorem dps_le {xs : List D} {n : Nat} (h : ∀ x ∈ xs, x.dp ≤ n) : dps xs ≤ n := by
  induction xs with
  | nil => exact Nat.zero_le _
  | cons x r ih => exact Nat.max_le.mpr ⟨h x List.mem_cons_self, ih fun y hy => h y (List.mem_cons_of_mem _ hy)⟩
theorem wts_le {xs : List D} {n : Nat} (h : ∀ x ∈ xs, x.wt ≤ n) : wts xs ≤ xs.length * (n + 1) := by
  induction xs with
  | nil => exact Nat.zero_le _
  | cons x r ih =>
    have h1 := h x List.mem_cons_self
    have h2 := ih fun y hy => h y (List.mem_cons_of_mem _ hy)
    rw [wts, List.length_cons, Nat.add_mul]
    omega

/-! ### loops -/
theorem forL_ok {gd : Sto → Bool} {bd : D → Env → Sto → RS} (I : Nat → Env → Sto → Prop) :
    ∀ (xs : List D) (n : Nat) (ρ : Env) (st : Sto), I n ρ st → (∀ m ρ st, I m ρ st → gd st = true) →
      (∀ (i : Nat) (x : D), xs[i]? = some x → ∀ ρ st, I (n + i) ρ st → ∃ ρ' st', bd x ρ st = .ok (.next ρ') st' ∧ I (n + i + 1) ρ' st') →
      ∃ ρ' st', forL gd bd xs ρ st = .ok (.next ρ') st' ∧ I (n + xs.length) ρ' st'
  | [], n, ρ, st, h, hg, _ => ⟨ρ, st, by rw [forL, if_pos (hg n ρ st h)], h⟩
  | x :: r, n, ρ, st, h, hg, hb => by
    obtain ⟨ρ1, st1, e1, h1⟩ := hb 0 x rfl ρ st h
    obtain ⟨ρ2, st2, e2, h2⟩ := forL_ok I r (n + 1) ρ1 st1 h1 hg (fun i y hy ρ st hI => by
      obtain ⟨ρ', st', e, z⟩ := hb (i + 1) y hy ρ st (by rw [Nat.add_comm i 1, ← Nat.add_assoc]; exact hI)
      exact ⟨ρ', st', e, by rw [Nat.add_assoc n 1 i, Nat.add_comm 1 i]; exact z⟩)
    refine ⟨ρ2, st2, by rw [forL, if_pos (hg n ρ st h), e1]; exact e2, ?_⟩
    rw [List.length_cons, Nat.add_comm r.length 1, ← Nat.add_assoc]
    exact h2
theorem lcL_ok {gd : Sto → Bool} {bd : D → Sto → R (List D)} (I : Nat → List D → Sto → Prop) :
    ∀ (xs : List D) (n : Nat) (acc : List D) (st : Sto), I n acc st → (∀ m ys st, I m ys st → gd st = true) →
      (∀ (i : Nat) (x : D), xs[i]? = some x → ∀ ys st, I (n + i) ys st → ∃ zs st', bd x st = .ok zs st' ∧ I (n + i + 1) (ys ++ zs) st') →
      ∃ zs st', lcL gd bd xs st = .ok zs st' ∧ I (n + xs.length) (acc ++ zs) st'
  | [], n, acc, st, h, hg, _ => ⟨[], st, by rw [lcL, if_pos (hg n acc st h)], by simpa using h⟩
  | x :: r, n, acc, st, h, hg, hb => by
    obtain ⟨zs1, st1, e1, h1⟩ := hb 0 x rfl acc st h
    obtain ⟨zs2, st2, e2, h2⟩ := lcL_ok I r (n + 1) (acc ++ zs1) st1 h1 hg (fun i y hy ys st hI => by
      obtain ⟨zs, st', e, z⟩ := hb (i + 1) y hy ys st (by rw [Nat.add_comm i 1, ← Nat.add_assoc]; exact hI)
      exact ⟨zs, st', e, by rw [Nat.add_assoc n 1 i, Nat.add_comm 1 i]; exact z⟩)
    refine ⟨zs1 ++ zs2, st2, by rw [lcL, if_pos (hg n acc st h), e1]; dsimp only; rw [e2], ?_⟩
    rw [List.length_cons, Nat.add_comm r.length 1, ← Nat.add_assoc, ← List.append_assoc]
    exact h2
/-- a comprehension that works on nothing -/
theorem lcL_pure {gd : Sto → Bool} {bd : D → Sto → R (List D)} {st : Sto} (f : D → List D) (hg : gd st = true) : ∀ xs : List D, (∀ x ∈ xs, bd x st = .ok (f x) st) → lcL gd bd xs st = .ok (xs.flatMap f) st
  | [], _ => by rw [lcL, if_pos hg]; rfl
  | x :: r, h => by
    rw [lcL, if_pos hg, h x List.mem_cons_self]
    dsimp only
    rw [lcL_pure f hg r fun y hy => h y (List.mem_cons_of_mem _ hy)]
    rfl
theorem gc_eq {st st' : Sto} {d : D} (h : st'.length = st.length) : gc st.length st d st' = .ok d st' := by rw [gc, if_pos h]
theorem gc_tl {st tl : Sto} {d : D} (hn : tl ≠ []) (hu : (leave st.length (st ++ tl) d).under st.length = true) : gc st.length st d (st ++ tl) = .ok (leave st.length (st ++ tl) d) st := by
  have h1 : (st ++ tl).length ≠ st.length := by
    rw [List.length_append]
    have : tl.length ≠ 0 := fun z => hn (List.length_eq_zero_iff.mp z)
    omega
  have h2 : oldOk st.length st (st ++ tl) = true := by
    unfold oldOk
    rw [List.all_eq_true]
    intro i hi
    rw [List.mem_range] at hi
    rw [List.getElem?_append_left hi, decide_eq_true rfl]
    rfl
  rw [gc, if_neg h1, hu, h2, if_pos (by simp), List.take_left]
theorem run_ret {P : Pg} {k f : Nat} {F : FD} {ds : List D} {st st' : Sto} {d : D} (hp : P f = some F) (hl : ds.length = F.np) (hk : F.keep = false) (h : exS (run P k) F.body (ds.map some ++ List.replicate (F.ns - F.np) none) st = .ok (.ret d) st') : run P (k + 1) f ds st = gc st.length st d st' := by
  rw [run, hp]
  dsimp only
  rw [if_pos hl, h]
  dsimp only
  rw [hk]
  rfl
theorem run_keep {P : Pg} {k f : Nat} {F : FD} {ds : List D} {st st' : Sto} {d : D} (hp : P f = some F) (hl : ds.length = F.np) (hk : F.keep = true) (h : exS (run P k) F.body (ds.map some ++ List.replicate (F.ns - F.np) none) st = .ok (.ret d) st') : run P (k + 1) f ds st = .ok d st' := by
  rw [run, hp]
  dsimp only
  rw [if_pos hl, h]
  dsimp only
  rw [hk]
  rfl
theorem joinL_nil (t : Tx) : TL.joinL [] (t.map fun c => [c]) = t := by
  induction t with
  | nil => rfl
  | cons c r ih =>
    cases r with
    | nil => rfl
    | cons d q =>
      rw [List.map_cons, List.map_cons] at *
      show [c] ++ [] ++ TL.joinL [] _ = _
      rw [ih]
      rfl
section
variable {Φ : Phi} {ρ ρ' : Env} {st st1 st2 st3 st4 : Sto}
theorem ex_ret {e : E} {r : S} {d : D} (h : ev Φ e ρ st = .ok d st1) : exS Φ (.seq (.ret e) r) ρ st = .ok (.ret d) st1 := by rw [exS, exS, h]
theorem ex_seq {a b : S} {x : RS} (h : exS Φ a ρ st = .ok (.next ρ') st1) (h2 : exS Φ b ρ' st1 = x) : exS Φ (.seq a b) ρ st = x := by rw [exS, h]; exact h2
theorem ex_asg {e : E} {t : T} {d : D} (h : ev Φ e ρ st = .ok d st1) (hb : bindT t d ρ = some ρ') : exS Φ (.asg t e) ρ st = .ok (.next ρ') st1 := by rw [exS, h]; show (match bindT t d ρ with | some ρ' => R.ok (Fl.next ρ') st1 | none => .no) = _; rw [hb]
theorem ex_ex {e : E} {d : D} (h : ev Φ e ρ st = .ok d st1) : exS Φ (.ex e) ρ st = .ok (.next ρ) st1 := by rw [exS, h]
theorem ex_for {t : T} {i : E} {b : S} {d : D} {xs : List D} {x : RS} (h : ev Φ i ρ st = .ok d st1) (hi : items st1 d = some xs) (h2 : forL (gdOf d st1) (forB t (exS Φ b)) xs ρ st1 = x) : exS Φ (.for_ t i b) ρ st = x := by
  rw [exS, h]
  show (match items st1 d with | some xs => forL (gdOf d st1) (forB t (exS Φ b)) xs ρ st1 | none => .no) = _
  rw [hi]
  exact h2
theorem ev_range {a b : E} {i j : Int} (h1 : ev Φ a ρ st = .ok (.int i) st1) (h2 : ev Φ b ρ st1 = .ok (.int j) st2) (hi : 0 ≤ i) (hi2 : i < 10000000) (hj : 0 ≤ j) (hj2 : j < 10000000) : ev Φ (.range a b) ρ st = .ok (.tup (rangeL i j)) st2 := by
  have c1 : rgOk i = true := by unfold rgOk; rw [decide_eq_true (show -(2 ^ 62 : Int) ≤ i by omega), decide_eq_true (show i < (2 ^ 62 : Int) by omega)]; rfl
  have c2 : rgOk j = true := by unfold rgOk; rw [decide_eq_true (show -(2 ^ 62 : Int) ≤ j by omega), decide_eq_true (show j < (2 ^ 62 : Int) by omega)]; rfl
  have c3 : (j - i).toNat ≤ sizeLine := by have : sizeLine = 16777216 := rfl; omega
  rw [ev, h1]
  show (ev Φ b ρ st1).bind _ = _
  rw [h2]
  show (if rgOk i && rgOk j && decide ((j - i).toNat ≤ sizeLine) then R.ok (D.tup (rangeL i j)) st2 else .no) = _
  rw [c1, c2, decide_eq_true c3]
  rfl
theorem ev_lc {t : T} {i c e : E} {d : D} {xs zs : List D} (h : ev Φ i ρ st = .ok d st1) (hi : items st1 d = some xs)
    (hl : lcL (gdOf d st1) (lcB t (wipeE ρ t.slots) (tst Φ c) (ev Φ e)) xs st1 = .ok zs st2) (hz : zs.length ≤ sizeLine) : ev Φ (.lc t i c e) ρ st = .ok (.lst zs) st2 := by
  rw [ev, h]
  show (match items st1 d with | some xs => (lcL (gdOf d st1) (lcB t (wipeE ρ t.slots) (tst Φ c) (ev Φ e)) xs st1).bind fun ys st2 => if ys.length ≤ sizeLine then .ok (D.lst ys) st2 else .no | none => .no) = _
  rw [hi]
  dsimp only
  rw [hl]
  show (if zs.length ≤ sizeLine then R.ok (D.lst zs) st2 else .no) = _
  rw [if_pos hz]
theorem ev_m2 {t : Ty} {o : O2} {a b : E} {x y z : D} (h1 : ev Φ a ρ st = .ok x st1) (ht : isTy t st1 x = true) (h2 : ev Φ b ρ st1 = .ok y st2) (h3 : f2 o x y st2 = .ok z st3) : ev Φ (.m2 t o a b) ρ st = .ok z st3 := by
  rw [ev, h1]
  show (if isTy t st1 x then (ev Φ b ρ st1).bind fun y st2 => f2 o x y st2 else .no) = _
  rw [ht, if_pos rfl, h2]
  exact h3
theorem ev_o1 {o : O1} {a : E} {x z : D} (h1 : ev Φ a ρ st = .ok x st1) (h3 : f1 o x st1 = .ok z st2) : ev Φ (.o1 o a) ρ st = .ok z st2 := by
  rw [ev, h1]
  exact h3
theorem ev_o2 {o : O2} {a b : E} {x y z : D} (h1 : ev Φ a ρ st = .ok x st1) (h2 : ev Φ b ρ st1 = .ok y st2) (h3 : f2 o x y st2 = .ok z st3) : ev Φ (.o2 o a b) ρ st = .ok z st3 := by
  rw [ev, h1]
  show (ev Φ b ρ st1).bind _ = _
  rw [h2]
  exact h3
end
theorem rangeL_len (i j : Int) : (rangeL i j).length = (j - i).toNat := by simp [rangeL]
theorem rangeL_get {i j : Int} {k : Nat} {x : D} (h : (rangeL i j)[k]? = some x) : k < (j - i).toNat ∧ x = .int (i + k) := by
  have h1 := (List.getElem?_eq_some_iff.mp h).1
  rw [rangeL_len] at h1
  refine ⟨h1, ?_⟩
  have : (rangeL i j)[k]? = some (.int (i + k)) := by simp [rangeL, h1]
  rw [this] at h
  exact (Option.some.inj h).symm
end MP
end

section
set_option Elab.async false
set_option linter.all false
set_option maxRecDepth 100000
/-! MP: the deck of a law, and what is drawn of it, whichever the program is. -/
namespace MP
open PySem
/-- a deck: the place of its dict, what holds of the store, how many places it has -/
structure DK where
  rf : Nat
  ln : Nat
  I : Sto → Nat → Sto → Prop
  len : ∀ {tl : Sto} {n : Nat} {st : Sto}, I tl n st → st.length = ln + tl.length
  mono : ∀ {tl : Sto} {n n' : Nat} {st : Sto}, I tl n st → n ≤ n' → I tl n' st
  push : ∀ {tl : Sto} {n : Nat} {st : Sto} (o : O), I tl n st → I (tl ++ [o]) n (st ++ [o])
  split : ∀ {tl : Sto} {n : Nat} {st : Sto} {o : O}, I (tl ++ [o]) n st → ∃ st0, st = st0 ++ [o] ∧ I tl n st0
  old : ∀ {tl : Sto} {n n' : Nat} {st st' : Sto}, I tl n st → I tl n' st' → oldOk st.length st st' = true
def DrawS (X : DK) (P : Pg) (i : Nat) : Prop := ∀ {k : Nat} {tl : Sto} {n : Nat} {st : Sto} {b : Int}, X.I tl n st → n < 2 ^ 40 → 0 < b → b < 1073741824 →
    ∃ (x : Int) (st' : Sto), run P (k + 1) i [.ref X.rf, .int b] st = .ok (.int x) st' ∧ 0 ≤ x ∧ x < b ∧ X.I tl (n + 1) st'
def PickS (X : DK) (P : Pg) (i : Nat) : Prop := ∀ {k : Nat} {tl : Sto} {n : Nat} {st : Sto} {d : D} {xs : List D}, (d = .lst xs ∨ d = .tup xs) → xs ≠ [] → xs.length < 1073741824 → X.I tl n st → n < 2 ^ 40 →
    ∃ (y : D) (st' : Sto), run P (k + 2) i [.ref X.rf, d] st = .ok y st' ∧ y ∈ xs ∧ X.I tl (n + 1) st'

def pickB (iD : Nat) : S := .seq (.ret (.o2 .ix (.v 1) (.call iD (.cons (.v 0) (.cons (.o1 .len (.v 1)) .nil)) .nil [] []))) .skip
theorem pick_of {X : DK} {P : Pg} {iD i : Nat} (hp : P i = some ⟨2, 2, false, pickB iD⟩) (hD : DrawS X P iD) : PickS X P i := by
  intro k tl n st d xs hd hx hl h hn
  have hp0 : 0 < xs.length := List.length_pos_iff.mpr hx
  obtain ⟨x, st1, e, h1, h2, h3⟩ := hD (k := k) (b := (xs.length : Int)) h hn (by omega) (by omega)
  have hx2 : x.toNat < xs.length := by omega
  refine ⟨xs[x.toNat], st1, ?_, List.getElem_mem _, h3⟩
  have hg : xs[x.toNat]? = some xs[x.toNat] := List.getElem?_eq_getElem hx2
  have hb : exS (run P (k + 1)) (pickB iD) [some (.ref X.rf), some d] st = .ok (.ret xs[x.toNat]) st1 := by
    rcases hd with rfl | rfl <;> simp [pickB, exS, ev, R.bind, R.of, f1, f2, pick, sq, e, dict?, ixN, h1, h2, hg]
  exact (run_ret hp rfl rfl hb).trans (gc_eq (by rw [X.len h3, X.len h]))

theorem texts_chars : ∀ t : Tx, texts (chars t) = some (t.map fun c => [c])
  | [] => rfl
  | c :: r => by
    show texts (.str [c] :: chars r) = _
    rw [texts, texts_chars r]
    rfl

theorem sum_one : ∀ t : Tx, ((t.map fun c => [c]).map List.length).sum = t.length
  | [] => rfl
  | c :: r => by
    rw [List.map_cons, List.map_cons, List.sum_cons, sum_one r, List.length_cons]
    simp
    omega

def runB (iD iP : Nat) : S := .seq (.ret (.m2 .str .join (.c (.str [])) (.lc (.nm 4) (.range (.c (.int 0)) (.o2 .add (.v 2) (.call iD (.cons (.v 0) (.cons (.o2 .add (.o2 .sub (.v 3) (.v 2)) (.c (.int 1))) .nil)) .nil [] []))) (.c (.bl true)) (.call iP (.cons (.v 0) (.cons (.v 1) .nil)) .nil [] [])))) .skip
def RunS (X : DK) (P : Pg) (i : Nat) : Prop := ∀ {k : Nat} {tl : Sto} {n : Nat} {st : Sto} {S : Tx} {lo hi : Nat}, S ≠ [] → S.length < 1000 → lo ≤ hi → hi < 1000 → X.I tl n st → n < 2 ^ 39 →
    ∃ (t : Tx) (st' : Sto), run P (k + 3) i [.ref X.rf, .lst (chars S), .int lo, .int hi] st = .ok (.str t) st' ∧ lo ≤ t.length ∧ t.length ≤ hi ∧ (∀ c ∈ t, c ∈ S) ∧ X.I tl (n + 1 + hi) st'
theorem run_of {X : DK} {P : Pg} {iD iP i : Nat} (hp : P i = some ⟨4, 5, false, runB iD iP⟩) (hD0 : DrawS X P iD) (hP0 : PickS X P iP) : RunS X P i := by
  intro k tl n st S lo hi hS hS2 h1 h2 h hn
  obtain ⟨x, st1, e, x1, x2, x3⟩ := hD0 (k := k + 1) (b := (hi : Int) - lo + 1) h (by omega) (by omega) (by omega)
  obtain ⟨zs, st2, e2, t, ez, ht, hc, hD⟩ := lcL_ok (gd := gdOf (.tup (rangeL 0 (lo + x))) st1) (bd := lcB (.nm 4) (wipeE [some (.ref X.rf), some (.lst (chars S)), some (.int lo), some (.int hi), none] [4]) (tst (run P (k + 2)) (.c (.bl true))) (ev (run P (k + 2)) (.call iP (.cons (.v 0) (.cons (.v 1) .nil)) .nil [] [])))
    (fun m ys st => ∃ t : Tx, ys = chars t ∧ t.length = m ∧ (∀ c ∈ t, c ∈ S) ∧ X.I tl (n + 1 + m) st) (rangeL 0 (lo + x)) 0 [] st1 ⟨[], rfl, rfl, by simp, x3⟩ (fun _ _ _ _ => rfl)
    (fun i2 y hy ys st hI => by
      obtain ⟨t, e1, e2, e3, e4⟩ := hI
      subst e1
      have hi2 := (rangeL_get hy).1
      obtain ⟨y2, st2, e5, e6, e7⟩ := hP0 (k := k) (d := .lst (chars S)) (.inl rfl) (by simpa [chars] using hS) (by simp [chars]; omega) e4 (by omega)
      obtain ⟨c, hc, rfl⟩ := List.mem_map.mp e6
      refine ⟨[.str [c]], st2, ?_, t ++ [c], by simp [chars], by simp [e2], ?_, e7⟩
      · simp [lcB, bindT, tst, wipeE, ev, R.bind, R.of, truth, pick, e5]
      · intro z hz
        rcases List.mem_append.mp hz with z1 | z1
        · exact e3 z z1
        · rw [List.mem_singleton.mp z1]; exact hc)
  rw [List.nil_append] at ez
  subst ez
  rw [rangeL_len] at ht hD
  have c3 : sizeLine = 16777216 := rfl
  have hb : exS (run P (k + 2)) (runB iD iP) [some (.ref X.rf), some (.lst (chars S)), some (.int lo), some (.int hi), none] st = .ok (.ret (.str t)) st2 := by
    refine ex_ret ?_
    refine ev_m2 (x := .str []) rfl rfl (y := .lst (chars t)) (st2 := st2) ?_ ?_
    refine ev_lc (d := .tup (rangeL 0 (lo + x))) (st1 := st1) (xs := rangeL 0 (lo + x)) ?_ ?_ ?_ ?_
    refine ev_range (st1 := st) (i := 0) (j := lo + x) (st2 := st1) ?_ ?_ (by omega) (by omega) (by omega) (by omega)
    · rfl
    · simp [ev, R.bind, R.of, f1, f2, pick, e]
    · rfl
    · exact e2
    · simp [chars]; omega
    · have hs : ((t.map fun c => [c]).map List.length).sum + (t.map fun c => [c]).length * List.length ([] : Tx) ≤ 16777216 := by
        rw [sum_one]; simp; omega
      simp only [f2, sq, Option.bind_some, texts_chars]
      rw [if_pos hs, joinL_nil]
  have hr : run P (k + 2 + 1) i [.ref X.rf, .lst (chars S), .int lo, .int hi] st = gc st.length st (.str t) st2 := run_ret hp rfl rfl hb
  have hg := hr.trans (gc_eq (by rw [X.len hD, X.len h]))
  refine ⟨t, st2, hg, by omega, by omega, hc, X.mono hD (by omega)⟩

def signsB (iP : Nat) : S := .seq (.ret (.call iP (.cons (.v 0) (.cons (.lst (.cons (.lst (.cons (.c (.str [97])) .nil)) (.cons (.lst (.cons (.c (.str [97])) (.cons (.c (.str [98])) .nil))) (.cons (.lst (.cons (.c (.str [97])) (.cons (.c (.str [98])) (.cons (.c (.str [99])) .nil)))) (.cons (.lst (.cons (.c (.str [120])) (.cons (.c (.str [122])) .nil))) .nil))))) .nil)) .nil [] [])) .skip
def SignsS (X : DK) (P : Pg) (i : Nat) : Prop := ∀ {k : Nat} {tl : Sto} {n : Nat} {st : Sto}, X.I tl n st → n < 2 ^ 39 →
    ∃ (S : Tx) (st' : Sto), run P (k + 2 + 1) i [.ref X.rf] st = .ok (.lst (chars S)) st' ∧ S ≠ [] ∧ S.length ≤ 3 ∧ (∀ c ∈ S, 97 ≤ c ∧ c < 123) ∧ X.I tl (n + 1) st'
theorem signs_of {X : DK} {P : Pg} {iP i : Nat} (hp : P i = some ⟨1, 1, false, signsB iP⟩) (hP0 : PickS X P iP) : SignsS X P i := by
  intro k tl n st h hn
  obtain ⟨y, st1, e, hy, h3⟩ := hP0 (k := k) (d := .lst ([[97], [97, 98], [97, 98, 99], [120, 122]].map fun S => .lst (chars S))) (.inl rfl) (by simp) (by simp) h (by omega)
  obtain ⟨S, hS, rfl⟩ := List.mem_map.mp hy
  have hb : exS (run P (k + 2)) (signsB iP) [some (.ref X.rf)] st = .ok (.ret (.lst (chars S))) st1 := by
    refine ex_ret ?_
    have c3 : sizeLine = 16777216 := rfl
    simp only [chars, List.map_cons, List.map_nil] at e
    simp [ev, R.bind, pick, c3, e]
    rfl
  have hr : run P (k + 2 + 1) i [.ref X.rf] st = gc st.length st (.lst (chars S)) st1 := run_ret hp rfl rfl hb
  have hall : ∀ S ∈ ([[97], [97, 98], [97, 98, 99], [120, 122]] : List Tx), S ≠ [] ∧ S.length ≤ 3 ∧ ∀ c ∈ S, 97 ≤ c ∧ c < 123 := by decide
  obtain ⟨a1, a2, a3⟩ := hall S hS
  exact ⟨S, st1, hr.trans (gc_eq (by rw [X.len h3, X.len h])), a1, a2, a3, h3⟩

theorem strs_of {Q : Tx → Prop} : ∀ l : List D, (∀ x ∈ l, ∃ w, x = .str w ∧ Q w) → ∃ ws : List Tx, l = ws.map .str ∧ ∀ w ∈ ws, Q w
  | [], _ => ⟨[], rfl, by simp⟩
  | x :: r, h => by
    obtain ⟨w, rfl, hw⟩ := h x List.mem_cons_self
    obtain ⟨ws, rfl, hs⟩ := strs_of r fun y hy => h y (List.mem_cons_of_mem _ hy)
    exact ⟨w :: ws, rfl, fun z hz => by
      rcases List.mem_cons.mp hz with rfl | hz
      · exact hw
      · exact hs z hz⟩

theorem texts_strs : ∀ ts : List Tx, texts (ts.map .str) = some ts
  | [] => rfl
  | t :: r => by rw [List.map_cons, texts, texts_strs r]; rfl

def lotB (iD iR : Nat) : S := .seq (.ret (.o1 .tuple (.o1 .sortset (.lc (.nm 4) (.range (.c (.int 0)) (.call iD (.cons (.v 0) (.cons (.o2 .add (.v 2) (.c (.int 1))) .nil)) .nil [] [])) (.c (.bl true)) (.call iR (.cons (.v 0) (.cons (.v 1) (.cons (.c (.int 1)) (.cons (.v 3) .nil)))) .nil [] []))))) .skip
theorem strs_inj : ∀ {a b : List Tx}, a.map D.str = b.map D.str → a = b
  | [], [], _ => rfl
  | [], _ :: _, h => by simp at h
  | _ :: _, [], h => by simp at h
  | x :: r, y :: q, h => by
    rw [List.map_cons, List.map_cons, List.cons.injEq, D.str.injEq] at h
    rw [h.1, strs_inj h.2]
/-- a list of texts, sorted, each once -/
def getT : D → Tx
  | .str t => t
  | _ => []
theorem map_getT (ws : List Tx) : (ws.map D.str).map getT = ws := by
  rw [List.map_map]
  have : (getT ∘ D.str) = id := rfl
  rw [this, List.map_id]
def sdT (ts : List Tx) : List Tx := (sortL (dedup (ts.map D.str))).map getT
theorem sdT_map (ts : List Tx) : sortL (dedup (ts.map D.str)) = (sdT ts).map .str := by
  have hp := (sortL_perm (dedup (ts.map D.str)))
  obtain ⟨ws, ew, _⟩ := strs_of (Q := fun _ => True) (sortL (dedup (ts.map D.str))) fun y hy => by
    obtain ⟨w, hw, rfl⟩ := List.mem_map.mp (dedup_mem.mp (hp.mem_iff.mp hy))
    exact ⟨w, rfl, trivial⟩
  rw [sdT, ew, map_getT]
theorem sdT_mem {ts : List Tx} {w : Tx} : w ∈ sdT ts ↔ w ∈ ts := by
  have h1 : D.str w ∈ (sdT ts).map D.str ↔ w ∈ sdT ts := ⟨fun h => by
    obtain ⟨a, ha, e⟩ := List.mem_map.mp h
    cases e; exact ha, fun h => List.mem_map.mpr ⟨w, h, rfl⟩⟩
  have h2 : D.str w ∈ ts.map D.str ↔ w ∈ ts := ⟨fun h => by
    obtain ⟨a, ha, e⟩ := List.mem_map.mp h
    cases e; exact ha, fun h => List.mem_map.mpr ⟨w, h, rfl⟩⟩
  rw [← h1, ← sdT_map, (sortL_perm _).mem_iff, dedup_mem, h2]
theorem sdT_nodup (ts : List Tx) : (sdT ts).Nodup := by
  have hnd : ((sdT ts).map D.str).Nodup := by rw [← sdT_map]; exact (sortL_perm _).nodup_iff.mpr (dedup_nodup _)
  exact (List.pairwise_map.mp hnd).imp fun h e => h (by rw [e])
theorem sdT_len (ts : List Tx) : (sdT ts).length ≤ ts.length := (sdT_nodup ts).length_le_of_subset fun y hy => sdT_mem.mp hy
def LotS (X : DK) (P : Pg) (i : Nat) : Prop := ∀ {k : Nat} {tl : Sto} {n : Nat} {st : Sto} {S : Tx} {many most : Nat}, S ≠ [] → S.length < 1000 → many ≤ 100 → 1 ≤ most → most ≤ 100 → X.I tl n st → n < 2 ^ 38 →
    ∃ (ts : List Tx) (st' : Sto), run P (k + 3 + 1) i [.ref X.rf, .lst (chars S), .int many, .int most] st = .ok (.tup ((sdT ts).map .str)) st' ∧ ts.length ≤ many ∧ (∀ w ∈ ts, 1 ≤ w.length ∧ w.length ≤ most ∧ ∀ c ∈ w, c ∈ S) ∧ X.I tl (n + 20000) st'
theorem lot_of {X : DK} {P : Pg} {iD iR i : Nat} (hp : P i = some ⟨4, 5, false, lotB iD iR⟩) (hD0 : DrawS X P iD) (hR0 : RunS X P iR) : LotS X P i := by
  intro k tl n st S many most hS hS2 hm hm0 hm1 h hn
  obtain ⟨x, st1, e, x1, x2, x3⟩ := hD0 (k := k + 2) (b := (many : Int) + 1) h (by omega) (by omega) (by omega)
  obtain ⟨zs, st2, e2, ts, ez, ht, hc, hD⟩ := lcL_ok (gd := gdOf (.tup (rangeL 0 x)) st1) (bd := lcB (.nm 4) (wipeE [some (.ref X.rf), some (.lst (chars S)), some (.int many), some (.int most), none] [4]) (tst (run P (k + 3)) (.c (.bl true))) (ev (run P (k + 3)) (.call iR (.cons (.v 0) (.cons (.v 1) (.cons (.c (.int 1)) (.cons (.v 3) .nil)))) .nil [] [])))
    (fun m ys st => ∃ ts : List Tx, ys = ts.map .str ∧ ts.length = m ∧ (∀ w ∈ ts, 1 ≤ w.length ∧ w.length ≤ most ∧ ∀ c ∈ w, c ∈ S) ∧ X.I tl (n + 1 + m * 101) st) (rangeL 0 x) 0 [] st1 ⟨[], rfl, rfl, by simp, by simpa using x3⟩ (fun _ _ _ _ => rfl)
    (fun i y hy ys st hI => by
      obtain ⟨ts, e1, e2, e3, e4⟩ := hI
      subst e1
      have hi2 := (rangeL_get hy).1
      obtain ⟨t, st2, e5, e6, e7, e8, e9⟩ := hR0 (k := k) (lo := 1) (hi := most) hS hS2 (by omega) (by omega) e4 (by omega)
      refine ⟨[.str t], st2, ?_, ts ++ [t], by simp, by simp [e2], ?_, X.mono e9 (by omega)⟩
      · have e5' : run P (k + 3) iR [.ref X.rf, .lst (chars S), .int 1, .int most] st = .ok (.str t) st2 := e5
        simp [lcB, bindT, tst, wipeE, ev, R.bind, R.of, truth, pick, e5']
      · intro z hz
        rcases List.mem_append.mp hz with z1 | z1
        · exact e3 z z1
        · rw [List.mem_singleton.mp z1]; exact ⟨e6, e7, e8⟩)
  rw [List.nil_append] at ez
  subst ez
  rw [rangeL_len] at ht hD
  have c3 : sizeLine = 16777216 := rfl
  have hb : exS (run P (k + 3)) (lotB iD iR) [some (.ref X.rf), some (.lst (chars S)), some (.int many), some (.int most), none] st = .ok (.ret (.tup ((sdT ts).map .str))) st2 := by
    refine ex_ret ?_
    refine ev_o1 (x := .lst ((sdT ts).map .str)) (st1 := st2) ?_ rfl
    refine ev_o1 (x := .lst (ts.map .str)) (st1 := st2) ?_ ?_
    · refine ev_lc (d := .tup (rangeL 0 x)) (st1 := st1) (xs := rangeL 0 x) ?_ rfl e2 ?_
      · refine ev_range (st1 := st) (i := 0) (j := x) (st2 := st1) rfl ?_ (by omega) (by omega) (by omega) (by omega)
        simp [ev, R.bind, R.of, f1, f2, pick, e]
      · simp; omega
    · have hl : ((ts.map D.str).length < 4000 && flatKeys (ts.map D.str)) = true := by
        simp [flatKeys, texts_strs]; omega
      show R.of st2 (((some (ts.map D.str)).bind fun xs => if xs.length < 4000 && flatKeys xs then some (sortL (dedup xs)) else none).map D.lst) = _
      rw [Option.bind_some, hl, if_pos rfl, sdT_map]
      rfl
  have hr : run P (k + 3 + 1) i [.ref X.rf, .lst (chars S), .int many, .int most] st = gc st.length st (.tup ((sdT ts).map .str)) st2 := run_ret hp rfl rfl hb
  exact ⟨ts, st2, hr.trans (gc_eq (by rw [X.len hD, X.len h])), by omega, hc, X.mono hD (by omega)⟩

theorem eq_nil {st : Sto} {ws : List Tx} (hw : ∀ w ∈ ws, ∀ c ∈ w, c < 200) : eqD st (.tup (ws.map .str)) (.tup []) = some (decide (ws = [])) := by
  show eqP st (.tup (ws.map .str)) (.tup []) = _
  have hd : dps (ws.map D.str) ≤ 60 := dps_le fun x hx => by
    obtain ⟨i, _, rfl⟩ := List.mem_map.mp hx
    exact Nat.zero_le _
  rw [eqP_cl (a' := .tup (ws.map .str)) (b' := .tup []) rfl rfl (by
    rw [D.cl, cls_all]
    intro x hx
    obtain ⟨i, hi, rfl⟩ := List.mem_map.mp hx
    rw [D.cl, List.all_eq_true]
    intro c hc
    have := hw i hi c hc
    exact decide_eq_true (by omega)) rfl (by rw [D.dp]; omega) (by decide)]
  cases ws <;> simp

def builtB (iD iP : Nat) : S := .seq (.asg (.nm 4) (.c (.str []))) (.seq (.for_ (.nm 5) (.range (.c (.int 0)) (.o2 .add (.c (.int 1)) (.call iD (.cons (.v 0) (.cons (.c (.int 8)) .nil)) .nil [] []))) (.seq (.asg (.nm 6) (.ite (.ite (.o2 .ne (.v 1) (.tup .nil)) (.o2 .gt (.call iD (.cons (.v 0) (.cons (.c (.int 5)) .nil)) .nil [] []) (.c (.int 0))) (.c (.bl false))) (.v 1) (.v 2))) (.seq (.asg (.nm 4) (.o2 .add (.v 4) (.call iP (.cons (.v 0) (.cons (.v 6) .nil)) .nil [] []))) .skip))) (.seq (.ret (.o3 .slice (.v 4) (.c .non) (.o1 .idx (.v 3)))) .skip))
def BuiltS (X : DK) (P : Pg) (i : Nat) : Prop := ∀ {k : Nat} {tl : Sto} {n : Nat} {st : Sto} {S : Tx} {ws : List Tx} {hi : Nat}, S ≠ [] → S.length < 1000 → (∀ c ∈ S, c < 200) → ws.length ≤ 1000 → (∀ w ∈ ws, w.length ≤ 1000 ∧ ∀ c ∈ w, c < 200) → X.I tl n st → n < 2 ^ 38 →
    ∃ (t : Tx) (st' : Sto), run P (k + 2 + 1) i [.ref X.rf, .tup (ws.map .str), .lst (chars S), .int hi] st = .ok (.str t) st' ∧ t.length ≤ hi ∧ (∀ c ∈ t, (∃ w ∈ ws, c ∈ w) ∨ c ∈ S) ∧ X.I tl (n + 100) st'
theorem built_of {X : DK} {P : Pg} {iD iP i : Nat} (hp : P i = some ⟨4, 7, false, builtB iD iP⟩) (hD0 : DrawS X P iD) (hP0 : PickS X P iP) : BuiltS X P i := by
  intro k tl n st S ws hi hS hS2 hS3 hw hw2 h hn
  obtain ⟨x, st1, e, x1, x2, x3⟩ := hD0 (k := k + 1) (b := 8) h (by omega) (by omega) (by omega)
  have c3 : sizeLine = 16777216 := rfl
  obtain ⟨ρ, st2, e2, t, p, q, rfl, ht, hc, hD⟩ := forL_ok (gd := gdOf (.tup (rangeL 0 (1 + x))) st1) (bd := forB (.nm 5) (exS (run P (k + 2)) (.seq (.asg (.nm 6) (.ite (.ite (.o2 .ne (.v 1) (.tup .nil)) (.o2 .gt (.call iD (.cons (.v 0) (.cons (.c (.int 5)) .nil)) .nil [] []) (.c (.int 0))) (.c (.bl false))) (.v 1) (.v 2))) (.seq (.asg (.nm 4) (.o2 .add (.v 4) (.call iP (.cons (.v 0) (.cons (.v 6) .nil)) .nil [] []))) .skip))))
    (fun m ρ st => ∃ (t : Tx) (p q : Option D), ρ = [some (.ref X.rf), some (.tup (ws.map .str)), some (.lst (chars S)), some (.int hi), some (.str t), p, q] ∧ t.length ≤ 1000 * m ∧ (∀ c ∈ t, (∃ w ∈ ws, c ∈ w) ∨ c ∈ S) ∧ X.I tl (n + 1 + m * 2) st) (rangeL 0 (1 + x)) 0
    [some (.ref X.rf), some (.tup (ws.map .str)), some (.lst (chars S)), some (.int hi), some (.str []), none, none] st1 ⟨[], none, none, rfl, by simp, by simp, x3⟩ (fun _ _ _ _ => rfl)
    (fun i2 y hy ρ st hI => by
      obtain ⟨t, p, q, rfl, e2, e3, e4⟩ := hI
      obtain ⟨hi2, rfl⟩ := rangeL_get hy
      rw [Nat.zero_add] at e2 e4
      have en := eq_nil (st := st) (fun w hw => (hw2 w hw).2)
      have hS' (m : Nat) (st : Sto) (e4 : X.I tl m st) (hm : m < 2 ^ 39) : (∃ (c : Tx) (st' : Sto), run P (k + 2) iP [.ref X.rf, .lst (chars S)] st = .ok (.str c) st' ∧ c.length ≤ 1000 ∧ (∀ z ∈ c, (∃ w ∈ ws, z ∈ w) ∨ z ∈ S) ∧ X.I tl (m + 1) st') := by
        obtain ⟨y, st2, f1, f2, f3⟩ := hP0 (k := k) (d := .lst (chars S)) (.inl rfl) (by simpa [chars] using hS) (by simp [chars]; omega) e4 (by omega)
        obtain ⟨c, hc, rfl⟩ := List.mem_map.mp f2
        exact ⟨[c], st2, f1, by simp, fun z hz => .inr (by rw [List.mem_singleton.mp hz]; exact hc), f3⟩
      have fin (c : Tx) (f3 : ∀ z ∈ c, (∃ w ∈ ws, z ∈ w) ∨ z ∈ S) : ∀ z ∈ t ++ c, (∃ w ∈ ws, z ∈ w) ∨ z ∈ S := by
        intro z hz
        rcases List.mem_append.mp hz with z1 | z1
        · exact e3 z z1
        · exact f3 z z1
      by_cases hz : ws = []
      · subst hz
        obtain ⟨c, st2, f1, f2, f3, f4⟩ := hS' _ st e4 (by omega)
        have hl : t.length + c.length ≤ 16777216 := by omega
        have en' : eqD st (.tup []) (.tup []) = some true := en
        refine ⟨_, st2, ?_, t ++ c, some (.int i2), some (.lst (chars S)), rfl, by simp; omega, fin c f3, X.mono f4 (by omega)⟩
        simp [forB, bindT, exS, ev, R.bind, R.of, MP.f2, truth, pick, en', c3, f1, hl]
      · obtain ⟨y, st3, g1, g2, g3, g4⟩ := hD0 (k := k + 1) (b := 5) e4 (by omega) (by omega) (by omega)
        by_cases hy0 : 0 < y
        · obtain ⟨z, st2, f1, f2, f3⟩ := hP0 (k := k) (d := .tup (ws.map .str)) (.inr rfl) (by simpa using hz) (by simp; omega) g4 (by omega)
          obtain ⟨c, hc, rfl⟩ := List.mem_map.mp f2
          obtain ⟨q1, q2⟩ := hw2 c hc
          have hl : t.length + c.length ≤ 16777216 := by omega
          refine ⟨_, st2, ?_, t ++ c, some (.int i2), some (.tup (ws.map .str)), rfl, by simp; omega, fin c (fun z hz => .inl ⟨c, hc, hz⟩), X.mono f3 (by omega)⟩
          simp [forB, bindT, exS, ev, R.bind, R.of, MP.f2, truth, pick, en, c3, f1, hl, hz, g1, ltF, hy0]
        · obtain ⟨c, st2, f1, f2, f3, f4⟩ := hS' _ st3 g4 (by omega)
          have hl : t.length + c.length ≤ 16777216 := by omega
          refine ⟨_, st2, ?_, t ++ c, some (.int i2), some (.lst (chars S)), rfl, by simp; omega, fin c f3, X.mono f4 (by omega)⟩
          simp [forB, bindT, exS, ev, R.bind, R.of, MP.f2, truth, pick, en, c3, f1, hl, hz, g1, ltF, hy0])
  rw [rangeL_len] at ht hD
  have hb : exS (run P (k + 2)) (builtB iD iP) [some (.ref X.rf), some (.tup (ws.map .str)), some (.lst (chars S)), some (.int hi), none, none, none] st = .ok (.ret (.str (cut t none (some (hi : Int))))) st2 := by
    refine ex_seq (ex_asg (d := .str []) (st1 := st) rfl rfl) ?_
    refine ex_seq (ex_for (d := .tup (rangeL 0 (1 + x))) (st1 := st1) (xs := rangeL 0 (1 + x)) ?_ rfl e2) ?_
    · refine ev_range (st1 := st) (i := 0) (j := 1 + x) (st2 := st1) rfl ?_ (by omega) (by omega) (by omega) (by omega)
      simp [ev, R.bind, R.of, f1, f2, pick, e]
    · refine ex_ret ?_
      have hl : t.length ≤ 16777216 := by omega
      simp [ev, R.bind, R.of, f1, f3, optI, c3, hl]
  have hr : run P (k + 2 + 1) i [.ref X.rf, .tup (ws.map .str), .lst (chars S), .int hi] st = gc st.length st (.str (cut t none (some (hi : Int)))) st2 := run_ret hp rfl rfl hb
  refine ⟨_, st2, hr.trans (gc_eq (by rw [X.len hD, X.len h])), ?_, ?_, X.mono hD (by omega)⟩
  · simp [cut, sIx]
    split <;> omega
  · intro c hm
    exact hc c (List.mem_of_mem_drop (List.mem_of_mem_take hm))

/-! ### the first family's deck -/
def kR : D := .str [114, 101, 115, 116]
def kM : D := .str [109, 105, 120, 101, 100]
def kD : D := .str [100, 114, 97, 119, 115]
def dk (ju : List Int) (r : List Int) (m d : Int) : Sto := [.lst (ju.map .int), .lst (r.map .int), .dic [kR, kM, kD] [.ref 1, .int m, .int d]]
def Dk (tl : Sto) (n : Nat) (st : Sto) : Prop := ∃ ju r m d, r.length ≤ 64 ∧ 0 ≤ d ∧ d ≤ (n : Int) ∧ st = dk ju r m d ++ tl
theorem small_mod (x m : Int) (h : 0 < m) (h2 : m < 2 ^ 64) : small (x % m) = true := by
  have a := Int.emod_nonneg x (Int.ne_of_gt h)
  have b := Int.emod_lt_of_pos x h
  unfold small
  rw [decide_eq_true (show -(2 ^ 64 : Int) < x % m by omega), decide_eq_true (show x % m < (2 ^ 64 : Int) by omega)]
  rfl

theorem small_pos {t : Int} (h : 0 ≤ t) (h2 : t < 2 ^ 64) : small t = true := by
  unfold small
  rw [decide_eq_true (show -(2 ^ 64 : Int) < t by omega), decide_eq_true h2]
  rfl

theorem eq_rest {st : Sto} {r : List Int} (h : st[1]? = some (.lst (r.map .int))) : eqD st (.ref 1) (.lst []) = some (decide (r = [])) := by
  show eqP st (.ref 1) (.lst []) = _
  have ht : top st (.ref 1) = .lst (r.map .int) := by show (match st[1]? with | some (.lst xs) => D.lst xs | _ => .ref 1) = _; rw [h]
  have hd : dps (r.map .int) ≤ 60 := dps_le fun x hx => by
    obtain ⟨i, _, rfl⟩ := List.mem_map.mp hx
    exact Nat.zero_le _
  have hd2 : (D.lst (r.map .int)).dp ≤ 64 := by rw [D.dp]; omega
  rw [eqP_cl (b' := .lst []) ht rfl (by rw [D.cl, cls_all]; intro x hx; obtain ⟨i, _, rfl⟩ := List.mem_map.mp hx; rfl) rfl hd2 (by decide)]
  cases r <;> simp

theorem Dk.len {tl : Sto} {n : Nat} {st : Sto} (h : Dk tl n st) : st.length = 3 + tl.length := by
  obtain ⟨ju, r, m, d, _, _, _, rfl⟩ := h
  simp [dk]
  omega

theorem Dk.mono {tl : Sto} {n n' : Nat} {st : Sto} (h : Dk tl n st) (hn : n ≤ n') : Dk tl n' st := by
  obtain ⟨ju, r, m, d, a, b, c, e⟩ := h
  exact ⟨ju, r, m, d, a, b, by omega, e⟩

theorem Dk.push {tl : Sto} {n : Nat} {st : Sto} (o : O) (h : Dk tl n st) : Dk (tl ++ [o]) n (st ++ [o]) := by
  obtain ⟨ju, r, m, d, a, b, c, rfl⟩ := h
  exact ⟨ju, r, m, d, a, b, c, List.append_assoc ..⟩
theorem Dk.split {tl : Sto} {n : Nat} {st : Sto} {o : O} (h : Dk (tl ++ [o]) n st) : ∃ st0, st = st0 ++ [o] ∧ Dk tl n st0 := by
  obtain ⟨ju, r, m, d, a, b, c, rfl⟩ := h
  exact ⟨dk ju r m d ++ tl, (List.append_assoc ..).symm, ju, r, m, d, a, b, c, rfl⟩
theorem ints_under (n : Nat) : ∀ r : List Int, unders n (r.map .int) = true
  | [] => rfl
  | x :: r => by rw [List.map_cons, unders, ints_under n r]; rfl
theorem Dk.old {tl : Sto} {n n' : Nat} {st st' : Sto} (h : Dk tl n st) (h' : Dk tl n' st') : oldOk st.length st st' = true := by
  have hl := h.len
  obtain ⟨ju, r, m, d, a, b, c, rfl⟩ := h
  obtain ⟨ju', r', m', d', a', b', c', rfl⟩ := h'
  unfold oldOk
  rw [List.all_eq_true]
  intro i hi
  match i with
  | 0 => simp [dk, O.under, ints_under]
  | 1 => simp [dk, O.under, ints_under]
  | 2 => simp [dk, O.under, unders, D.under, kR, kM, kD]
  | i + 3 => simp [dk]
def dkA : DK := ⟨2, 3, Dk, Dk.len, Dk.mono, Dk.push, Dk.split, Dk.old⟩
theorem gc_dk {X : DK} {tl tl2 : Sto} {n n' : Nat} {st st0 : Sto} {d : D} (h : X.I tl n st) (h' : X.I tl n' st0) (hn : tl2 ≠ []) (hu : (leave st.length (st0 ++ tl2) d).under st.length = true) : gc st.length st d (st0 ++ tl2) = .ok (leave st.length (st0 ++ tl2) d) st0 := by
  have hl : st.length = st0.length := by rw [X.len h, X.len h']
  have h1 : (st0 ++ tl2).length ≠ st.length := by
    rw [List.length_append]
    have : tl2.length ≠ 0 := fun z => hn (List.length_eq_zero_iff.mp z)
    omega
  have h2 : oldOk st.length st (st0 ++ tl2) = true := by
    have := X.old h h'
    unfold oldOk at this ⊢
    rw [List.all_eq_true] at this ⊢
    intro i hi
    have := this i hi
    rw [List.mem_range] at hi
    rw [List.getElem?_append_left (by omega)]
    exact this
  rw [gc, if_neg h1, hu, h2, if_pos (by simp; omega), hl, List.take_left]
def drawA (c1 c2 c3 : Int) : S := .seq (.seti (.v 0) (.c (.str [100, 114, 97, 119, 115])) (.o2 .add (.o2 .ix (.v 0) (.c (.str [100, 114, 97, 119, 115]))) (.c (.int 1)))) (.seq (.par (.cons (.nm 2) (.cons (.nm 3) .nil)) (.cons (.o2 .ix (.v 0) (.c (.str [109, 105, 120, 101, 100]))) (.cons (.o2 .ix (.v 0) (.c (.str [100, 114, 97, 119, 115]))) .nil))) (.seq (.ite (.o2 .ne (.o2 .ix (.v 0) (.c (.str [114, 101, 115, 116]))) (.lst .nil)) (.seq (.asg (.nm 4) (.m1 .lst .pop (.o2 .ix (.v 0) (.c (.str [114, 101, 115, 116]))))) (.seq (.ite (.o2 .ge (.v 4) (.o2 .pow (.c (.int 10)) (.c (.int 18)))) (.seq (.ex (.m2 .lst .append (.o2 .ix (.v 0) (.c (.str [114, 101, 115, 116]))) (.o2 .fdiv (.v 4) (.v 1)))) (.seq (.ret (.o2 .mod (.o1 .int (.v 4)) (.v 1))) .skip)) .skip) (.seq (.asg (.nm 2) (.o2 .add (.v 2) (.v 4))) .skip))) .skip) (.seq (.asg (.nm 2) (.o2 .mul (.o1 .int (.o2 .add (.o2 .add (.o2 .mod (.o1 .int (.v 2)) (.c (.int 2147483563))) (.o2 .mul (.o2 .mul (.c (.int c1)) (.v 3)) (.v 3))) (.c (.int c3)))) (.c (.int 40692)))) (.seq (.asg (.nm 2) (.o2 .mod (.o1 .int (.v 2)) (.c (.int 2147483647)))) (.seq (.asg (.nm 2) (.o2 .mod (.o1 .int (.o2 .add (.o2 .add (.o2 .mul (.v 2) (.v 2)) (.o2 .mul (.c (.int 39373)) (.v 3))) (.c (.int c2)))) (.c (.int 2147483579)))) (.seq (.ret (.o2 .mod (.o2 .fdiv (.o2 .mod (.o1 .int (.o2 .mul (.v 2) (.c (.int 48271)))) (.c (.int 2147483549))) (.c (.int 64))) (.v 1))) .skip))))))
theorem draw_body (Φ : Phi) {tl : Sto} {b m d : Int} {ju : List Int} {r : List Int} {q1 q2 q3 : Int} (s1 : small q1 = true) (hr : r.length ≤ 64) (ht : small (d + 1) = true) (hb : 0 < b) (hb2 : b < 1073741824) :
    ∃ (y : Int) (q : List Int), q.length ≤ 64 ∧ exS Φ (drawA q1 q2 q3) [some (.ref 2), some (.int b), none, none, none] (dk ju r m d ++ tl) = .ok (.ret (.int (y % b))) (dk ju q m (d + 1) ++ tl) := by
  have s2 : small 40692 = true := by decide
  have s3 : small 39373 = true := by decide
  have s4 : small 48271 = true := by decide
  have s5 (x : Int) : small (x % 2147483647) = true := small_mod x _ (by decide) (by decide)
  have s6 : sizeLine = 16777216 := rfl
  rcases List.eq_nil_or_concat r with rfl | ⟨q, c, rfl⟩
  · have er : eqD (dk ju [] m (d + 1) ++ tl) (.ref 1) (.lst []) = some (decide (([] : List Int) = [])) := eq_rest rfl
    simp only [dk, kR, kM, kD, List.map_nil, List.cons_append, List.nil_append] at er
    simp [drawA, exS, ev, tst, R.bind, R.of, truth, f1, f2, bindT, bindTs, setR, dict?, isKey, look, putK, putV, dk, kR, kM, kD, s1, s2, s3, s4, s5, ht, hb, er, s6]
    exact ⟨_, rfl⟩
  · rw [List.concat_eq_append] at hr ⊢
    have hq : q.length < 64 := by rw [List.length_append] at hr; simp at hr; omega
    have er : eqD (dk ju (q ++ [c]) m (d + 1) ++ tl) (.ref 1) (.lst []) = some (decide ((q ++ [c]) = [])) := eq_rest rfl
    simp only [dk, kR, kM, kD, List.map_nil, List.cons_append, List.nil_append, List.map_append, List.map_cons] at er
    have hq2 : q.length < 16777216 := by omega
    by_cases hc : c < 1000000000000000000
    · simp [drawA, exS, ev, tst, R.bind, R.of, truth, f1, f2, bindT, bindTs, setR, dict?, isKey, look, putK, putV, dk, kR, kM, kD, s1, s2, s3, s4, s5, ht, hb, er, s6, isTy, ltF, hc]
      exact ⟨_, q, by omega, rfl, rfl⟩
    · simp [drawA, exS, ev, tst, R.bind, R.of, truth, f1, f2, bindT, bindTs, setR, dict?, isKey, look, putK, putV, dk, kR, kM, kD, s1, s2, s3, s4, s5, ht, hb, er, s6, isTy, ltF, hc, hq2, hb2]
      exact ⟨_, q ++ [c / b], by simp; omega, rfl, by simp⟩

theorem drawA_of {P : Pg} {i : Nat} {q1 q2 q3 : Int} (hp : P i = some ⟨2, 5, false, drawA q1 q2 q3⟩) (s1 : small q1 = true) : DrawS dkA P i := by
  intro k tl n st b h hn hb hb2
  change Dk tl n st at h
  show ∃ (x : Int) (st' : Sto), run P (k + 1) i [.ref 2, .int b] st = .ok (.int x) st' ∧ 0 ≤ x ∧ x < b ∧ Dk tl (n + 1) st'
  have hD := h
  obtain ⟨ju, r, m, d, hr, h0, h1, rfl⟩ := h
  have hd : d + 1 < 2 ^ 64 := by
    have : (n : Int) < 2 ^ 40 := by exact_mod_cast hn
    omega
  obtain ⟨y, q, hq, e⟩ := draw_body (run P k) (tl := tl) (ju := ju) (m := m) s1 hr (small_pos (by omega) hd) hb hb2
  have hD' : Dk tl (n + 1) (dk ju q m (d + 1) ++ tl) := ⟨ju, q, m, d + 1, hq, by omega, by omega, rfl⟩
  refine ⟨y % b, dk ju q m (d + 1) ++ tl, ?_, Int.emod_nonneg y (Int.ne_of_gt hb), Int.emod_lt_of_pos y hb, hD'⟩
  exact (run_ret hp rfl rfl e).trans (gc_eq (by rw [hD'.len, hD.len]))

def deckA (c1 c2 : Int) : S := .seq (.asg (.nm 1) (.c (.int c1))) (.seq (.for_ (.nm 2) (.o3 .slice (.v 0) (.c .non) (.o1 .idx (.c (.int 63)))) (.seq (.asg (.nm 1) (.o2 .mod (.o1 .int (.o2 .add (.o2 .add (.o2 .mul (.v 1) (.c (.int 48271))) (.o2 .mod (.o1 .int (.v 2)) (.c (.int 2147483629)))) (.c (.int c2)))) (.c (.int 2147483587)))) .skip)) (.seq (.ret (.newd (.dic [.str [114, 101, 115, 116], .str [109, 105, 120, 101, 100], .str [100, 114, 97, 119, 115]] (.cons (.new (.o1 .rev (.new (.o1 .list (.o3 .slice (.v 0) (.c .non) (.o1 .idx (.c (.int 63)))))))) (.cons (.v 1) (.cons (.c (.int 0)) .nil)))))) .skip))
theorem cut_all {α : Type} {xs : List α} (h : xs.length ≤ 63) : cut xs none (some 63) = xs := by
  simp only [cut, sIx]
  rw [if_neg (by decide), List.drop_zero, List.take_of_length_le]
  have : Int.toNat 63 = 63 := rfl
  rw [this, Nat.min_eq_right h]
  omega

theorem deckA_of {P : Pg} {i : Nat} {q1 q2 : Int} (hp : P i = some ⟨1, 3, true, deckA q1 q2⟩) {k : Nat} {ns : List Int} (h : ns.length ≤ 63) : ∃ st', run P (k + 1) i [.rol (ns.map .int)] [] = .ok (.ref 2) st' ∧ Dk [] 0 st' := by
  have s1 : small 48271 = true := by decide
  have hc : cut (ns.map D.int) none (some 63) = ns.map D.int := cut_all (by simpa using h)
  obtain ⟨ρ, st2, e2, v, q, rfl, rfl⟩ := forL_ok (gd := gdOf (.lst (ns.map .int)) []) (bd := forB (.nm 2) (exS (run P k) (.seq (.asg (.nm 1) (.o2 .mod (.o1 .int (.o2 .add (.o2 .add (.o2 .mul (.v 1) (.c (.int 48271))) (.o2 .mod (.o1 .int (.v 2)) (.c (.int 2147483629)))) (.c (.int q2)))) (.c (.int 2147483587)))) .skip)))
    (fun m ρ st => ∃ (v : Int) (q : Option D), ρ = [some (.rol (ns.map .int)), some (.int v), q] ∧ st = []) (ns.map .int) 0 [some (.rol (ns.map .int)), some (.int q1), none] [] ⟨_, _, rfl, rfl⟩ (fun _ _ _ _ => rfl)
    (fun i2 y hy ρ st hI => by
      obtain ⟨v, q, rfl, rfl⟩ := hI
      obtain ⟨z, _, rfl⟩ := List.mem_map.mp (List.mem_of_getElem? hy)
      refine ⟨_, _, ?_, (v * 48271 + z % 2147483629 + q2) % 2147483587, some (.int z), rfl, rfl⟩
      simp [forB, bindT, exS, ev, R.bind, f1, f2, s1])
  have hb : exS (run P k) (deckA q1 q2) [some (.rol (ns.map .int)), none, none] [] = .ok (.ret (.ref 2)) (dk ns ns.reverse v 0) := by
    refine ex_seq (ex_asg (d := .int q1) (st1 := []) rfl rfl) ?_
    refine ex_seq (ex_for (d := .lst (ns.map .int)) (st1 := []) (xs := ns.map .int) ?_ rfl e2) ?_
    · simp [ev, R.bind, R.of, f1, f3, optI, sq, hc]
    · refine ex_ret ?_
      have hn : [D.str [114, 101, 115, 116], .str [109, 105, 120, 101, 100], .str [100, 114, 97, 119, 115]].Nodup := by decide
      have hk : [D.str [114, 101, 115, 116], .str [109, 105, 120, 101, 100], .str [100, 114, 97, 119, 115]].all isKey = true := rfl
      simp only [ev, R.bind, R.of, f1, f3, optI, sq, hc, List.getElem?_cons_zero, List.getElem?_cons_succ, Option.map_some, top, List.length_nil, List.nil_append, List.length_cons, List.cons_append]
      simp [dk, kR, kM, kD, isKey]
  have hr : run P (k + 1) i [.rol (ns.map .int)] [] = .ok (.ref 2) (dk ns ns.reverse v 0) := run_keep hp rfl rfl hb
  exact ⟨_, hr, ns, ns.reverse, v, 0, by rw [List.length_reverse]; omega, by omega, by omega, (List.append_nil _).symm⟩

end MP
end

section
set_option Elab.async false
set_option linter.all false
set_option maxRecDepth 100000
/-! MP: the spots of a word, whichever the program is. -/
namespace MP
open PySem
def spotsB : S := .seq (.asg (.nm 2) (.new (.lst .nil))) (.seq (.for_ (.nm 3) (.range (.c (.int 0)) (.o1 .len (.v 1))) (.seq (.ex (.m2 .lst .extend (.v 2) (.lc (.nm 4) (.v 0) (.o2 .eq (.o3 .slice (.v 1) (.o1 .idx (.v 3)) (.o1 .idx (.o2 .add (.v 3) (.o1 .len (.v 4))))) (.v 4)) (.tup (.cons (.v 3) (.cons (.o2 .add (.v 3) (.o1 .len (.v 4))) .nil)))))) .skip)) (.seq (.ret (.o1 .tuple (.o1 .sorted (.v 2)))) .skip))
def cspotsB : S := .seq (.asg (.nm 2) (.new (.lst .nil))) (.seq (.for_ (.nm 3) (.range (.c (.int 0)) (.o1 .len (.v 1))) (.seq (.ex (.m2 .lst .extend (.v 2) (.lc (.nm 4) (.range (.o2 .add (.v 3) (.c (.int 1))) (.o2 .add (.o1 .len (.v 1)) (.c (.int 1)))) (.o2 .isIn (.o3 .slice (.v 1) (.o1 .idx (.v 3)) (.o1 .idx (.v 4))) (.v 0)) (.tup (.cons (.v 3) (.cons (.v 4) .nil)))))) .skip)) (.seq (.ret (.v 2)) .skip))
/-! the rows of places -/
def pr (i j : Nat) : D := .tup [.int i, .int j]
def sl (t : Tx) (i j : Nat) : Tx := (t.drop i).take (j - i)
def rowA (ws : List Tx) (t : Tx) (i : Nat) : List D := (List.range (t.length - i)).flatMap fun q => if sl t i (i + 1 + q) ∈ ws then [pr i (i + 1 + q)] else []
def rowB (ws : List Tx) (t : Tx) (i : Nat) : List D := ws.flatMap fun w => if sl t i (i + w.length) = w then [pr i (i + w.length)] else []
theorem cut_sl {t : Tx} {i j : Nat} (h : i ≤ t.length) : cut t (some (i : Int)) (some (j : Int)) = sl t i j := by
  have h1 : min i t.length = i := by omega
  simp only [cut, sIx, sl]
  rw [if_neg (by omega), if_neg (by omega), Int.toNat_natCast, Int.toNat_natCast, h1]
  by_cases z : j ≤ t.length
  · rw [Nat.min_eq_left z]
  · rw [Nat.min_eq_right (by omega), List.take_of_length_le (by simp), List.take_of_length_le (by simp; omega)]
theorem mem_rowA {ws : List Tx} {t : Tx} {i : Nat} {x : D} : x ∈ rowA ws t i ↔ ∃ j, i < j ∧ j ≤ t.length ∧ sl t i j ∈ ws ∧ x = pr i j := by
  rw [rowA, List.mem_flatMap]
  constructor
  · rintro ⟨q, hq, hx⟩
    rw [List.mem_range] at hq
    split at hx
    · rename_i h
      exact ⟨i + 1 + q, by omega, by omega, h, List.mem_singleton.mp hx⟩
    · simp at hx
  · rintro ⟨j, h1, h2, h3, rfl⟩
    refine ⟨j - (i + 1), List.mem_range.mpr (by omega), ?_⟩
    have : i + 1 + (j - (i + 1)) = j := by omega
    rw [this, if_pos h3]
    exact List.mem_singleton_self _
theorem mem_rowB {ws : List Tx} {t : Tx} {i : Nat} {x : D} (hi : i ≤ t.length) (hw : ∀ w ∈ ws, w ≠ []) : x ∈ rowB ws t i ↔ ∃ j, i < j ∧ j ≤ t.length ∧ sl t i j ∈ ws ∧ x = pr i j := by
  rw [rowB, List.mem_flatMap]
  constructor
  · rintro ⟨w, hq, hx⟩
    split at hx
    · rename_i h
      have h1 : 0 < w.length := List.length_pos_iff.mpr (hw w hq)
      have h2 : w.length ≤ t.length - i := by
        have := congrArg List.length h
        rw [sl, List.length_take, List.length_drop] at this
        omega
      exact ⟨i + w.length, by omega, by omega, by rw [h]; exact hq, List.mem_singleton.mp hx⟩
    · simp at hx
  · rintro ⟨j, h1, h2, h3, rfl⟩
    refine ⟨sl t i j, h3, ?_⟩
    have : i + (sl t i j).length = j := by rw [sl, List.length_take, List.length_drop]; omega
    rw [this, if_pos rfl]
    exact List.mem_singleton_self _
theorem pr_inj {i j a b : Nat} (h : pr i j = pr a b) : i = a ∧ j = b := by
  simp only [pr, D.tup.injEq, List.cons.injEq, D.int.injEq, and_true] at h
  omega
theorem nodup_rowB {ws : List Tx} {t : Tx} {i : Nat} (hn : ws.Nodup) : (rowB ws t i).Nodup := by
  rw [rowB]
  induction ws with
  | nil => exact List.Pairwise.nil
  | cons w r ih =>
    obtain ⟨n1, n2⟩ := List.nodup_cons.mp hn
    rw [List.flatMap_cons, List.nodup_append]
    refine ⟨?_, ih n2, ?_⟩
    · split <;> simp
    · intro a ha b hb e
      subst e
      split at ha
      · rename_i h
        rw [List.mem_singleton] at ha
        subst ha
        obtain ⟨v, hv, hb⟩ := List.mem_flatMap.mp hb
        split at hb
        · rename_i h'
          have := (pr_inj (List.mem_singleton.mp hb)).2
          have e : w.length = v.length := by omega
          apply n1
          rw [← h, e, h']
          exact hv
        · simp at hb
      · simp at ha
/-- pairs in order -/
def PLt (x y : D) : Prop := ∃ i j a b : Nat, x = pr i j ∧ y = pr a b ∧ (i < a ∨ (i = a ∧ j < b))
theorem ord_rowA {ws : List Tx} {t : Tx} {i : Nat} : (rowA ws t i).Pairwise PLt := by
  rw [rowA, List.flatMap_def, List.pairwise_flatten]
  refine ⟨fun l hl => ?_, ?_⟩
  · obtain ⟨q, _, rfl⟩ := List.mem_map.mp hl
    split <;> simp
  · rw [List.pairwise_map]
    refine (List.pairwise_lt_range).imp fun {a b} hab x hx y hy => ?_
    split at hx
    · split at hy
      · exact ⟨i, i + 1 + a, i, i + 1 + b, List.mem_singleton.mp hx, List.mem_singleton.mp hy, .inr ⟨rfl, by omega⟩⟩
      · simp at hy
    · simp at hx
theorem ord_all {ws : List Tx} {t : Tx} {n : Nat} : ((List.range n).flatMap (rowA ws t)).Pairwise PLt := by
  rw [List.flatMap_def, List.pairwise_flatten]
  refine ⟨fun l hl => ?_, ?_⟩
  · obtain ⟨q, _, rfl⟩ := List.mem_map.mp hl
    exact ord_rowA
  · rw [List.pairwise_map]
    refine (List.pairwise_lt_range).imp fun {a b} hab x hx y hy => ?_
    obtain ⟨j, _, _, _, rfl⟩ := mem_rowA.mp hx
    obtain ⟨j', _, _, _, rfl⟩ := mem_rowA.mp hy
    exact ⟨a, j, b, j', rfl, rfl, .inl hab⟩
theorem PLt.ne {x y : D} (h : PLt x y) : x ≠ y := by
  obtain ⟨i, j, a, b, rfl, rfl, h⟩ := h
  intro e
  obtain ⟨e1, e2⟩ := pr_inj e
  omega
theorem PLt.le {x y : D} (h : PLt x y) : leD x y = true := by
  obtain ⟨i, j, a, b, rfl, rfl, h⟩ := h
  unfold leD pr
  rw [D.lt, lts]
  by_cases e : a = i
  · subst e
    rw [if_pos rfl, lts]
    have : ¬ (D.int b = D.int j) := by intro z; cases z; omega
    rw [if_neg this, D.lt, decide_eq_false (by omega)]
  · have : ¬ (D.int a = D.int i) := by intro z; cases z; omega
    rw [if_neg this, D.lt, decide_eq_false (by omega)]
theorem spots_law {ws : List Tx} {t : Tx} (hn : ws.Nodup) (hw : ∀ w ∈ ws, w ≠ []) : sortL ((List.range t.length).flatMap (rowB ws t)) = (List.range t.length).flatMap (rowA ws t) := by
  refine (sortL_is (z := pr 0 0) ?_ ?_ ?_).symm
  · intro y hy
    obtain ⟨i, hi, hy⟩ := List.mem_flatMap.mp hy
    obtain ⟨j, _, _, _, rfl⟩ := (mem_rowB (by rw [List.mem_range] at hi; omega) hw).mp hy
    rfl
  · refine once_perm (ord_all.imp PLt.ne) ?_ ?_
    · rw [List.flatMap_def, List.Nodup, List.pairwise_flatten]
      refine ⟨fun l hl => ?_, ?_⟩
      · obtain ⟨q, _, rfl⟩ := List.mem_map.mp hl
        exact nodup_rowB hn
      · rw [List.pairwise_map]
        refine List.Pairwise.imp_of_mem ?_ (List.pairwise_lt_range (n := t.length))
        intro a b ha hb hab x hx y hy
        obtain ⟨j, _, _, _, rfl⟩ := (mem_rowB (by rw [List.mem_range] at ha; omega) hw).mp hx
        obtain ⟨j', _, _, _, rfl⟩ := (mem_rowB (by rw [List.mem_range] at hb; omega) hw).mp hy
        intro e
        have := (pr_inj e).1
        omega
    · intro x
      rw [List.mem_flatMap, List.mem_flatMap]
      refine exists_congr fun i => and_congr_right fun hi => ?_
      rw [mem_rowA, mem_rowB (by rw [List.mem_range] at hi; omega) hw]
  · exact ord_all.imp PLt.le
theorem rowA_len (ws : List Tx) (t : Tx) (i : Nat) : (rowA ws t i).length ≤ t.length := by
  have : ∀ l : List Nat, (l.flatMap fun q => if sl t i (i + 1 + q) ∈ ws then [pr i (i + 1 + q)] else []).length ≤ l.length := by
    intro l
    induction l with
    | nil => simp
    | cons a r ih =>
      rw [List.flatMap_cons, List.length_append, List.length_cons]
      split
      · rw [List.length_singleton]; omega
      · rw [List.length_nil]; omega
  have := this (List.range (t.length - i))
  rw [List.length_range] at this
  rw [rowA]
  omega
theorem rowB_len (ws : List Tx) (t : Tx) (i : Nat) : (rowB ws t i).length ≤ ws.length := by
  rw [rowB]
  induction ws with
  | nil => simp
  | cons a r ih =>
    rw [List.flatMap_cons, List.length_append, List.length_cons]
    split
    · rw [List.length_singleton]; omega
    · rw [List.length_nil]; omega
theorem rows_len (f : Nat → List D) (b : Nat) (h : ∀ i, (f i).length ≤ b) (n : Nat) : ((List.range n).flatMap f).length ≤ n * b := by
  induction n with
  | zero => simp
  | succ n ih =>
    rw [List.range_succ, List.flatMap_append, List.length_append, Nat.succ_mul, List.flatMap_singleton]
    have := h n
    omega
theorem rows_under (f : Nat → List D) (h : ∀ i, ∀ x ∈ f i, ∃ a b, x = pr a b) (m n : Nat) : unders m ((List.range n).flatMap f) = true := by
  have : ∀ l : List D, (∀ x ∈ l, ∃ a b, x = pr a b) → unders m l = true := by
    intro l
    induction l with
    | nil => intro _; rfl
    | cons x r ih =>
      intro h
      obtain ⟨a, b, rfl⟩ := h x List.mem_cons_self
      rw [unders, ih fun y hy => h y (List.mem_cons_of_mem _ hy)]
      rfl
  exact this _ fun x hx => by
    obtain ⟨i, _, hx⟩ := List.mem_flatMap.mp hx
    exact h i x hx
theorem rowA_pr (ws : List Tx) (t : Tx) (i : Nat) : ∀ x ∈ rowA ws t i, ∃ a b, x = pr a b := by
  intro x hx
  obtain ⟨j, _, _, _, rfl⟩ := mem_rowA.mp hx
  exact ⟨_, _, rfl⟩
theorem rowB_pr (ws : List Tx) (t : Tx) (i : Nat) : ∀ x ∈ rowB ws t i, ∃ a b, x = pr a b := by
  intro x hx
  obtain ⟨w, _, hx⟩ := List.mem_flatMap.mp hx
  split at hx
  · exact ⟨_, _, List.mem_singleton.mp hx⟩
  · simp at hx
theorem pairs_rows (f : Nat → List D) (h : ∀ i, ∀ x ∈ f i, ∃ a b, x = pr a b) (n : Nat) : (pairsI ((List.range n).flatMap f)).isSome = true := by
  have : ∀ l : List D, (∀ x ∈ l, ∃ a b, x = pr a b) → (pairsI l).isSome = true := by
    intro l
    induction l with
    | nil => intro _; rfl
    | cons x r ih =>
      intro h
      obtain ⟨a, b, rfl⟩ := h x List.mem_cons_self
      have := ih fun y hy => h y (List.mem_cons_of_mem _ hy)
      rw [pr, pairsI, Option.isSome_map]
      exact this
  exact this _ fun x hx => by
    obtain ⟨i, _, hx⟩ := List.mem_flatMap.mp hx
    exact h i x hx
theorem in_strs {st : Sto} {ws : List Tx} {t : Tx} (hw : ∀ w ∈ ws, ∀ c ∈ w, c < 200) (ht : ∀ c ∈ t, c < 200) : inD st (.str t) (.tup (ws.map .str)) = some (decide (t ∈ ws)) := by
  have hc (t : Tx) (h : ∀ c ∈ t, c < 200) : (D.str t).cl = true := by
    rw [D.cl, List.all_eq_true]
    intro c hc
    have := h c hc
    exact decide_eq_true (by omega)
  rw [(inD_cl (x := .str t) (xs := ws.map .str) (hc t ht) (by
    rw [cls_all]
    intro x hx
    obtain ⟨i, hi, rfl⟩ := List.mem_map.mp hx
    exact hc i (hw i hi)) rfl (Nat.zero_le _) (dps_le fun x hx => by
    obtain ⟨i, _, rfl⟩ := List.mem_map.mp hx
    exact Nat.zero_le _)).1]
  congr 1
  rw [decide_eq_decide, List.mem_map]
  constructor
  · rintro ⟨a, h, e⟩; cases e; exact h
  · exact fun h => ⟨t, h, rfl⟩
theorem get_new {st : Sto} {o : O} : (st ++ [o])[st.length]? = some o := by simp
theorem set_new {st : Sto} {o o' : O} : (st ++ [o]).set st.length o' = st ++ [o'] := by simp
theorem cspots_of {P : Pg} {iC : Nat} (hp : P iC = some ⟨2, 5, false, cspotsB⟩) {k : Nat} {st : Sto} {ws : List Tx} {t : Tx} (hw : ∀ w ∈ ws, ∀ c ∈ w, c < 200) (ht : ∀ c ∈ t, c < 200) (hl : t.length ≤ 1000) :
    run P (k + 1) iC [.tup (ws.map .str), .str t] st = .ok (.lst ((List.range t.length).flatMap (rowA ws t))) st := by
  have c3 : sizeLine = 16777216 := rfl
  obtain ⟨ρ, st2, e2, p, q, rfl, rfl⟩ := forL_ok (gd := gdOf (.tup (rangeL 0 t.length)) (st ++ [.lst []])) (bd := forB (.nm 3) (exS (run P k) (.seq (.ex (.m2 .lst .extend (.v 2) (.lc (.nm 4) (.range (.o2 .add (.v 3) (.c (.int 1))) (.o2 .add (.o1 .len (.v 1)) (.c (.int 1)))) (.o2 .isIn (.o3 .slice (.v 1) (.o1 .idx (.v 3)) (.o1 .idx (.v 4))) (.v 0)) (.tup (.cons (.v 3) (.cons (.v 4) .nil)))))) .skip)))
    (fun m ρ st' => ∃ p q : Option D, ρ = [some (.tup (ws.map .str)), some (.str t), some (.ref st.length), p, q] ∧ st' = st ++ [.lst ((List.range m).flatMap (rowA ws t))]) (rangeL 0 t.length) 0
    [some (.tup (ws.map .str)), some (.str t), some (.ref st.length), none, none] (st ++ [.lst []]) ⟨none, none, rfl, rfl⟩ (fun _ _ _ _ => rfl)
    (fun i y hy ρ st' hI => by
      obtain ⟨p, q, rfl, rfl⟩ := hI
      obtain ⟨hi, rfl⟩ := rangeL_get hy
      rw [Nat.zero_add]
      have hi2 : i < t.length := by omega
      refine ⟨_, _, ?_, some (.int i), q, rfl, rfl⟩
      have hA := rowA_len ws t i
      have hR := rows_len (rowA ws t) t.length (rowA_len ws t) i
      have hRR : i * t.length ≤ 1000 * 1000 := Nat.mul_le_mul (by omega) hl
      have hlc : ev (run P k) (.lc (.nm 4) (.range (.o2 .add (.v 3) (.c (.int 1))) (.o2 .add (.o1 .len (.v 1)) (.c (.int 1)))) (.o2 .isIn (.o3 .slice (.v 1) (.o1 .idx (.v 3)) (.o1 .idx (.v 4))) (.v 0)) (.tup (.cons (.v 3) (.cons (.v 4) .nil)))) [some (.tup (ws.map .str)), some (.str t), some (.ref st.length), some (.int i), q] (st ++ [.lst ((List.range i).flatMap (rowA ws t))]) = .ok (.lst (rowA ws t i)) (st ++ [.lst ((List.range i).flatMap (rowA ws t))]) := by
        have hl2 : t.length ≤ 16777216 := by omega
        refine ev_lc (d := .tup (rangeL (i + 1) (t.length + 1))) (st1 := st ++ [.lst ((List.range i).flatMap (rowA ws t))]) (xs := rangeL (i + 1) (t.length + 1)) ?_ rfl ?_ (by omega)
        · refine ev_range (st1 := st ++ [.lst ((List.range i).flatMap (rowA ws t))]) ?_ ?_ (by omega) (by omega) (by omega) (by omega)
          · simp [ev, R.bind, f2]
          · simp [ev, R.bind, f2, f1, c3, hl2]
        · have hp := lcL_pure (gd := gdOf (.tup (rangeL (i + 1) (t.length + 1))) (st ++ [.lst ((List.range i).flatMap (rowA ws t))])) (st := st ++ [.lst ((List.range i).flatMap (rowA ws t))]) (bd := lcB (.nm 4) (wipeE [some (.tup (ws.map .str)), some (.str t), some (.ref st.length), some (.int i), q] [4]) (tst (run P k) (.o2 .isIn (.o3 .slice (.v 1) (.o1 .idx (.v 3)) (.o1 .idx (.v 4))) (.v 0))) (ev (run P k) (.tup (.cons (.v 3) (.cons (.v 4) .nil)))))
            (fun x => match x with | .int j => if sl t i j.toNat ∈ ws then [pr i j.toNat] else [] | _ => []) rfl (rangeL (i + 1) (t.length + 1)) (fun x hx => by
              obtain ⟨n, hn⟩ := List.getElem?_of_mem hx
              obtain ⟨h1, rfl⟩ := rangeL_get hn
              have e1 : ((i : Int) + 1 + n) = ((i + 1 + n : Nat) : Int) := by omega
              have e2 : cut t (some (i : Int)) (some ((i : Int) + 1 + n)) = sl t i (i + 1 + n) := by rw [e1]; exact cut_sl (by omega)
              have e5 : ((i : Int) + 1 + n).toNat = i + 1 + n := by omega
              have e3 := in_strs (st := st ++ [.lst ((List.range i).flatMap (rowA ws t))]) hw (t := sl t i (i + 1 + n)) fun c hc => ht c (List.mem_of_mem_drop (List.mem_of_mem_take hc))
              by_cases hz : sl t i (i + 1 + n) ∈ ws
              · have e4 : f2 .isIn (.str (sl t i (i + 1 + n))) (.tup (ws.map .str)) (st ++ [.lst ((List.range i).flatMap (rowA ws t))]) = .ok (.bl true) (st ++ [.lst ((List.range i).flatMap (rowA ws t))]) := by
                  simp [f2, dict?, e3, hz, R.of]
                show _ = R.ok (if sl t i ((i : Int) + 1 + n).toNat ∈ ws then [pr i ((i : Int) + 1 + n).toNat] else []) (st ++ [.lst ((List.range i).flatMap (rowA ws t))])
                rw [e5, if_pos hz]
                simp only [lcB, bindT, tst, wipeE, ev, R.bind, R.of, f1, f3, optI, List.getElem?_cons_zero, List.getElem?_cons_succ, List.length_cons, List.length_nil, List.set_cons_zero, List.set_cons_succ]
                simp [c3, hl2, e2, e4, truth, pr]
              · have e4 : f2 .isIn (.str (sl t i (i + 1 + n))) (.tup (ws.map .str)) (st ++ [.lst ((List.range i).flatMap (rowA ws t))]) = .ok (.bl false) (st ++ [.lst ((List.range i).flatMap (rowA ws t))]) := by
                  simp [f2, dict?, e3, hz, R.of]
                show _ = R.ok (if sl t i ((i : Int) + 1 + n).toNat ∈ ws then [pr i ((i : Int) + 1 + n).toNat] else []) (st ++ [.lst ((List.range i).flatMap (rowA ws t))])
                rw [e5, if_neg hz]
                simp only [lcB, bindT, tst, wipeE, ev, R.bind, R.of, f1, f3, optI, List.getElem?_cons_zero, List.getElem?_cons_succ, List.length_cons, List.length_nil, List.set_cons_zero, List.set_cons_succ]
                simp [c3, hl2, e2, e4, truth, pr])
          refine hp.trans ?_
          congr 1
          have e1 : ((t.length : Int) + 1 - (i + 1)).toNat = t.length - i := by omega
          rw [rowA, rangeL, e1, List.flatMap_map]
          refine congrArg (fun f => List.flatMap f _) (funext fun q => ?_)
          have e1 : ((i : Int) + 1 + q) = ((i + 1 + q : Nat) : Int) := by omega
          rw [e1]
          simp only [Int.toNat_natCast]
      have hex : ev (run P k) (.m2 .lst .extend (.v 2) (.lc (.nm 4) (.range (.o2 .add (.v 3) (.c (.int 1))) (.o2 .add (.o1 .len (.v 1)) (.c (.int 1)))) (.o2 .isIn (.o3 .slice (.v 1) (.o1 .idx (.v 3)) (.o1 .idx (.v 4))) (.v 0)) (.tup (.cons (.v 3) (.cons (.v 4) .nil))))) [some (.tup (ws.map .str)), some (.str t), some (.ref st.length), some (.int i), q] (st ++ [.lst ((List.range i).flatMap (rowA ws t))]) = .ok .non (st ++ [.lst ((List.range (i + 1)).flatMap (rowA ws t))]) := by
        refine ev_m2 (x := .ref st.length) (st1 := st ++ [.lst ((List.range i).flatMap (rowA ws t))]) rfl ?_ hlc ?_
        · simp [isTy]
        · have hz : ((List.range i).flatMap (rowA ws t)).length + (rowA ws t i).length ≤ sizeLine := by omega
          simp only [f2, get_new, top, set_new]
          rw [if_pos hz, List.range_succ, List.flatMap_append]
          simp
      have hbd : bindT (.nm 3) (.int (0 + (i : Int))) [some (.tup (ws.map .str)), some (.str t), some (.ref st.length), p, q] = some [some (.tup (ws.map .str)), some (.str t), some (.ref st.length), some (.int i), q] := by simp [bindT]
      unfold forB
      rw [hbd]
      exact ex_seq (ex_ex hex) rfl)
  rw [Nat.zero_add, rangeL_len] at e2
  have e9 : ((t.length : Int) - 0).toNat = t.length := by omega
  rw [e9] at e2
  have hb : exS (run P k) cspotsB [some (.tup (ws.map .str)), some (.str t), none, none, none] st = .ok (.ret (.ref st.length)) (st ++ [.lst ((List.range t.length).flatMap (rowA ws t))]) := by
    have hl2 : t.length ≤ 16777216 := by omega
    refine ex_seq (ex_asg (d := .ref st.length) (st1 := st ++ [.lst []]) ?_ rfl) ?_
    · simp [ev, R.bind, c3]
    refine ex_seq (ex_for (d := .tup (rangeL 0 t.length)) (st1 := st ++ [.lst []]) (xs := rangeL 0 t.length) ?_ rfl e2) ?_
    · refine ev_range (st1 := st ++ [.lst []]) (i := 0) rfl ?_ (by omega) (by omega) (by omega) (by omega)
      simp [ev, R.bind, f1, c3, hl2]
    · exact ex_ret rfl
  have hr : run P (k + 1) iC [.tup (ws.map .str), .str t] st = gc st.length st (.ref st.length) (st ++ [.lst ((List.range t.length).flatMap (rowA ws t))]) := run_ret hp rfl rfl hb
  have hv : leave st.length (st ++ [.lst ((List.range t.length).flatMap (rowA ws t))]) (.ref st.length) = .lst ((List.range t.length).flatMap (rowA ws t)) := by
    simp [leave]
  rw [hr, gc_tl (by simp) (by rw [hv, D.under]; exact rows_under _ (rowA_pr ws t) _ _), hv]
theorem spots_of {P : Pg} {iC : Nat} (hp : P iC = some ⟨2, 5, false, spotsB⟩) {k : Nat} {st : Sto} {ws : List Tx} {t : Tx} (hn : ws.Nodup) (hw : ∀ w ∈ ws, w ≠ []) (hw2 : ∀ w ∈ ws, w.length ≤ 1000) (hwl : ws.length ≤ 1000) (hl : t.length ≤ 1000) :
    run P (k + 1) iC [.tup (ws.map .str), .str t] st = .ok (.tup ((List.range t.length).flatMap (rowA ws t))) st := by
  have c3 : sizeLine = 16777216 := rfl
  obtain ⟨ρ, st2, e2, p, q, rfl, rfl⟩ := forL_ok (gd := gdOf (.tup (rangeL 0 t.length)) (st ++ [.lst []])) (bd := forB (.nm 3) (exS (run P k) (.seq (.ex (.m2 .lst .extend (.v 2) (.lc (.nm 4) (.v 0) (.o2 .eq (.o3 .slice (.v 1) (.o1 .idx (.v 3)) (.o1 .idx (.o2 .add (.v 3) (.o1 .len (.v 4))))) (.v 4)) (.tup (.cons (.v 3) (.cons (.o2 .add (.v 3) (.o1 .len (.v 4))) .nil)))))) .skip)))
    (fun m ρ st' => ∃ p q : Option D, ρ = [some (.tup (ws.map .str)), some (.str t), some (.ref st.length), p, q] ∧ st' = st ++ [.lst ((List.range m).flatMap (rowB ws t))]) (rangeL 0 t.length) 0
    [some (.tup (ws.map .str)), some (.str t), some (.ref st.length), none, none] (st ++ [.lst []]) ⟨none, none, rfl, rfl⟩ (fun _ _ _ _ => rfl)
    (fun i y hy ρ st' hI => by
      obtain ⟨p, q, rfl, rfl⟩ := hI
      obtain ⟨hi, rfl⟩ := rangeL_get hy
      rw [Nat.zero_add]
      have hi2 : i < t.length := by omega
      refine ⟨_, _, ?_, some (.int i), q, rfl, rfl⟩
      have hA := rowB_len ws t i
      have hR := rows_len (rowB ws t) ws.length (rowB_len ws t) i
      have hRR : i * ws.length ≤ 1000 * 1000 := Nat.mul_le_mul (by omega) hwl
      have hlc : ev (run P k) (.lc (.nm 4) (.v 0) (.o2 .eq (.o3 .slice (.v 1) (.o1 .idx (.v 3)) (.o1 .idx (.o2 .add (.v 3) (.o1 .len (.v 4))))) (.v 4)) (.tup (.cons (.v 3) (.cons (.o2 .add (.v 3) (.o1 .len (.v 4))) .nil)))) [some (.tup (ws.map .str)), some (.str t), some (.ref st.length), some (.int i), q] (st ++ [.lst ((List.range i).flatMap (rowB ws t))]) = .ok (.lst (rowB ws t i)) (st ++ [.lst ((List.range i).flatMap (rowB ws t))]) := by
        have hl2 : t.length ≤ 16777216 := by omega
        refine ev_lc (d := .tup (ws.map .str)) (st1 := st ++ [.lst ((List.range i).flatMap (rowB ws t))]) (xs := ws.map .str) rfl rfl ?_ (by omega)
        have hp := lcL_pure (gd := gdOf (.tup (ws.map .str)) (st ++ [.lst ((List.range i).flatMap (rowB ws t))])) (st := st ++ [.lst ((List.range i).flatMap (rowB ws t))]) (bd := lcB (.nm 4) (wipeE [some (.tup (ws.map .str)), some (.str t), some (.ref st.length), some (.int i), q] [4]) (tst (run P k) (.o2 .eq (.o3 .slice (.v 1) (.o1 .idx (.v 3)) (.o1 .idx (.o2 .add (.v 3) (.o1 .len (.v 4))))) (.v 4))) (ev (run P k) (.tup (.cons (.v 3) (.cons (.o2 .add (.v 3) (.o1 .len (.v 4))) .nil)))))
            (fun x => match x with | .str w => if sl t i (i + w.length) = w then [pr i (i + w.length)] else [] | _ => []) rfl (ws.map .str) (fun x hx => by
              obtain ⟨w, hwm, rfl⟩ := List.mem_map.mp hx
              have e1 : ((i : Int) + w.length) = ((i + w.length : Nat) : Int) := by omega
              have e2 : cut t (some (i : Int)) (some ((i : Int) + w.length)) = sl t i (i + w.length) := by rw [e1]; exact cut_sl (by omega)
              have hwl2 : w.length ≤ 16777216 := by have := hw2 w hwm; omega
              show _ = R.ok (if sl t i (i + w.length) = w then [pr i (i + w.length)] else []) (st ++ [.lst ((List.range i).flatMap (rowB ws t))])
              by_cases hz : sl t i (i + w.length) = w
              · rw [if_pos hz]
                simp only [lcB, bindT, tst, wipeE, ev, R.bind, R.of, f1, f2, f3, optI, List.getElem?_cons_zero, List.getElem?_cons_succ, List.length_cons, List.length_nil, List.set_cons_zero, List.set_cons_succ]
                simp [c3, hl2, hwl2, e2, eqD, hz, truth, pr]
              · rw [if_neg hz]
                simp only [lcB, bindT, tst, wipeE, ev, R.bind, R.of, f1, f2, f3, optI, List.getElem?_cons_zero, List.getElem?_cons_succ, List.length_cons, List.length_nil, List.set_cons_zero, List.set_cons_succ]
                simp [c3, hl2, hwl2, e2, eqD, hz, truth, pr])
        refine hp.trans ?_
        congr 1
        rw [rowB, List.flatMap_map]
      have hex : ev (run P k) (.m2 .lst .extend (.v 2) (.lc (.nm 4) (.v 0) (.o2 .eq (.o3 .slice (.v 1) (.o1 .idx (.v 3)) (.o1 .idx (.o2 .add (.v 3) (.o1 .len (.v 4))))) (.v 4)) (.tup (.cons (.v 3) (.cons (.o2 .add (.v 3) (.o1 .len (.v 4))) .nil))))) [some (.tup (ws.map .str)), some (.str t), some (.ref st.length), some (.int i), q] (st ++ [.lst ((List.range i).flatMap (rowB ws t))]) = .ok .non (st ++ [.lst ((List.range (i + 1)).flatMap (rowB ws t))]) := by
        refine ev_m2 (x := .ref st.length) (st1 := st ++ [.lst ((List.range i).flatMap (rowB ws t))]) rfl ?_ hlc ?_
        · simp [isTy]
        · have hz : ((List.range i).flatMap (rowB ws t)).length + (rowB ws t i).length ≤ sizeLine := by omega
          simp only [f2, get_new, top, set_new]
          rw [if_pos hz, List.range_succ, List.flatMap_append]
          simp
      have hbd : bindT (.nm 3) (.int (0 + (i : Int))) [some (.tup (ws.map .str)), some (.str t), some (.ref st.length), p, q] = some [some (.tup (ws.map .str)), some (.str t), some (.ref st.length), some (.int i), q] := by simp [bindT]
      unfold forB
      rw [hbd]
      exact ex_seq (ex_ex hex) rfl)
  rw [Nat.zero_add, rangeL_len] at e2
  have e9 : ((t.length : Int) - 0).toNat = t.length := by omega
  rw [e9] at e2
  have hb : exS (run P k) spotsB [some (.tup (ws.map .str)), some (.str t), none, none, none] st = .ok (.ret (.tup ((List.range t.length).flatMap (rowA ws t)))) (st ++ [.lst ((List.range t.length).flatMap (rowB ws t))]) := by
    have hl2 : t.length ≤ 16777216 := by omega
    refine ex_seq (ex_asg (d := .ref st.length) (st1 := st ++ [.lst []]) ?_ rfl) ?_
    · simp [ev, R.bind, c3]
    refine ex_seq (ex_for (d := .tup (rangeL 0 t.length)) (st1 := st ++ [.lst []]) (xs := rangeL 0 t.length) ?_ rfl e2) ?_
    · refine ev_range (st1 := st ++ [.lst []]) (i := 0) rfl ?_ (by omega) (by omega) (by omega) (by omega)
      simp [ev, R.bind, f1, c3, hl2]
    · refine ex_ret (ev_o1 (x := .lst ((List.range t.length).flatMap (rowA ws t))) (ev_o1 (x := .ref st.length) rfl ?_) rfl)
      have hs : sortD ((List.range t.length).flatMap (rowB ws t)) = some ((List.range t.length).flatMap (rowA ws t)) := by
        unfold sortD
        rw [pairs_rows _ (rowB_pr ws t), Bool.or_true, if_pos rfl, spots_law hn hw]
      have hz : lsq (st ++ [.lst ((List.range t.length).flatMap (rowB ws t))]) (.ref st.length) = some ((List.range t.length).flatMap (rowB ws t)) := by
        unfold lsq top
        simp
      show R.of _ (((lsq _ (.ref st.length)).bind sortD).map D.lst) = _
      rw [hz, Option.bind_some, hs]
      rfl
  have hr : run P (k + 1) iC [.tup (ws.map .str), .str t] st = gc st.length st (.tup ((List.range t.length).flatMap (rowA ws t))) (st ++ [.lst ((List.range t.length).flatMap (rowB ws t))]) := run_ret hp rfl rfl hb
  rw [hr, gc_tl (by simp) (by show (D.tup _).under _ = true; rw [D.under]; exact rows_under _ (rowA_pr ws t) _ _)]
  rfl
theorem rowA_nil (t : Tx) (n : Nat) : (List.range n).flatMap (rowA [] t) = [] := by
  rw [List.flatMap_eq_nil_iff]
  intro i _
  rw [rowA, List.flatMap_eq_nil_iff]
  intro q _
  rw [if_neg (by simp)]
end MP
end

section
set_option Elab.async false
set_option linter.all false
set_option maxRecDepth 100000
/-! MP: what hangs together, and what is reached: plain laws. -/
namespace MP
open PySem
abbrev Ed := List (Nat × Nat)
inductive Conn (es : Ed) : Nat → Nat → Prop
  | refl (a : Nat) : Conn es a a
  | fwd {a b c : Nat} : Conn es a b → (b, c) ∈ es → Conn es a c
  | bwd {a b c : Nat} : Conn es a b → (c, b) ∈ es → Conn es a c
inductive Rea (es : Ed) : Nat → Prop
  | zero : Rea es 0
  | step {a b : Nat} : Rea es a → (a, b) ∈ es → Rea es b
theorem Conn.trans {es : Ed} {a b c : Nat} (h : Conn es a b) (g : Conn es b c) : Conn es a c := by
  induction g with
  | refl => exact h
  | fwd _ e ih => exact .fwd ih e
  | bwd _ e ih => exact .bwd ih e
theorem Conn.symm {es : Ed} {a b : Nat} (h : Conn es a b) : Conn es b a := by
  induction h with
  | refl => exact .refl _
  | fwd _ e ih => exact Conn.trans (.bwd (.refl _) e) ih
  | bwd _ e ih => exact Conn.trans (.fwd (.refl _) e) ih
theorem Conn.mono {es fs : Ed} (hs : ∀ e ∈ es, e ∈ fs) {a b : Nat} (h : Conn es a b) : Conn fs a b := by
  induction h with
  | refl => exact .refl _
  | fwd _ e ih => exact .fwd ih (hs _ e)
  | bwd _ e ih => exact .bwd ih (hs _ e)
theorem Rea.conn {es : Ed} {a : Nat} (h : Rea es a) : Conn es 0 a := by
  induction h with
  | zero => exact .refl _
  | step _ e ih => exact .fwd ih e
theorem Conn.le {es : Ed} {n : Nat} (hs : ∀ e ∈ es, e.1 ≤ n ∧ e.2 ≤ n) {a b : Nat} (h : Conn es a b) (ha : a ≤ n) : b ≤ n := by
  induction h with
  | refl => exact ha
  | fwd _ e ih => exact (hs _ e).2
  | bwd _ e ih => exact (hs _ e).1
/-! ### labels -/
def rel (f : Nat → Nat) (e : Nat × Nat) (c : Nat) : Nat := if f c = max (f e.1) (f e.2) then min (f e.1) (f e.2) else f c
def labF (es : Ed) : Nat → Nat := es.foldl rel id
structure Lab (f : Nat → Nat) (es : Ed) : Prop where
  eq : ∀ c d, f c = f d ↔ Conn es c d
  le : ∀ c, f c ≤ c
  idem : ∀ c, f (f c) = f c
theorem conn_nil {c d : Nat} (h : Conn [] c d) : c = d := by
  induction h with
  | refl => rfl
  | fwd _ e => exact absurd e (by simp)
  | bwd _ e => exact absurd e (by simp)
theorem Lab.nil : Lab id [] := ⟨fun c d => ⟨fun h => by rw [show c = d from h]; exact .refl _, conn_nil⟩, fun _ => Nat.le_refl _, fun _ => rfl⟩
theorem conn_snoc {es : Ed} {a b c d : Nat} : Conn (es ++ [(a, b)]) c d ↔ Conn es c d ∨ (Conn es c a ∧ Conn es b d) ∨ (Conn es c b ∧ Conn es a d) := by
  have hs : ∀ e ∈ es, e ∈ es ++ [(a, b)] := fun e h => List.mem_append_left _ h
  have hab : (a, b) ∈ es ++ [(a, b)] := by simp
  constructor
  · intro h
    induction h with
    | refl => exact .inl (.refl _)
    | fwd _ e ih =>
      rcases List.mem_append.mp e with e | e
      · rcases ih with h | ⟨h, g⟩ | ⟨h, g⟩
        · exact .inl (.fwd h e)
        · exact .inr (.inl ⟨h, .fwd g e⟩)
        · exact .inr (.inr ⟨h, .fwd g e⟩)
      · obtain ⟨rfl, rfl⟩ := Prod.mk.inj (List.mem_singleton.mp e)
        rcases ih with h | ⟨h, g⟩ | ⟨h, g⟩
        · exact .inr (.inl ⟨h, .refl _⟩)
        · exact .inr (.inl ⟨h, .refl _⟩)
        · exact .inl h
    | bwd _ e ih =>
      rcases List.mem_append.mp e with e | e
      · rcases ih with h | ⟨h, g⟩ | ⟨h, g⟩
        · exact .inl (.bwd h e)
        · exact .inr (.inl ⟨h, .bwd g e⟩)
        · exact .inr (.inr ⟨h, .bwd g e⟩)
      · obtain ⟨rfl, rfl⟩ := Prod.mk.inj (List.mem_singleton.mp e)
        rcases ih with h | ⟨h, g⟩ | ⟨h, g⟩
        · exact .inr (.inr ⟨h, .refl _⟩)
        · exact .inl h
        · exact .inr (.inr ⟨h, .refl _⟩)
  · rintro (h | ⟨h, g⟩ | ⟨h, g⟩)
    · exact h.mono hs
    · exact ((h.mono hs).fwd hab).trans (g.mono hs)
    · exact ((h.mono hs).bwd hab).trans (g.mono hs)
theorem Lab.snoc {f : Nat → Nat} {es : Ed} (h : Lab f es) (a b : Nat) : Lab (rel f (a, b)) (es ++ [(a, b)]) := by
  have key (c d : Nat) : rel f (a, b) c = rel f (a, b) d ↔ (f c = f d ∨ (f c = f a ∧ f b = f d) ∨ (f c = f b ∧ f a = f d)) := by
    unfold rel
    dsimp only
    by_cases hab : f a ≤ f b
    · rw [Nat.max_eq_right hab, Nat.min_eq_left hab]
      by_cases h1 : f c = f b <;> by_cases h2 : f d = f b
      · simp [h1, h2]
      · rw [if_pos h1, if_neg h2]
        constructor
        · intro e; exact .inr (.inr ⟨h1, e⟩)
        · rintro (e | ⟨e, g⟩ | ⟨e, g⟩)
          · exact absurd (e.symm.trans h1) h2
          · exact absurd g.symm h2
          · exact g
      · rw [if_neg h1, if_pos h2]
        constructor
        · intro e; exact .inr (.inl ⟨e, h2.symm⟩)
        · rintro (e | ⟨e, g⟩ | ⟨e, g⟩)
          · exact absurd (e.trans h2) h1
          · exact e
          · exact absurd e h1
      · rw [if_neg h1, if_neg h2]
        constructor
        · exact .inl
        · rintro (e | ⟨e, g⟩ | ⟨e, g⟩)
          · exact e
          · exact absurd g.symm h2
          · exact absurd e h1
    · have hab := Nat.le_of_lt (Nat.lt_of_not_le hab)
      rw [Nat.max_eq_left hab, Nat.min_eq_right hab]
      by_cases h1 : f c = f a <;> by_cases h2 : f d = f a
      · simp [h1, h2]
      · rw [if_pos h1, if_neg h2]
        constructor
        · intro e; exact .inr (.inl ⟨h1, e⟩)
        · rintro (e | ⟨e, g⟩ | ⟨e, g⟩)
          · exact absurd (e.symm.trans h1) h2
          · exact g
          · exact absurd g.symm h2
      · rw [if_neg h1, if_pos h2]
        constructor
        · intro e; exact .inr (.inr ⟨e, h2.symm⟩)
        · rintro (e | ⟨e, g⟩ | ⟨e, g⟩)
          · exact absurd (e.trans h2) h1
          · exact absurd e h1
          · exact e
      · rw [if_neg h1, if_neg h2]
        constructor
        · exact .inl
        · rintro (e | ⟨e, g⟩ | ⟨e, g⟩)
          · exact e
          · exact absurd e h1
          · exact absurd g.symm h2
  refine ⟨fun c d => ?_, fun c => ?_, fun c => ?_⟩
  · rw [key, conn_snoc, h.eq, h.eq, h.eq, h.eq, h.eq]
  · unfold rel
    dsimp only
    have := h.le c
    split
    · rename_i e
      have : min (f a) (f b) ≤ max (f a) (f b) := Nat.le_trans (Nat.min_le_left _ _) (Nat.le_max_left _ _)
      omega
    · exact this
  · have hlo : f (min (f a) (f b)) = min (f a) (f b) := by
      rcases Nat.le_total (f a) (f b) with z | z
      · rw [Nat.min_eq_left z, h.idem]
      · rw [Nat.min_eq_right z, h.idem]
    unfold rel
    dsimp only
    by_cases e : f c = max (f a) (f b)
    · rw [if_pos e, hlo]
      split <;> rfl
    · rw [if_neg e, h.idem, if_neg e]
theorem lab_of (es : Ed) : Lab (labF es) es := by
  have : ∀ (gs fs : Ed) (f : Nat → Nat), Lab f fs → Lab (gs.foldl rel f) (fs ++ gs) := by
    intro gs
    induction gs with
    | nil => intro fs f h; rw [List.append_nil]; exact h
    | cons e r ih =>
      intro fs f h
      have := ih (fs ++ [e]) (rel f e) (h.snoc e.1 e.2)
      rw [List.append_assoc] at this
      exact this
  exact this es [] id Lab.nil
theorem lab_zero (es : Ed) : labF es 0 = 0 := Nat.le_zero.mp ((lab_of es).le 0)
theorem lab_told (es : Ed) (n : Nat) : labF es n = 0 ↔ Conn es 0 n := by
  rw [← (lab_of es).eq, lab_zero]
  exact ⟨Eq.symm, Eq.symm⟩
/-- told, as a bool -/
def toldB (es : Ed) (n : Nat) : Bool := decide (labF es n = 0)
theorem toldB_iff {es : Ed} {n : Nat} : toldB es n = true ↔ Conn es 0 n := by rw [toldB, decide_eq_true_eq, lab_told]
/-! ### what is reached -/
def rstep (f : List Nat) (e : Nat × Nat) : List Nat := if e.1 ∈ f ∧ e.2 ∉ f then f ++ [e.2] else f
def rchL (es : Ed) : List Nat := es.foldl rstep [0]
theorem rfold_mono {es : Ed} : ∀ {f : List Nat} {c : Nat}, c ∈ f → c ∈ es.foldl rstep f := by
  induction es with
  | nil => exact fun h => h
  | cons e r ih =>
    intro f c h
    refine ih ?_
    unfold rstep
    split
    · exact List.mem_append_left _ h
    · exact h
theorem rfold_from {es : Ed} : ∀ {f : List Nat} {c : Nat}, c ∈ es.foldl rstep f → c ∈ f ∨ ∃ x, (x, c) ∈ es := by
  induction es with
  | nil => exact fun h => .inl h
  | cons e r ih =>
    intro f c h
    rcases ih h with h | ⟨x, h⟩
    · unfold rstep at h
      split at h
      · rcases List.mem_append.mp h with h | h
        · exact .inl h
        · exact .inr ⟨e.1, by rw [List.mem_singleton.mp h]; exact List.mem_cons_self⟩
      · exact .inl h
    · exact .inr ⟨x, List.mem_cons_of_mem _ h⟩
theorem rfold_nodup {es : Ed} : ∀ {f : List Nat}, f.Nodup → (es.foldl rstep f).Nodup := by
  induction es with
  | nil => exact fun h => h
  | cons e r ih =>
    intro f h
    refine ih ?_
    unfold rstep
    split
    · rename_i hz
      rw [List.nodup_append]
      exact ⟨h, by simp, fun a ha b hb e => hz.2 (by rw [List.mem_singleton.mp hb] at e; rw [← e]; exact ha)⟩
    · exact h
theorem rchL_nodup (es : Ed) : (rchL es).Nodup := rfold_nodup (by simp)
theorem rch_sound {es : Ed} {c : Nat} (h : c ∈ rchL es) : Rea es c := by
  have : ∀ (gs : Ed) (f : List Nat), (∀ e ∈ gs, e ∈ es) → (∀ x ∈ f, Rea es x) → ∀ x ∈ gs.foldl rstep f, Rea es x := by
    intro gs
    induction gs with
    | nil => exact fun f _ h => h
    | cons e r ih =>
      intro f hg hf
      refine ih _ (fun x hx => hg x (List.mem_cons_of_mem _ hx)) ?_
      intro x hx
      unfold rstep at hx
      split at hx
      · rename_i hz
        rcases List.mem_append.mp hx with hx | hx
        · exact hf x hx
        · rw [List.mem_singleton.mp hx]
          exact .step (hf _ hz.1) (hg e List.mem_cons_self)
      · exact hf x hx
  exact this es [0] (fun _ h => h) (fun x hx => by rw [List.mem_singleton.mp hx]; exact .zero) c h
/-- ascending by their first cuts, each forwards -/
def Asc (es : Ed) : Prop := es.Pairwise (fun x y => x.1 ≤ y.1) ∧ ∀ e ∈ es, e.1 < e.2
theorem rch_full {es : Ed} (ha : Asc es) {c : Nat} (h : Rea es c) : c ∈ rchL es := by
  induction h with
  | zero => exact rfold_mono (by simp)
  | step h e ih =>
    rename_i b c
    obtain ⟨l, r, rfl⟩ := List.append_of_mem e
    have hb : b ∈ l.foldl rstep [0] := by
      unfold rchL at ih
      rw [List.foldl_append] at ih
      rcases rfold_from ih with ih | ⟨x, hx⟩
      · exact ih
      · have h1 : b ≤ x := by
          rcases List.mem_cons.mp hx with hx | hx
          · rw [(Prod.mk.inj hx).1]; exact Nat.le_refl _
          · have := (List.pairwise_append.mp ha.1).2.1
            exact (List.pairwise_cons.mp this).1 _ hx
        have h2 := ha.2 _ (List.mem_append_right _ hx)
        exact absurd h2 (Nat.not_lt.mpr h1)
    unfold rchL
    rw [List.foldl_append, List.foldl_cons]
    refine rfold_mono ?_
    unfold rstep
    split
    · exact List.mem_append_right _ (List.mem_singleton_self _)
    · rename_i hz
      rw [Classical.not_and_iff_not_or_not, Classical.not_not] at hz
      rcases hz with hz | hz
      · exact absurd hb hz
      · exact hz
theorem rch_iff {es : Ed} (ha : Asc es) {c : Nat} : c ∈ rchL es ↔ Rea es c := ⟨rch_sound, rch_full ha⟩
theorem rea_le {es : Ed} {n : Nat} (hs : ∀ e ∈ es, e.2 ≤ n) {c : Nat} (h : Rea es c) : c ≤ n := by
  cases h with
  | zero => exact Nat.zero_le _
  | step _ e => exact hs _ e
theorem rea_iff {es : Ed} {c : Nat} (hc : 0 < c) : Rea es c ↔ ∃ i, Rea es i ∧ (i, c) ∈ es := by
  constructor
  · intro h
    cases h with
    | zero => exact absurd hc (by simp)
    | step h e => exact ⟨_, h, e⟩
  · rintro ⟨i, h, e⟩
    exact .step h e
/-- a search from one on finds what hangs together with it -/
theorem bfs_full {es : Ed} {c : Nat} {found : List Nat} (hc : c ∈ found) (hcl : ∀ x ∈ found, ∀ y, ((x, y) ∈ es ∨ (y, x) ∈ es) → y ∈ found) {d : Nat} (h : Conn es c d) : d ∈ found := by
  induction h with
  | refl => exact hc
  | fwd _ e ih => exact hcl _ ih _ (.inl e)
  | bwd _ e ih => exact hcl _ ih _ (.inr e)
/-- the cuts of a class, ascending -/
def clsL (es : Ed) (n c : Nat) : List Nat := (List.range (n + 1)).filter fun d => decide (labF es d = labF es c)
theorem mem_clsL {es : Ed} {n c d : Nat} : d ∈ clsL es n c ↔ d ≤ n ∧ Conn es c d := by
  rw [clsL, List.mem_filter, List.mem_range, decide_eq_true_eq, ← (lab_of es).eq]
  exact ⟨fun h => ⟨by omega, h.2.symm⟩, fun h => ⟨by omega, h.2.symm⟩⟩
theorem clsL_nodup (es : Ed) (n c : Nat) : (clsL es n c).Nodup := List.Pairwise.filter _ List.nodup_range
theorem clsL_asc (es : Ed) (n c : Nat) : (clsL es n c).Pairwise (· < ·) := List.Pairwise.filter _ List.pairwise_lt_range
theorem leD_int {a b : Int} : leD (.int a) (.int b) = decide (a ≤ b) := by
  unfold leD
  rw [D.lt]
  by_cases h : b < a
  · rw [decide_eq_true h, decide_eq_false (by omega)]
  · rw [decide_eq_false h, decide_eq_true (by omega)]
theorem sort_nats {l m : List Nat} (hl : l.Nodup) (hm : m.Pairwise (· < ·)) (h : ∀ x, x ∈ l ↔ x ∈ m) : sortL (l.map fun (x : Nat) => D.int x) = m.map fun (x : Nat) => D.int x := by
  refine (sortL_is (z := .int 0) ?_ ?_ ?_).symm
  · intro y hy
    obtain ⟨a, _, rfl⟩ := List.mem_map.mp hy
    rfl
  · refine List.Perm.map _ (once_perm (hm.imp Nat.ne_of_lt) hl fun x => (h x).symm)
  · rw [List.pairwise_map]
    refine hm.imp fun {a b} h => ?_
    rw [leD_int, decide_eq_true_eq]
    omega
/-! ### the spots as pairs of cuts -/
def edgs (ws : List Tx) (t : Tx) : Ed := (List.range t.length).flatMap fun i => (List.range (t.length - i)).flatMap fun q => if sl t i (i + 1 + q) ∈ ws then [(i, i + 1 + q)] else []
theorem edgs_map (ws : List Tx) (t : Tx) : (List.range t.length).flatMap (rowA ws t) = (edgs ws t).map fun e => pr e.1 e.2 := by
  rw [edgs, List.map_flatMap]
  refine congrArg (fun f => List.flatMap f _) (funext fun i => ?_)
  rw [rowA, List.map_flatMap]
  refine congrArg (fun f => List.flatMap f _) (funext fun q => ?_)
  split <;> rfl
theorem mem_edgs {ws : List Tx} {t : Tx} {i j : Nat} : (i, j) ∈ edgs ws t ↔ i < j ∧ j ≤ t.length ∧ sl t i j ∈ ws := by
  rw [edgs, List.mem_flatMap]
  constructor
  · rintro ⟨a, ha, h⟩
    obtain ⟨q, hq, h⟩ := List.mem_flatMap.mp h
    rw [List.mem_range] at ha hq
    split at h
    · rename_i hz
      obtain ⟨rfl, rfl⟩ := Prod.mk.inj (List.mem_singleton.mp h)
      exact ⟨by omega, by omega, hz⟩
    · simp at h
  · rintro ⟨h1, h2, h3⟩
    refine ⟨i, List.mem_range.mpr (by omega), List.mem_flatMap.mpr ⟨j - (i + 1), List.mem_range.mpr (by omega), ?_⟩⟩
    have : i + 1 + (j - (i + 1)) = j := by omega
    rw [this, if_pos h3]
    exact List.mem_singleton_self _
theorem edgs_asc (ws : List Tx) (t : Tx) : Asc (edgs ws t) := by
  refine ⟨?_, fun e he => (mem_edgs.mp (by exact he : (e.1, e.2) ∈ edgs ws t)).1⟩
  have hrow : ∀ (i : Nat) (x : Nat × Nat), x ∈ ((List.range (t.length - i)).flatMap fun q => if sl t i (i + 1 + q) ∈ ws then [(i, i + 1 + q)] else []) → x.1 = i := by
    intro i x hx
    obtain ⟨q, _, hx⟩ := List.mem_flatMap.mp hx
    split at hx
    · rw [List.mem_singleton.mp hx]
    · simp at hx
  rw [edgs, List.flatMap_def, List.pairwise_flatten]
  refine ⟨fun l hl => ?_, ?_⟩
  · obtain ⟨i, _, rfl⟩ := List.mem_map.mp hl
    refine List.pairwise_of_forall_mem_list (fun x hx y hy => ?_)
    rw [hrow i x hx, hrow i y hy]
    exact Nat.le_refl _
  · rw [List.pairwise_map]
    refine List.pairwise_lt_range.imp fun {a b} hab x hx y hy => ?_
    rw [hrow a x hx, hrow b y hy]
    exact Nat.le_of_lt hab
theorem edgs_le {ws : List Tx} {t : Tx} : ∀ e ∈ edgs ws t, e.1 ≤ t.length ∧ e.2 ≤ t.length := by
  intro e he
  have h := mem_edgs.mp (by exact he : (e.1, e.2) ∈ edgs ws t)
  exact ⟨by omega, h.2.1⟩
theorem edgs_mono {ws ws' : List Tx} (h : ∀ w ∈ ws, w ∈ ws') (t : Tx) : ∀ e ∈ edgs ws t, e ∈ edgs ws' t := by
  intro e he
  have z := mem_edgs.mp (by exact he : (e.1, e.2) ∈ edgs ws t)
  exact mem_edgs.mpr ⟨z.1, z.2.1, h _ z.2.2⟩
theorem sl_all (t : Tx) : sl t 0 t.length = t := by simp [sl]
/-- a kept word is reached -/
theorem kept_rea {ws : List Tx} {t : Tx} (h : t ∈ ws) (h0 : t ≠ []) : Rea (edgs ws t) t.length :=
  .step .zero (mem_edgs.mpr ⟨List.length_pos_iff.mpr h0, Nat.le_refl _, by rw [sl_all]; exact h⟩)
end MP
end

section
set_option Elab.async false
set_option linter.all false
set_option maxRecDepth 100000
/-! MP: labels, is_told, reached, is_row, whichever the program is. -/
namespace MP
open PySem
def nats (xs : List Nat) : List D := xs.map fun (x : Nat) => D.int x
theorem nats_len (xs : List Nat) : (nats xs).length = xs.length := List.length_map ..
theorem nats_cl (xs : List Nat) : cls (nats xs) = true ∧ dps (nats xs) ≤ 0 := ⟨cls_all.mpr fun x hx => by
    obtain ⟨i, _, rfl⟩ := List.mem_map.mp hx
    rfl, dps_le fun x hx => by
    obtain ⟨i, _, rfl⟩ := List.mem_map.mp hx
    exact Nat.zero_le _⟩
theorem mem_nats {xs : List Nat} {a : Nat} : (D.int a) ∈ nats xs ↔ a ∈ xs := by
  rw [nats, List.mem_map]
  exact ⟨fun ⟨x, h, e⟩ => by
    have : (x : Int) = a := by injection e
    have : x = a := by omega
    rw [← this]; exact h, fun h => ⟨a, h, rfl⟩⟩
theorem in_nats {st : Sto} {a : Nat} {xs : List Nat} : inD st (.int a) (.tup (nats xs)) = some (decide (a ∈ xs)) ∧ inD st (.int a) (.lst (nats xs)) = some (decide (a ∈ xs)) := by
  obtain ⟨h1, h2⟩ := nats_cl xs
  have := inD_cl (st := st) (x := .int a) (xs := nats xs) rfl h1 rfl (Nat.zero_le _) (by omega)
  rw [this.1, this.2]
  constructor <;> (congr 1; rw [decide_eq_decide]; exact mem_nats)
theorem in_natsR {st : Sto} {n a : Nat} {xs : List Nat} (h : st[n]? = some (.lst (nats xs))) : inD st (.int a) (.ref n) = some (decide (a ∈ xs)) := by
  rw [← (in_nats (st := st)).2]
  have : top st (.ref n) = .lst (nats xs) := by show (match st[n]? with | some (.lst xs) => D.lst xs | _ => .ref n) = _; rw [h]
  unfold inD
  rw [this]
  rfl
theorem isIn_natsR {st : Sto} {n a : Nat} {xs : List Nat} (h : st[n]? = some (.lst (nats xs))) : f2 .isIn (.int a) (.ref n) st = .ok (.bl (decide (a ∈ xs))) st := by
  simp [f2, dict?, h, in_natsR h, R.of]
theorem notIn_natsR {st : Sto} {n a : Nat} {xs : List Nat} (h : st[n]? = some (.lst (nats xs))) : f2 .notIn (.int a) (.ref n) st = .ok (.bl (!decide (a ∈ xs))) st := by
  simp [f2, dict?, h, in_natsR h, R.of]
theorem isIn_natsT {st : Sto} {a : Nat} {xs : List Nat} : f2 .isIn (.int a) (.tup (nats xs)) st = .ok (.bl (decide (a ∈ xs))) st := by
  simp [f2, dict?, in_nats, R.of]
theorem isIn_natsL {st : Sto} {a : Nat} {xs : List Nat} : f2 .isIn (.int a) (.lst (nats xs)) st = .ok (.bl (decide (a ∈ xs))) st := by
  simp [f2, dict?, in_nats, R.of]
theorem ints_nats : ∀ xs : List Nat, intsOf (nats xs) = some (xs.map fun (x : Nat) => (x : Int))
  | [] => rfl
  | x :: r => by
    show intsOf (.int x :: nats r) = _
    rw [intsOf, ints_nats r]
    rfl
theorem flat_nats (xs : List Nat) : flatKeys (nats xs) = true := by rw [flatKeys, ints_nats]; rfl
theorem sortD_nats (xs : List Nat) : sortD (nats xs) = some (sortL (nats xs)) := by unfold sortD; rw [flat_nats]; rfl
theorem ix_lst {st : Sto} {xs : List D} {a : Nat} {y : D} (h : xs[a]? = some y) : f2 .ix (.lst xs) (.int a) st = .ok y st := by
  obtain ⟨h1, h2⟩ := List.getElem?_eq_some_iff.mp h
  simp [f2, dict?, sq, ixN, h1, h2, R.of]
theorem ix_ref {st : Sto} {n a : Nat} {xs : List D} {y : D} (hs : st[n]? = some (.lst xs)) (h : xs[a]? = some y) : f2 .ix (.ref n) (.int a) st = .ok y st := by
  obtain ⟨h1, h2⟩ := List.getElem?_eq_some_iff.mp h
  simp [f2, dict?, hs, sq, ixN, h1, h2, R.of]
theorem ev_call2 {Φ : Phi} {ρ : Env} {st st1 st2 : Sto} {f : Nat} {a b : E} {x y : D} {r : R D} (h1 : ev Φ a ρ st = .ok x st1) (h2 : ev Φ b ρ st1 = .ok y st2) (h3 : Φ f [x, y] st2 = r) : ev Φ (.call f (.cons a (.cons b .nil)) .nil [] []) ρ st = r := by
  simp [ev, R.bind, pick, h1, h2, h3]
/-- what is asked of a list and a word -/
structure WOk (ws : List Tx) (t : Tx) : Prop where
  nodup : ws.Nodup
  ne : ∀ w ∈ ws, w ≠ []
  short : ∀ w ∈ ws, w.length ≤ 1000
  few : ws.length ≤ 1000
  word : t.length ≤ 1000
theorem WOk.nil {t : Tx} (h : t.length ≤ 1000) : WOk [] t := ⟨List.nodup_nil, by simp, by simp, by simp, h⟩
def sptD (ws : List Tx) (t : Tx) : List D := (edgs ws t).map fun e => pr e.1 e.2
def SpotsS (P : Pg) (i : Nat) : Prop := ∀ {k : Nat} {st : Sto} {ws : List Tx} {t : Tx}, WOk ws t → run P (k + 1) i [.tup (ws.map .str), .str t] st = .ok (.tup (sptD ws t)) st
theorem spotsS_of {P : Pg} {i : Nat} (hp : P i = some ⟨2, 5, false, spotsB⟩) : SpotsS P i := by
  intro k st ws t h
  have := spots_of hp (k := k) (st := st) h.nodup h.ne h.short h.few h.word
  rw [edgs_map] at this
  exact this
def CspotsS (P : Pg) (i : Nat) : Prop := ∀ {k : Nat} {st : Sto} {ws : List Tx} {t : Tx}, (∀ w ∈ ws, ∀ c ∈ w, c < 200) → (∀ c ∈ t, c < 200) → t.length ≤ 1000 → run P (k + 1) i [.tup (ws.map .str), .str t] st = .ok (.lst (sptD ws t)) st
theorem cspotsS_of {P : Pg} {i : Nat} (hp : P i = some ⟨2, 5, false, cspotsB⟩) : CspotsS P i := by
  intro k st ws t hw ht hl
  have := cspots_of hp (k := k) (st := st) hw ht hl
  rw [edgs_map] at this
  exact this
theorem sptD_get {ws : List Tx} {t : Tx} {i : Nat} {x : D} (h : (sptD ws t)[i]? = some x) : ∃ a b, (edgs ws t)[i]? = some (a, b) ∧ x = pr a b ∧ a < b ∧ b ≤ t.length := by
  rw [sptD, List.getElem?_map] at h
  obtain ⟨e, he, rfl⟩ := Option.map_eq_some_iff.mp h
  have := mem_edgs.mp (List.mem_of_getElem? he : (e.1, e.2) ∈ edgs ws t)
  exact ⟨e.1, e.2, he, rfl, this.1, this.2.1⟩
theorem sptD_len (ws : List Tx) (t : Tx) : (sptD ws t).length = (edgs ws t).length := List.length_map _
/-! ### labels -/
def labD (f : Nat → Nat) (n : Nat) : List D := (List.range (n + 1)).map fun c => .int (f c : Nat)
theorem labD_get {f : Nat → Nat} {n a : Nat} (h : a ≤ n) : (labD f n)[a]? = some (.int (f a : Nat)) := by
  rw [labD, List.getElem?_map, List.getElem?_range (by omega)]
  rfl
theorem labD_len (f : Nat → Nat) (n : Nat) : (labD f n).length = n + 1 := by rw [labD, List.length_map, List.length_range]
def labStep : S := .seq (.asg (.cons (.nm 5) (.cons (.nm 6) .nil)) (.tup (.cons (.o2 .min (.o2 .ix (.v 2) (.v 3)) (.o2 .ix (.v 2) (.v 4))) (.cons (.o2 .max (.o2 .ix (.v 2) (.v 3)) (.o2 .ix (.v 2) (.v 4))) .nil)))) (.seq (.asg (.nm 2) (.lc (.nm 7) (.v 2) (.c (.bl true)) (.ite (.o2 .eq (.v 7) (.v 6)) (.v 5) (.v 7)))) .skip)
def labelsB (iS : Nat) : S := .seq (.asg (.nm 2) (.o1 .list (.range (.c (.int 0)) (.o2 .add (.o1 .len (.v 1)) (.c (.int 1)))))) (.seq (.for_ (.cons (.nm 3) (.cons (.nm 4) .nil)) (.call iS (.cons (.v 0) (.cons (.v 1) .nil)) .nil [] []) labStep) (.seq (.ret (.v 2)) .skip))
theorem min_nat {st : Sto} {a b : Nat} : f2 .min (.int a) (.int b) st = .ok (.int ((min a b : Nat) : Int)) st := by
  have : (if (b : Int) < a then (b : Int) else a) = ((min a b : Nat) : Int) := by split <;> omega
  simp only [f2, this]
theorem max_nat {st : Sto} {a b : Nat} : f2 .max (.int a) (.int b) st = .ok (.int ((max a b : Nat) : Int)) st := by
  have : (if (b : Int) > a then (b : Int) else a) = ((max a b : Nat) : Int) := by split <;> omega
  simp only [f2, this]
theorem lab_step {Φ : Phi} {st : Sto} {f : Nat → Nat} {n a b : Nat} {s0 s1 s3 s4 s5 s6 s7 : Option D} (ha : a ≤ n) (hb : b ≤ n) (hn : n ≤ 1000) :
    forB (.cons (.nm 3) (.cons (.nm 4) .nil)) (exS Φ labStep) (pr a b) [s0, s1, some (.lst (labD f n)), s3, s4, s5, s6, s7] st =
      .ok (.next [s0, s1, some (.lst (labD (rel f (a, b)) n)), some (.int a), some (.int b), some (.int ((min (f a) (f b) : Nat) : Int)), some (.int ((max (f a) (f b) : Nat) : Int)), s7]) st := by
  have c3 : sizeLine = 16777216 := rfl
  have h1 : f2 .ix (.lst (labD f n)) (.int a) st = .ok (.int (f a : Nat)) st := ix_lst (labD_get ha)
  have h2 : f2 .ix (.lst (labD f n)) (.int b) st = .ok (.int (f b : Nat)) st := ix_lst (labD_get hb)
  have hlc : ev Φ (.lc (.nm 7) (.v 2) (.c (.bl true)) (.ite (.o2 .eq (.v 7) (.v 6)) (.v 5) (.v 7))) [s0, s1, some (.lst (labD f n)), some (.int a), some (.int b), some (.int ((min (f a) (f b) : Nat) : Int)), some (.int ((max (f a) (f b) : Nat) : Int)), s7] st = .ok (.lst (labD (rel f (a, b)) n)) st := by
    refine ev_lc (d := .lst (labD f n)) (st1 := st) (xs := labD f n) rfl rfl ?_ (by rw [labD_len]; omega)
    have hp := lcL_pure (gd := gdOf (.lst (labD f n)) st) (st := st) (bd := lcB (.nm 7) (wipeE [s0, s1, some (.lst (labD f n)), some (.int a), some (.int b), some (.int ((min (f a) (f b) : Nat) : Int)), some (.int ((max (f a) (f b) : Nat) : Int)), s7] [7]) (tst Φ (.c (.bl true))) (ev Φ (.ite (.o2 .eq (.v 7) (.v 6)) (.v 5) (.v 7))))
      (fun x => match x with | .int j => [if j = ((max (f a) (f b) : Nat) : Int) then .int ((min (f a) (f b) : Nat) : Int) else .int j] | _ => []) rfl (labD f n) (fun x hx => by
        obtain ⟨c, _, rfl⟩ := List.mem_map.mp hx
        by_cases hz : ((f c : Nat) : Int) = ((max (f a) (f b) : Nat) : Int)
        · show _ = R.ok [if ((f c : Nat) : Int) = ((max (f a) (f b) : Nat) : Int) then D.int ((min (f a) (f b) : Nat) : Int) else .int ((f c : Nat) : Int)] st
          rw [if_pos hz]
          simp only [lcB, bindT, tst, wipeE, ev, R.bind, R.of, f2, eqD, List.getElem?_cons_zero, List.getElem?_cons_succ, List.length_cons, List.length_nil, List.set_cons_zero, List.set_cons_succ]
          simp [truth, hz]
        · show _ = R.ok [if ((f c : Nat) : Int) = ((max (f a) (f b) : Nat) : Int) then D.int ((min (f a) (f b) : Nat) : Int) else .int ((f c : Nat) : Int)] st
          rw [if_neg hz]
          simp only [lcB, bindT, tst, wipeE, ev, R.bind, R.of, f2, eqD, List.getElem?_cons_zero, List.getElem?_cons_succ, List.length_cons, List.length_nil, List.set_cons_zero, List.set_cons_succ]
          simp [truth, hz])
    refine hp.trans ?_
    congr 1
    rw [labD, List.flatMap_map, labD, ← List.flatMap_singleton' (List.map _ _), List.flatMap_map]
    refine congrArg (fun g => List.flatMap g _) (funext fun c => ?_)
    show [_] = [_]
    congr 1
    unfold rel
    dsimp only
    by_cases hz : f c = max (f a) (f b)
    · rw [if_pos hz, if_pos (by rw [hz])]
    · rw [if_neg hz, if_neg (by omega)]
  have hpar : exS Φ (.asg (.cons (.nm 5) (.cons (.nm 6) .nil)) (.tup (.cons (.o2 .min (.o2 .ix (.v 2) (.v 3)) (.o2 .ix (.v 2) (.v 4))) (.cons (.o2 .max (.o2 .ix (.v 2) (.v 3)) (.o2 .ix (.v 2) (.v 4))) .nil)))) [s0, s1, some (.lst (labD f n)), some (.int a), some (.int b), s5, s6, s7] st = .ok (.next [s0, s1, some (.lst (labD f n)), some (.int a), some (.int b), some (.int ((min (f a) (f b) : Nat) : Int)), some (.int ((max (f a) (f b) : Nat) : Int)), s7]) st := by
    simp [exS, ev, R.bind, h1, h2, min_nat, max_nat, bindTs, bindT, c3]
  have hbd : bindT (.cons (.nm 3) (.cons (.nm 4) .nil)) (pr a b) [s0, s1, some (.lst (labD f n)), s3, s4, s5, s6, s7] = some [s0, s1, some (.lst (labD f n)), some (.int a), some (.int b), s5, s6, s7] := by simp [bindT, bindTs, pr]
  unfold forB
  rw [hbd]
  exact ex_seq hpar (ex_seq (ex_asg hlc rfl) rfl)
def LabelsS (P : Pg) (i : Nat) : Prop := ∀ {k : Nat} {st : Sto} {ws : List Tx} {t : Tx}, WOk ws t → run P (k + 2) i [.tup (ws.map .str), .str t] st = .ok (.lst (labD (labF (edgs ws t)) t.length)) st
theorem labels_of {P : Pg} {iS i : Nat} (hp : P i = some ⟨2, 8, false, labelsB iS⟩) (hS : SpotsS P iS) : LabelsS P i := by
  intro k st ws t h
  have c3 : sizeLine = 16777216 := rfl
  have hw := h.word
  obtain ⟨ρ, st2, e2, p3, p4, p5, p6, p7, rfl, est⟩ := forL_ok (gd := gdOf (.tup (sptD ws t)) st) (bd := forB (.cons (.nm 3) (.cons (.nm 4) .nil)) (exS (run P (k + 1)) labStep))
    (fun m ρ st' => ∃ p3 p4 p5 p6 p7 : Option D, ρ = [some (.tup (ws.map .str)), some (.str t), some (.lst (labD (labF ((edgs ws t).take m)) t.length)), p3, p4, p5, p6, p7] ∧ st' = st) (sptD ws t) 0
    [some (.tup (ws.map .str)), some (.str t), some (.lst (labD (labF ((edgs ws t).take 0)) t.length)), none, none, none, none, none] st ⟨none, none, none, none, none, rfl, rfl⟩ (fun _ _ _ _ => rfl)
    (fun m y hy ρ st' hI => by
      obtain ⟨p3, p4, p5, p6, p7, rfl, est⟩ := hI
      rw [est]
      obtain ⟨a, b, he, rfl, hab, hb⟩ := sptD_get hy
      have : labF ((edgs ws t).take (0 + m + 1)) = rel (labF ((edgs ws t).take (0 + m))) (a, b) := by
        rw [Nat.zero_add, List.take_succ, he]
        unfold labF
        rw [List.foldl_append]
        rfl
      have hs := lab_step (Φ := run P (k + 1)) (st := st) (f := labF ((edgs ws t).take (0 + m))) (s0 := some (.tup (ws.map .str))) (s1 := some (.str t)) (s3 := p3) (s4 := p4) (s5 := p5) (s6 := p6) (s7 := p7) (Nat.le_of_lt (Nat.lt_of_lt_of_le hab hb)) hb hw
      rw [← this] at hs
      exact ⟨_, _, hs, _, _, _, _, _, rfl, rfl⟩)
  rw [Nat.zero_add, sptD_len, List.take_length, est] at e2
  have hb : exS (run P (k + 1)) (labelsB iS) [some (.tup (ws.map .str)), some (.str t), none, none, none, none, none, none] st = .ok (.ret (.lst (labD (labF (edgs ws t)) t.length))) st := by
    refine ex_seq (ex_asg (d := .lst (labD id t.length)) (st1 := st) (ρ' := [some (.tup (ws.map .str)), some (.str t), some (.lst (labD id t.length)), none, none, none, none, none]) ?_ rfl) ?_
    · refine ev_o1 (x := .tup (rangeL 0 (t.length + 1))) (st1 := st) ?_ ?_
      · refine ev_range (st1 := st) rfl ?_ (by omega) (by omega) (by omega) (by omega)
        have : t.length ≤ 16777216 := by omega
        simp [ev, R.bind, f1, f2, c3, this]
      · have e9 : ((t.length : Int) + 1 - 0).toNat = t.length + 1 := by omega
        have e10 : rangeL 0 ((t.length : Int) + 1) = labD id t.length := by
          rw [rangeL, labD, e9]
          exact List.map_congr_left fun c _ => by rw [Int.zero_add]; rfl
        rw [e10]
        rfl
    refine ex_seq (ex_for (d := .tup (sptD ws t)) (st1 := st) (xs := sptD ws t) ?_ rfl e2) ?_
    · exact ev_call2 rfl rfl (hS h)
    · exact ex_ret rfl
  have hr : run P (k + 2) i [.tup (ws.map .str), .str t] st = gc st.length st (.lst (labD (labF (edgs ws t)) t.length)) st := run_ret hp rfl rfl hb
  rw [hr, gc_eq rfl]
def istoldB (iL : Nat) : S := .seq (.ret (.o2 .eq (.o2 .ix (.call iL (.cons (.v 0) (.cons (.v 1) .nil)) .nil [] []) (.o1 .neg (.c (.int 1)))) (.c (.int 0)))) .skip
def ToldS (P : Pg) (i : Nat) : Prop := ∀ {k : Nat} {st : Sto} {ws : List Tx} {t : Tx}, WOk ws t → run P (k + 3) i [.tup (ws.map .str), .str t] st = .ok (.bl (toldB (edgs ws t) t.length)) st
theorem istold_of {P : Pg} {iL i : Nat} (hp : P i = some ⟨2, 2, false, istoldB iL⟩) (hL : LabelsS P iL) : ToldS P i := by
  intro k st ws t h
  have e1 : run P (k + 2) iL [.tup (ws.map .str), .str t] st = _ := hL h
  have e2 : f2 .ix (.lst (labD (labF (edgs ws t)) t.length)) (.int (-1)) st = .ok (.int (labF (edgs ws t) t.length : Nat)) st := by
    have h1 : ixN (labD (labF (edgs ws t)) t.length).length (-1) = some t.length := by
      rw [labD_len, ixN, if_neg (by decide), if_pos (by omega)]
      congr 1
      omega
    simp only [f2, dict?, sq, h1, R.of, Option.bind_some, labD_get (Nat.le_refl _)]
  have hb : exS (run P (k + 2)) (istoldB iL) [some (.tup (ws.map .str)), some (.str t)] st = .ok (.ret (.bl (toldB (edgs ws t) t.length))) st := by
    refine ex_ret (ev_o2 (x := .int (labF (edgs ws t) t.length : Nat)) (y := .int 0) (st1 := st) (st2 := st) (ev_o2 (y := .int (-1)) (ev_call2 rfl rfl e1) rfl e2) rfl ?_)
    simp [f2, eqD, R.of, toldB]
  have hr : run P (k + 3) i [.tup (ws.map .str), .str t] st = gc st.length st (.bl (toldB (edgs ws t) t.length)) st := run_ret hp rfl rfl hb
  rw [hr, gc_eq rfl]
/-! ### reached -/
def reachStep : S := .seq (.ite (.ite (.o2 .isIn (.v 3) (.v 2)) (.o2 .notIn (.v 4) (.v 2)) (.c (.bl false))) (.seq (.ex (.m2 .lst .append (.v 2) (.v 4))) .skip) .skip) .skip
def reachedB (iS : Nat) : S := .seq (.asg (.nm 2) (.new (.lst (.cons (.c (.int 0)) .nil)))) (.seq (.for_ (.cons (.nm 3) (.cons (.nm 4) .nil)) (.call iS (.cons (.v 0) (.cons (.v 1) .nil)) .nil [] []) reachStep) (.seq (.ret (.o1 .tuple (.o1 .sorted (.v 2)))) .skip))
theorem reach_step {Φ : Phi} {st : Sto} {L : List Nat} {a b : Nat} {s0 s1 s3 s4 : Option D} (hl : L.length ≤ 100000) :
    forB (.cons (.nm 3) (.cons (.nm 4) .nil)) (exS Φ reachStep) (pr a b) [s0, s1, some (.ref st.length), s3, s4] (st ++ [.lst (nats L)]) =
      .ok (.next [s0, s1, some (.ref st.length), some (.int a), some (.int b)]) (st ++ [.lst (nats (rstep L (a, b)))]) := by
  have c3 : sizeLine = 16777216 := rfl
  have h1 : f2 .isIn (.int a) (.ref st.length) (st ++ [.lst (nats L)]) = .ok (.bl (decide (a ∈ L))) (st ++ [.lst (nats L)]) := isIn_natsR get_new
  have h2 : f2 .notIn (.int b) (.ref st.length) (st ++ [.lst (nats L)]) = .ok (.bl (!decide (b ∈ L))) (st ++ [.lst (nats L)]) := notIn_natsR get_new
  have hbd : bindT (.cons (.nm 3) (.cons (.nm 4) .nil)) (pr a b) [s0, s1, some (.ref st.length), s3, s4] = some [s0, s1, some (.ref st.length), some (.int a), some (.int b)] := by simp [bindT, bindTs, pr]
  have h3 : f2 .append (.ref st.length) (.int b) (st ++ [.lst (nats L)]) = .ok .non (st ++ [.lst (nats (L ++ [b]))]) := by
    have : (nats L).length < sizeLine := by rw [nats_len]; omega
    simp only [f2, get_new, set_new]
    rw [if_pos this]
    simp [nats]
  have ht : isTy .lst (st ++ [.lst (nats L)]) (.ref st.length) = true := by simp [isTy]
  unfold forB
  rw [hbd]
  by_cases ha : a ∈ L
  · by_cases hb : b ∈ L
    · have : rstep L (a, b) = L := by unfold rstep; rw [if_neg (fun z => z.2 hb)]
      rw [this]
      simp [reachStep, exS, tst, ev, R.bind, R.of, truth, h1, h2, ha, hb]
    · have : rstep L (a, b) = L ++ [b] := by unfold rstep; rw [if_pos ⟨ha, hb⟩]
      rw [this]
      simp only [reachStep, exS, tst, ev, R.bind, R.of, truth, List.getElem?_cons_zero, List.getElem?_cons_succ, h1, h2, ha, hb, ht, h3, decide_true, decide_false, Bool.not_false, if_true, Option.map]
  · have : rstep L (a, b) = L := by unfold rstep; rw [if_neg (fun z => ha z.1)]
    rw [this]
    simp [reachStep, exS, tst, ev, R.bind, R.of, truth, h1, h2, ha]
/-- what is reached, ascending -/
def reaL (ws : List Tx) (t : Tx) : List Nat := (List.range (t.length + 1)).filter fun c => decide (c ∈ rchL (edgs ws t))
theorem mem_reaL {ws : List Tx} {t : Tx} {c : Nat} : c ∈ reaL ws t ↔ Rea (edgs ws t) c := by
  rw [reaL, List.mem_filter, List.mem_range, decide_eq_true_eq, rch_iff (edgs_asc ws t)]
  exact ⟨fun h => h.2, fun h => ⟨by have := rea_le (fun e he => (edgs_le e he).2) h; omega, h⟩⟩
def rowQ (ws : List Tx) (t : Tx) : Bool := decide (t.length ∈ rchL (edgs ws t))
theorem rowQ_iff {ws : List Tx} {t : Tx} : rowQ ws t = true ↔ Rea (edgs ws t) t.length := by rw [rowQ, decide_eq_true_eq, rch_iff (edgs_asc ws t)]
theorem rch_len (ws : List Tx) (t : Tx) (m : Nat) : (rchL ((edgs ws t).take m)).length ≤ t.length + 1 := by
  have h1 := rchL_nodup ((edgs ws t).take m)
  have h2 : ∀ x ∈ rchL ((edgs ws t).take m), x ∈ List.range (t.length + 1) := by
    intro x hx
    rw [List.mem_range]
    have := rea_le (n := t.length) (fun e he => (edgs_le e (List.mem_of_mem_take he)).2) (rch_sound hx)
    omega
  have := h1.length_le_of_subset h2
  rw [List.length_range] at this
  exact this
def ReachedS (P : Pg) (i : Nat) : Prop := ∀ {k : Nat} {st : Sto} {ws : List Tx} {t : Tx}, WOk ws t → run P (k + 2) i [.tup (ws.map .str), .str t] st = .ok (.tup (nats (reaL ws t))) st
theorem reached_of {P : Pg} {iS i : Nat} (hp : P i = some ⟨2, 5, false, reachedB iS⟩) (hS : SpotsS P iS) : ReachedS P i := by
  intro k st ws t h
  have c3 : sizeLine = 16777216 := rfl
  have hw := h.word
  obtain ⟨ρ, st2, e2, p3, p4, rfl, rfl⟩ := forL_ok (gd := gdOf (.tup (sptD ws t)) (st ++ [.lst (nats [0])])) (bd := forB (.cons (.nm 3) (.cons (.nm 4) .nil)) (exS (run P (k + 1)) reachStep))
    (fun m ρ st' => ∃ p3 p4 : Option D, ρ = [some (.tup (ws.map .str)), some (.str t), some (.ref st.length), p3, p4] ∧ st' = st ++ [.lst (nats (rchL ((edgs ws t).take m)))]) (sptD ws t) 0
    [some (.tup (ws.map .str)), some (.str t), some (.ref st.length), none, none] (st ++ [.lst (nats [0])]) ⟨none, none, rfl, rfl⟩ (fun _ _ _ _ => rfl)
    (fun m y hy ρ st' hI => by
      obtain ⟨p3, p4, rfl, rfl⟩ := hI
      obtain ⟨a, b, he, rfl, hab, hb⟩ := sptD_get hy
      have hl := rch_len ws t (0 + m)
      have : rchL ((edgs ws t).take (0 + m + 1)) = rstep (rchL ((edgs ws t).take (0 + m))) (a, b) := by
        rw [Nat.zero_add, List.take_succ, he]
        unfold rchL
        rw [List.foldl_append]
        rfl
      have hs := reach_step (Φ := run P (k + 1)) (st := st) (a := a) (b := b) (s0 := some (.tup (ws.map .str))) (s1 := some (.str t)) (s3 := p3) (s4 := p4) (L := rchL ((edgs ws t).take (0 + m))) (by omega)
      rw [← this] at hs
      exact ⟨_, _, hs, _, _, rfl, rfl⟩)
  rw [Nat.zero_add, sptD_len, List.take_length] at e2
  have hb : exS (run P (k + 1)) (reachedB iS) [some (.tup (ws.map .str)), some (.str t), none, none, none] st = .ok (.ret (.tup (nats (reaL ws t)))) (st ++ [.lst (nats (rchL (edgs ws t)))]) := by
    refine ex_seq (ex_asg (d := .ref st.length) (st1 := st ++ [.lst (nats [0])]) (ρ' := [some (.tup (ws.map .str)), some (.str t), some (.ref st.length), none, none]) ?_ rfl) ?_
    · simp [ev, R.bind, c3, nats]
    refine ex_seq (ex_for (d := .tup (sptD ws t)) (st1 := st ++ [.lst (nats [0])]) (xs := sptD ws t) ?_ rfl e2) ?_
    · exact ev_call2 rfl rfl (hS h)
    · refine ex_ret (ev_o1 (x := .lst (nats (reaL ws t))) (ev_o1 (x := .ref st.length) rfl ?_) rfl)
      have hz : lsq (st ++ [.lst (nats (rchL (edgs ws t)))]) (.ref st.length) = some (nats (rchL (edgs ws t))) := by
        unfold lsq top
        simp
      show R.of _ (((lsq _ (.ref st.length)).bind sortD).map D.lst) = _
      have hs : sortL (nats (rchL (edgs ws t))) = nats (reaL ws t) := sort_nats (rchL_nodup _) (List.Pairwise.filter _ List.pairwise_lt_range) fun x => by
        rw [mem_reaL, rch_iff (edgs_asc ws t)]
      rw [hz, Option.bind_some, sortD_nats, hs]
      rfl
  have hr : run P (k + 2) i [.tup (ws.map .str), .str t] st = gc st.length st (.tup (nats (reaL ws t))) (st ++ [.lst (nats (rchL (edgs ws t)))]) := run_ret hp rfl rfl hb
  have hu : (D.tup (nats (reaL ws t))).under st.length = true := by
    rw [D.under]
    have : ∀ xs : List Nat, unders st.length (nats xs) = true := by
      intro xs
      induction xs with
      | nil => rfl
      | cons x r ih => show (D.under _ _ && unders _ (nats r)) = true; rw [ih]; rfl
    exact this _
  rw [hr, gc_tl (by simp) hu]
  rfl
def isrowB (iR : Nat) : S := .seq (.ret (.o2 .isIn (.o1 .len (.v 1)) (.call iR (.cons (.v 0) (.cons (.v 1) .nil)) .nil [] []))) .skip
def RowS (P : Pg) (i : Nat) : Prop := ∀ {k : Nat} {st : Sto} {ws : List Tx} {t : Tx}, WOk ws t → run P (k + 3) i [.tup (ws.map .str), .str t] st = .ok (.bl (rowQ ws t)) st
theorem isrow_of {P : Pg} {iR i : Nat} (hp : P i = some ⟨2, 2, false, isrowB iR⟩) (hR : ReachedS P iR) : RowS P i := by
  intro k st ws t h
  have c3 : sizeLine = 16777216 := rfl
  have hw := h.word
  have e1 : run P (k + 2) iR [.tup (ws.map .str), .str t] st = _ := hR h
  have hb : exS (run P (k + 2)) (isrowB iR) [some (.tup (ws.map .str)), some (.str t)] st = .ok (.ret (.bl (rowQ ws t))) st := by
    refine ex_ret (ev_o2 (x := .int (t.length : Nat)) (y := .tup (nats (reaL ws t))) (st1 := st) (st2 := st) ?_ (ev_call2 rfl rfl e1) ?_)
    · have : t.length ≤ 16777216 := by omega
      simp [ev, R.bind, f1, c3, this]
    · rw [isIn_natsT]
      congr 2
      rw [Bool.eq_iff_iff, rowQ_iff, decide_eq_true_eq, mem_reaL]
  have hr : run P (k + 3) i [.tup (ws.map .str), .str t] st = gc st.length st (.bl (rowQ ws t)) st := run_ret hp rfl rfl hb
  rw [hr, gc_eq rfl]
end MP
end

section
set_option Elab.async false
set_option linter.all false
set_option maxRecDepth 100000
/-! MP: while; a class found by going on and on; rows by cuts: whichever the program is. -/
namespace MP
open PySem
theorem whl_ok {c : Env → Sto → R Bool} {b : Env → Sto → RS} (I : Nat → Env → Sto → Prop) (J : Env → Sto → Prop)
    (step : ∀ m ρ st, I m ρ st → (∃ st', c ρ st = .ok false st' ∧ J ρ st') ∨ (∃ st' ρ' st'' m', c ρ st = .ok true st' ∧ b ρ st' = .ok (.next ρ') st'' ∧ m' < m ∧ I m' ρ' st'')) :
    ∀ (k m : Nat) (ρ : Env) (st : Sto), m < k → I m ρ st → ∃ ρ' st', whlN c b k ρ st = .ok (.next ρ') st' ∧ J ρ' st'
  | 0, m, _, _, h, _ => absurd h (by omega)
  | k + 1, m, ρ, st, hk, hI => by
    rcases step m ρ st hI with ⟨st', e, hJ⟩ | ⟨st', ρ', st'', m', e1, e2, hm, hI'⟩
    · exact ⟨ρ, st', by rw [whlN, e], hJ⟩
    · obtain ⟨ρ2, st2, e3, hJ⟩ := whl_ok I J step k m' ρ' st'' (by omega) hI'
      exact ⟨ρ2, st2, by rw [whlN, e1]; dsimp only; rw [e2]; exact e3, hJ⟩
theorem ex_whl {Φ : Phi} {c : E} {b : S} {ρ : Env} {st : Sto} {x : RS} (h : whlN (tst Φ c) (exS Φ b) whlFuel ρ st = x) : exS Φ (.whl c b) ρ st = x := by rw [exS]; exact h
def addN (L : List Nat) (x : Nat) : List Nat := if x ∈ L then L else L ++ [x]
theorem addF_mem {xs : List Nat} : ∀ {L : List Nat} {x : Nat}, x ∈ xs.foldl addN L ↔ x ∈ L ∨ x ∈ xs := by
  induction xs with
  | nil => intro L x; simp
  | cons a r ih =>
    intro L x
    rw [List.foldl_cons, ih, List.mem_cons]
    unfold addN
    split
    · rename_i h
      constructor
      · rintro (h | h)
        · exact .inl h
        · exact .inr (.inr h)
      · rintro (h | rfl | h')
        · exact .inl h
        · exact .inl h
        · exact .inr h'
    · rw [List.mem_append, List.mem_singleton]
      constructor
      · rintro ((h | h) | h)
        · exact .inl h
        · exact .inr (.inl h)
        · exact .inr (.inr h)
      · rintro (h | h | h)
        · exact .inl (.inl h)
        · exact .inl (.inr h)
        · exact .inr h
theorem addF_pre {xs : List Nat} : ∀ {L : List Nat}, ∃ M, xs.foldl addN L = L ++ M := by
  induction xs with
  | nil => intro L; exact ⟨[], by simp⟩
  | cons a r ih =>
    intro L
    obtain ⟨M, h⟩ := ih (L := addN L a)
    rw [List.foldl_cons, h]
    unfold addN
    split
    · exact ⟨M, rfl⟩
    · exact ⟨[a] ++ M, by rw [List.append_assoc]⟩
theorem addF_nodup {xs : List Nat} : ∀ {L : List Nat}, L.Nodup → (xs.foldl addN L).Nodup := by
  induction xs with
  | nil => exact fun h => h
  | cons a r ih =>
    intro L h
    refine ih ?_
    unfold addN
    split
    · exact h
    · rename_i hz
      rw [List.nodup_append]
      exact ⟨h, by simp, fun x hx y hy e => hz (by rw [List.mem_singleton.mp hy] at e; rw [← e]; exact hx)⟩
/-- the neighbours of a cut -/
def nearL (es : Ed) (c : Nat) : List Nat := (es.flatMap fun e => if e.1 = c then [e.2] else []) ++ (es.flatMap fun e => if e.2 = c then [e.1] else [])
theorem mem_nearL {es : Ed} {c y : Nat} : y ∈ nearL es c ↔ (c, y) ∈ es ∨ (y, c) ∈ es := by
  rw [nearL, List.mem_append, List.mem_flatMap, List.mem_flatMap]
  constructor
  · rintro (⟨e, he, h⟩ | ⟨e, he, h⟩)
    · split at h
      · rename_i hz
        have := List.mem_singleton.mp h
        left
        rw [← hz, this]
        exact he
      · simp at h
    · split at h
      · rename_i hz
        have := List.mem_singleton.mp h
        right
        rw [← hz, this]
        exact he
      · simp at h
  · rintro (h | h)
    · exact .inl ⟨_, h, by simp⟩
    · exact .inr ⟨_, h, by simp⟩
structure Bfs (es : Ed) (n c : Nat) (L : List Nat) (q : Nat) : Prop where
  nd : L.Nodup
  ok : ∀ x ∈ L, x ≤ n ∧ Conn es c x
  base : c ∈ L
  le : q ≤ L.length
  done : ∀ p x, p < q → L[p]? = some x → ∀ y, ((x, y) ∈ es ∨ (y, x) ∈ es) → y ∈ L
theorem Bfs.len {es : Ed} {n c q : Nat} {L : List Nat} (h : Bfs es n c L q) : L.length ≤ n + 1 := by
  have := h.nd.length_le_of_subset (l₂ := List.range (n + 1)) fun x hx => List.mem_range.mpr (by have := (h.ok x hx).1; omega)
  rwa [List.length_range] at this
theorem Bfs.step {es : Ed} {n c q x : Nat} {L : List Nat} (h : Bfs es n c L q) (hn : ∀ e ∈ es, e.1 ≤ n ∧ e.2 ≤ n) (hx : L[q]? = some x) : Bfs es n c ((nearL es x).foldl addN L) (q + 1) := by
  obtain ⟨M, hM⟩ := addF_pre (xs := nearL es x) (L := L)
  have hq : q < L.length := (List.getElem?_eq_some_iff.mp hx).1
  refine ⟨addF_nodup h.nd, ?_, addF_mem.mpr (.inl h.base), by rw [hM, List.length_append]; omega, ?_⟩
  · intro y hy
    rcases addF_mem.mp hy with hy | hy
    · exact h.ok y hy
    · have hc := (h.ok x (List.mem_of_getElem? hx)).2
      rcases mem_nearL.mp hy with e | e
      · exact ⟨(hn _ e).2, .fwd hc e⟩
      · exact ⟨(hn _ e).1, .bwd hc e⟩
  · intro p z hp hz y hy
    have hz' : L[p]? = some z := by
      rw [hM, List.getElem?_append_left (by omega)] at hz
      exact hz
    by_cases e : p = q
    · subst e
      rw [hx] at hz'
      cases hz'
      exact addF_mem.mpr (.inr (mem_nearL.mpr hy))
    · exact addF_mem.mpr (.inl (h.done p z (by omega) hz' y hy))
theorem Bfs.fin {es : Ed} {n c : Nat} {L : List Nat} (h : Bfs es n c L L.length) (x : Nat) : x ∈ L ↔ x ∈ clsL es n c := by
  rw [mem_clsL]
  refine ⟨h.ok x, fun hx => bfs_full h.base (fun z hz y hy => ?_) hx.2⟩
  obtain ⟨p, hp, e⟩ := List.getElem_of_mem hz
  exact h.done p z hp (by rw [List.getElem?_eq_getElem hp, e]) y hy
/-! ### the class of a cut, as the law finds it -/
def nearE : E := .o2 .add (.lc (.cons (.nm 9) (.cons (.nm 10) .nil)) (.v 5) (.o2 .eq (.v 9) (.v 6)) (.v 10)) (.lc (.cons (.nm 9) (.cons (.nm 10) .nil)) (.v 5) (.o2 .eq (.v 10) (.v 6)) (.v 9))
def addS : S := .seq (.ite (.o2 .notIn (.v 8) (.v 3)) (.seq (.ex (.m2 .lst .append (.v 3) (.v 8))) .skip) .skip) .skip
def bfsS : S := .seq (.asg (.nm 6) (.o2 .ix (.v 3) (.v 4))) (.seq (.asg (.nm 7) nearE) (.seq (.for_ (.nm 8) (.v 7) addS) (.seq (.asg (.nm 4) (.o2 .add (.v 4) (.c (.int 1)))) .skip)))
def classB (iC : Nat) : S := .seq (.par (.cons (.nm 3) (.cons (.nm 4) .nil)) (.cons (.new (.lst (.cons (.v 2) .nil))) (.cons (.c (.int 0)) .nil))) (.seq (.asg (.nm 5) (.call iC (.cons (.v 0) (.cons (.v 1) .nil)) .nil [] [])) (.seq (.whl (.o2 .lt (.v 4) (.o1 .len (.v 3))) bfsS) (.seq (.ret (.o1 .sorted (.v 3))) .skip)))
theorem add_step {Φ : Phi} {st : Sto} {L : List Nat} {x : Nat} {s0 s1 s2 s4 s5 s6 s7 s8 s9 s10 : Option D} (hl : L.length ≤ 100000) :
    forB (.nm 8) (exS Φ addS) (.int x) [s0, s1, s2, some (.ref st.length), s4, s5, s6, s7, s8, s9, s10] (st ++ [.lst (nats L)]) =
      .ok (.next [s0, s1, s2, some (.ref st.length), s4, s5, s6, s7, some (.int x), s9, s10]) (st ++ [.lst (nats (addN L x))]) := by
  have c3 : sizeLine = 16777216 := rfl
  have h2 : f2 .notIn (.int x) (.ref st.length) (st ++ [.lst (nats L)]) = .ok (.bl (!decide (x ∈ L))) (st ++ [.lst (nats L)]) := notIn_natsR get_new
  have h3 : f2 .append (.ref st.length) (.int x) (st ++ [.lst (nats L)]) = .ok .non (st ++ [.lst (nats (L ++ [x]))]) := by
    have : (nats L).length < sizeLine := by rw [nats_len]; omega
    simp only [f2, get_new, set_new]
    rw [if_pos this]
    simp [nats]
  have ht : isTy .lst (st ++ [.lst (nats L)]) (.ref st.length) = true := by simp [isTy]
  have hbd : bindT (.nm 8) (.int x) [s0, s1, s2, some (.ref st.length), s4, s5, s6, s7, s8, s9, s10] = some [s0, s1, s2, some (.ref st.length), s4, s5, s6, s7, some (.int x), s9, s10] := by simp [bindT]
  unfold forB
  rw [hbd]
  by_cases ha : x ∈ L
  · have : addN L x = L := if_pos ha
    rw [this]
    simp [addS, exS, tst, ev, R.bind, R.of, truth, h2, ha]
  · have : addN L x = L ++ [x] := if_neg ha
    rw [this]
    simp only [addS, exS, tst, ev, R.bind, R.of, truth, List.getElem?_cons_zero, List.getElem?_cons_succ, h2, ha, ht, h3, decide_false, Bool.not_false, if_true]
theorem near_ev {Φ : Phi} {st : Sto} {ws : List Tx} {t : Tx} {c : Nat} {s0 s1 s2 s3 s4 s7 s8 s9 s10 : Option D} (hl : (edgs ws t).length ≤ 1000000) :
    ev Φ nearE [s0, s1, s2, s3, s4, some (.lst (sptD ws t)), some (.int c), s7, s8, s9, s10] st = .ok (.lst (nats (nearL (edgs ws t) c))) st := by
  have c3 : sizeLine = 16777216 := rfl
  have fl : ∀ (p q : Nat × Nat → Nat) (es : Ed), (es.flatMap fun e => if p e = c then [q e] else []).length ≤ es.length := by
    intro p q es
    induction es with
    | nil => simp
    | cons a r ih =>
      rw [List.flatMap_cons, List.length_append, List.length_cons]
      split
      · rw [List.length_singleton]; omega
      · rw [List.length_nil]; omega
  have hm : ∀ (p q : Nat × Nat → Nat) (es : Ed), nats (es.flatMap fun e => if p e = c then [q e] else []) = es.flatMap fun e => if ((p e : Nat) : Int) = c then [D.int (q e : Nat)] else [] := by
    intro p q es
    rw [nats, List.map_flatMap]
    refine congrArg (fun g => List.flatMap g _) (funext fun e => ?_)
    by_cases hz : p e = c
    · rw [if_pos hz, if_pos (by rw [hz])]; rfl
    · rw [if_neg hz, if_neg (by omega)]; rfl
  have h1 : ev Φ (.lc (.cons (.nm 9) (.cons (.nm 10) .nil)) (.v 5) (.o2 .eq (.v 9) (.v 6)) (.v 10)) [s0, s1, s2, s3, s4, some (.lst (sptD ws t)), some (.int c), s7, s8, s9, s10] st = .ok (.lst (nats ((edgs ws t).flatMap fun e => if e.1 = c then [e.2] else []))) st := by
    refine ev_lc (d := .lst (sptD ws t)) (st1 := st) (xs := sptD ws t) rfl rfl ?_ (by have := fl (·.1) (·.2) (edgs ws t); rw [nats_len]; omega)
    have hp := lcL_pure (gd := gdOf (.lst (sptD ws t)) st) (st := st) (bd := lcB (.cons (.nm 9) (.cons (.nm 10) .nil)) (wipeE [s0, s1, s2, s3, s4, some (.lst (sptD ws t)), some (.int c), s7, s8, s9, s10] [9, 10]) (tst Φ (.o2 .eq (.v 9) (.v 6))) (ev Φ (.v 10)))
      (fun x => match x with | .tup [.int a, .int b] => if a = c then [.int b] else [] | _ => []) rfl (sptD ws t) (fun x hx => by
        obtain ⟨e, _, rfl⟩ := List.mem_map.mp hx
        show _ = R.ok (if ((e.1 : Nat) : Int) = c then [D.int (e.2 : Nat)] else []) st
        by_cases hz : ((e.1 : Nat) : Int) = c
        · rw [if_pos hz]
          simp [lcB, bindT, bindTs, pr, tst, wipeE, ev, R.bind, R.of, f2, eqD, truth, hz]
        · rw [if_neg hz]
          simp [lcB, bindT, bindTs, pr, tst, wipeE, ev, R.bind, R.of, f2, eqD, truth, hz])
    refine hp.trans ?_
    congr 1
    rw [hm, sptD, List.flatMap_map]
    rfl
  have h2 : ev Φ (.lc (.cons (.nm 9) (.cons (.nm 10) .nil)) (.v 5) (.o2 .eq (.v 10) (.v 6)) (.v 9)) [s0, s1, s2, s3, s4, some (.lst (sptD ws t)), some (.int c), s7, s8, s9, s10] st = .ok (.lst (nats ((edgs ws t).flatMap fun e => if e.2 = c then [e.1] else []))) st := by
    refine ev_lc (d := .lst (sptD ws t)) (st1 := st) (xs := sptD ws t) rfl rfl ?_ (by have := fl (·.2) (·.1) (edgs ws t); rw [nats_len]; omega)
    have hp := lcL_pure (gd := gdOf (.lst (sptD ws t)) st) (st := st) (bd := lcB (.cons (.nm 9) (.cons (.nm 10) .nil)) (wipeE [s0, s1, s2, s3, s4, some (.lst (sptD ws t)), some (.int c), s7, s8, s9, s10] [9, 10]) (tst Φ (.o2 .eq (.v 10) (.v 6))) (ev Φ (.v 9)))
      (fun x => match x with | .tup [.int a, .int b] => if b = c then [.int a] else [] | _ => []) rfl (sptD ws t) (fun x hx => by
        obtain ⟨e, _, rfl⟩ := List.mem_map.mp hx
        show _ = R.ok (if ((e.2 : Nat) : Int) = c then [D.int (e.1 : Nat)] else []) st
        by_cases hz : ((e.2 : Nat) : Int) = c
        · rw [if_pos hz]
          simp [lcB, bindT, bindTs, pr, tst, wipeE, ev, R.bind, R.of, f2, eqD, truth, hz]
        · rw [if_neg hz]
          simp [lcB, bindT, bindTs, pr, tst, wipeE, ev, R.bind, R.of, f2, eqD, truth, hz])
    refine hp.trans ?_
    congr 1
    rw [hm, sptD, List.flatMap_map]
    rfl
  refine ev_o2 h1 h2 ?_
  have q1 := fl (·.1) (·.2) (edgs ws t)
  have q2 := fl (·.2) (·.1) (edgs ws t)
  have q3 : (nats ((edgs ws t).flatMap fun e => if e.1 = c then [e.2] else [])).length + (nats ((edgs ws t).flatMap fun e => if e.2 = c then [e.1] else [])).length ≤ sizeLine := by rw [nats_len, nats_len]; omega
  simp only [f2, top]
  rw [if_pos q3]
  rw [nearL, nats, nats, nats, List.map_append]
theorem edgs_len (ws : List Tx) (t : Tx) : (edgs ws t).length ≤ t.length * t.length := by
  have := rows_len (rowA ws t) t.length (rowA_len ws t) t.length
  rw [edgs_map, List.length_map] at this
  exact this
theorem nats_under (n : Nat) : ∀ xs : List Nat, unders n (nats xs) = true
  | [] => rfl
  | x :: r => by show (D.under _ _ && unders _ (nats r)) = true; rw [nats_under n r]; rfl
def ClassS (P : Pg) (i : Nat) : Prop := ∀ {k : Nat} {st : Sto} {ws : List Tx} {t : Tx} {c : Nat}, (∀ w ∈ ws, ∀ c ∈ w, c < 200) → (∀ c ∈ t, c < 200) → t.length ≤ 1000 → c ≤ t.length → run P (k + 2) i [.tup (ws.map .str), .str t, .int c] st = .ok (.lst (nats (clsL (edgs ws t) t.length c))) st
theorem class_of {P : Pg} {iC i : Nat} (hp : P i = some ⟨3, 11, false, classB iC⟩) (hC : CspotsS P iC) : ClassS P i := by
  intro k st ws t c hws ht hl hc
  have c3 : sizeLine = 16777216 := rfl
  have hel : (edgs ws t).length ≤ 1000000 := Nat.le_trans (edgs_len ws t) (Nat.mul_le_mul hl hl)
  obtain ⟨ρ, st2, e2, L, s4, s6, s7, s8, rfl, rfl, hL⟩ := whl_ok (c := tst (run P (k + 1)) (.o2 .lt (.v 4) (.o1 .len (.v 3)))) (b := exS (run P (k + 1)) bfsS)
    (fun m ρ st' => ∃ (L : List Nat) (q : Nat) (s6 s7 s8 : Option D), ρ = [some (.tup (ws.map .str)), some (.str t), some (.int c), some (.ref st.length), some (.int q), some (.lst (sptD ws t)), s6, s7, s8, none, none] ∧ st' = st ++ [.lst (nats L)] ∧ Bfs (edgs ws t) t.length c L q ∧ m = t.length + 1 - q)
    (fun ρ st' => ∃ (L : List Nat) (s4 s6 s7 s8 : Option D), ρ = [some (.tup (ws.map .str)), some (.str t), some (.int c), some (.ref st.length), s4, some (.lst (sptD ws t)), s6, s7, s8, none, none] ∧ st' = st ++ [.lst (nats L)] ∧ Bfs (edgs ws t) t.length c L L.length)
    (fun m ρ st' hI => by
      obtain ⟨L, q, s6, s7, s8, rfl, rfl, hB, rfl⟩ := hI
      have hL := hB.len
      have hlen : (nats L).length = L.length := nats_len L
      have hc1 : tst (run P (k + 1)) (.o2 .lt (.v 4) (.o1 .len (.v 3))) [some (.tup (ws.map .str)), some (.str t), some (.int c), some (.ref st.length), some (.int q), some (.lst (sptD ws t)), s6, s7, s8, none, none] (st ++ [.lst (nats L)]) = .ok (decide ((q : Int) < L.length)) (st ++ [.lst (nats L)]) := by
        simp [tst, ev, R.bind, R.of, f1, f2, ltF, truth, hlen]
      rw [hc1]
      by_cases hq : q < L.length
      · right
        rw [decide_eq_true (by omega)]
        have hx : L[q]? = some L[q] := List.getElem?_eq_getElem hq
        have hx2 : (nats L)[q]? = some (.int (L[q] : Nat)) := by rw [nats, List.getElem?_map, hx]; rfl
        have hB2 := hB.step (fun e he => edgs_le e he) hx
        obtain ⟨ρ3, st3, e3, s8', rfl, rfl⟩ := forL_ok (gd := gdOf (.lst (nats (nearL (edgs ws t) L[q]))) (st ++ [.lst (nats L)])) (bd := forB (.nm 8) (exS (run P (k + 1)) addS))
          (fun m ρ st' => ∃ s8, ρ = [some (.tup (ws.map .str)), some (.str t), some (.int c), some (.ref st.length), some (.int q), some (.lst (sptD ws t)), some (.int (L[q] : Nat)), some (.lst (nats (nearL (edgs ws t) L[q]))), s8, none, none] ∧ st' = st ++ [O.lst (nats (List.foldl addN L ((nearL (edgs ws t) L[q]).take m)))]) (nats (nearL (edgs ws t) L[q])) 0
          [some (.tup (ws.map .str)), some (.str t), some (.int c), some (.ref st.length), some (.int q), some (.lst (sptD ws t)), some (.int (L[q] : Nat)), some (.lst (nats (nearL (edgs ws t) L[q]))), s8, none, none] (st ++ [.lst (nats L)]) ⟨s8, rfl, rfl⟩ (fun _ _ _ _ => rfl)
          (fun m y hy ρ st' hI => by
            obtain ⟨s8, rfl, rfl⟩ := hI
            rw [nats, List.getElem?_map] at hy
            obtain ⟨x, hx, rfl⟩ := Option.map_eq_some_iff.mp hy
            have hln : (((nearL (edgs ws t) L[q]).take (0 + m)).foldl addN L).length ≤ 100000 := by
              have h1 := addF_nodup (xs := (nearL (edgs ws t) L[q]).take (0 + m)) hB.nd
              have := h1.length_le_of_subset (l₂ := List.range (t.length + 1)) fun x hx => List.mem_range.mpr (by
                have : x ∈ (nearL (edgs ws t) L[q]).foldl addN L := by
                  rcases addF_mem.mp hx with hx | hx
                  · exact addF_mem.mpr (.inl hx)
                  · exact addF_mem.mpr (.inr (List.mem_of_mem_take hx))
                have := (hB2.ok x this).1
                omega)
              rw [List.length_range] at this
              omega
            refine ⟨_, _, add_step hln, _, rfl, ?_⟩
            rw [Nat.zero_add, List.take_succ, hx, List.foldl_append]
            rfl)
        rw [Nat.zero_add, nats_len, List.take_length] at e3
        refine ⟨st ++ [.lst (nats L)], [some (.tup (ws.map .str)), some (.str t), some (.int c), some (.ref st.length), some (.int ((q + 1 : Nat) : Int)), some (.lst (sptD ws t)), some (.int (L[q] : Nat)), some (.lst (nats (nearL (edgs ws t) L[q]))), s8', none, none], _, t.length + 1 - (q + 1), rfl, ?_, by omega, _, _, _, _, _, rfl, rfl, hB2, rfl⟩
        refine ex_seq (ex_asg (d := .int (L[q] : Nat)) (st1 := st ++ [.lst (nats L)]) (ev_o2 (x := .ref st.length) (y := .int (q : Nat)) rfl rfl (ix_ref get_new hx2)) rfl) ?_
        refine ex_seq (ex_asg (near_ev hel) rfl) ?_
        refine ex_seq (ex_for (d := .lst (nats (nearL (edgs ws t) L[q]))) (st1 := st ++ [.lst (nats L)]) rfl rfl e3) ?_
        refine ex_seq (ex_asg (d := .int ((q + 1 : Nat) : Int)) (st1 := _) ?_ rfl) rfl
        simp [ev, R.bind, f2]
      · left
        rw [decide_eq_false (by omega)]
        have : q = L.length := by have := hB.le; omega
        subst this
        exact ⟨_, rfl, L, _, _, _, _, rfl, rfl, hB⟩)
    whlFuel (t.length + 1) [some (.tup (ws.map .str)), some (.str t), some (.int c), some (.ref st.length), some (.int 0), some (.lst (sptD ws t)), none, none, none, none, none] (st ++ [.lst (nats [c])]) (by have : whlFuel = 1000000 := rfl; omega)
    ⟨[c], 0, none, none, none, rfl, rfl, ⟨by simp, fun x hx => by rw [List.mem_singleton.mp hx]; exact ⟨hc, .refl _⟩, by simp, Nat.zero_le _, fun p x hp => absurd hp (by omega)⟩, rfl⟩
  have e1 : run P (k + 1) iC [.tup (ws.map .str), .str t] (st ++ [.lst (nats [c])]) = _ := hC hws ht hl
  have hb : exS (run P (k + 1)) (classB iC) [some (.tup (ws.map .str)), some (.str t), some (.int c), none, none, none, none, none, none, none, none] st = .ok (.ret (.lst (nats (clsL (edgs ws t) t.length c)))) (st ++ [.lst (nats L)]) := by
    refine ex_seq (st1 := st ++ [.lst (nats [c])]) (ρ' := [some (.tup (ws.map .str)), some (.str t), some (.int c), some (.ref st.length), some (.int 0), none, none, none, none, none, none]) ?_ ?_
    · simp [exS, ev, R.bind, bindTs, bindT, c3, nats]
    refine ex_seq (ex_asg (d := .lst (sptD ws t)) (ev_call2 rfl rfl e1) rfl) ?_
    refine ex_seq (ex_whl e2) ?_
    refine ex_ret (ev_o1 (x := .ref st.length) rfl ?_)
    have hz : lsq (st ++ [.lst (nats L)]) (.ref st.length) = some (nats L) := by
      unfold lsq top
      simp
    show R.of _ (((lsq _ (.ref st.length)).bind sortD).map D.lst) = _
    have hs : sortL (nats L) = nats (clsL (edgs ws t) t.length c) := sort_nats hL.nd (clsL_asc _ _ _) hL.fin
    rw [hz, Option.bind_some, sortD_nats, hs]
    rfl
  have hr : run P (k + 2) i [.tup (ws.map .str), .str t, .int c] st = gc st.length st (.lst (nats (clsL (edgs ws t) t.length c))) (st ++ [.lst (nats L)]) := run_ret hp rfl rfl hb
  have hu : (D.lst (nats (clsL (edgs ws t) t.length c))).under st.length = true := by rw [D.under]; exact nats_under _ _
  rw [hr, gc_tl (by simp) hu]
  rfl
/-! ### rows, cut by cut -/
def ableStep : S := .seq (.seti (.v 2) (.v 3) (.o2 .ne (.lc (.nm 4) (.range (.c (.int 0)) (.v 3)) (.ite (.o2 .ix (.v 2) (.v 4)) (.o2 .isIn (.o3 .slice (.v 1) (.o1 .idx (.v 4)) (.o1 .idx (.v 3))) (.v 0)) (.c (.bl false))) (.v 4)) (.lst .nil))) .skip
def lrowB : S := .seq (.asg (.nm 2) (.new (.o2 .add (.new (.lst (.cons (.c (.bl true)) .nil))) (.o2 .mul (.lst (.cons (.c (.bl false)) .nil)) (.o1 .len (.v 1)))))) (.seq (.for_ (.nm 3) (.range (.c (.int 1)) (.o2 .add (.o1 .len (.v 1)) (.c (.int 1)))) ableStep) (.seq (.ret (.o2 .ix (.v 2) (.o1 .neg (.c (.int 1))))) .skip))
def ableD (es : Ed) (n m : Nat) : List D := (List.range (n + 1)).map fun c => .bl (decide (c < m) && decide (c ∈ rchL es))
theorem ableD_len (es : Ed) (n m : Nat) : (ableD es n m).length = n + 1 := by rw [ableD, List.length_map, List.length_range]
theorem ableD_get {es : Ed} {n m c : Nat} (h : c ≤ n) : (ableD es n m)[c]? = some (.bl (decide (c < m) && decide (c ∈ rchL es))) := by
  rw [ableD, List.getElem?_map, List.getElem?_range (by omega)]
  rfl
theorem zero_rch (es : Ed) : 0 ∈ rchL es := rfold_mono (by simp)
theorem ableD_one (es : Ed) (n : Nat) : [D.bl true] ++ (List.replicate n [D.bl false]).flatten = ableD es n 1 := by
  rw [ableD, List.range_succ_eq_map, List.map_cons, List.map_map]
  rw [decide_eq_true (zero_rch es)]
  show D.bl true :: (List.replicate n [D.bl false]).flatten = D.bl true :: _
  congr 1
  · have : ∀ n, (List.replicate n [D.bl false]).flatten = List.replicate n (D.bl false) := by
      intro n
      induction n with
      | zero => rfl
      | succ n ih => rw [List.replicate_succ, List.flatten_cons, ih]; rfl
    rw [this]
    refine List.ext_getElem? fun i => ?_
    rw [List.getElem?_map, List.getElem?_replicate]
    by_cases hi : i < n
    · rw [if_pos hi, List.getElem?_range hi]
      simp
    · rw [if_neg hi, List.getElem?_eq_none (by rw [List.length_range]; omega)]
      rfl
theorem ableD_set {es : Ed} {n j : Nat} (hj : j ≤ n) {b : Bool} (hb : b = decide (j ∈ rchL es)) : (ableD es n j).set j (.bl b) = ableD es n (j + 1) := by
  refine List.ext_getElem? fun i => ?_
  by_cases hi : i ≤ n
  · rw [ableD_get hi]
    by_cases e : i = j
    · subst e
      rw [List.getElem?_set_self (by rw [ableD_len]; omega), hb, decide_eq_true (by omega : i < i + 1), Bool.true_and]
    · rw [List.getElem?_set_ne (by omega), ableD_get hi]
      by_cases h : i < j
      · rw [decide_eq_true h, decide_eq_true (by omega : i < j + 1)]
      · rw [decide_eq_false h, decide_eq_false (by omega : ¬ i < j + 1)]
  · rw [List.getElem?_eq_none (by rw [List.length_set, ableD_len]; omega), List.getElem?_eq_none (by rw [ableD_len]; omega)]
theorem eq_natsE {st : Sto} {xs : List Nat} : eqD st (.lst (nats xs)) (.lst []) = some (decide (xs = [])) := by
  show eqP st (.lst (nats xs)) (.lst []) = _
  obtain ⟨h1, h2⟩ := nats_cl xs
  rw [eqP_cl (a' := .lst (nats xs)) (b' := .lst []) rfl rfl h1 rfl (by rw [D.dp]; omega) (by decide)]
  cases xs <;> simp [nats]
theorem eq_one : eqD = eqD := rfl
end MP
end

section
set_option Elab.async false
set_option linter.all false
set_option maxRecDepth 100000
/-! MP: rows, cut by cut, whichever the program is. -/
namespace MP
open PySem
theorem able_lc {Φ : Phi} {s : Sto} {r m : Nat} {ws : List Tx} {t : Tx} (hs : s[r]? = some (.lst (ableD (edgs ws t) t.length (m + 1)))) (hm2 : m + 1 ≤ t.length) (hl : t.length ≤ 1000) (hws : ∀ w ∈ ws, ∀ c ∈ w, c < 200) (ht : ∀ c ∈ t, c < 200) :
    ev Φ (.lc (.nm 4) (.range (.c (.int 0)) (.v 3)) (.ite (.o2 .ix (.v 2) (.v 4)) (.o2 .isIn (.o3 .slice (.v 1) (.o1 .idx (.v 4)) (.o1 .idx (.v 3))) (.v 0)) (.c (.bl false))) (.v 4)) [some (.tup (ws.map .str)), some (.str t), some (.ref r), some (.int ((m + 1 : Nat) : Int)), none] s = .ok (.lst (nats ((List.range (m + 1)).flatMap fun a => if a ∈ rchL (edgs ws t) ∧ sl t a (m + 1) ∈ ws then [a] else []))) s := by
    have c3 : sizeLine = 16777216 := rfl
    have fl : ∀ l : List Nat, (l.flatMap fun a => if a ∈ rchL (edgs ws t) ∧ sl t a (m + 1) ∈ ws then [a] else []).length ≤ l.length := by
      intro l
      induction l with
      | nil => simp
      | cons a r ih =>
        rw [List.flatMap_cons, List.length_append, List.length_cons]
        split
        · rw [List.length_singleton]; omega
        · rw [List.length_nil]; omega
    have fl := fl (List.range (m + 1))
    rw [List.length_range] at fl
    refine ev_lc (d := .tup (rangeL 0 ((m + 1 : Nat) : Int))) (xs := rangeL 0 ((m + 1 : Nat) : Int)) (ev_range rfl rfl (by omega) (by omega) (by omega) (by omega)) rfl ?_ (by rw [nats_len]; omega)
    have hp := lcL_pure (gd := gdOf (.tup (rangeL 0 ((m + 1 : Nat) : Int))) s) (st := s) (bd := lcB (.nm 4) (wipeE [some (.tup (ws.map .str)), some (.str t), some (.ref r), some (.int ((m + 1 : Nat) : Int)), none] [4]) (tst Φ (.ite (.o2 .ix (.v 2) (.v 4)) (.o2 .isIn (.o3 .slice (.v 1) (.o1 .idx (.v 4)) (.o1 .idx (.v 3))) (.v 0)) (.c (.bl false)))) (ev Φ (.v 4)))
      (fun x => match x with | .int a => if a.toNat ∈ rchL (edgs ws t) ∧ sl t a.toNat (m + 1) ∈ ws then [.int a] else [] | _ => []) rfl (rangeL 0 ((m + 1 : Nat) : Int)) (fun x hx => by
        obtain ⟨a, ha⟩ := List.getElem?_of_mem hx
        obtain ⟨h1, rfl⟩ := rangeL_get ha
        have ha2 : a < m + 1 := by omega
        rw [Int.zero_add]
        show _ = R.ok (if (a : Int).toNat ∈ rchL (edgs ws t) ∧ sl t (a : Int).toNat (m + 1) ∈ ws then [D.int a] else []) _
        rw [Int.toNat_natCast]
        have i1 := ix_ref (a := a) hs (ableD_get (by omega))
        rw [decide_eq_true ha2, Bool.true_and] at i1
        have i2 : f3 .slice (.str t) (.int (a : Nat)) (.int ((m + 1 : Nat) : Int)) s = .ok (.str (sl t a (m + 1))) s := by
          simp only [f3, optI]
          rw [if_pos (by omega), cut_sl (by omega)]
        have i3 : f2 .isIn (.str (sl t a (m + 1))) (.tup (ws.map .str)) s = .ok (.bl (decide (sl t a (m + 1) ∈ ws))) s := by
          have e3 := in_strs (st := s) hws (t := sl t a (m + 1)) fun c hc => ht c (List.mem_of_mem_drop (List.mem_of_mem_take hc))
          simp [f2, dict?, e3, R.of]
        have i2' : f3 .slice (.str t) (.int (a : Nat)) (.int ((m : Int) + 1)) s = .ok (.str (sl t a (m + 1))) s := i2
        have i4 (i : Int) (s : Sto) : f1 .idx (.int i) s = .ok (.int i) s := rfl
        by_cases z1 : a ∈ rchL (edgs ws t)
        · by_cases z2 : sl t a (m + 1) ∈ ws
          · rw [if_pos ⟨z1, z2⟩]
            simp only [z1, z2, decide_true] at i1 i3
            simp only [lcB, bindT, tst, wipeE, ev, R.bind, R.of, List.getElem?_cons_zero, List.getElem?_cons_succ, List.length_cons, List.length_nil, List.set_cons_zero, List.set_cons_succ]
            simp [i1, i2', i3, i4, truth]
          · rw [if_neg fun z => z2 z.2]
            simp only [z1, z2, decide_true, decide_false] at i1 i3
            simp only [lcB, bindT, tst, wipeE, ev, R.bind, R.of, List.getElem?_cons_zero, List.getElem?_cons_succ, List.length_cons, List.length_nil, List.set_cons_zero, List.set_cons_succ]
            simp [i1, i2', i3, i4, truth]
        · rw [if_neg fun z => z1 z.1]
          simp only [z1, decide_false] at i1
          simp only [lcB, bindT, tst, wipeE, ev, R.bind, R.of, List.getElem?_cons_zero, List.getElem?_cons_succ, List.length_cons, List.length_nil, List.set_cons_zero, List.set_cons_succ]
          simp [i1, i2', i4, truth])
    refine hp.trans ?_
    congr 1
    have e9 : (((m + 1 : Nat) : Int) - 0).toNat = m + 1 := by omega
    rw [rangeL, e9, List.flatMap_map, nats, List.map_flatMap]
    refine congrArg (fun g => List.flatMap g _) (funext fun a => ?_)
    show (if (0 + (a : Int)).toNat ∈ rchL (edgs ws t) ∧ sl t (0 + (a : Int)).toNat (m + 1) ∈ ws then [D.int (0 + (a : Int))] else []) = _
    rw [Int.zero_add, Int.toNat_natCast]
    split <;> rfl
theorem able_q {ws : List Tx} {t : Tx} {m : Nat} (hm2 : m + 1 ≤ t.length) : (!decide (((List.range (m + 1)).flatMap fun a => if a ∈ rchL (edgs ws t) ∧ sl t a (m + 1) ∈ ws then [a] else []) = [])) = decide (m + 1 ∈ rchL (edgs ws t)) := by
  have hasc := edgs_asc ws t
  rw [Bool.eq_iff_iff, Bool.not_eq_true', decide_eq_false_iff_not, decide_eq_true_eq, rch_iff hasc, rea_iff (by omega)]
  constructor
  · intro h
    obtain ⟨a, ha⟩ := List.exists_mem_of_ne_nil _ h
    obtain ⟨q, hq, ha⟩ := List.mem_flatMap.mp ha
    rw [List.mem_range] at hq
    split at ha
    · rename_i hz
      exact ⟨q, rch_sound hz.1, mem_edgs.mpr ⟨hq, hm2, hz.2⟩⟩
    · simp at ha
  · rintro ⟨q, hq, he⟩ h
    obtain ⟨h1, h2, h3⟩ := mem_edgs.mp he
    have : q ∈ ((List.range (m + 1)).flatMap fun a => if a ∈ rchL (edgs ws t) ∧ sl t a (m + 1) ∈ ws then [a] else []) := List.mem_flatMap.mpr ⟨q, List.mem_range.mpr h1, by
      rw [if_pos ⟨rch_full hasc hq, h3⟩]
      exact List.mem_singleton_self _⟩
    rw [h] at this
    exact absurd this (by simp)
theorem ex_seti {Φ : Phi} {ρ : Env} {st st1 st2 st3 st4 : Sto} {o i e : E} {d x y : D} (h1 : ev Φ e ρ st = .ok d st1) (h2 : ev Φ o ρ st1 = .ok x st2) (h3 : ev Φ i ρ st2 = .ok y st3) (h4 : setR x y d st3 = some st4) : exS Φ (.seti o i e) ρ st = .ok (.next ρ) st4 := by
  simp [exS, R.bind, h1, h2, h3, h4]
theorem ex_last {Φ : Phi} {ρ ρ' : Env} {st st1 : Sto} {a : S} (h : exS Φ a ρ st = .ok (.next ρ') st1) : exS Φ (.seq a .skip) ρ st = .ok (.next ρ') st1 := by
  simp [exS, h]
theorem forB_ok {t : T} {b : Env → Sto → RS} {x : D} {ρ ρ' : Env} {st : Sto} {r : RS} (h : bindT t x ρ = some ρ') (h2 : b ρ' st = r) : forB t b x ρ st = r := by
  unfold forB
  rw [h]
  exact h2
theorem ex_guard {Φ : Phi} {ρ : Env} {st st1 : Sto} {c : E} {a r : S} {x : RS} (h : tst Φ c ρ st = .ok false st1) (h2 : exS Φ r ρ st1 = x) : exS Φ (.seq (.ite c a .skip) r) ρ st = x := by
  rw [exS, exS, h]
  exact h2
theorem ev_iteT {Φ : Phi} {ρ : Env} {st st1 : Sto} {c x y : E} {r : R D} (h : ev Φ c ρ st = .ok (.bl true) st1) (h2 : ev Φ x ρ st1 = r) : ev Φ (.ite c x y) ρ st = r := by
  rw [ev, h]
  exact h2
theorem ev_iteF {Φ : Phi} {ρ : Env} {st st1 : Sto} {c x y : E} {r : R D} (h : ev Φ c ρ st = .ok (.bl false) st1) (h2 : ev Φ y ρ st1 = r) : ev Φ (.ite c x y) ρ st = r := by
  rw [ev, h]
  exact h2
theorem tst_of {Φ : Phi} {ρ : Env} {st st1 : Sto} {c : E} {b : Bool} (h : ev Φ c ρ st = .ok (.bl b) st1) : tst Φ c ρ st = .ok b st1 := by
  rw [tst, h]
  rfl
def LRowS (P : Pg) (i : Nat) : Prop := ∀ {k : Nat} {st : Sto} {ws : List Tx} {t : Tx}, (∀ w ∈ ws, ∀ c ∈ w, c < 200) → (∀ c ∈ t, c < 200) → t.length ≤ 1000 → run P (k + 1) i [.tup (ws.map .str), .str t] st = .ok (.bl (rowQ ws t)) st
theorem lrow_of {P : Pg} {i : Nat} (hp : P i = some ⟨2, 5, false, lrowB⟩) : LRowS P i := by
  intro k st ws t hws ht hl
  have c3 : sizeLine = 16777216 := rfl
  have hl2 : t.length ≤ 16777216 := by omega
  have hasc := edgs_asc ws t
  have gn (xs : List D) : (st ++ [O.lst [.bl true]] ++ [O.lst xs])[st.length + 1]? = some (.lst xs) := by
    rw [List.getElem?_append_right (by simp)]
    simp
  have sn (xs ys : List D) : (st ++ [O.lst [.bl true]] ++ [O.lst xs]).set (st.length + 1) (O.lst ys) = st ++ [O.lst [.bl true]] ++ [O.lst ys] := by
    rw [List.set_append_right _ _ (by simp)]
    simp
  obtain ⟨ρ, st2, e2, p3, rfl, rfl⟩ := forL_ok (gd := gdOf (.tup (rangeL 1 (t.length + 1))) (st ++ [O.lst [.bl true]] ++ [O.lst (ableD (edgs ws t) t.length 1)])) (bd := forB (.nm 3) (exS (run P k) ableStep))
    (fun m ρ st' => ∃ p3 : Option D, ρ = [some (.tup (ws.map .str)), some (.str t), some (.ref (st.length + 1)), p3, none] ∧ st' = st ++ [O.lst [.bl true]] ++ [O.lst (ableD (edgs ws t) t.length (m + 1))]) (rangeL 1 (t.length + 1)) 0
    [some (.tup (ws.map .str)), some (.str t), some (.ref (st.length + 1)), none, none] (st ++ [O.lst [.bl true]] ++ [O.lst (ableD (edgs ws t) t.length 1)]) ⟨none, rfl, rfl⟩ (fun _ _ _ _ => rfl)
    (fun m y hy ρ st' hI => by
      obtain ⟨p3, rfl, rfl⟩ := hI
      obtain ⟨hm, rfl⟩ := rangeL_get hy
      have hm2 : m + 1 ≤ t.length := by omega
      have ej : ((1 : Int) + m) = ((m + 1 : Nat) : Int) := by omega
      rw [ej, Nat.zero_add]
      refine ⟨_, _, ?_, some (.int ((m + 1 : Nat) : Int)), rfl, rfl⟩
      have hlc := able_lc (Φ := run P k) (gn (ableD (edgs ws t) t.length (m + 1))) hm2 hl hws ht
      have hne : ev (run P k) (.o2 .ne (.lc (.nm 4) (.range (.c (.int 0)) (.v 3)) (.ite (.o2 .ix (.v 2) (.v 4)) (.o2 .isIn (.o3 .slice (.v 1) (.o1 .idx (.v 4)) (.o1 .idx (.v 3))) (.v 0)) (.c (.bl false))) (.v 4)) (.lst .nil)) [some (.tup (ws.map .str)), some (.str t), some (.ref (st.length + 1)), some (.int ((m + 1 : Nat) : Int)), none] (st ++ [O.lst [.bl true]] ++ [O.lst (ableD (edgs ws t) t.length (m + 1))]) = .ok (.bl (decide (m + 1 ∈ rchL (edgs ws t)))) (st ++ [O.lst [.bl true]] ++ [O.lst (ableD (edgs ws t) t.length (m + 1))]) := by
        refine ev_o2 hlc (y := .lst []) (st2 := st ++ [O.lst [.bl true]] ++ [O.lst (ableD (edgs ws t) t.length (m + 1))]) ?_ ?_
        · simp [ev, R.bind, c3]
        · simp only [f2, eq_natsE, R.of, Option.map]
          rw [able_q hm2]
      have hset : setR (.ref (st.length + 1)) (.int ((m + 1 : Nat) : Int)) (.bl (decide (m + 1 ∈ rchL (edgs ws t)))) (st ++ [O.lst [.bl true]] ++ [O.lst (ableD (edgs ws t) t.length (m + 1))]) = some (st ++ [O.lst [.bl true]] ++ [O.lst (ableD (edgs ws t) t.length (m + 1 + 1))]) := by
        have h1 : ixN (ableD (edgs ws t) t.length (m + 1)).length ((m + 1 : Nat) : Int) = some (m + 1) := by
          rw [ableD_len, ixN, if_pos (by omega), if_pos (by omega), Int.toNat_natCast]
        simp only [setR, gn, h1, Option.map, sn]
        rw [ableD_set hm2 rfl]
      have hbd : bindT (.nm 3) (.int ((m + 1 : Nat) : Int)) [some (.tup (ws.map .str)), some (.str t), some (.ref (st.length + 1)), p3, none] = some [some (.tup (ws.map .str)), some (.str t), some (.ref (st.length + 1)), some (.int ((m + 1 : Nat) : Int)), none] := by simp [bindT]
      exact forB_ok hbd (ex_last (ex_seti hne rfl rfl hset)))
  have e9 : ((t.length : Int) + 1 - 1).toNat = t.length := by omega
  rw [rangeL_len, e9, Nat.zero_add] at e2
  have hb : exS (run P k) lrowB [some (.tup (ws.map .str)), some (.str t), none, none, none] st = .ok (.ret (.bl (rowQ ws t))) (st ++ [O.lst [.bl true]] ++ [O.lst (ableD (edgs ws t) t.length (t.length + 1))]) := by
    refine ex_seq (ex_asg (d := .ref (st.length + 1)) (st1 := st ++ [O.lst [.bl true]] ++ [O.lst (ableD (edgs ws t) t.length 1)]) (ρ' := [some (.tup (ws.map .str)), some (.str t), some (.ref (st.length + 1)), none, none]) ?_ rfl) ?_
    · have hl3 : 1 + t.length ≤ 16777216 := by omega
      have hl4 : (t.length : Int) < 9223372036854775808 := by omega
      have hl5 : (-9223372036854775808 : Int) ≤ t.length := by omega
      have := ableD_one (edgs ws t) t.length
      have hfl : (List.replicate t.length [D.bl false]).flatten.length = t.length := by simp
      simp [ev, R.bind, f1, f2, c3, hl2, top, hl3, hl4, hl5, hfl]
      rw [← this]
      simp
    refine ex_seq (ex_for (d := .tup (rangeL 1 (t.length + 1))) (xs := rangeL 1 (t.length + 1)) ?_ rfl e2) ?_
    · refine ev_range (i := 1) rfl ?_ (by omega) (by omega) (by omega) (by omega)
      simp [ev, R.bind, f1, f2, c3, hl2]
    · refine ex_ret (ev_o2 (x := .ref (st.length + 1)) (y := .int (-1)) rfl rfl ?_)
      have h1 : ixN (ableD (edgs ws t) t.length (t.length + 1)).length (-1) = some t.length := by
        rw [ableD_len, ixN, if_neg (by decide), if_pos (by omega)]
        exact congrArg some (by omega)
      simp only [f2, dict?, sq, gn, h1, R.of, Option.bind_some, ableD_get (Nat.le_refl _)]
      rw [decide_eq_true (by omega : t.length < t.length + 1), Bool.true_and]
      rfl
  have hr : run P (k + 1) i [.tup (ws.map .str), .str t] st = gc st.length st (.bl (rowQ ws t)) (st ++ [O.lst [.bl true]] ++ [O.lst (ableD (edgs ws t) t.length (t.length + 1))]) := run_ret hp rfl rfl hb
  rw [hr, List.append_assoc, gc_tl (by simp) rfl]
  rfl
end MP
end

section
set_option Elab.async false
set_option linter.all false
set_option maxRecDepth 100000
/-! MP: the second family's deck and what is drawn of it. -/
namespace MP
open PySem
def kC : D := .str [99, 101, 108, 108, 115]
def kS : D := .str [115, 116, 105, 114, 114, 101, 100]
def dk2 (r : List Int) (m d : Int) : Sto := [.lst (r.map .int), .dic [kC, kS, kD] [.ref 0, .int m, .int d]]
def Dk2 (tl : Sto) (n : Nat) (st : Sto) : Prop := ∃ r m d, r.length ≤ 64 ∧ 0 ≤ d ∧ d ≤ (n : Int) ∧ st = dk2 r m d ++ tl
theorem Dk2.len {tl : Sto} {n : Nat} {st : Sto} (h : Dk2 tl n st) : st.length = 2 + tl.length := by
  obtain ⟨r, m, d, _, _, _, rfl⟩ := h
  simp [dk2]
  omega
theorem Dk2.mono {tl : Sto} {n n' : Nat} {st : Sto} (h : Dk2 tl n st) (hn : n ≤ n') : Dk2 tl n' st := by
  obtain ⟨r, m, d, a, b, c, e⟩ := h
  exact ⟨r, m, d, a, b, by omega, e⟩
theorem Dk2.push {tl : Sto} {n : Nat} {st : Sto} (o : O) (h : Dk2 tl n st) : Dk2 (tl ++ [o]) n (st ++ [o]) := by
  obtain ⟨r, m, d, a, b, c, rfl⟩ := h
  exact ⟨r, m, d, a, b, c, List.append_assoc ..⟩
theorem Dk2.split {tl : Sto} {n : Nat} {st : Sto} {o : O} (h : Dk2 (tl ++ [o]) n st) : ∃ st0, st = st0 ++ [o] ∧ Dk2 tl n st0 := by
  obtain ⟨r, m, d, a, b, c, rfl⟩ := h
  exact ⟨dk2 r m d ++ tl, (List.append_assoc ..).symm, r, m, d, a, b, c, rfl⟩
theorem Dk2.old {tl : Sto} {n n' : Nat} {st st' : Sto} (h : Dk2 tl n st) (h' : Dk2 tl n' st') : oldOk st.length st st' = true := by
  have hl := h.len
  obtain ⟨r, m, d, a, b, c, rfl⟩ := h
  obtain ⟨r', m', d', a', b', c', rfl⟩ := h'
  unfold oldOk
  rw [List.all_eq_true]
  intro i hi
  match i with
  | 0 => simp [dk2, O.under, ints_under]
  | 1 => simp [dk2, O.under, unders, D.under, kC, kS, kD]
  | i + 2 => simp [dk2]
def dkB : DK := ⟨1, 2, Dk2, Dk2.len, Dk2.mono, Dk2.push, Dk2.split, Dk2.old⟩
theorem eq_rest2 {st : Sto} {r : List Int} (h : st[0]? = some (.lst (r.map .int))) : eqD st (.ref 0) (.lst []) = some (decide (r = [])) := by
  show eqP st (.ref 0) (.lst []) = _
  have ht : top st (.ref 0) = .lst (r.map .int) := by show (match st[0]? with | some (.lst xs) => D.lst xs | _ => .ref 0) = _; rw [h]
  have hd : dps (r.map .int) ≤ 60 := dps_le fun x hx => by
    obtain ⟨i, _, rfl⟩ := List.mem_map.mp hx
    exact Nat.zero_le _
  have hd2 : (D.lst (r.map .int)).dp ≤ 64 := by rw [D.dp]; omega
  rw [eqP_cl (b' := .lst []) ht rfl (by rw [D.cl, cls_all]; intro x hx; obtain ⟨i, _, rfl⟩ := List.mem_map.mp hx; rfl) rfl hd2 (by decide)]
  cases r <;> simp
def drawB2 (c1 c2 c3 : Int) : S := .seq (.seti (.v 0) (.c (.str [100, 114, 97, 119, 115])) (.o2 .add (.o2 .ix (.v 0) (.c (.str [100, 114, 97, 119, 115]))) (.c (.int 1)))) (.seq (.par (.cons (.nm 2) (.cons (.nm 3) .nil)) (.cons (.o2 .ix (.v 0) (.c (.str [100, 114, 97, 119, 115]))) (.cons (.o2 .ix (.v 0) (.c (.str [115, 116, 105, 114, 114, 101, 100]))) .nil))) (.seq (.ite (.o2 .ne (.o2 .ix (.v 0) (.c (.str [99, 101, 108, 108, 115]))) (.lst .nil)) (.seq (.asg (.nm 4) (.m1 .lst .pop (.o2 .ix (.v 0) (.c (.str [99, 101, 108, 108, 115]))))) (.seq (.ite (.o2 .ge (.v 4) (.o2 .pow (.c (.int 10)) (.c (.int 18)))) (.seq (.ex (.m2 .lst .append (.o2 .ix (.v 0) (.c (.str [99, 101, 108, 108, 115]))) (.o2 .fdiv (.v 4) (.v 1)))) (.seq (.ret (.o2 .mod (.o1 .int (.v 4)) (.v 1))) .skip)) .skip) (.seq (.asg (.nm 3) (.o2 .add (.v 3) (.o2 .mod (.o1 .int (.v 4)) (.c (.int 2147483629))))) .skip))) .skip) (.seq (.asg (.nm 3) (.o2 .mod (.o2 .mul (.o1 .int (.o2 .add (.o2 .add (.o2 .mod (.v 3) (.c (.int 2147483629))) (.o2 .mul (.o2 .mul (.c (.int c1)) (.v 2)) (.v 2))) (.c (.int c2)))) (.c (.int 39373))) (.c (.int 2147483647)))) (.seq (.asg (.nm 3) (.o2 .mod (.o1 .int (.o2 .add (.o2 .add (.o2 .mul (.v 3) (.v 3)) (.o2 .mul (.c (.int 40692)) (.v 2))) (.c (.int c3)))) (.c (.int 2147483579)))) (.seq (.ret (.o2 .mod (.o2 .fdiv (.o2 .mod (.o1 .int (.o2 .mul (.v 3) (.c (.int 48271)))) (.c (.int 2147483549))) (.c (.int 64))) (.v 1))) .skip)))))
theorem draw_body2 (Φ : Phi) {q1 q2 q3 : Int} (s1 : small q1 = true) {tl : Sto} {b m d : Int} {r : List Int} (hr : r.length ≤ 64) (ht : small (d + 1) = true) (hb : 0 < b) (hb2 : b < 1073741824) :
    ∃ (y : Int) (q : List Int), q.length ≤ 64 ∧ exS Φ (drawB2 q1 q2 q3) [some (.ref 1), some (.int b), none, none, none] (dk2 r m d ++ tl) = .ok (.ret (.int (y % b))) (dk2 q m (d + 1) ++ tl) := by
  have s2 : small 40692 = true := by decide
  have s3 : small 39373 = true := by decide
  have s4 : small 48271 = true := by decide
  have s5 (x : Int) : small (x % 2147483647) = true := small_mod x _ (by decide) (by decide)
  have s6 : sizeLine = 16777216 := rfl
  rcases List.eq_nil_or_concat r with rfl | ⟨q, c, rfl⟩
  · have er : eqD (dk2 [] m (d + 1) ++ tl) (.ref 0) (.lst []) = some (decide (([] : List Int) = [])) := eq_rest2 rfl
    simp only [dk2, kC, kS, kD, List.map_nil, List.cons_append, List.nil_append] at er
    simp [drawB2, exS, ev, tst, R.bind, R.of, truth, f1, f2, bindT, bindTs, setR, dict?, isKey, look, putK, putV, dk2, kC, kS, kD, s1, s2, s3, s4, s5, ht, hb, er, s6]
    exact ⟨_, rfl⟩
  · rw [List.concat_eq_append] at hr ⊢
    have hq : q.length < 64 := by rw [List.length_append] at hr; simp at hr; omega
    have er : eqD (dk2 (q ++ [c]) m (d + 1) ++ tl) (.ref 0) (.lst []) = some (decide ((q ++ [c]) = [])) := eq_rest2 rfl
    simp only [dk2, kC, kS, kD, List.map_nil, List.cons_append, List.nil_append, List.map_append, List.map_cons] at er
    have hq2 : q.length < 16777216 := by omega
    by_cases hc : c < 1000000000000000000
    · simp [drawB2, exS, ev, tst, R.bind, R.of, truth, f1, f2, bindT, bindTs, setR, dict?, isKey, look, putK, putV, dk2, kC, kS, kD, s1, s2, s3, s4, s5, ht, hb, er, s6, isTy, ltF, hc]
      exact ⟨_, q, by omega, rfl, rfl⟩
    · simp [drawB2, exS, ev, tst, R.bind, R.of, truth, f1, f2, bindT, bindTs, setR, dict?, isKey, look, putK, putV, dk2, kC, kS, kD, s1, s2, s3, s4, s5, ht, hb, er, s6, isTy, ltF, hc, hq2, hb2]
      exact ⟨_, q ++ [c / b], by simp; omega, rfl, by simp⟩
theorem drawB_of {P : Pg} {i : Nat} {q1 q2 q3 : Int} (hp : P i = some ⟨2, 5, false, drawB2 q1 q2 q3⟩) (s1 : small q1 = true) : DrawS dkB P i := by
  intro k tl n st b h hn hb hb2
  change Dk2 tl n st at h
  show ∃ (x : Int) (st' : Sto), run P (k + 1) i [.ref 1, .int b] st = .ok (.int x) st' ∧ 0 ≤ x ∧ x < b ∧ Dk2 tl (n + 1) st'
  have hD := h
  obtain ⟨r, m, d, hr, h0, h1, rfl⟩ := h
  have hd : d + 1 < 2 ^ 64 := by
    have : (n : Int) < 2 ^ 40 := by exact_mod_cast hn
    omega
  obtain ⟨y, q, hq, e⟩ := draw_body2 (run P k) (tl := tl) (m := m) s1 hr (small_pos (by omega) hd) hb hb2
  have hD' : Dk2 tl (n + 1) (dk2 q m (d + 1) ++ tl) := ⟨q, m, d + 1, hq, by omega, by omega, rfl⟩
  refine ⟨y % b, dk2 q m (d + 1) ++ tl, ?_, Int.emod_nonneg y (Int.ne_of_gt hb), Int.emod_lt_of_pos y hb, hD'⟩
  exact (run_ret hp rfl rfl e).trans (gc_eq (by rw [hD'.len, hD.len]))
def deckB (c1 c2 : Int) : S := .seq (.par (.cons (.nm 1) (.cons (.nm 2) .nil)) (.cons (.o1 .list (.o3 .slice (.v 0) (.c .non) (.o1 .idx (.c (.int 63))))) (.cons (.c (.int c1)) .nil))) (.seq (.for_ (.nm 3) (.v 1) (.seq (.asg (.nm 2) (.o2 .mod (.o1 .int (.o2 .add (.o2 .add (.o2 .mul (.v 2) (.c (.int 40014))) (.o2 .mod (.o1 .int (.v 3)) (.c (.int 2147483563)))) (.c (.int c2)))) (.c (.int 2147483587)))) .skip)) (.seq (.ret (.newd (.dic [.str [99, 101, 108, 108, 115], .str [115, 116, 105, 114, 114, 101, 100], .str [100, 114, 97, 119, 115]] (.cons (.new (.o1 .rev (.v 1))) (.cons (.v 2) (.cons (.c (.int 0)) .nil)))))) .skip))
theorem deckB_of {P : Pg} {i : Nat} {q1 q2 : Int} (hp : P i = some ⟨1, 4, true, deckB q1 q2⟩) {k : Nat} {ns : List Int} (h : ns.length ≤ 63) : ∃ st', run P (k + 1) i [.rol (ns.map .int)] [] = .ok (.ref 1) st' ∧ Dk2 [] 0 st' := by
  have s1 : small 40014 = true := by decide
  have hc : cut (ns.map D.int) none (some 63) = ns.map D.int := cut_all (by simpa using h)
  obtain ⟨ρ, st2, e2, v, q, rfl, rfl⟩ := forL_ok (gd := gdOf (.lst (ns.map .int)) []) (bd := forB (.nm 3) (exS (run P k) (.seq (.asg (.nm 2) (.o2 .mod (.o1 .int (.o2 .add (.o2 .add (.o2 .mul (.v 2) (.c (.int 40014))) (.o2 .mod (.o1 .int (.v 3)) (.c (.int 2147483563)))) (.c (.int q2)))) (.c (.int 2147483587)))) .skip)))
    (fun m ρ st => ∃ (v : Int) (q : Option D), ρ = [some (.rol (ns.map .int)), some (.lst (ns.map .int)), some (.int v), q] ∧ st = []) (ns.map .int) 0 [some (.rol (ns.map .int)), some (.lst (ns.map .int)), some (.int q1), none] [] ⟨_, _, rfl, rfl⟩ (fun _ _ _ _ => rfl)
    (fun i2 y hy ρ st hI => by
      obtain ⟨v, q, rfl, rfl⟩ := hI
      obtain ⟨z, _, rfl⟩ := List.mem_map.mp (List.mem_of_getElem? hy)
      refine ⟨_, _, ?_, (v * 40014 + z % 2147483563 + q2) % 2147483587, some (.int z), rfl, rfl⟩
      simp [forB, bindT, exS, ev, R.bind, f1, f2, s1])
  have hb : exS (run P k) (deckB q1 q2) [some (.rol (ns.map .int)), none, none, none] [] = .ok (.ret (.ref 1)) (dk2 ns.reverse v 0) := by
    refine ex_seq (ρ' := [some (.rol (ns.map .int)), some (.lst (ns.map .int)), some (.int q1), none]) (st1 := []) ?_ ?_
    · simp [exS, ev, R.bind, R.of, f1, f3, optI, sq, hc, bindTs, bindT]
    refine ex_seq (ex_for (d := .lst (ns.map .int)) (st1 := []) (xs := ns.map .int) rfl rfl e2) ?_
    refine ex_ret ?_
    simp only [ev, R.bind, R.of, f1, f3, optI, sq, List.getElem?_cons_zero, List.getElem?_cons_succ, Option.map_some, top, List.length_nil, List.nil_append, List.length_cons, List.cons_append]
    simp [dk2, kC, kS, kD, isKey]
  have hr : run P (k + 1) i [.rol (ns.map .int)] [] = .ok (.ref 1) (dk2 ns.reverse v 0) := run_keep hp rfl rfl hb
  exact ⟨_, hr, ns.reverse, v, 0, by rw [List.length_reverse]; omega, by omega, by omega, (List.append_nil _).symm⟩
/-! ### drawn of a text -/
def PickT (X : DK) (P : Pg) (i : Nat) : Prop := ∀ {k : Nat} {tl : Sto} {n : Nat} {st : Sto} {S : Tx}, S ≠ [] → S.length < 1000 → X.I tl n st → n < 2 ^ 40 →
    ∃ (c : Nat) (st' : Sto), run P (k + 2) i [.ref X.rf, .str S] st = .ok (.str [c]) st' ∧ c ∈ S ∧ X.I tl (n + 1) st'
theorem pickt_of {X : DK} {P : Pg} {iD i : Nat} (hp : P i = some ⟨2, 2, false, pickB iD⟩) (hD : DrawS X P iD) : PickT X P i := by
  intro k tl n st S hx hl h hn
  have hp0 : 0 < S.length := List.length_pos_iff.mpr hx
  obtain ⟨x, st1, e, h1, h2, h3⟩ := hD (k := k) (b := (S.length : Int)) h hn (by omega) (by omega)
  have hx2 : x.toNat < S.length := by omega
  refine ⟨S[x.toNat], st1, ?_, List.getElem_mem _, h3⟩
  have hg : S[x.toNat]? = some S[x.toNat] := List.getElem?_eq_getElem hx2
  have c3 : sizeLine = 16777216 := rfl
  have hl2 : S.length ≤ 16777216 := by omega
  have hb : exS (run P (k + 1)) (pickB iD) [some (.ref X.rf), some (.str S)] st = .ok (.ret (.str [S[x.toNat]])) st1 := by
    simp [pickB, exS, ev, R.bind, R.of, f1, f2, pick, e, ixN, h1, h2, hg, c3, hl2]
  exact (run_ret hp rfl rfl hb).trans (gc_eq (by rw [X.len h3, X.len h]))
/-- so many signs drawn, one behind the other -/
theorem signs_lc {X : DK} {P : Pg} {iP : Nat} (hT : PickT X P iP) {k n sv tv m v : Nat} {tl : Sto} {st : Sto} {S : Tx} {ρ : Env} (hS : S ≠ []) (hS2 : S.length < 1000) (hm : m ≤ 1000)
    (h : X.I tl n st) (hn : n < 2 ^ 39) (hz : ρ[sv]? = some (some (.int m))) (h8 : tv < ρ.length) (hr : ∀ x : Option D, ((ρ.set tv none).set tv x)[0]? = some (some (.ref X.rf))) (hs : ∀ x : Option D, ((ρ.set tv none).set tv x)[v]? = some (some (.str S))) :
    ∃ (t : Tx) (st' : Sto), ev (run P (k + 2)) (.m2 .str .join (.c (.str [])) (.lc (.nm tv) (.range (.c (.int 0)) (.v sv)) (.c (.bl true)) (.call iP (.cons (.v 0) (.cons (.v v) .nil)) .nil [] []))) ρ st = .ok (.str t) st' ∧ t.length = m ∧ (∀ c ∈ t, c ∈ S) ∧ X.I tl (n + m) st' := by
  have c3 : sizeLine = 16777216 := rfl
  obtain ⟨zs, st2, e2, t, ez, ht, hc, hD⟩ := lcL_ok (gd := gdOf (.tup (rangeL 0 m)) st) (bd := lcB (.nm tv) (wipeE ρ [tv]) (tst (run P (k + 2)) (.c (.bl true))) (ev (run P (k + 2)) (.call iP (.cons (.v 0) (.cons (.v v) .nil)) .nil [] [])))
    (fun q ys st => ∃ t : Tx, ys = chars t ∧ t.length = q ∧ (∀ c ∈ t, c ∈ S) ∧ X.I tl (n + q) st) (rangeL 0 m) 0 [] st ⟨[], rfl, rfl, by simp, h⟩ (fun _ _ _ _ => rfl)
    (fun q y hy ys st hI => by
      obtain ⟨t, e1, e2, e3, e4⟩ := hI
      subst e1
      have hi2 := (rangeL_get hy).1
      obtain ⟨c, st2, e5, hc, e7⟩ := hT (k := k) hS hS2 e4 (by omega)
      have hb : bindT (.nm tv) y (wipeE ρ [tv]) = some ((ρ.set tv none).set tv (some y)) := by
        rw [bindT, wipeE, wipeE, if_pos (by rw [List.length_set]; exact h8)]
      have hv : ev (run P (k + 2)) (.call iP (.cons (.v 0) (.cons (.v v) .nil)) .nil [] []) ((ρ.set tv none).set tv (some y)) st = .ok (.str [c]) st2 := ev_call2 (by rw [ev, hr]) (by rw [ev, hs]) e5
      refine ⟨[.str [c]], st2, ?_, t ++ [c], by simp [chars], by simp [e2], ?_, e7⟩
      · rw [lcB, hb]
        show R.bind (tst _ _ _ _) _ = _
        rw [tst_of (b := true) (st1 := st) rfl]
        show R.bind (ev _ _ _ _) _ = _
        rw [hv]
      · intro z hz
        rcases List.mem_append.mp hz with z1 | z1
        · exact e3 z z1
        · rw [List.mem_singleton.mp z1]; exact hc)
  rw [List.nil_append] at ez
  subst ez
  rw [rangeL_len] at ht hD
  have e9 : 0 + ((m : Int) - 0).toNat = m := by omega
  rw [e9] at ht hD
  refine ⟨t, st2, ?_, ht, hc, hD⟩
  refine ev_m2 (x := .str []) rfl rfl (y := .lst (chars t)) (st2 := st2) ?_ ?_
  refine ev_lc (d := .tup (rangeL 0 m)) (st1 := st) (xs := rangeL 0 m) ?_ rfl e2 ?_
  · exact ev_range rfl (by rw [ev, hz]) (by omega) (by omega) (by omega) (by omega)
  · simp [chars]; omega
  · have hs : ((t.map fun c => [c]).map List.length).sum + (t.map fun c => [c]).length * List.length ([] : Tx) ≤ 16777216 := by
      rw [sum_one]; simp; omega
    simp only [f2, sq, Option.bind_some, texts_chars]
    rw [if_pos hs, joinL_nil]
end MP
end

section
set_option Elab.async false
set_option linter.all false
set_option maxRecDepth 100000
/-! MP: lists, words and planted words of the second family. -/
namespace MP
open PySem
theorem ex_retT {Φ : Phi} {ρ : Env} {st st1 st2 : Sto} {c : E} {a b r : S} {d : D} (h : tst Φ c ρ st = .ok true st1) (h2 : exS Φ a ρ st1 = .ok (.ret d) st2) : exS Φ (.seq (.ite c a b) r) ρ st = .ok (.ret d) st2 := by
  rw [exS, exS, h]
  dsimp only
  rw [h2]
theorem ex_thenT {Φ : Phi} {ρ ρ' : Env} {st st1 st2 : Sto} {c : E} {a b r : S} {x : RS} (h : tst Φ c ρ st = .ok true st1) (h2 : exS Φ a ρ st1 = .ok (.next ρ') st2) (h3 : exS Φ r ρ' st2 = x) : exS Φ (.seq (.ite c a b) r) ρ st = x := by
  rw [exS, exS, h]
  dsimp only
  rw [h2]
  exact h3
theorem ev_lst1 {Φ : Phi} {ρ : Env} {st st1 : Sto} {a : E} {x : D} (h : ev Φ a ρ st = .ok x st1) : ev Φ (.lst (.cons a .nil)) ρ st = .ok (.lst [x]) st1 := by
  have c3 : sizeLine = 16777216 := rfl
  simp [ev, R.bind, h, c3]
theorem strs_under (n : Nat) : ∀ xs : List Tx, unders n (xs.map .str) = true
  | [] => rfl
  | x :: r => by rw [List.map_cons, unders, strs_under n r]; rfl
theorem eq_nat {st : Sto} {a b : Nat} : f2 .eq (.int a) (.int b) st = .ok (.bl (decide (a = b))) st := by
  have : decide ((a : Int) = b) = decide (a = b) := by rw [decide_eq_decide]; omega
  simp only [f2, eqD, R.of, Option.map, this]
theorem ne_nat {st : Sto} {a b : Nat} : f2 .ne (.int a) (.int b) st = .ok (.bl (!decide (a = b))) st := by
  have : decide ((a : Int) = b) = decide (a = b) := by rw [decide_eq_decide]; omega
  simp only [f2, eqD, R.of, Option.map, this]
theorem lt_nat {st : Sto} {a b : Nat} : f2 .lt (.int a) (.int b) st = .ok (.bl (decide (a < b))) st := by
  have : decide ((a : Int) < b) = decide (a < b) := by rw [decide_eq_decide]; omega
  simp only [f2, ltF, R.of, Option.map, this]
theorem sortset_ref {st : Sto} {n : Nat} {ts : List Tx} (h : st[n]? = some (.lst (ts.map .str))) (hl : ts.length < 4000) : f1 .sortset (.ref n) st = .ok (.lst ((sdT ts).map .str)) st := by
  have h2 : ((ts.map D.str).length < 4000 && flatKeys (ts.map D.str)) = true := by
    simp [flatKeys, texts_strs]; omega
  have h3 : lsq st (.ref n) = some (ts.map .str) := by
    unfold lsq top
    simp [h]
  simp only [f1, h3, Option.bind_some]
  rw [h2, if_pos rfl, sdT_map]
  rfl
theorem sortset_lst {st : Sto} {ts : List Tx} (hl : ts.length < 4000) : f1 .sortset (.lst (ts.map .str)) st = .ok (.lst ((sdT ts).map .str)) st := by
  have h2 : ((ts.map D.str).length < 4000 && flatKeys (ts.map D.str)) = true := by
    simp [flatKeys, texts_strs]; omega
  have h3 : lsq st (.lst (ts.map .str)) = some (ts.map .str) := rfl
  simp only [f1, h3, Option.bind_some]
  rw [h2, if_pos rfl, sdT_map]
  rfl
theorem append_new {st0 : Sto} {n : Nat} {xs : List D} {y : D} (hl : st0.length = n) (hx : xs.length < 10000000) : f2 .append (.ref n) y (st0 ++ [O.lst xs]) = .ok .non (st0 ++ [O.lst (xs ++ [y])]) := by
  have : xs.length < sizeLine := by have c3 : sizeLine = 16777216 := rfl; omega
  subst hl
  simp only [f2, get_new, set_new]
  rw [if_pos this]
/-! ### a list -/
def keptL (iD iP : Nat) : S := .seq (.asg (.nm 4) (.o2 .add (.c (.int 1)) (.call iD (.cons (.v 0) (.cons (.call iP (.cons (.v 0) (.cons (.lst (.cons (.c (.int 2)) (.cons (.c (.int 4)) (.cons (.c (.int 8)) .nil)))) .nil)) .nil [] []) .nil)) .nil [] []))) (.seq (.ex (.m2 .lst .append (.v 2) (.m2 .str .join (.c (.str [])) (.lc (.nm 5) (.range (.c (.int 0)) (.v 4)) (.c (.bl true)) (.call iP (.cons (.v 0) (.cons (.v 1) .nil)) .nil [] []))))) .skip)
def keptB (iD iP : Nat) : S := .seq (.asg (.nm 2) (.new (.lst .nil))) (.seq (.for_ (.nm 3) (.range (.c (.int 0)) (.call iD (.cons (.v 0) (.cons (.c (.int 9)) .nil)) .nil [] [])) (keptL iD iP)) (.seq (.ret (.o1 .tuple (.o1 .sortset (.v 2)))) .skip))
def KeptS (X : DK) (P : Pg) (i : Nat) : Prop := ∀ {k : Nat} {tl : Sto} {n : Nat} {st : Sto} {S : Tx}, S ≠ [] → S.length < 1000 → X.I tl n st → n < 2 ^ 38 →
    ∃ (ts : List Tx) (st' : Sto), run P (k + 3) i [.ref X.rf, .str S] st = .ok (.tup ((sdT ts).map .str)) st' ∧ ts.length ≤ 8 ∧ (∀ w ∈ ts, 1 ≤ w.length ∧ w.length ≤ 8 ∧ ∀ c ∈ w, c ∈ S) ∧ X.I tl (n + 200) st'
theorem kept_of {X : DK} {P : Pg} {iD iP i : Nat} (hp : P i = some ⟨2, 6, false, keptB iD iP⟩) (hD : DrawS X P iD) (hP : PickS X P iP) (hT : PickT X P iP) : KeptS X P i := by
  intro k tl n st S hS hS2 h hn
  have c3 : sizeLine = 16777216 := rfl
  have hl := X.len h
  have h0 := X.push (.lst []) h
  obtain ⟨x, st1, e1, x1, x2, h1⟩ := hD (k := k + 1) (b := 9) h0 (by omega) (by omega) (by omega)
  have e1' : run P (k + 2) iD [.ref X.rf, .int 9] (st ++ [O.lst []]) = .ok (.int x) st1 := e1
  obtain ⟨ρ, st2, e2, ts, p3, p4, rfl, ht, hc, h2⟩ := forL_ok (gd := gdOf (.tup (rangeL 0 x)) st1) (bd := forB (.nm 3) (exS (run P (k + 2)) (keptL iD iP)))
    (fun m ρ st' => ∃ (ts : List Tx) (p3 p4 : Option D), ρ = [some (.ref X.rf), some (.str S), some (.ref st.length), p3, p4, none] ∧ ts.length = m ∧ (∀ w ∈ ts, 1 ≤ w.length ∧ w.length ≤ 8 ∧ ∀ c ∈ w, c ∈ S) ∧ X.I (tl ++ [O.lst (ts.map .str)]) (n + 1 + m * 20) st') (rangeL 0 x) 0
    [some (.ref X.rf), some (.str S), some (.ref st.length), none, none, none] st1 ⟨[], none, none, rfl, rfl, by simp, by simpa using h1⟩ (fun _ _ _ _ => rfl)
    (fun m y hy ρ st' hI => by
      obtain ⟨ts, p3, p4, rfl, ht, hc, hI⟩ := hI
      obtain ⟨hm, rfl⟩ := rangeL_get hy
      obtain ⟨y2, st2, e2, hy2, h2⟩ := hP (k := k) (d := .lst [.int 2, .int 4, .int 8]) (.inl rfl) (by simp) (by simp) hI (by omega)
      obtain ⟨z, rfl, z1, z2⟩ : ∃ z : Int, y2 = .int z ∧ 1 ≤ z ∧ z ≤ 8 := by
        simp only [List.mem_cons, List.not_mem_nil, or_false] at hy2
        rcases hy2 with rfl | rfl | rfl <;> exact ⟨_, rfl, by omega, by omega⟩
      obtain ⟨w, st3, e3, w1, w2, h3⟩ := hD (k := k + 1) (b := z) h2 (by omega) (by omega) (by omega)
      have e3' : run P (k + 2) iD [.ref X.rf, .int z] st2 = .ok (.int w) st3 := e3
      obtain ⟨sz, hsz⟩ : ∃ sz : Nat, 1 + w = (sz : Int) := ⟨(1 + w).toNat, by omega⟩
      obtain ⟨t, st4, e4, t1, t2, h4⟩ := signs_lc hT (k := k) (sv := 4) (tv := 5) (m := sz) (v := 1) (ρ := [some (.ref X.rf), some (.str S), some (.ref st.length), some (.int (0 + (m : Int))), some (.int sz), none]) hS hS2 (by omega) h3 (by omega) rfl (by simp) (fun _ => rfl) (fun _ => rfl)
      obtain ⟨st5, rfl, h5⟩ := X.split h4
      obtain ⟨st6, rfl, h6⟩ := X.split h3
      have hl5 : st5.length = st.length := by rw [X.len h5, hl]
      have hl6 : st6.length = st.length := by rw [X.len h6, hl]
      have ha : f2 .append (.ref st.length) (.str t) (st5 ++ [O.lst (ts.map .str)]) = .ok .non (st5 ++ [O.lst ((ts ++ [t]).map .str)]) := by
        rw [append_new hl5 (by rw [List.length_map]; omega), List.map_append]
        rfl
      have hty : isTy .lst (st6 ++ [O.lst (ts.map .str)]) (.ref st.length) = true := by
        rw [← hl6]
        simp [isTy]
      have hbd : bindT (.nm 3) (.int (0 + (m : Int))) [some (.ref X.rf), some (.str S), some (.ref st.length), p3, p4, none] = some [some (.ref X.rf), some (.str S), some (.ref st.length), some (.int (0 + (m : Int))), p4, none] := by simp [bindT]
      have hls : ev (run P (k + 2)) (.lst (.cons (.c (.int 2)) (.cons (.c (.int 4)) (.cons (.c (.int 8)) .nil)))) [some (.ref X.rf), some (.str S), some (.ref st.length), some (.int (0 + (m : Int))), p4, none] st' = .ok (.lst [.int 2, .int 4, .int 8]) st' := by simp [ev, R.bind, c3]
      have hsz2 : ev (run P (k + 2)) (.o2 .add (.c (.int 1)) (.call iD (.cons (.v 0) (.cons (.call iP (.cons (.v 0) (.cons (.lst (.cons (.c (.int 2)) (.cons (.c (.int 4)) (.cons (.c (.int 8)) .nil)))) .nil)) .nil [] []) .nil)) .nil [] [])) [some (.ref X.rf), some (.str S), some (.ref st.length), some (.int (0 + (m : Int))), p4, none] st' = .ok (.int sz) (st6 ++ [O.lst (ts.map .str)]) := by
        refine ev_o2 rfl (ev_call2 rfl (ev_call2 rfl hls e2) e3') ?_
        show R.ok (D.int (1 + w)) _ = _
        rw [hsz]
      refine ⟨[some (.ref X.rf), some (.str S), some (.ref st.length), some (.int (0 + (m : Int))), some (.int sz), none], _, forB_ok hbd (ex_seq (ex_asg hsz2 rfl) (ex_last (ex_ex (ev_m2 (x := .ref st.length) rfl hty e4 ha)))), ts ++ [t], _, _, rfl, by simp [ht], ?_, X.mono (X.push _ h5) (by omega)⟩
      intro w hw
      rcases List.mem_append.mp hw with hw | hw
      · exact hc w hw
      · rw [List.mem_singleton.mp hw]
        exact ⟨by omega, by omega, t2⟩)
  rw [rangeL_len] at ht h2
  obtain ⟨st3, rfl, h3⟩ := X.split h2
  have hl3 : st3.length = st.length := by rw [X.len h3, hl]
  have hb : exS (run P (k + 2)) (keptB iD iP) [some (.ref X.rf), some (.str S), none, none, none, none] st = .ok (.ret (.tup ((sdT ts).map .str))) (st3 ++ [O.lst (ts.map .str)]) := by
    refine ex_seq (ρ' := [some (.ref X.rf), some (.str S), some (.ref st.length), none, none, none]) (ex_asg (d := .ref st.length) (st1 := st ++ [O.lst []]) ?_ rfl) ?_
    · simp [ev, R.bind, c3]
    refine ex_seq (ex_for (d := .tup (rangeL 0 x)) (st1 := st1) (xs := rangeL 0 x) ?_ rfl e2) ?_
    · exact ev_range (i := 0) rfl (ev_call2 rfl rfl e1') (by omega) (by omega) (by omega) (by omega)
    · exact ex_ret (ev_o1 (ev_o1 (x := .ref st.length) rfl (sortset_ref (by rw [← hl3]; exact get_new) (by omega))) rfl)
  have hr : run P (k + 3) i [.ref X.rf, .str S] st = gc st.length st (.tup ((sdT ts).map .str)) (st3 ++ [O.lst (ts.map .str)]) := run_ret hp rfl rfl hb
  have hu : (leave st.length (st3 ++ [O.lst (ts.map .str)]) (.tup ((sdT ts).map .str))).under st.length = true := by
    show (D.tup _).under _ = true
    rw [D.under]
    exact strs_under _ _
  exact ⟨ts, st3, hr.trans (gc_dk h h3 (by simp) hu), by omega, hc, X.mono h3 (by omega)⟩
/-! ### a word -/
def textL (iP : Nat) : S := .seq (.asg (.nm 5) (.o2 .add (.v 5) (.call iP (.cons (.v 0) (.cons (.v 1) .nil)) .nil [] []))) .skip
def textB (iD iP : Nat) : S := .seq (.par (.cons (.nm 3) (.cons (.nm 4) .nil)) (.cons (.call iD (.cons (.v 0) (.cons (.c (.int 4)) .nil)) .nil [] []) (.cons (.o2 .add (.c (.int 1)) (.call iD (.cons (.v 0) (.cons (.c (.int 30)) .nil)) .nil [] [])) .nil))) (.seq (.ite (.ite (.o2 .eq (.v 3) (.c (.int 0))) (.c (.bl true)) (.o2 .eq (.v 1) (.tup .nil))) (.seq (.ret (.m2 .str .join (.c (.str [])) (.lc (.nm 6) (.range (.c (.int 0)) (.v 4)) (.c (.bl true)) (.call iP (.cons (.v 0) (.cons (.v 2) .nil)) .nil [] [])))) .skip) .skip) (.seq (.ite (.o2 .eq (.v 3) (.c (.int 1))) (.seq (.ret (.o3 .slice (.o2 .mul (.call iP (.cons (.v 0) (.cons (.v 1) .nil)) .nil [] []) (.c (.int 30))) (.c .non) (.o1 .idx (.v 4)))) .skip) .skip) (.seq (.asg (.nm 5) (.c (.str []))) (.seq (.for_ (.nm 6) (.range (.c (.int 0)) (.o2 .add (.c (.int 1)) (.call iD (.cons (.v 0) (.cons (.c (.int 4)) .nil)) .nil [] []))) (textL iP)) (.seq (.ite (.o2 .eq (.v 3) (.c (.int 3))) (.seq (.asg (.nm 5) (.o3 .slice (.v 5) (.o1 .idx (.call iD (.cons (.v 0) (.cons (.o1 .len (.v 5)) .nil)) .nil [] [])) (.c .non))) .skip) .skip) (.seq (.ret (.o3 .slice (.v 5) (.c .non) (.o1 .idx (.c (.int 30))))) .skip))))))
def TextS (X : DK) (P : Pg) (i : Nat) : Prop := ∀ {k : Nat} {tl : Sto} {n : Nat} {st : Sto} {S : Tx} {ws : List Tx}, S ≠ [] → S.length < 1000 → ws.length ≤ 1000 → (∀ w ∈ ws, w ≠ [] ∧ w.length ≤ 100 ∧ ∀ c ∈ w, c < 200) → X.I tl n st → n < 2 ^ 38 →
    ∃ (t : Tx) (st' : Sto), run P (k + 3) i [.ref X.rf, .tup (ws.map .str), .str S] st = .ok (.str t) st' ∧ 1 ≤ t.length ∧ t.length ≤ 30 ∧ (∀ c ∈ t, (∃ w ∈ ws, c ∈ w) ∨ c ∈ S) ∧ X.I tl (n + 200) st'
theorem cut_lo {t : Tx} {m : Nat} : cut t none (some (m : Int)) = t.take m := by
  simp only [cut, sIx]
  rw [if_neg (by omega), List.drop_zero, Int.toNat_natCast, Nat.sub_zero]
  by_cases h : m ≤ t.length
  · rw [Nat.min_eq_left h]
  · rw [Nat.min_eq_right (by omega), List.take_of_length_le (Nat.le_refl _), List.take_of_length_le (by omega)]
theorem cut_hi {t : Tx} {m : Nat} (h : m ≤ t.length) : cut t (some (m : Int)) none = t.drop m := by
  simp only [cut, sIx]
  rw [if_neg (by omega), Int.toNat_natCast, Nat.min_eq_left h, List.take_of_length_le (by rw [List.length_drop]; exact Nat.le_refl _)]
theorem rep_len (n : Nat) (w : Tx) : (List.replicate n w).flatten.length = n * w.length := by
  induction n with
  | zero => simp
  | succ n ih => rw [List.replicate_succ, List.flatten_cons, List.length_append, ih, Nat.succ_mul]; omega
theorem rep_mem {n : Nat} {w : Tx} {c : Nat} (h : c ∈ (List.replicate n w).flatten) : c ∈ w := by
  obtain ⟨l, hl, hc⟩ := List.mem_flatten.mp h
  rw [List.eq_of_mem_replicate hl] at hc
  exact hc
theorem text_of {X : DK} {P : Pg} {iD iP i : Nat} (hp : P i = some ⟨3, 7, false, textB iD iP⟩) (hD : DrawS X P iD) (hP : PickS X P iP) (hT : PickT X P iP) : TextS X P i := by
  intro k tl n st S ws hS hS2 hw1 hw2 h hn
  have c3 : sizeLine = 16777216 := rfl
  obtain ⟨x, st1, e1, x1, x2, h1⟩ := hD (k := k + 1) (b := 4) h (by omega) (by omega) (by omega)
  obtain ⟨y, st2, e2, y1, y2, h2⟩ := hD (k := k + 1) (b := 30) h1 (by omega) (by omega) (by omega)
  have e1' : run P (k + 2) iD [.ref X.rf, .int 4] st = .ok (.int x) st1 := e1
  have e2' : run P (k + 2) iD [.ref X.rf, .int 30] st1 = .ok (.int y) st2 := e2
  obtain ⟨way, rfl⟩ : ∃ a : Nat, x = (a : Int) := ⟨x.toNat, by omega⟩
  obtain ⟨sz, hsz⟩ : ∃ a : Nat, 1 + y = (a : Int) := ⟨(1 + y).toNat, by omega⟩
  have hpar : exS (run P (k + 2)) (.par (.cons (.nm 3) (.cons (.nm 4) .nil)) (.cons (.call iD (.cons (.v 0) (.cons (.c (.int 4)) .nil)) .nil [] []) (.cons (.o2 .add (.c (.int 1)) (.call iD (.cons (.v 0) (.cons (.c (.int 30)) .nil)) .nil [] [])) .nil))) [some (.ref X.rf), some (.tup (ws.map .str)), some (.str S), none, none, none, none] st = .ok (.next [some (.ref X.rf), some (.tup (ws.map .str)), some (.str S), some (.int way), some (.int sz), none, none]) st2 := by
    simp [exS, ev, R.bind, pick, e1', e2', f2, bindTs, bindT, hsz]
  have q0 : ev (run P (k + 2)) (.o2 .eq (.v 3) (.c (.int 0))) [some (.ref X.rf), some (.tup (ws.map .str)), some (.str S), some (.int way), some (.int sz), none, none] st2 = .ok (.bl (decide (way = 0))) st2 := ev_o2 rfl rfl (eq_nat (b := 0))
  have qn : ev (run P (k + 2)) (.o2 .eq (.v 1) (.tup .nil)) [some (.ref X.rf), some (.tup (ws.map .str)), some (.str S), some (.int way), some (.int sz), none, none] st2 = .ok (.bl (decide (ws = []))) st2 := by
    refine ev_o2 (x := .tup (ws.map .str)) (y := .tup []) (st1 := st2) (st2 := st2) rfl (by simp [ev, R.bind, c3]) ?_
    simp only [f2, eq_nil (st := st2) fun w hw => (hw2 w hw).2.2, R.of, Option.map]
  by_cases hA : way = 0 ∨ ws = []
  · obtain ⟨t, st3, e3, t1, t2, h3⟩ := signs_lc hT (k := k) (sv := 4) (tv := 6) (m := sz) (v := 2) (ρ := [some (.ref X.rf), some (.tup (ws.map .str)), some (.str S), some (.int way), some (.int sz), none, none]) hS hS2 (by omega) h2 (by omega) rfl (by simp) (fun _ => rfl) (fun _ => rfl)
    have qc : tst (run P (k + 2)) (.ite (.o2 .eq (.v 3) (.c (.int 0))) (.c (.bl true)) (.o2 .eq (.v 1) (.tup .nil))) [some (.ref X.rf), some (.tup (ws.map .str)), some (.str S), some (.int way), some (.int sz), none, none] st2 = .ok true st2 := by
      by_cases hz : way = 0
      · rw [decide_eq_true hz] at q0
        exact tst_of (ev_iteT q0 rfl)
      · rw [decide_eq_false hz] at q0
        rw [decide_eq_true (hA.resolve_left hz)] at qn
        exact tst_of (ev_iteF q0 qn)
    have hb : exS (run P (k + 2)) (textB iD iP) [some (.ref X.rf), some (.tup (ws.map .str)), some (.str S), none, none, none, none] st = .ok (.ret (.str t)) st3 := ex_seq hpar (ex_retT qc (ex_ret e3))
    have hr : run P (k + 3) i [.ref X.rf, .tup (ws.map .str), .str S] st = gc st.length st (.str t) st3 := run_ret hp rfl rfl hb
    exact ⟨t, st3, hr.trans (gc_eq (by rw [X.len h3, X.len h])), by omega, by omega, fun c hc => .inr (t2 c hc), X.mono h3 (by omega)⟩
  · have hz1 : way ≠ 0 := fun z => hA (.inl z)
    have hz2 : ws ≠ [] := fun z => hA (.inr z)
    have qc : tst (run P (k + 2)) (.ite (.o2 .eq (.v 3) (.c (.int 0))) (.c (.bl true)) (.o2 .eq (.v 1) (.tup .nil))) [some (.ref X.rf), some (.tup (ws.map .str)), some (.str S), some (.int way), some (.int sz), none, none] st2 = .ok false st2 := by
      rw [decide_eq_false hz1] at q0
      rw [decide_eq_false hz2] at qn
      exact tst_of (ev_iteF q0 qn)
    have q1 (p5 p6 : Option D) (s : Sto) : ev (run P (k + 2)) (.o2 .eq (.v 3) (.c (.int 1))) [some (.ref X.rf), some (.tup (ws.map .str)), some (.str S), some (.int way), some (.int sz), p5, p6] s = .ok (.bl (decide (way = 1))) s := ev_o2 rfl rfl (eq_nat (b := 1))
    have q3 (p5 p6 : Option D) (s : Sto) : ev (run P (k + 2)) (.o2 .eq (.v 3) (.c (.int 3))) [some (.ref X.rf), some (.tup (ws.map .str)), some (.str S), some (.int way), some (.int sz), p5, p6] s = .ok (.bl (decide (way = 3))) s := ev_o2 rfl rfl (eq_nat (b := 3))
    by_cases hw : way = 1
    · obtain ⟨d, st3, e3, hd, h3⟩ := hP (k := k) (d := .tup (ws.map .str)) (.inr rfl) (by simpa using hz2) (by simp; omega) h2 (by omega)
      obtain ⟨w, hwm, rfl⟩ := List.mem_map.mp hd
      obtain ⟨w1, w2, w3⟩ := hw2 w hwm
      have w4 : 0 < w.length := List.length_pos_iff.mpr w1
      have hm : f2 .mul (.str w) (.int 30) st3 = .ok (.str (List.replicate 30 w).flatten) st3 := by
        have : w.length * 30 ≤ 16777216 := by omega
        simp [f2, c3, this]
      have hs : f3 .slice (.str (List.replicate 30 w).flatten) .non (.int sz) st3 = .ok (.str ((List.replicate 30 w).flatten.take sz)) st3 := by
        have : (List.replicate 30 w).flatten.length ≤ sizeLine := by rw [rep_len]; omega
        simp only [f3, optI]
        rw [if_pos this, cut_lo]
      have hev : ev (run P (k + 2)) (.o3 .slice (.o2 .mul (.call iP (.cons (.v 0) (.cons (.v 1) .nil)) .nil [] []) (.c (.int 30))) (.c .non) (.o1 .idx (.v 4))) [some (.ref X.rf), some (.tup (ws.map .str)), some (.str S), some (.int way), some (.int sz), none, none] st2 = .ok (.str ((List.replicate 30 w).flatten.take sz)) st3 := by
        have g1 := ev_o2 (Φ := run P (k + 2)) (ρ := [some (.ref X.rf), some (.tup (ws.map .str)), some (.str S), some (.int way), some (.int sz), none, none]) (st := st2) (b := .c (.int 30)) (ev_call2 (f := iP) (a := .v 0) (b := .v 1) rfl rfl e3) rfl hm
        rw [ev, g1]
        exact hs
      have q1' := q1 none none st2
      rw [decide_eq_true hw] at q1'
      have hb : exS (run P (k + 2)) (textB iD iP) [some (.ref X.rf), some (.tup (ws.map .str)), some (.str S), none, none, none, none] st = .ok (.ret (.str ((List.replicate 30 w).flatten.take sz))) st3 := ex_seq hpar (ex_guard qc (ex_retT (tst_of q1') (ex_ret hev)))
      have hr : run P (k + 3) i [.ref X.rf, .tup (ws.map .str), .str S] st = gc st.length st (.str ((List.replicate 30 w).flatten.take sz)) st3 := run_ret hp rfl rfl hb
      have hlen : ((List.replicate 30 w).flatten.take sz).length = min sz (30 * w.length) := by rw [List.length_take, rep_len]
      exact ⟨_, st3, hr.trans (gc_eq (by rw [X.len h3, X.len h])), by rw [hlen]; omega, by rw [hlen]; omega, fun c hc => .inl ⟨w, hwm, rep_mem (List.mem_of_mem_take hc)⟩, X.mono h3 (by omega)⟩
    · have q1' := q1 none none st2
      rw [decide_eq_false hw] at q1'
      obtain ⟨z, st3, e3, z1, z2, h3⟩ := hD (k := k + 1) (b := 4) h2 (by omega) (by omega) (by omega)
      have e3' : run P (k + 2) iD [.ref X.rf, .int 4] st2 = .ok (.int z) st3 := e3
      obtain ⟨ρ, st4, e4, f, p6, rfl, f1, f2', f3', h4⟩ := forL_ok (gd := gdOf (.tup (rangeL 0 (1 + z))) st3) (bd := forB (.nm 6) (exS (run P (k + 2)) (textL iP)))
        (fun m ρ st' => ∃ (f : Tx) (p6 : Option D), ρ = [some (.ref X.rf), some (.tup (ws.map .str)), some (.str S), some (.int way), some (.int sz), some (.str f), p6] ∧ f.length ≤ m * 100 ∧ (1 ≤ m → f ≠ []) ∧ (∀ c ∈ f, ∃ w ∈ ws, c ∈ w) ∧ X.I tl (n + 3 + m) st') (rangeL 0 (1 + z)) 0
        [some (.ref X.rf), some (.tup (ws.map .str)), some (.str S), some (.int way), some (.int sz), some (.str []), none] st3 ⟨[], none, rfl, by simp, fun z => absurd z (by decide), by simp, h3⟩ (fun _ _ _ _ => rfl)
        (fun m y hy ρ st' hI => by
          obtain ⟨f, p6, rfl, f1, f2', f3', h4⟩ := hI
          obtain ⟨hm, rfl⟩ := rangeL_get hy
          obtain ⟨d, st5, e5, hd, h5⟩ := hP (k := k) (d := .tup (ws.map .str)) (.inr rfl) (by simpa using hz2) (by simp; omega) h4 (by omega)
          obtain ⟨w, hwm, rfl⟩ := List.mem_map.mp hd
          obtain ⟨w1, w2, w3⟩ := hw2 w hwm
          have hadd : f2 .add (.str f) (.str w) st5 = .ok (.str (f ++ w)) st5 := by
            have : f.length + w.length ≤ 16777216 := by omega
            simp [f2, c3, this]
          have hbd : bindT (.nm 6) (.int (0 + (m : Int))) [some (.ref X.rf), some (.tup (ws.map .str)), some (.str S), some (.int way), some (.int sz), some (.str f), p6] = some [some (.ref X.rf), some (.tup (ws.map .str)), some (.str S), some (.int way), some (.int sz), some (.str f), some (.int (0 + (m : Int)))] := by simp [bindT]
          refine ⟨[some (.ref X.rf), some (.tup (ws.map .str)), some (.str S), some (.int way), some (.int sz), some (.str (f ++ w)), some (.int (0 + (m : Int)))], _, forB_ok hbd (ex_last (ex_asg (ev_o2 rfl (ev_call2 rfl rfl e5) hadd) rfl)), _, _, rfl, ?_, fun _ z => w1 (List.append_eq_nil_iff.mp z).2, fun c hc => ?_, h5⟩
          · rw [List.length_append]; omega
          · rcases List.mem_append.mp hc with hc | hc
            · exact f3' c hc
            · exact ⟨w, hwm, hc⟩)
      rw [rangeL_len] at f1 f2' h4
      have fne : f ≠ [] := f2' (by omega)
      have f4 : 0 < f.length := List.length_pos_iff.mpr fne
      have hrg : ev (run P (k + 2)) (.range (.c (.int 0)) (.o2 .add (.c (.int 1)) (.call iD (.cons (.v 0) (.cons (.c (.int 4)) .nil)) .nil [] []))) [some (.ref X.rf), some (.tup (ws.map .str)), some (.str S), some (.int way), some (.int sz), some (.str []), none] st2 = .ok (.tup (rangeL 0 (1 + z))) st3 := ev_range (i := 0) rfl (ev_o2 rfl (ev_call2 rfl rfl e3') rfl) (by omega) (by omega) (by omega) (by omega)
      have fin (g : Tx) (p6 : Option D) (s : Sto) (hg : g.length ≤ 1000) : ev (run P (k + 2)) (.o3 .slice (.v 5) (.c .non) (.o1 .idx (.c (.int 30)))) [some (.ref X.rf), some (.tup (ws.map .str)), some (.str S), some (.int way), some (.int sz), some (.str g), p6] s = .ok (.str (g.take 30)) s := by
        have h1 : f3 .slice (.str g) .non (.int ((30 : Nat) : Int)) s = .ok (.str (g.take 30)) s := by
          simp only [f3, optI]
          rw [if_pos (by omega), cut_lo]
        exact h1
      by_cases hw3 : way = 3
      · obtain ⟨u, st5, e5, u1, u2, h5⟩ := hD (k := k + 1) (b := (f.length : Int)) h4 (by omega) (by omega) (by omega)
        have e5' : run P (k + 2) iD [.ref X.rf, .int f.length] st4 = .ok (.int u) st5 := e5
        obtain ⟨v, rfl⟩ : ∃ a : Nat, u = (a : Int) := ⟨u.toNat, by omega⟩
        have q3' := q3 (some (.str f)) p6 st4
        rw [decide_eq_true hw3] at q3'
        have hlen : MP.f1 .len (.str f) st4 = .ok (.int f.length) st4 := by
          have : f.length ≤ 16777216 := by omega
          simp [MP.f1, c3, this]
        have hsl : MP.f3 .slice (.str f) (.int v) .non st5 = .ok (.str (f.drop v)) st5 := by
          simp only [MP.f3, optI]
          rw [if_pos (by omega), cut_hi (by omega)]
        have hev : ev (run P (k + 2)) (.o3 .slice (.v 5) (.o1 .idx (.call iD (.cons (.v 0) (.cons (.o1 .len (.v 5)) .nil)) .nil [] [])) (.c .non)) [some (.ref X.rf), some (.tup (ws.map .str)), some (.str S), some (.int way), some (.int sz), some (.str f), p6] st4 = .ok (.str (f.drop v)) st5 := by
          have g1 : ev (run P (k + 2)) (.o1 .idx (.call iD (.cons (.v 0) (.cons (.o1 .len (.v 5)) .nil)) .nil [] [])) [some (.ref X.rf), some (.tup (ws.map .str)), some (.str S), some (.int way), some (.int sz), some (.str f), p6] st4 = .ok (.int v) st5 := ev_o1 (ev_call2 rfl (ev_o1 rfl hlen) e5') rfl
          rw [ev]
          show R.bind (R.ok (D.str f) st4) _ = _
          show R.bind (ev _ _ _ st4) _ = _
          rw [g1]
          exact hsl
        have hb : exS (run P (k + 2)) (textB iD iP) [some (.ref X.rf), some (.tup (ws.map .str)), some (.str S), none, none, none, none] st = .ok (.ret (.str ((f.drop v).take 30))) st5 :=
          ex_seq hpar (ex_guard qc (ex_guard (tst_of q1') (ex_seq (ex_asg (d := .str []) (st1 := st2) rfl rfl) (ex_seq (ex_for hrg rfl e4) (ex_thenT (tst_of q3') (ex_last (ex_asg hev rfl)) (ex_ret (fin _ _ _ (by rw [List.length_drop]; omega))))))))
        have hr : run P (k + 3) i [.ref X.rf, .tup (ws.map .str), .str S] st = gc st.length st (.str ((f.drop v).take 30)) st5 := run_ret hp rfl rfl hb
        exact ⟨_, st5, hr.trans (gc_eq (by rw [X.len h5, X.len h])), by rw [List.length_take, List.length_drop]; omega, by rw [List.length_take]; omega, fun c hc => .inl (f3' c (List.mem_of_mem_drop (List.mem_of_mem_take hc))), X.mono h5 (by omega)⟩
      · have q3' := q3 (some (.str f)) p6 st4
        rw [decide_eq_false hw3] at q3'
        have hb : exS (run P (k + 2)) (textB iD iP) [some (.ref X.rf), some (.tup (ws.map .str)), some (.str S), none, none, none, none] st = .ok (.ret (.str (f.take 30))) st4 :=
          ex_seq hpar (ex_guard qc (ex_guard (tst_of q1') (ex_seq (ex_asg (d := .str []) (st1 := st2) rfl rfl) (ex_seq (ex_for hrg rfl e4) (ex_guard (tst_of q3') (ex_ret (fin _ _ _ (by omega))))))))
        have hr : run P (k + 3) i [.ref X.rf, .tup (ws.map .str), .str S] st = gc st.length st (.str (f.take 30)) st4 := run_ret hp rfl rfl hb
        exact ⟨_, st4, hr.trans (gc_eq (by rw [X.len h4, X.len h])), by rw [List.length_take]; omega, by rw [List.length_take]; omega, fun c hc => .inl (f3' c (List.mem_of_mem_take hc)), X.mono h4 (by omega)⟩
end MP
end

section
set_option Elab.async false
set_option linter.all false
set_option maxRecDepth 100000
/-! MP: planted words of the second family. -/
namespace MP
open PySem
/-- steps from cut to cut -/
def Chain : Nat → List (Nat × Nat) → Nat → Prop
  | a, [], b => a = b
  | a, p :: r, b => p.1 = a ∧ Chain p.2 r b
theorem Chain.snoc {c : Nat} {b : Nat} : ∀ {l : List (Nat × Nat)} {a : Nat}, Chain a l b → Chain a (l ++ [(b, c)]) c
  | [], a, h => ⟨h.symm, rfl⟩
  | p :: r, a, h => ⟨h.1, Chain.snoc h.2⟩
def wordOf (t : Tx) (p : Nat × Nat) : Tx := sl t (min p.1 p.2) (max p.1 p.2)
def stepD (t : Tx) (p : Nat × Nat) : D := .tup [.str (if p.2 < p.1 then [97, 108, 108] else [115, 111, 109, 101]), .str (wordOf t p)]
def sqD (l : List (Nat × Nat)) : List D := l.map fun p => pr p.1 p.2
theorem sqD_snoc (l : List (Nat × Nat)) (a b : Nat) : sqD (l ++ [(a, b)]) = sqD l ++ [pr a b] := by rw [sqD, List.map_append]; rfl
theorem sqD_len (l : List (Nat × Nat)) : (sqD l).length = l.length := List.length_map _
/-- a step is short and leads somewhere -/
def StepOk (m : Nat) (p : Nat × Nat) : Prop := p.1 ≠ p.2 ∧ p.1 ≤ m ∧ p.2 ≤ m ∧ p.1 ≤ p.2 + 8 ∧ p.2 ≤ p.1 + 8
def plantL (iD : Nat) : S := .seq (.asg (.nm 8) (.o2 .max (.c (.int 0)) (.o2 .min (.v 2) (.o2 .sub (.o2 .add (.v 4) (.call iD (.cons (.v 0) (.cons (.c (.int 17)) .nil)) .nil [] [])) (.c (.int 8)))))) (.seq (.ite (.o2 .ne (.v 8) (.v 4)) (.seq (.ex (.m2 .lst .append (.v 5) (.tup (.cons (.v 4) (.cons (.v 8) .nil))))) (.seq (.asg (.nm 4) (.v 8)) .skip)) .skip) .skip)
def plantW (iD : Nat) : S := .seq (.asg (.nm 8) (.ite (.ite (.o2 .lt (.o2 .sub (.v 2) (.v 4)) (.c (.int 8))) (.o2 .lt (.o1 .len (.v 5)) (.c (.int 5))) (.c (.bl false))) (.o2 .min (.v 2) (.o2 .add (.o2 .add (.v 4) (.c (.int 1))) (.call iD (.cons (.v 0) (.cons (.c (.int 8)) .nil)) .nil [] []))) (.o2 .min (.v 2) (.o2 .add (.v 4) (.c (.int 8)))))) (.seq (.ex (.m2 .lst .append (.v 5) (.tup (.cons (.v 4) (.cons (.v 8) .nil))))) (.seq (.asg (.nm 4) (.v 8)) .skip))
def plantB (iD iP : Nat) : S := .seq (.asg (.nm 2) (.o2 .add (.c (.int 2)) (.call iD (.cons (.v 0) (.cons (.c (.int 13)) .nil)) .nil [] []))) (.seq (.asg (.nm 3) (.m2 .str .join (.c (.str [])) (.lc (.nm 6) (.range (.c (.int 0)) (.v 2)) (.c (.bl true)) (.call iP (.cons (.v 0) (.cons (.v 1) .nil)) .nil [] [])))) (.seq (.par (.cons (.nm 4) (.cons (.nm 5) .nil)) (.cons (.c (.int 0)) (.cons (.new (.lst .nil)) .nil))) (.seq (.for_ (.nm 6) (.range (.c (.int 0)) (.call iD (.cons (.v 0) (.cons (.c (.int 5)) .nil)) .nil [] [])) (plantL iD)) (.seq (.whl (.o2 .lt (.v 4) (.v 2)) (plantW iD)) (.seq (.asg (.nm 7) (.o1 .tuple (.lc (.cons (.nm 9) (.cons (.nm 10) .nil)) (.v 5) (.c (.bl true)) (.tup (.cons (.o2 .ix (.lst (.cons (.c (.str [115, 111, 109, 101])) (.cons (.c (.str [97, 108, 108])) .nil))) (.o1 .int (.o2 .gt (.v 9) (.v 10)))) (.cons (.o3 .slice (.v 3) (.o1 .idx (.o2 .min (.v 9) (.v 10))) (.o1 .idx (.o2 .max (.v 9) (.v 10)))) .nil)))))) (.seq (.ret (.tup (.cons (.o1 .tuple (.o1 .sortset (.lc (.nm 11) (.v 7) (.c (.bl true)) (.o2 .ix (.v 11) (.c (.int 1)))))) (.cons (.v 3) (.cons (.v 7) .nil))))) .skip))))))
/-- what is known of a word with steps -/
structure Plant (S t : Tx) (l : List (Nat × Nat)) : Prop where
  lo : 2 ≤ t.length
  hi : t.length ≤ 14
  sg : ∀ c ∈ t, c ∈ S
  ch : Chain 0 l t.length
  ok : ∀ p ∈ l, StepOk t.length p
  few : l.length ≤ 20
def PlantS (X : DK) (P : Pg) (i : Nat) : Prop := ∀ {k : Nat} {tl : Sto} {n : Nat} {st : Sto} {S : Tx}, S ≠ [] → S.length < 1000 → X.I tl n st → n < 2 ^ 38 →
    ∃ (t : Tx) (l : List (Nat × Nat)) (st' : Sto), run P (k + 3) i [.ref X.rf, .str S] st = .ok (.tup [.tup ((sdT (l.map (wordOf t))).map .str), .str t, .tup (l.map (stepD t))]) st' ∧ Plant S t l ∧ X.I tl (n + 200) st'
theorem ev_o3 {Φ : Phi} {ρ : Env} {st st1 st2 st3 st4 : Sto} {o : O3} {a b c : E} {x y z w : D} (h1 : ev Φ a ρ st = .ok x st1) (h2 : ev Φ b ρ st1 = .ok y st2) (h3 : ev Φ c ρ st2 = .ok z st3) (h4 : f3 o x y z st3 = .ok w st4) : ev Φ (.o3 o a b c) ρ st = .ok w st4 := by
  simp [ev, R.bind, h1, h2, h3, h4]
theorem app_step {Φ : Phi} {st0 : Sto} {r a b : Nat} {l : List (Nat × Nat)} {s0 s1 s2 s3 s6 s7 s9 s10 s11 : Option D} (hl : st0.length = r) (hf : l.length ≤ 1000) :
    exS Φ (.seq (.ex (.m2 .lst .append (.v 5) (.tup (.cons (.v 4) (.cons (.v 8) .nil))))) (.seq (.asg (.nm 4) (.v 8)) .skip)) [s0, s1, s2, s3, some (.int a), some (.ref r), s6, s7, some (.int b), s9, s10, s11] (st0 ++ [O.lst (sqD l)]) =
      .ok (.next [s0, s1, s2, s3, some (.int b), some (.ref r), s6, s7, some (.int b), s9, s10, s11]) (st0 ++ [O.lst (sqD (l ++ [(a, b)]))]) := by
  have c3 : sizeLine = 16777216 := rfl
  have ha : f2 .append (.ref r) (pr a b) (st0 ++ [O.lst (sqD l)]) = .ok .non (st0 ++ [O.lst (sqD (l ++ [(a, b)]))]) := by
    rw [append_new hl (by rw [sqD_len]; omega), sqD_snoc]
  have ht : isTy .lst (st0 ++ [O.lst (sqD l)]) (.ref r) = true := by
    subst hl
    simp [isTy]
  have hp : ev Φ (.tup (.cons (.v 4) (.cons (.v 8) .nil))) [s0, s1, s2, s3, some (.int a), some (.ref r), s6, s7, some (.int b), s9, s10, s11] (st0 ++ [O.lst (sqD l)]) = .ok (pr a b) (st0 ++ [O.lst (sqD l)]) := by
    simp [ev, R.bind, c3, pr]
  exact ex_seq (ex_ex (ev_m2 (x := .ref r) rfl ht hp ha)) (ex_last (ex_asg rfl rfl))
theorem clamp (m h : Nat) (x : Int) (hx : 0 ≤ x) (hx2 : x < 17) (hh : h ≤ m) : ∃ q : Nat, (if (if ((h : Int) + x - 8) < m then ((h : Int) + x - 8) else m) > 0 then (if ((h : Int) + x - 8) < m then ((h : Int) + x - 8) else m) else 0) = (q : Int) ∧ q ≤ m ∧ q ≤ h + 8 ∧ h ≤ q + 8 := by
  generalize hu : (if ((h : Int) + x - 8) < m then ((h : Int) + x - 8) else (m : Int)) = u
  have h1 : u ≤ m ∧ u ≤ h + 8 ∧ (h : Int) ≤ u + 8 := by
    rw [← hu]
    split <;> omega
  refine ⟨u.toNat, ?_, by omega, by omega, by omega⟩
  split <;> omega
theorem plant_of {X : DK} {P : Pg} {iD iP i : Nat} (hp : P i = some ⟨2, 12, false, plantB iD iP⟩) (hD : DrawS X P iD) (hT : PickT X P iP) : PlantS X P i := by
  intro k tl n st S hS hS2 h hn
  have c3 : sizeLine = 16777216 := rfl
  have hl := X.len h
  obtain ⟨x, st1, e1, x1, x2, h1⟩ := hD (k := k + 1) (b := 13) h (by omega) (by omega) (by omega)
  have e1' : run P (k + 2) iD [.ref X.rf, .int 13] st = .ok (.int x) st1 := e1
  obtain ⟨m, hm⟩ : ∃ a : Nat, 2 + x = (a : Int) := ⟨(2 + x).toNat, by omega⟩
  obtain ⟨t, st2, e2, t1, t2, h2⟩ := signs_lc hT (k := k) (sv := 2) (tv := 6) (m := m) (v := 1) (ρ := [some (.ref X.rf), some (.str S), some (.int m), none, none, none, none, none, none, none, none, none]) hS hS2 (by omega) h1 (by omega) rfl (by simp) (fun _ => rfl) (fun _ => rfl)
  have hl2 : st2.length = st.length := by rw [X.len h2, hl]
  have h0 := X.push (.lst []) h2
  obtain ⟨y, st3, e3, y1, y2, h3⟩ := hD (k := k + 1) (b := 5) h0 (by omega) (by omega) (by omega)
  have e3' : run P (k + 2) iD [.ref X.rf, .int 5] (st2 ++ [O.lst []]) = .ok (.int y) st3 := e3
  -- the first steps
  obtain ⟨ρ, st4, e4, l, a, p6, p8, rfl, lf, lc, lo, la, h4⟩ := forL_ok (gd := gdOf (.tup (rangeL 0 y)) st3) (bd := forB (.nm 6) (exS (run P (k + 2)) (plantL iD)))
    (fun q ρ st' => ∃ (l : List (Nat × Nat)) (a : Nat) (p6 p8 : Option D), ρ = [some (.ref X.rf), some (.str S), some (.int m), some (.str t), some (.int a), some (.ref st.length), p6, none, p8, none, none, none] ∧ l.length ≤ q ∧ Chain 0 l a ∧ (∀ p ∈ l, StepOk m p) ∧ a ≤ m ∧ X.I (tl ++ [O.lst (sqD l)]) (n + 1 + m + 1 + q) st') (rangeL 0 y) 0
    [some (.ref X.rf), some (.str S), some (.int m), some (.str t), some (.int (0 : Nat)), some (.ref st.length), none, none, none, none, none, none] st3 ⟨[], 0, none, none, rfl, by simp, rfl, by simp, Nat.zero_le _, h3⟩ (fun _ _ _ _ => rfl)
    (fun q z hz ρ st' hI => by
      obtain ⟨l, a, p6, p8, rfl, lf, lc, lo, la, h4⟩ := hI
      obtain ⟨hq, rfl⟩ := rangeL_get hz
      obtain ⟨u, st5, e5, u1, u2, h5⟩ := hD (k := k + 1) (b := 17) h4 (by omega) (by omega) (by omega)
      have e5' : run P (k + 2) iD [.ref X.rf, .int 17] st' = .ok (.int u) st5 := e5
      obtain ⟨b, hb, b1, b2, b3⟩ := clamp m a u u1 u2 la
      obtain ⟨st6, rfl, h6⟩ := X.split h5
      have hl6 : st6.length = st.length := by rw [X.len h6, hl]
      have hev : ev (run P (k + 2)) (.o2 .max (.c (.int 0)) (.o2 .min (.v 2) (.o2 .sub (.o2 .add (.v 4) (.call iD (.cons (.v 0) (.cons (.c (.int 17)) .nil)) .nil [] [])) (.c (.int 8))))) [some (.ref X.rf), some (.str S), some (.int m), some (.str t), some (.int a), some (.ref st.length), some (.int (0 + (q : Int))), none, p8, none, none, none] st' = .ok (.int b) (st6 ++ [O.lst (sqD l)]) := by
        refine ev_o2 (x := .int 0) (y := .int (if ((a : Int) + u - 8) < m then ((a : Int) + u - 8) else m)) (st1 := st') rfl (ev_o2 (x := .int m) (y := .int ((a : Int) + u - 8)) (st1 := st') rfl (ev_o2 (x := .int ((a : Int) + u)) (y := .int 8) (ev_o2 rfl (ev_call2 rfl rfl e5') rfl) rfl rfl) rfl) ?_
        show R.ok (D.int _) _ = _
        rw [hb]
      have hbd : bindT (.nm 6) (.int (0 + (q : Int))) [some (.ref X.rf), some (.str S), some (.int m), some (.str t), some (.int a), some (.ref st.length), p6, none, p8, none, none, none] = some [some (.ref X.rf), some (.str S), some (.int m), some (.str t), some (.int a), some (.ref st.length), some (.int (0 + (q : Int))), none, p8, none, none, none] := by simp [bindT]
      have hne : ev (run P (k + 2)) (.o2 .ne (.v 8) (.v 4)) [some (.ref X.rf), some (.str S), some (.int m), some (.str t), some (.int a), some (.ref st.length), some (.int (0 + (q : Int))), none, some (.int b), none, none, none] (st6 ++ [O.lst (sqD l)]) = .ok (.bl (!decide (b = a))) (st6 ++ [O.lst (sqD l)]) := ev_o2 rfl rfl ne_nat
      by_cases hab : b = a
      · rw [decide_eq_true hab] at hne
        refine ⟨[some (.ref X.rf), some (.str S), some (.int m), some (.str t), some (.int a), some (.ref st.length), some (.int (0 + (q : Int))), none, some (.int b), none, none, none], _, forB_ok hbd (ex_seq (ex_asg hev rfl) (ex_guard (tst_of hne) rfl)), l, a, _, _, rfl, by omega, lc, lo, la, X.mono (X.push _ h6) (by omega)⟩
      · rw [decide_eq_false hab] at hne
        refine ⟨[some (.ref X.rf), some (.str S), some (.int m), some (.str t), some (.int b), some (.ref st.length), some (.int (0 + (q : Int))), none, some (.int b), none, none, none], st6 ++ [O.lst (sqD (l ++ [(a, b)]))], forB_ok hbd (ex_seq (ex_asg hev rfl) (ex_thenT (tst_of hne) (app_step hl6 (by omega)) rfl)), l ++ [(a, b)], b, _, _, rfl, by simp; omega, lc.snoc, ?_, b1, X.mono (X.push _ h6) (by omega)⟩
        intro p hp
        rcases List.mem_append.mp hp with hp | hp
        · exact lo p hp
        · rw [List.mem_singleton.mp hp]
          exact ⟨fun z => hab z.symm, la, b1, b3, b2⟩)
  rw [rangeL_len] at lf h4
  -- the rest
  obtain ⟨ρ, st5, e5, l2, p8, rfl, lf2, lc2, lo2, h5⟩ := whl_ok (c := tst (run P (k + 2)) (.o2 .lt (.v 4) (.v 2))) (b := exS (run P (k + 2)) (plantW iD))
    (fun q ρ st' => ∃ (l : List (Nat × Nat)) (a : Nat) (p8 : Option D), ρ = [some (.ref X.rf), some (.str S), some (.int m), some (.str t), some (.int a), some (.ref st.length), p6, none, p8, none, none, none] ∧ l.length + q ≤ 5 + 14 ∧ Chain 0 l a ∧ (∀ p ∈ l, StepOk m p) ∧ a ≤ m ∧ q = m - a ∧ X.I (tl ++ [O.lst (sqD l)]) (n + 1 + m + 1 + 5 + (14 - q)) st')
    (fun ρ st' => ∃ (l : List (Nat × Nat)) (p8 : Option D), ρ = [some (.ref X.rf), some (.str S), some (.int m), some (.str t), some (.int m), some (.ref st.length), p6, none, p8, none, none, none] ∧ l.length ≤ 5 + 14 ∧ Chain 0 l m ∧ (∀ p ∈ l, StepOk m p) ∧ X.I (tl ++ [O.lst (sqD l)]) (n + 1 + m + 1 + 5 + 14) st')
    (fun q ρ st' hI => by
      obtain ⟨l, a, p8, rfl, lf, lc, lo, la, rfl, h4⟩ := hI
      have hlt : tst (run P (k + 2)) (.o2 .lt (.v 4) (.v 2)) [some (.ref X.rf), some (.str S), some (.int m), some (.str t), some (.int a), some (.ref st.length), p6, none, p8, none, none, none] st' = .ok (decide (a < m)) st' := tst_of (ev_o2 rfl rfl lt_nat)
      rw [hlt]
      by_cases ham : a < m
      · right
        rw [decide_eq_true ham]
        obtain ⟨st6, rfl, h6⟩ := X.split h4
        have hl6 : st6.length = st.length := by rw [X.len h6, hl]
        have hlen : f1 .len (.ref st.length) (st6 ++ [O.lst (sqD l)]) = .ok (.int l.length) (st6 ++ [O.lst (sqD l)]) := by
          rw [← hl6]
          simp [f1, sqD_len]
        have hc1 : ev (run P (k + 2)) (.o2 .lt (.o2 .sub (.v 2) (.v 4)) (.c (.int 8))) [some (.ref X.rf), some (.str S), some (.int m), some (.str t), some (.int a), some (.ref st.length), p6, none, p8, none, none, none] (st6 ++ [O.lst (sqD l)]) = .ok (.bl (decide (m < a + 8))) (st6 ++ [O.lst (sqD l)]) := by
          refine ev_o2 (x := .int ((m : Int) - a)) (y := .int 8) rfl rfl ?_
          have : decide ((m : Int) - a < 8) = decide (m < a + 8) := by rw [decide_eq_decide]; omega
          simp only [f2, ltF, R.of, Option.map, this]
        have hc2 : ev (run P (k + 2)) (.o2 .lt (.o1 .len (.v 5)) (.c (.int 5))) [some (.ref X.rf), some (.str S), some (.int m), some (.str t), some (.int a), some (.ref st.length), p6, none, p8, none, none, none] (st6 ++ [O.lst (sqD l)]) = .ok (.bl (decide (l.length < 5))) (st6 ++ [O.lst (sqD l)]) := ev_o2 (ev_o1 rfl hlen) rfl (lt_nat (b := 5))
        have key : ∃ (b : Nat) (st7 : Sto), ev (run P (k + 2)) (.ite (.ite (.o2 .lt (.o2 .sub (.v 2) (.v 4)) (.c (.int 8))) (.o2 .lt (.o1 .len (.v 5)) (.c (.int 5))) (.c (.bl false))) (.o2 .min (.v 2) (.o2 .add (.o2 .add (.v 4) (.c (.int 1))) (.call iD (.cons (.v 0) (.cons (.c (.int 8)) .nil)) .nil [] []))) (.o2 .min (.v 2) (.o2 .add (.v 4) (.c (.int 8))))) [some (.ref X.rf), some (.str S), some (.int m), some (.str t), some (.int a), some (.ref st.length), p6, none, p8, none, none, none] (st6 ++ [O.lst (sqD l)]) = .ok (.int b) st7 ∧ a < b ∧ b ≤ m ∧ b ≤ a + 8 ∧ X.I (tl ++ [O.lst (sqD l)]) (n + 1 + m + 1 + 5 + (14 - (m - a)) + 1) st7 := by
          by_cases hz : m < a + 8 ∧ l.length < 5
          · obtain ⟨u, st7, e7, u1, u2, h7⟩ := hD (k := k + 1) (b := 8) h4 (by omega) (by omega) (by omega)
            have e7' : run P (k + 2) iD [.ref X.rf, .int 8] (st6 ++ [O.lst (sqD l)]) = .ok (.int u) st7 := e7
            rw [decide_eq_true hz.1] at hc1
            rw [decide_eq_true hz.2] at hc2
            refine ⟨(if ((a : Int) + 1 + u) < m then ((a : Int) + 1 + u) else m).toNat, st7, ?_, by split <;> omega, by split <;> omega, by split <;> omega, h7⟩
            refine ev_iteT (ev_iteT hc1 hc2) (ev_o2 (x := .int m) (y := .int ((a : Int) + 1 + u)) rfl (ev_o2 (x := .int ((a : Int) + 1)) rfl (ev_call2 rfl rfl e7') rfl) ?_)
            exact congrArg (fun z => R.ok (D.int z) st7) (show (if ((a : Int) + 1 + u) < m then ((a : Int) + 1 + u) else (m : Int)) = _ by split <;> omega)
          · refine ⟨min m (a + 8), st6 ++ [O.lst (sqD l)], ?_, by omega, by omega, by omega, X.mono h4 (by omega)⟩
            have hc : ev (run P (k + 2)) (.ite (.o2 .lt (.o2 .sub (.v 2) (.v 4)) (.c (.int 8))) (.o2 .lt (.o1 .len (.v 5)) (.c (.int 5))) (.c (.bl false))) [some (.ref X.rf), some (.str S), some (.int m), some (.str t), some (.int a), some (.ref st.length), p6, none, p8, none, none, none] (st6 ++ [O.lst (sqD l)]) = .ok (.bl false) (st6 ++ [O.lst (sqD l)]) := by
              by_cases h1 : m < a + 8
              · rw [decide_eq_true h1] at hc1
                rw [decide_eq_false fun z => hz ⟨h1, z⟩] at hc2
                exact ev_iteT hc1 hc2
              · rw [decide_eq_false h1] at hc1
                exact ev_iteF hc1 rfl
            refine ev_iteF hc (ev_o2 (x := .int m) (y := .int ((a + 8 : Nat) : Int)) rfl (ev_o2 rfl rfl rfl) min_nat)
        obtain ⟨b, st7, e7, b1, b2, b3, h7⟩ := key
        obtain ⟨st8, rfl, h8⟩ := X.split h7
        have hl8 : st8.length = st.length := by rw [X.len h8, hl]
        refine ⟨_, [some (.ref X.rf), some (.str S), some (.int m), some (.str t), some (.int b), some (.ref st.length), p6, none, some (.int b), none, none, none], st8 ++ [O.lst (sqD (l ++ [(a, b)]))], m - b, rfl, ex_seq (ex_asg e7 rfl) (app_step hl8 (by omega)), by omega, l ++ [(a, b)], b, _, rfl, by simp; omega, lc.snoc, ?_, b2, rfl, X.mono (X.push _ h8) (by omega)⟩
        intro p hp
        rcases List.mem_append.mp hp with hp | hp
        · exact lo p hp
        · rw [List.mem_singleton.mp hp]
          exact ⟨Nat.ne_of_lt b1, la, b2, by show a ≤ b + 8; omega, b3⟩
      · left
        rw [decide_eq_false ham]
        have : a = m := by omega
        subst this
        exact ⟨st', rfl, l, p8, rfl, by omega, lc, lo, X.mono h4 (by omega)⟩)
    whlFuel (m - a) _ st4 (by have : whlFuel = 1000000 := rfl; omega) ⟨l, a, p8, rfl, by omega, lc, lo, la, rfl, X.mono h4 (by omega)⟩
  obtain ⟨st6, rfl, h6⟩ := X.split h5
  have hl6 : st6.length = st.length := by rw [X.len h6, hl]
  have hget : (st6 ++ [O.lst (sqD l2)])[st.length]? = some (.lst (sqD l2)) := by rw [← hl6]; exact get_new
  -- the steps
  have hlc : ev (run P (k + 2)) (.lc (.cons (.nm 9) (.cons (.nm 10) .nil)) (.v 5) (.c (.bl true)) (.tup (.cons (.o2 .ix (.lst (.cons (.c (.str [115, 111, 109, 101])) (.cons (.c (.str [97, 108, 108])) .nil))) (.o1 .int (.o2 .gt (.v 9) (.v 10)))) (.cons (.o3 .slice (.v 3) (.o1 .idx (.o2 .min (.v 9) (.v 10))) (.o1 .idx (.o2 .max (.v 9) (.v 10)))) .nil)))) [some (.ref X.rf), some (.str S), some (.int m), some (.str t), some (.int m), some (.ref st.length), p6, none, p8, none, none, none] (st6 ++ [O.lst (sqD l2)]) = .ok (.lst (l2.map (stepD t))) (st6 ++ [O.lst (sqD l2)]) := by
    refine ev_lc (d := .ref st.length) (xs := sqD l2) rfl ?_ ?_ (by rw [List.length_map]; omega)
    · simp only [items, hget]
    · have hp := lcL_pure (gd := gdOf (.ref st.length) (st6 ++ [O.lst (sqD l2)])) (st := st6 ++ [O.lst (sqD l2)]) (bd := lcB (.cons (.nm 9) (.cons (.nm 10) .nil)) (wipeE [some (.ref X.rf), some (.str S), some (.int m), some (.str t), some (.int m), some (.ref st.length), p6, none, p8, none, none, none] [9, 10]) (tst (run P (k + 2)) (.c (.bl true))) (ev (run P (k + 2)) (.tup (.cons (.o2 .ix (.lst (.cons (.c (.str [115, 111, 109, 101])) (.cons (.c (.str [97, 108, 108])) .nil))) (.o1 .int (.o2 .gt (.v 9) (.v 10)))) (.cons (.o3 .slice (.v 3) (.o1 .idx (.o2 .min (.v 9) (.v 10))) (.o1 .idx (.o2 .max (.v 9) (.v 10)))) .nil)))))
        (fun x => match x with | .tup [.int a, .int b] => [stepD t (a.toNat, b.toNat)] | _ => []) (by simp [gdOf]) (sqD l2) (fun x hx => by
          obtain ⟨p, hp, rfl⟩ := List.mem_map.mp hx
          obtain ⟨s1, s2, s3, s4, s5⟩ := lo2 p hp
          show _ = R.ok [stepD t ((p.1 : Int).toNat, (p.2 : Int).toNat)] _
          rw [Int.toNat_natCast, Int.toNat_natCast]
          generalize hst : st6 ++ [O.lst (sqD l2)] = s
          have g1 : f2 .min (.int p.1) (.int p.2) s = _ := min_nat
          have g2 : f2 .max (.int p.1) (.int p.2) s = _ := max_nat
          have g3 : f3 .slice (.str t) (.int ((min p.1 p.2 : Nat) : Int)) (.int ((max p.1 p.2 : Nat) : Int)) s = .ok (.str (wordOf t p)) s := by
            simp only [f3, optI]
            rw [if_pos (by omega), cut_sl (by omega), wordOf]
          have g4 : f2 .gt (.int p.1) (.int p.2) s = .ok (.bl (decide (p.2 < p.1))) s := by
            have : decide ((p.2 : Int) < p.1) = decide (p.2 < p.1) := by rw [decide_eq_decide]; omega
            simp only [f2, ltF, R.of, Option.map, this]
          have g5 : f2 .ix (.lst [.str [115, 111, 109, 101], .str [97, 108, 108]]) (.int (if decide (p.2 < p.1) then 1 else 0)) s = .ok (.str (if p.2 < p.1 then [97, 108, 108] else [115, 111, 109, 101])) s := by
            by_cases z : p.2 < p.1
            · rw [decide_eq_true z, if_pos z]; rfl
            · rw [decide_eq_false z, if_neg z]; rfl
          have g6 (b : Bool) : f1 .int (.bl b) s = .ok (.int (if b then 1 else 0)) s := rfl
          have g7 (i : Int) : f1 .idx (.int i) s = .ok (.int i) s := rfl
          have hb : bindT (.cons (.nm 9) (.cons (.nm 10) .nil)) (pr p.1 p.2) (wipeE [some (.ref X.rf), some (.str S), some (.int m), some (.str t), some (.int m), some (.ref st.length), p6, none, p8, none, none, none] [9, 10]) = some [some (.ref X.rf), some (.str S), some (.int m), some (.str t), some (.int m), some (.ref st.length), p6, none, p8, some (.int p.1), some (.int p.2), none] := by simp [bindT, bindTs, wipeE, pr]
          have k1 : ev (run P (k + 2)) (.o2 .ix (.lst (.cons (.c (.str [115, 111, 109, 101])) (.cons (.c (.str [97, 108, 108])) .nil))) (.o1 .int (.o2 .gt (.v 9) (.v 10)))) [some (.ref X.rf), some (.str S), some (.int m), some (.str t), some (.int m), some (.ref st.length), p6, none, p8, some (.int p.1), some (.int p.2), none] s = .ok (.str (if p.2 < p.1 then [97, 108, 108] else [115, 111, 109, 101])) s := by
            refine ev_o2 (x := .lst [.str [115, 111, 109, 101], .str [97, 108, 108]]) (st1 := s) ?_ (ev_o1 (ev_o2 rfl rfl g4) (g6 _)) g5
            simp [ev, R.bind, c3]
          have k2 : ev (run P (k + 2)) (.o3 .slice (.v 3) (.o1 .idx (.o2 .min (.v 9) (.v 10))) (.o1 .idx (.o2 .max (.v 9) (.v 10)))) [some (.ref X.rf), some (.str S), some (.int m), some (.str t), some (.int m), some (.ref st.length), p6, none, p8, some (.int p.1), some (.int p.2), none] s = .ok (.str (wordOf t p)) s := by
            have m1 := ev_o1 (Φ := run P (k + 2)) (ρ := [some (.ref X.rf), some (.str S), some (.int m), some (.str t), some (.int m), some (.ref st.length), p6, none, p8, some (.int p.1), some (.int p.2), none]) (ev_o2 (a := .v 9) (b := .v 10) rfl rfl g1) (g7 _)
            have m2 := ev_o1 (Φ := run P (k + 2)) (ρ := [some (.ref X.rf), some (.str S), some (.int m), some (.str t), some (.int m), some (.ref st.length), p6, none, p8, some (.int p.1), some (.int p.2), none]) (ev_o2 (a := .v 9) (b := .v 10) rfl rfl g2) (g7 _)
            exact ev_o3 (x := .str t) rfl m1 m2 g3
          rw [lcB, hb]
          show R.bind (tst _ _ _ _) _ = _
          rw [tst_of (b := true) (st1 := s) rfl]
          show R.bind (ev _ _ _ _) _ = _
          have k3 : ev (run P (k + 2)) (.tup (.cons (.o2 .ix (.lst (.cons (.c (.str [115, 111, 109, 101])) (.cons (.c (.str [97, 108, 108])) .nil))) (.o1 .int (.o2 .gt (.v 9) (.v 10)))) (.cons (.o3 .slice (.v 3) (.o1 .idx (.o2 .min (.v 9) (.v 10))) (.o1 .idx (.o2 .max (.v 9) (.v 10)))) .nil))) [some (.ref X.rf), some (.str S), some (.int m), some (.str t), some (.int m), some (.ref st.length), p6, none, p8, some (.int p.1), some (.int p.2), none] s = .ok (stepD t p) s := by
            rw [ev, ev, k1]
            show R.bind (R.bind (ev _ _ _ s) _) _ = _
            rw [ev, k2]
            rfl
          rw [k3])
      refine hp.trans (congrArg (fun z => R.ok z (st6 ++ [O.lst (sqD l2)])) ?_)
      rw [sqD, List.flatMap_map, ← List.flatMap_singleton' (List.map _ _), List.flatMap_map]
      rfl
  have hlw : ev (run P (k + 2)) (.lc (.nm 11) (.v 7) (.c (.bl true)) (.o2 .ix (.v 11) (.c (.int 1)))) [some (.ref X.rf), some (.str S), some (.int m), some (.str t), some (.int m), some (.ref st.length), p6, some (.tup (l2.map (stepD t))), p8, none, none, none] (st6 ++ [O.lst (sqD l2)]) = .ok (.lst ((l2.map (wordOf t)).map .str)) (st6 ++ [O.lst (sqD l2)]) := by
    refine ev_lc (d := .tup (l2.map (stepD t))) (xs := l2.map (stepD t)) rfl rfl ?_ (by rw [List.length_map, List.length_map]; omega)
    have hp := lcL_pure (gd := gdOf (.tup (l2.map (stepD t))) (st6 ++ [O.lst (sqD l2)])) (st := st6 ++ [O.lst (sqD l2)]) (bd := lcB (.nm 11) (wipeE [some (.ref X.rf), some (.str S), some (.int m), some (.str t), some (.int m), some (.ref st.length), p6, some (.tup (l2.map (stepD t))), p8, none, none, none] [11]) (tst (run P (k + 2)) (.c (.bl true))) (ev (run P (k + 2)) (.o2 .ix (.v 11) (.c (.int 1)))))
      (fun x => match x with | .tup [_, .str w] => [.str w] | _ => []) rfl (l2.map (stepD t)) (fun x hx => by
        obtain ⟨p, hp, rfl⟩ := List.mem_map.mp hx
        rfl)
    refine hp.trans (congrArg (fun z => R.ok z (st6 ++ [O.lst (sqD l2)])) ?_)
    rw [List.flatMap_map, List.map_map, ← List.flatMap_singleton' (List.map _ _), List.flatMap_map]
    rfl
  have hmt : m ≤ 14 := by omega
  have hb : exS (run P (k + 2)) (plantB iD iP) [some (.ref X.rf), some (.str S), none, none, none, none, none, none, none, none, none, none] st = .ok (.ret (.tup [.tup ((sdT (l2.map (wordOf t))).map .str), .str t, .tup (l2.map (stepD t))])) (st6 ++ [O.lst (sqD l2)]) := by
    have g1 : ev (run P (k + 2)) (.o2 .add (.c (.int 2)) (.call iD (.cons (.v 0) (.cons (.c (.int 13)) .nil)) .nil [] [])) [some (.ref X.rf), some (.str S), none, none, none, none, none, none, none, none, none, none] st = .ok (.int m) st1 := by
      refine ev_o2 rfl (ev_call2 rfl rfl e1') ?_
      show R.ok (D.int (2 + x)) _ = _
      rw [hm]
    refine ex_seq (ex_asg g1 rfl) (ex_seq (ex_asg e2 rfl) (ex_seq (ρ' := [some (.ref X.rf), some (.str S), some (.int m), some (.str t), some (.int (0 : Nat)), some (.ref st.length), none, none, none, none, none, none]) (st1 := st2 ++ [O.lst []]) ?_ ?_))
    · rw [← hl2]
      simp [exS, ev, R.bind, c3, bindTs, bindT]
    have g2 : ev (run P (k + 2)) (.range (.c (.int 0)) (.call iD (.cons (.v 0) (.cons (.c (.int 5)) .nil)) .nil [] [])) [some (.ref X.rf), some (.str S), some (.int m), some (.str t), some (.int (0 : Nat)), some (.ref st.length), none, none, none, none, none, none] (st2 ++ [O.lst []]) = .ok (.tup (rangeL 0 y)) st3 := ev_range (i := 0) rfl (ev_call2 rfl rfl e3') (by omega) (by omega) (by omega) (by omega)
    refine ex_seq (ex_for g2 rfl e4) (ex_seq (ex_whl e5) (ex_seq (ex_asg (ev_o1 hlc rfl) rfl) (ex_ret ?_)))
    have g3 : ev (run P (k + 2)) (.o1 .tuple (.o1 .sortset (.lc (.nm 11) (.v 7) (.c (.bl true)) (.o2 .ix (.v 11) (.c (.int 1)))))) [some (.ref X.rf), some (.str S), some (.int m), some (.str t), some (.int m), some (.ref st.length), p6, some (.tup (l2.map (stepD t))), p8, none, none, none] (st6 ++ [O.lst (sqD l2)]) = .ok (.tup ((sdT (l2.map (wordOf t))).map .str)) (st6 ++ [O.lst (sqD l2)]) := ev_o1 (ev_o1 hlw (sortset_lst (by rw [List.length_map]; omega))) rfl
    show ev _ _ [some (.ref X.rf), some (.str S), some (.int m), some (.str t), some (.int m), some (.ref st.length), p6, some (.tup (l2.map (stepD t))), p8, none, none, none] _ = _
    rw [ev, ev, g3]
    rfl
  have hr : run P (k + 3) i [.ref X.rf, .str S] st = gc st.length st (.tup [.tup ((sdT (l2.map (wordOf t))).map .str), .str t, .tup (l2.map (stepD t))]) (st6 ++ [O.lst (sqD l2)]) := run_ret hp rfl rfl hb
  have hus : ∀ l : List (Nat × Nat), unders st.length (l.map (stepD t)) = true := by
    intro l
    induction l with
    | nil => rfl
    | cons p r ih => rw [List.map_cons, unders, ih]; rfl
  have hu : (leave st.length (st6 ++ [O.lst (sqD l2)]) (.tup [.tup ((sdT (l2.map (wordOf t))).map .str), .str t, .tup (l2.map (stepD t))])).under st.length = true := by
    show (D.tup _).under _ = true
    simp [D.under, unders, strs_under, hus]
  exact ⟨t, l2, st6, hr.trans (gc_dk h h6 (by simp) hu), ⟨by omega, by omega, t2, by rw [t1]; exact lc2, by rw [t1]; exact lo2, by omega⟩, X.mono h6 (by omega)⟩
end MP
end

section
set_option Elab.async false
set_option linter.all false
set_option maxRecDepth 100000
/-! MP: least lists: plain laws; told and least as the second family finds them, least_list. -/
namespace MP
open PySem
/-! ### plain laws -/
def toldW (ws : List Tx) (t : Tx) : Bool := toldB (edgs ws t) t.length
theorem toldW_iff {ws : List Tx} {t : Tx} : toldW ws t = true ↔ Conn (edgs ws t) 0 t.length := toldB_iff
theorem sl_sl {t : Tx} {i j a b : Nat} (h : i + b ≤ j) : sl (sl t i j) a b = sl t (i + a) (i + b) := by
  simp only [sl]
  rw [List.drop_take, List.drop_drop, List.take_take]
  congr 1
  omega
theorem sl_len {t : Tx} {i j : Nat} (h : j ≤ t.length) : (sl t i j).length = j - i := by
  rw [sl, List.length_take, List.length_drop]
  omega
theorem conn_shift {us : List Tx} {t : Tx} {i j a b : Nat} (hj : j ≤ t.length) (hij : i ≤ j) (h : Conn (edgs us (sl t i j)) a b) : Conn (edgs us t) (i + a) (i + b) := by
  have key : ∀ x y, (x, y) ∈ edgs us (sl t i j) → (i + x, i + y) ∈ edgs us t := by
    intro x y h
    obtain ⟨h1, h2, h3⟩ := mem_edgs.mp h
    rw [sl_len hj] at h2
    rw [sl_sl (by omega)] at h3
    exact mem_edgs.mpr ⟨by omega, by omega, h3⟩
  induction h with
  | refl => exact .refl _
  | fwd _ e ih => exact .fwd ih (key _ _ e)
  | bwd _ e ih => exact .bwd ih (key _ _ e)
theorem conn_sub {ws us : List Tx} {t : Tx} (h : ∀ w ∈ ws, toldW us w = true) {c d : Nat} (hc : Conn (edgs ws t) c d) : Conn (edgs us t) c d := by
  have key : ∀ x y, (x, y) ∈ edgs ws t → Conn (edgs us t) x y := by
    intro x y he
    obtain ⟨h1, h2, h3⟩ := mem_edgs.mp he
    have := conn_shift h2 (Nat.le_of_lt h1) (toldW_iff.mp (h _ h3))
    rw [sl_len h2] at this
    have e : x + (y - x) = y := by omega
    rw [e] at this
    exact this
  induction hc with
  | refl => exact .refl _
  | fwd _ e ih => exact ih.trans (key _ _ e)
  | bwd _ e ih => exact ih.trans (key _ _ e).symm
theorem told_sub {ws us : List Tx} {t : Tx} (h : ∀ w ∈ ws, toldW us w = true) (ht : toldW ws t = true) : toldW us t = true := toldW_iff.mpr (conn_sub h (toldW_iff.mp ht))
theorem told_mono {ws us : List Tx} {t : Tx} (h : ∀ w ∈ ws, w ∈ us) (ht : toldW ws t = true) : toldW us t = true := toldW_iff.mpr ((toldW_iff.mp ht).mono (edgs_mono h t))
theorem told_kept {ws : List Tx} {t : Tx} (h : t ∈ ws) (h0 : t ≠ []) : toldW ws t = true := toldW_iff.mpr (kept_rea h h0).conn
/-- the shorter ones -/
def shortr (ws : List Tx) (m : Nat) : List Tx := ws.filter fun v => decide (v.length < m)
theorem mem_shortr {ws : List Tx} {m : Nat} {v : Tx} : v ∈ shortr ws m ↔ v ∈ ws ∧ v.length < m := by rw [shortr, List.mem_filter, decide_eq_true_eq]
theorem told_short {ws : List Tx} {t : Tx} (hn : t ∉ ws) (ht : toldW ws t = true) : toldW (shortr ws t.length) t = true := by
  refine toldW_iff.mpr ((toldW_iff.mp ht).mono fun e he => ?_)
  obtain ⟨h1, h2, h3⟩ := mem_edgs.mp (by exact he : (e.1, e.2) ∈ edgs ws t)
  refine mem_edgs.mpr ⟨h1, h2, mem_shortr.mpr ⟨h3, ?_⟩⟩
  rw [sl_len h2]
  refine Nat.lt_of_le_of_ne (by omega) fun z => hn ?_
  have e0 : e.1 = 0 := by omega
  have e1 : e.2 = t.length := by omega
  rw [e0, e1, sl_all] at h3
  exact h3
theorem told_short' {ws : List Tx} {t : Tx} {m : Nat} (hm : t.length < m) (ht : toldW ws t = true) : toldW (shortr ws m) t = true := by
  refine toldW_iff.mpr ((toldW_iff.mp ht).mono fun e he => ?_)
  obtain ⟨h1, h2, h3⟩ := mem_edgs.mp (by exact he : (e.1, e.2) ∈ edgs ws t)
  refine mem_edgs.mpr ⟨h1, h2, mem_shortr.mpr ⟨h3, ?_⟩⟩
  rw [sl_len h2]
  omega
def leastL (ws : List Tx) : List Tx := ws.filter fun w => !toldW (shortr ws w.length) w
theorem mem_leastL {ws : List Tx} {w : Tx} : w ∈ leastL ws ↔ w ∈ ws ∧ toldW (shortr ws w.length) w = false := by rw [leastL, List.mem_filter, Bool.not_eq_true']
theorem least_tells {ws : List Tx} (h0 : ∀ w ∈ ws, w ≠ []) : ∀ (m : Nat) (w : Tx), w.length ≤ m → w ∈ ws → toldW (leastL ws) w = true
  | 0, w, hm, hw => absurd (List.length_eq_zero_iff.mp (Nat.le_zero.mp hm)) (h0 w hw)
  | m + 1, w, hm, hw => by
    cases h : toldW (shortr ws w.length) w with
    | false => exact told_kept (mem_leastL.mpr ⟨hw, h⟩) (h0 w hw)
    | true => exact told_sub (fun v hv => least_tells h0 m v (by have := (mem_shortr.mp hv).2; omega) (mem_shortr.mp hv).1) h
theorem least_all {ws : List Tx} (h0 : ∀ w ∈ ws, w ≠ []) {w : Tx} (hw : w ∈ ws) : toldW (leastL ws) w = true := least_tells h0 w.length w (Nat.le_refl _) hw
theorem least_least (ws : List Tx) : leastL (leastL ws) = leastL ws := by
  rw [leastL, List.filter_eq_self]
  intro w hw
  rw [Bool.not_eq_true', Bool.eq_false_iff]
  intro h
  have := told_mono (us := shortr ws w.length) (fun v hv => mem_shortr.mpr ⟨(mem_leastL.mp (mem_shortr.mp hv).1).1, (mem_shortr.mp hv).2⟩) h
  rw [(mem_leastL.mp hw).2] at this
  cases this
theorem least_alone {ws us : List Tx} {d : Tx} (hd : d ∈ leastL ws) (hs : ∀ u ∈ us, u ∈ ws) (hn : d ∉ us) : toldW us d = false := by
  rw [Bool.eq_false_iff]
  intro h
  have := told_mono (us := shortr ws d.length) (fun v hv => mem_shortr.mpr ⟨hs v (mem_shortr.mp hv).1, (mem_shortr.mp hv).2⟩) (told_short hn h)
  rw [(mem_leastL.mp hd).2] at this
  cases this
/-- some of a list tell all of it just if its least ones are among them -/
theorem least_some {ws us : List Tx} (h0 : ∀ w ∈ ws, w ≠ []) (hs : ∀ u ∈ us, u ∈ ws) : (∀ w ∈ ws, toldW us w = true) ↔ ∀ d ∈ leastL ws, d ∈ us := by
  constructor
  · intro h d hd
    rcases Classical.em (d ∈ us) with z | z
    · exact z
    · have := least_alone hd hs z
      rw [h d (mem_leastL.mp hd).1] at this
      cases this
  · intro h w hw
    exact told_mono h (least_all h0 hw)
theorem least_in {one two : List Tx} (h1 : ∀ w ∈ two, toldW one w = true) (h2 : ∀ w ∈ one, toldW two w = true) {d : Tx} (hd : d ∈ leastL one) : d ∈ leastL two := by
  have hsh : toldW (shortr two d.length) d = false := by
    rw [Bool.eq_false_iff]
    intro h
    have : toldW (shortr one d.length) d = true := told_sub (fun v hv => told_short' (mem_shortr.mp hv).2 (h1 v (mem_shortr.mp hv).1)) h
    rw [(mem_leastL.mp hd).2] at this
    cases this
  refine mem_leastL.mpr ⟨?_, hsh⟩
  rcases Classical.em (d ∈ two) with z | z
  · exact z
  · have := told_short z (h2 d (mem_leastL.mp hd).1)
    rw [hsh] at this
    cases this
/-- ascending -/
def SrtT (ws : List Tx) : Prop := ws.Pairwise fun a b => ltT a b = true
theorem ltT_irr (a : Tx) : ltT a a = false := by
  rcases ltT_tri a a with ⟨h, g⟩ | ⟨h, g⟩ | ⟨_, h⟩
  · rw [h] at g; cases g
  · exact h
  · exact h
theorem srt_ext : ∀ {a b : List Tx}, SrtT a → SrtT b → (∀ x, x ∈ a ↔ x ∈ b) → a = b := by
  intro a b ha hb h
  have nd {a : List Tx} (ha : SrtT a) : a.Nodup := List.Pairwise.imp (fun {x y} h e => by rw [e, ltT_irr] at h; cases h) ha
  refine sort_unique (R := fun a b => ltT a b = true) ?_ (once_perm (nd ha) (nd hb) h) ha hb
  intro x _ y _ h1 h2
  rcases ltT_tri x y with ⟨g1, g2⟩ | ⟨g1, g2⟩ | ⟨e, _⟩
  · rw [h2] at g2; cases g2
  · rw [h1] at g1; cases g1
  · exact e
theorem least_same {one two : List Tx} (s1 : SrtT one) (s2 : SrtT two) (h0 : ∀ w ∈ one, w ≠ []) (g0 : ∀ w ∈ two, w ≠ []) : leastL one = leastL two ↔ (∀ w ∈ two, toldW one w = true) ∧ ∀ w ∈ one, toldW two w = true := by
  constructor
  · intro h
    refine ⟨fun w hw => ?_, fun w hw => ?_⟩
    · have := least_all g0 hw
      rw [← h] at this
      exact told_mono (fun v hv => (mem_leastL.mp hv).1) this
    · have := least_all h0 hw
      rw [h] at this
      exact told_mono (fun v hv => (mem_leastL.mp hv).1) this
  · rintro ⟨h1, h2⟩
    exact srt_ext (List.Pairwise.filter _ s1) (List.Pairwise.filter _ s2) fun x => ⟨least_in h1 h2, least_in h2 h1⟩
theorem sdT_srt (ts : List Tx) : SrtT (sdT ts) := by
  have h1 := sortL_sorted (z := .str []) (l := dedup (ts.map D.str)) (fun y hy => by
    obtain ⟨w, _, rfl⟩ := List.mem_map.mp (dedup_mem.mp hy)
    rfl)
  rw [sdT_map, List.pairwise_map] at h1
  refine List.Pairwise.imp₂ (R := fun a b => leD (.str a) (.str b) = true) (S := (· ≠ ·)) ?_ h1 (sdT_nodup ts)
  intro a b h1 h2
  unfold leD at h1
  rw [D.lt] at h1
  rcases ltT_tri a b with ⟨g1, g2⟩ | ⟨g1, g2⟩ | ⟨e, _⟩
  · exact g1
  · rw [g2] at h1; cases h1
  · exact absurd e h2
/-! ### told, as the law puts cuts together -/
def rel2 (f : Nat → Nat) (e : Nat × Nat) (c : Nat) : Nat := if f c = f e.2 then f e.1 else f c
def Lab2 (f : Nat → Nat) (es : Ed) : Prop := ∀ c d, f c = f d ↔ Conn es c d
theorem Lab2.snoc {f : Nat → Nat} {es : Ed} (h : Lab2 f es) (a b : Nat) : Lab2 (rel2 f (a, b)) (es ++ [(a, b)]) := by
  intro c d
  rw [conn_snoc, ← h c d, ← h c a, ← h b d, ← h c b, ← h a d]
  unfold rel2
  dsimp only
  by_cases h1 : f c = f b <;> by_cases h2 : f d = f b
  · simp [h1, h2]
  · rw [if_pos h1, if_neg h2]
    constructor
    · intro e; exact .inr (.inr ⟨h1, e⟩)
    · rintro (e | ⟨e, g⟩ | ⟨e, g⟩)
      · exact absurd (e.symm.trans h1) h2
      · exact absurd g.symm h2
      · exact g
  · rw [if_neg h1, if_pos h2]
    constructor
    · intro e; exact .inr (.inl ⟨e, h2.symm⟩)
    · rintro (e | ⟨e, g⟩ | ⟨e, g⟩)
      · exact absurd (e.trans h2) h1
      · exact e
      · exact absurd e h1
  · rw [if_neg h1, if_neg h2]
    constructor
    · exact .inl
    · rintro (e | ⟨e, g⟩ | ⟨e, g⟩)
      · exact e
      · exact absurd g.symm h2
      · exact absurd e h1
def lab2 (es : Ed) : Nat → Nat := es.foldl rel2 id
theorem lab2_of (es : Ed) : Lab2 (lab2 es) es := by
  have : ∀ (gs fs : Ed) (f : Nat → Nat), Lab2 f fs → Lab2 (gs.foldl rel2 f) (fs ++ gs) := by
    intro gs
    induction gs with
    | nil => intro fs f h; rw [List.append_nil]; exact h
    | cons e r ih =>
      intro fs f h
      have := ih (fs ++ [e]) (rel2 f e) (h.snoc e.1 e.2)
      rw [List.append_assoc] at this
      exact this
  exact this es [] id fun c d => ⟨fun h => by rw [show c = d from h]; exact .refl _, conn_nil⟩
def rowE (ws : List Tx) (t : Tx) (i : Nat) : Ed := ws.flatMap fun w => if sl t i (i + w.length) = w then [(i, i + w.length)] else []
theorem mem_rowE {ws : List Tx} {t : Tx} {i x y : Nat} (hi : i ≤ t.length) (hw : ∀ w ∈ ws, w ≠ []) : (x, y) ∈ rowE ws t i ↔ x = i ∧ (x, y) ∈ edgs ws t := by
  rw [rowE, List.mem_flatMap, mem_edgs]
  constructor
  · rintro ⟨w, hq, hx⟩
    split at hx
    · rename_i h
      obtain ⟨rfl, rfl⟩ := Prod.mk.inj (List.mem_singleton.mp hx)
      have h1 : 0 < w.length := List.length_pos_iff.mpr (hw w hq)
      have h2 : w.length ≤ t.length - x := by
        have := congrArg List.length h
        rw [sl, List.length_take, List.length_drop] at this
        omega
      exact ⟨rfl, by omega, by omega, by rw [h]; exact hq⟩
    · simp at hx
  · rintro ⟨rfl, h1, h2, h3⟩
    refine ⟨sl t x y, h3, ?_⟩
    have : x + (sl t x y).length = y := by rw [sl_len h2]; omega
    rw [this, if_pos rfl]
    exact List.mem_singleton_self _
theorem rowE_told {ws : List Tx} {t : Tx} (hw : ∀ w ∈ ws, w ≠ []) (c d : Nat) : Conn ((List.range t.length).flatMap (rowE ws t)) c d ↔ Conn (edgs ws t) c d := by
  have : ∀ e : Nat × Nat, e ∈ (List.range t.length).flatMap (rowE ws t) ↔ e ∈ edgs ws t := by
    intro e
    rw [List.mem_flatMap]
    constructor
    · rintro ⟨i, hi, h⟩
      rw [List.mem_range] at hi
      exact ((mem_rowE (Nat.le_of_lt hi) hw).mp (by exact h : (e.1, e.2) ∈ _)).2
    · intro h
      have h' := mem_edgs.mp (by exact h : (e.1, e.2) ∈ _)
      exact ⟨e.1, List.mem_range.mpr (by omega), (mem_rowE (by omega) hw).mpr ⟨rfl, h⟩⟩
  exact ⟨fun h => h.mono fun e he => (this e).mp he, fun h => h.mono fun e he => (this e).mpr he⟩
def ltoldI : S := .seq (.ite (.o2 .eq (.o3 .slice (.v 1) (.o1 .idx (.v 3)) (.o1 .idx (.o2 .add (.v 3) (.o1 .len (.v 4))))) (.v 4)) (.seq (.asg (.cons (.nm 5) (.cons (.nm 6) .nil)) (.tup (.cons (.o2 .ix (.v 2) (.v 3)) (.cons (.o2 .ix (.v 2) (.o2 .add (.v 3) (.o1 .len (.v 4)))) .nil)))) (.seq (.asg (.nm 2) (.lc (.nm 7) (.v 2) (.c (.bl true)) (.ite (.o2 .eq (.v 7) (.v 6)) (.v 5) (.v 7)))) .skip)) .skip) .skip
def ltoldO : S := .seq (.for_ (.nm 4) (.v 0) ltoldI) .skip
def ltoldB : S := .seq (.asg (.nm 2) (.o1 .list (.range (.c (.int 0)) (.o2 .add (.o1 .len (.v 1)) (.c (.int 1)))))) (.seq (.for_ (.nm 3) (.range (.c (.int 0)) (.o1 .len (.v 1))) ltoldO) (.seq (.ret (.o2 .eq (.o2 .ix (.v 2) (.c (.int 0))) (.o2 .ix (.v 2) (.o1 .neg (.c (.int 1)))))) .skip))
theorem rel2_lc {Φ : Phi} {st : Sto} {f : Nat → Nat} {n a b : Nat} {s0 s1 s3 s4 s7 : Option D} (hn : n ≤ 1000) :
    ev Φ (.lc (.nm 7) (.v 2) (.c (.bl true)) (.ite (.o2 .eq (.v 7) (.v 6)) (.v 5) (.v 7))) [s0, s1, some (.lst (labD f n)), s3, s4, some (.int (f a : Nat)), some (.int (f b : Nat)), s7] st = .ok (.lst (labD (rel2 f (a, b)) n)) st := by
  have c3 : sizeLine = 16777216 := rfl
  refine ev_lc (d := .lst (labD f n)) (st1 := st) (xs := labD f n) rfl rfl ?_ (by rw [labD_len]; omega)
  have hp := lcL_pure (gd := gdOf (.lst (labD f n)) st) (st := st) (bd := lcB (.nm 7) (wipeE [s0, s1, some (.lst (labD f n)), s3, s4, some (.int (f a : Nat)), some (.int (f b : Nat)), s7] [7]) (tst Φ (.c (.bl true))) (ev Φ (.ite (.o2 .eq (.v 7) (.v 6)) (.v 5) (.v 7))))
    (fun x => match x with | .int j => [if j = (f b : Nat) then .int (f a : Nat) else .int j] | _ => []) rfl (labD f n) (fun x hx => by
      obtain ⟨c, _, rfl⟩ := List.mem_map.mp hx
      show _ = R.ok [if ((f c : Nat) : Int) = (f b : Nat) then D.int (f a : Nat) else .int ((f c : Nat) : Int)] st
      by_cases hz : ((f c : Nat) : Int) = (f b : Nat)
      · rw [if_pos hz]
        simp only [lcB, bindT, tst, wipeE, ev, R.bind, R.of, f2, eqD, List.getElem?_cons_zero, List.getElem?_cons_succ, List.length_cons, List.length_nil, List.set_cons_zero, List.set_cons_succ]
        simp [truth, hz]
      · rw [if_neg hz]
        simp only [lcB, bindT, tst, wipeE, ev, R.bind, R.of, f2, eqD, List.getElem?_cons_zero, List.getElem?_cons_succ, List.length_cons, List.length_nil, List.set_cons_zero, List.set_cons_succ]
        simp [truth, hz])
  refine hp.trans (congrArg (fun z => R.ok z st) ?_)
  rw [labD, List.flatMap_map, labD, ← List.flatMap_singleton' (List.map _ _), List.flatMap_map]
  refine congrArg (fun g => List.flatMap g _) (funext fun c => ?_)
  refine congrArg (fun z => [z]) ?_
  unfold rel2
  dsimp only
  by_cases hz : f c = f b
  · rw [if_pos hz, if_pos (by rw [hz])]
  · rw [if_neg hz, if_neg (by omega)]
theorem ltold_in {Φ : Phi} {st : Sto} {f : Nat → Nat} {t w : Tx} {i : Nat} {s0 s4 s5 s6 s7 : Option D} (hi : i ≤ t.length) (ht : t.length ≤ 1000) (hw : w.length ≤ 1000) :
    ∃ q5 q6 : Option D, forB (.nm 4) (exS Φ ltoldI) (.str w) [s0, some (.str t), some (.lst (labD f t.length)), some (.int i), s4, s5, s6, s7] st =
      .ok (.next [s0, some (.str t), some (.lst (labD (if sl t i (i + w.length) = w then rel2 f (i, i + w.length) else f) t.length)), some (.int i), some (.str w), q5, q6, s7]) st := by
  have c3 : sizeLine = 16777216 := rfl
  have hbd : bindT (.nm 4) (.str w) [s0, some (.str t), some (.lst (labD f t.length)), some (.int i), s4, s5, s6, s7] = some [s0, some (.str t), some (.lst (labD f t.length)), some (.int i), some (.str w), s5, s6, s7] := by simp [bindT]
  have e1 : ((i : Int) + w.length) = ((i + w.length : Nat) : Int) := by omega
  have hlen : f1 .len (.str w) st = .ok (.int w.length) st := by
    have : w.length ≤ 16777216 := by omega
    simp [f1, c3, this]
  have hadd : f2 .add (.int i) (.int w.length) st = .ok (.int ((i + w.length : Nat) : Int)) st := by rw [← e1]; rfl
  have hidx (j : Int) : f1 .idx (.int j) st = .ok (.int j) st := rfl
  have hsl : f3 .slice (.str t) (.int i) (.int ((i + w.length : Nat) : Int)) st = .ok (.str (sl t i (i + w.length))) st := by
    simp only [f3, optI]
    rw [if_pos (by omega), cut_sl hi]
  have hcond : ev Φ (.o2 .eq (.o3 .slice (.v 1) (.o1 .idx (.v 3)) (.o1 .idx (.o2 .add (.v 3) (.o1 .len (.v 4))))) (.v 4)) [s0, some (.str t), some (.lst (labD f t.length)), some (.int i), some (.str w), s5, s6, s7] st = .ok (.bl (decide (sl t i (i + w.length) = w))) st := by
    refine ev_o2 (ev_o3 (x := .str t) rfl (ev_o1 rfl (hidx _)) (ev_o1 (ev_o2 rfl (ev_o1 rfl hlen) hadd) (hidx _)) hsl) rfl ?_
    simp only [f2, eqD, R.of, Option.map]
  by_cases hz : sl t i (i + w.length) = w
  · rw [if_pos hz]
    rw [decide_eq_true hz] at hcond
    have hiw : i + w.length ≤ t.length := by
      have := congrArg List.length hz
      rw [sl, List.length_take, List.length_drop] at this
      omega
    have h1 : f2 .ix (.lst (labD f t.length)) (.int i) st = .ok (.int (f i : Nat)) st := ix_lst (labD_get hi)
    have h2 : f2 .ix (.lst (labD f t.length)) (.int ((i + w.length : Nat) : Int)) st = .ok (.int (f (i + w.length) : Nat)) st := ix_lst (labD_get hiw)
    have hp : ev Φ (.tup (.cons (.o2 .ix (.v 2) (.v 3)) (.cons (.o2 .ix (.v 2) (.o2 .add (.v 3) (.o1 .len (.v 4)))) .nil))) [s0, some (.str t), some (.lst (labD f t.length)), some (.int i), some (.str w), s5, s6, s7] st = .ok (.tup [.int (f i : Nat), .int (f (i + w.length) : Nat)]) st := by
      have g1 : ev Φ (.o2 .ix (.v 2) (.v 3)) [s0, some (.str t), some (.lst (labD f t.length)), some (.int i), some (.str w), s5, s6, s7] st = _ := ev_o2 rfl rfl h1
      have g2 : ev Φ (.o2 .ix (.v 2) (.o2 .add (.v 3) (.o1 .len (.v 4)))) [s0, some (.str t), some (.lst (labD f t.length)), some (.int i), some (.str w), s5, s6, s7] st = _ := ev_o2 rfl (ev_o2 rfl (ev_o1 rfl hlen) hadd) h2
      rw [ev, ev, g1]
      show R.bind (R.bind (ev _ _ _ st) _) _ = _
      rw [ev, g2]
      rfl
    have hasg : exS Φ (.asg (.cons (.nm 5) (.cons (.nm 6) .nil)) (.tup (.cons (.o2 .ix (.v 2) (.v 3)) (.cons (.o2 .ix (.v 2) (.o2 .add (.v 3) (.o1 .len (.v 4)))) .nil)))) [s0, some (.str t), some (.lst (labD f t.length)), some (.int i), some (.str w), s5, s6, s7] st = .ok (.next [s0, some (.str t), some (.lst (labD f t.length)), some (.int i), some (.str w), some (.int (f i : Nat)), some (.int (f (i + w.length) : Nat)), s7]) st := ex_asg hp rfl
    exact ⟨_, _, forB_ok hbd (ex_thenT (tst_of hcond) (ex_seq hasg (ex_last (ex_asg (rel2_lc ht) rfl))) rfl)⟩
  · rw [if_neg hz]
    rw [decide_eq_false hz] at hcond
    exact ⟨_, _, forB_ok hbd (ex_guard (tst_of hcond) rfl)⟩
def LToldS (P : Pg) (i : Nat) : Prop := ∀ {k : Nat} {st : Sto} {ws : List Tx} {t : Tx} {d : D}, (d = .lst (ws.map .str) ∨ d = .tup (ws.map .str)) → (∀ w ∈ ws, w ≠ [] ∧ w.length ≤ 1000) → t.length ≤ 1000 → run P (k + 1) i [d, .str t] st = .ok (.bl (toldW ws t)) st
theorem ltold_of {P : Pg} {i : Nat} (hp : P i = some ⟨2, 8, false, ltoldB⟩) : LToldS P i := by
  intro k st ws t d hd hw ht
  have c3 : sizeLine = 16777216 := rfl
  have hit : ∀ s : Sto, items s d = some (ws.map .str) := fun s => by rcases hd with rfl | rfl <;> rfl
  have hgd : ∀ s s' : Sto, gdOf d s s' = true := fun s s' => by rcases hd with rfl | rfl <;> rfl
  obtain ⟨ρ, st2, e2, p3, p4, p5, p6, rfl, est⟩ := forL_ok (gd := gdOf (.tup (rangeL 0 t.length)) st) (bd := forB (.nm 3) (exS (run P k) ltoldO))
    (fun m ρ st' => ∃ p3 p4 p5 p6 : Option D, ρ = [some d, some (.str t), some (.lst (labD (lab2 ((List.range m).flatMap (rowE ws t))) t.length)), p3, p4, p5, p6, none] ∧ st' = st) (rangeL 0 t.length) 0
    [some d, some (.str t), some (.lst (labD id t.length)), none, none, none, none, none] st ⟨none, none, none, none, rfl, rfl⟩ (fun _ _ _ _ => rfl)
    (fun m y hy ρ st' hI => by
      obtain ⟨p3, p4, p5, p6, rfl, est⟩ := hI
      rw [est]
      obtain ⟨hm, rfl⟩ := rangeL_get hy
      have hm2 : m < t.length := by omega
      rw [Int.zero_add, Nat.zero_add]
      obtain ⟨ρ3, st3, e3, q4, q5, q6, rfl, est3⟩ := forL_ok (gd := gdOf d st) (bd := forB (.nm 4) (exS (run P k) ltoldI))
        (fun q ρ st' => ∃ q4 q5 q6 : Option D, ρ = [some d, some (.str t), some (.lst (labD (lab2 ((List.range m).flatMap (rowE ws t) ++ rowE (ws.take q) t m)) t.length)), some (.int m), q4, q5, q6, none] ∧ st' = st) (ws.map .str) 0
        [some d, some (.str t), some (.lst (labD (lab2 ((List.range m).flatMap (rowE ws t))) t.length)), some (.int m), p4, p5, p6, none] st ⟨p4, p5, p6, by rw [List.take_zero, rowE, List.flatMap_nil, List.append_nil], rfl⟩ (fun _ _ _ _ => hgd _ _)
        (fun q y hy ρ st' hI => by
          obtain ⟨q4, q5, q6, rfl, est⟩ := hI
          rw [est, Nat.zero_add]
          rw [List.getElem?_map] at hy
          obtain ⟨w, hw2, rfl⟩ := Option.map_eq_some_iff.mp hy
          obtain ⟨r5, r6, hs⟩ := ltold_in (Φ := run P k) (st := st) (f := lab2 ((List.range m).flatMap (rowE ws t) ++ rowE (ws.take q) t m)) (t := t) (w := w) (i := m) (s0 := some d) (s4 := q4) (s5 := q5) (s6 := q6) (s7 := none) (Nat.le_of_lt hm2) ht (hw w (List.mem_of_getElem? hw2)).2
          have hf : (if sl t m (m + w.length) = w then rel2 (lab2 ((List.range m).flatMap (rowE ws t) ++ rowE (ws.take q) t m)) (m, m + w.length) else lab2 ((List.range m).flatMap (rowE ws t) ++ rowE (ws.take q) t m)) = lab2 ((List.range m).flatMap (rowE ws t) ++ rowE (ws.take (q + 1)) t m) := by
            rw [List.take_succ, hw2]
            unfold rowE
            rw [List.flatMap_append]
            show _ = lab2 (_ ++ (_ ++ List.flatMap _ [w]))
            rw [List.flatMap_singleton]
            split
            · unfold lab2
              refine Eq.symm ?_
              rw [← List.append_assoc, List.foldl_append]
              rfl
            · rw [List.append_nil]
          rw [hf] at hs
          exact ⟨_, _, hs, _, _, _, rfl, rfl⟩)
      rw [Nat.zero_add, List.length_map, List.take_length, est3] at e3
      have hbd : bindT (.nm 3) (.int m) [some d, some (.str t), some (.lst (labD (lab2 ((List.range m).flatMap (rowE ws t))) t.length)), p3, p4, p5, p6, none] = some [some d, some (.str t), some (.lst (labD (lab2 ((List.range m).flatMap (rowE ws t))) t.length)), some (.int m), p4, p5, p6, none] := by simp [bindT]
      have hr : (List.range (m + 1)).flatMap (rowE ws t) = (List.range m).flatMap (rowE ws t) ++ rowE ws t m := by rw [List.range_succ, List.flatMap_append, List.flatMap_singleton]
      rw [hr]
      exact ⟨_, _, forB_ok hbd (ex_last (ex_for (d := d) rfl (hit st) e3)), _, _, _, _, rfl, rfl⟩)
  have e9 : 0 + ((t.length : Int) - 0).toNat = t.length := by omega
  rw [rangeL_len, e9, est] at e2
  have hl2 : t.length ≤ 16777216 := by omega
  have hb : exS (run P k) ltoldB [some d, some (.str t), none, none, none, none, none, none] st = .ok (.ret (.bl (toldW ws t))) st := by
    refine ex_seq (ex_asg (d := .lst (labD id t.length)) (st1 := st) (ρ' := [some d, some (.str t), some (.lst (labD id t.length)), none, none, none, none, none]) ?_ rfl) ?_
    · refine ev_o1 (x := .tup (rangeL 0 (t.length + 1))) (st1 := st) ?_ ?_
      · refine ev_range (st1 := st) rfl ?_ (by omega) (by omega) (by omega) (by omega)
        simp [ev, R.bind, f1, f2, c3, hl2]
      · have e9 : ((t.length : Int) + 1 - 0).toNat = t.length + 1 := by omega
        have e10 : rangeL 0 ((t.length : Int) + 1) = labD id t.length := by
          rw [rangeL, labD, e9]
          exact List.map_congr_left fun c _ => by rw [Int.zero_add]; rfl
        rw [e10]
        rfl
    refine ex_seq (ex_for (d := .tup (rangeL 0 t.length)) (st1 := st) (xs := rangeL 0 t.length) ?_ rfl e2) (ex_ret ?_)
    · refine ev_range (st1 := st) (i := 0) rfl ?_ (by omega) (by omega) (by omega) (by omega)
      simp [ev, R.bind, f1, c3, hl2]
    · have k1 := ix_lst (st := st) (a := 0) (labD_get (f := lab2 ((List.range t.length).flatMap (rowE ws t))) (n := t.length) (Nat.zero_le _))
      have k2 : f2 .ix (.lst (labD (lab2 ((List.range t.length).flatMap (rowE ws t))) t.length)) (.int (-1)) st = .ok (.int (lab2 ((List.range t.length).flatMap (rowE ws t)) t.length : Nat)) st := by
        have h1 : ixN (labD (lab2 ((List.range t.length).flatMap (rowE ws t))) t.length).length (-1) = some t.length := by
          rw [labD_len, ixN, if_neg (by decide), if_pos (by omega)]
          exact congrArg some (by omega)
        simp only [f2, dict?, sq, h1, R.of, Option.bind_some, labD_get (Nat.le_refl _)]
      refine ev_o2 (ev_o2 (y := .int (0 : Nat)) rfl rfl k1) (ev_o2 (y := .int (-1)) rfl rfl k2) ?_
      rw [eq_nat]
      refine congrArg (fun z => R.ok (D.bl z) st) ?_
      rw [Bool.eq_iff_iff, decide_eq_true_eq, toldW_iff, lab2_of, rowE_told fun w hw' => (hw w hw').1]
  have hr : run P (k + 1) i [d, .str t] st = gc st.length st (.bl (toldW ws t)) st := run_ret hp rfl rfl hb
  rw [hr, gc_eq rfl]
/-! ### some of a list -/
theorem lc_filter {Φ : Phi} {ρ : Env} {st st1 : Sto} {tv : Nat} {ie c : E} {d : D} {ws : List Tx} {p : Tx → Bool} (hi : ev Φ ie ρ st = .ok d st1) (hit : items st1 d = some (ws.map .str)) (hg : gdOf d st1 st1 = true) (h8 : tv < ρ.length) (hl : ws.length ≤ 1000000)
    (hc : ∀ w ∈ ws, tst Φ c ((ρ.set tv none).set tv (some (.str w))) st1 = .ok (p w) st1) : ev Φ (.lc (.nm tv) ie c (.v tv)) ρ st = .ok (.lst ((ws.filter p).map .str)) st1 := by
  have c3 : sizeLine = 16777216 := rfl
  refine ev_lc hi hit ?_ (by rw [List.length_map]; have := List.length_filter_le p ws; omega)
  have hp := lcL_pure (gd := gdOf d st1) (st := st1) (bd := lcB (.nm tv) (wipeE ρ [tv]) (tst Φ c) (ev Φ (.v tv)))
    (fun x => match x with | .str w => if p w then [.str w] else [] | _ => []) hg (ws.map .str) (fun x hx => by
      obtain ⟨w, hw, rfl⟩ := List.mem_map.mp hx
      have hb : bindT (.nm tv) (.str w) (wipeE ρ [tv]) = some ((ρ.set tv none).set tv (some (.str w))) := by
        rw [bindT, wipeE, wipeE, if_pos (by rw [List.length_set]; exact h8)]
      have hv : ev Φ (.v tv) ((ρ.set tv none).set tv (some (.str w))) st1 = .ok (.str w) st1 := by
        rw [ev, List.getElem?_set_self (by rw [List.length_set]; exact h8)]
      rw [lcB, hb]
      show R.bind (tst _ _ _ _) _ = R.ok (if p w then [D.str w] else []) st1
      rw [hc w hw]
      cases p w
      · rfl
      · show R.bind (ev _ _ _ _) _ = _
        rw [hv]
        rfl)
  refine hp.trans (congrArg (fun z => R.ok z st1) ?_)
  rw [List.flatMap_map]
  clear hc hit hl hp
  induction ws with
  | nil => rfl
  | cons w r ih =>
    rw [List.flatMap_cons, ih, List.filter_cons]
    show (if p w then [D.str w] else []) ++ _ = _
    cases p w <;> rfl
theorem strs_len {st : Sto} {w : Tx} (h : w.length ≤ 1000000) : f1 .len (.str w) st = .ok (.int w.length) st := by
  have c3 : sizeLine = 16777216 := rfl
  have : w.length ≤ 16777216 := by omega
  simp [f1, c3, this]
theorem append_strs {st0 : Sto} {n : Nat} {xs : List Tx} {w : Tx} (hl : st0.length = n) (hx : xs.length < 10000000) : f2 .append (.ref n) (.str w) (st0 ++ [O.lst (xs.map .str)]) = .ok .non (st0 ++ [O.lst ((xs ++ [w]).map .str)]) := by
  rw [append_new hl (by rw [List.length_map]; exact hx), List.map_append]
  rfl
theorem isTy_new {st0 : Sto} {n : Nat} {xs : List D} (hl : st0.length = n) : isTy .lst (st0 ++ [O.lst xs]) (.ref n) = true := by
  subst hl
  simp [isTy]
def leastStepL (iT : Nat) : S := .seq (.ite (.o1 .not (.call iT (.cons (.lc (.nm 3) (.v 0) (.o2 .lt (.o1 .len (.v 3)) (.o1 .len (.v 2))) (.v 3)) (.cons (.v 2) .nil)) .nil [] [])) (.seq (.ex (.m2 .lst .append (.v 1) (.v 2))) .skip) .skip) .skip
def lleastB (iT : Nat) : S := .seq (.asg (.nm 1) (.new (.lst .nil))) (.seq (.for_ (.nm 2) (.v 0) (leastStepL iT)) (.seq (.ret (.o1 .tuple (.v 1))) .skip))
def leastStepP (iT : Nat) : S := .seq (.asg (.nm 3) (.o1 .tuple (.lc (.nm 4) (.v 0) (.o2 .lt (.o1 .len (.v 4)) (.o1 .len (.v 2))) (.v 4)))) (.seq (.ite (.o1 .not (.call iT (.cons (.v 3) (.cons (.v 2) .nil)) .nil [] [])) (.seq (.ex (.m2 .lst .append (.v 1) (.v 2))) .skip) .skip) .skip)
def pleastB (iT : Nat) : S := .seq (.asg (.nm 1) (.new (.lst .nil))) (.seq (.for_ (.nm 2) (.v 0) (leastStepP iT)) (.seq (.ret (.o1 .tuple (.v 1))) .skip))
theorem leastL_take {ws : List Tx} {m : Nat} {w : Tx} (h : ws[m]? = some w) : (ws.take (m + 1)).filter (fun w => !toldW (shortr ws w.length) w) = (ws.take m).filter (fun w => !toldW (shortr ws w.length) w) ++ if toldW (shortr ws w.length) w then [] else [w] := by
  rw [List.take_succ, h, List.filter_append]
  congr 1
  show List.filter _ [w] = _
  rw [List.filter_cons]
  cases toldW (shortr ws w.length) w <;> rfl
theorem take_len (ws : List Tx) (m : Nat) (p : Tx → Bool) : ((ws.take m).filter p).length ≤ ws.length := Nat.le_trans (List.length_filter_le ..) (List.length_take_le' ..)
def LLeastS (P : Pg) (i : Nat) : Prop := ∀ {k : Nat} {st : Sto} {ws : List Tx}, (∀ w ∈ ws, w ≠ [] ∧ w.length ≤ 1000) → ws.length ≤ 1000 → run P (k + 2) i [.tup (ws.map .str)] st = .ok (.tup ((leastL ws).map .str)) st
theorem lleast_of {P : Pg} {iT i : Nat} (hp : P i = some ⟨1, 4, false, lleastB iT⟩) (hT : LToldS P iT) : LLeastS P i := by
  intro k st ws hw hl
  have c3 : sizeLine = 16777216 := rfl
  obtain ⟨ρ, st2, e2, p2, rfl, rfl⟩ := forL_ok (gd := gdOf (.tup (ws.map .str)) (st ++ [O.lst []])) (bd := forB (.nm 2) (exS (run P (k + 1)) (leastStepL iT)))
    (fun m ρ st' => ∃ p2 : Option D, ρ = [some (.tup (ws.map .str)), some (.ref st.length), p2, none] ∧ st' = st ++ [O.lst (((ws.take m).filter fun w => !toldW (shortr ws w.length) w).map .str)]) (ws.map .str) 0
    [some (.tup (ws.map .str)), some (.ref st.length), none, none] (st ++ [O.lst []]) ⟨none, rfl, by simp⟩ (fun _ _ _ _ => rfl)
    (fun m y hy ρ st' hI => by
      obtain ⟨p2, rfl, rfl⟩ := hI
      rw [List.getElem?_map] at hy
      obtain ⟨w, hw2, rfl⟩ := Option.map_eq_some_iff.mp hy
      rw [Nat.zero_add]
      have hwm := List.mem_of_getElem? hw2
      have hwl := (hw w hwm).2
      have ht := take_len ws m (fun w => !toldW (shortr ws w.length) w)
      have hbd : bindT (.nm 2) (.str w) [some (.tup (ws.map .str)), some (.ref st.length), p2, none] = some [some (.tup (ws.map .str)), some (.ref st.length), some (.str w), none] := by simp [bindT]
      generalize hs : st ++ [O.lst (((ws.take m).filter fun w => !toldW (shortr ws w.length) w).map .str)] = s
      have hf : ev (run P (k + 1)) (.lc (.nm 3) (.v 0) (.o2 .lt (.o1 .len (.v 3)) (.o1 .len (.v 2))) (.v 3)) [some (.tup (ws.map .str)), some (.ref st.length), some (.str w), none] s = .ok (.lst ((shortr ws w.length).map .str)) s :=
        lc_filter (p := fun v => decide (v.length < w.length)) rfl rfl rfl (by simp) (by omega) fun v hv => tst_of (ev_o2 (ev_o1 rfl (strs_len (by have := (hw v hv).2; omega))) (ev_o1 rfl (strs_len (by omega))) lt_nat)
      have hc : ev (run P (k + 1)) (.call iT (.cons (.lc (.nm 3) (.v 0) (.o2 .lt (.o1 .len (.v 3)) (.o1 .len (.v 2))) (.v 3)) (.cons (.v 2) .nil)) .nil [] []) [some (.tup (ws.map .str)), some (.ref st.length), some (.str w), none] s = .ok (.bl (toldW (shortr ws w.length) w)) s := ev_call2 hf rfl (hT (.inl rfl) (fun v hv => hw v (mem_shortr.mp hv).1) (by omega))
      rw [leastL_take hw2]
      cases hz : toldW (shortr ws w.length) w with
      | true =>
        rw [hz] at hc
        refine ⟨[some (.tup (ws.map .str)), some (.ref st.length), some (.str w), none], s, forB_ok hbd (ex_guard (tst_of (ev_o1 hc rfl)) rfl), _, rfl, ?_⟩
        rw [← hs]
        simp
      | false =>
        rw [hz] at hc
        have ha : f2 .append (.ref st.length) (.str w) s = .ok .non (st ++ [O.lst (((ws.take m).filter (fun w => !toldW (shortr ws w.length) w) ++ [w]).map .str)]) := by
          rw [← hs]
          exact append_strs rfl (by omega)
        have hty : isTy .lst s (.ref st.length) = true := by rw [← hs]; exact isTy_new rfl
        exact ⟨[some (.tup (ws.map .str)), some (.ref st.length), some (.str w), none], _, forB_ok hbd (ex_thenT (tst_of (ev_o1 hc rfl)) (ex_last (ex_ex (ev_m2 (x := .ref st.length) rfl hty rfl ha))) rfl), _, rfl, rfl⟩)
  rw [Nat.zero_add, List.length_map, List.take_length] at e2
  have hb : exS (run P (k + 1)) (lleastB iT) [some (.tup (ws.map .str)), none, none, none] st = .ok (.ret (.tup ((leastL ws).map .str))) (st ++ [O.lst ((leastL ws).map .str)]) := by
    refine ex_seq (ρ' := [some (.tup (ws.map .str)), some (.ref st.length), none, none]) (ex_asg (d := .ref st.length) (st1 := st ++ [O.lst []]) ?_ rfl) (ex_seq (ex_for (d := .tup (ws.map .str)) rfl rfl e2) (ex_ret (ev_o1 (x := .ref st.length) rfl ?_)))
    · simp [ev, R.bind, c3]
    · simp [f1, sq, R.of, leastL]
  have hr : run P (k + 2) i [.tup (ws.map .str)] st = gc st.length st (.tup ((leastL ws).map .str)) (st ++ [O.lst ((leastL ws).map .str)]) := run_ret hp rfl rfl hb
  rw [hr, gc_tl (by simp) (by show (D.tup _).under _ = true; rw [D.under]; exact strs_under _ _)]
  rfl
def PLeastS (P : Pg) (i : Nat) : Prop := ∀ {k : Nat} {st : Sto} {ws : List Tx}, ws.Nodup → (∀ w ∈ ws, w ≠ [] ∧ w.length ≤ 1000) → ws.length ≤ 1000 → run P (k + 4) i [.tup (ws.map .str)] st = .ok (.tup ((leastL ws).map .str)) st
theorem pleast_of {P : Pg} {iT i : Nat} (hp : P i = some ⟨1, 5, false, pleastB iT⟩) (hT : ToldS P iT) : PLeastS P i := by
  intro k st ws hnd hw hl
  have c3 : sizeLine = 16777216 := rfl
  obtain ⟨ρ, st2, e2, p2, p3, rfl, rfl⟩ := forL_ok (gd := gdOf (.tup (ws.map .str)) (st ++ [O.lst []])) (bd := forB (.nm 2) (exS (run P (k + 3)) (leastStepP iT)))
    (fun m ρ st' => ∃ p2 p3 : Option D, ρ = [some (.tup (ws.map .str)), some (.ref st.length), p2, p3, none] ∧ st' = st ++ [O.lst (((ws.take m).filter fun w => !toldW (shortr ws w.length) w).map .str)]) (ws.map .str) 0
    [some (.tup (ws.map .str)), some (.ref st.length), none, none, none] (st ++ [O.lst []]) ⟨none, none, rfl, by simp⟩ (fun _ _ _ _ => rfl)
    (fun m y hy ρ st' hI => by
      obtain ⟨p2, p3, rfl, rfl⟩ := hI
      rw [List.getElem?_map] at hy
      obtain ⟨w, hw2, rfl⟩ := Option.map_eq_some_iff.mp hy
      rw [Nat.zero_add]
      have hwm := List.mem_of_getElem? hw2
      have hwl := (hw w hwm).2
      have ht := take_len ws m (fun w => !toldW (shortr ws w.length) w)
      have hbd : bindT (.nm 2) (.str w) [some (.tup (ws.map .str)), some (.ref st.length), p2, p3, none] = some [some (.tup (ws.map .str)), some (.ref st.length), some (.str w), p3, none] := by simp [bindT]
      generalize hs : st ++ [O.lst (((ws.take m).filter fun w => !toldW (shortr ws w.length) w).map .str)] = s
      have hf : ev (run P (k + 3)) (.lc (.nm 4) (.v 0) (.o2 .lt (.o1 .len (.v 4)) (.o1 .len (.v 2))) (.v 4)) [some (.tup (ws.map .str)), some (.ref st.length), some (.str w), p3, none] s = .ok (.lst ((shortr ws w.length).map .str)) s :=
        lc_filter (p := fun v => decide (v.length < w.length)) rfl rfl rfl (by simp) (by omega) fun v hv => tst_of (ev_o2 (ev_o1 rfl (strs_len (by have := (hw v hv).2; omega))) (ev_o1 rfl (strs_len (by omega))) lt_nat)
      have hsl := List.length_filter_le (fun v => decide (v.length < w.length)) ws
      have hok : WOk (shortr ws w.length) w := ⟨hnd.filter _, fun v hv => (hw v (mem_shortr.mp hv).1).1, fun v hv => (hw v (mem_shortr.mp hv).1).2, by rw [shortr]; omega, hwl⟩
      have hc : ev (run P (k + 3)) (.call iT (.cons (.v 3) (.cons (.v 2) .nil)) .nil [] []) [some (.tup (ws.map .str)), some (.ref st.length), some (.str w), some (.tup ((shortr ws w.length).map .str)), none] s = .ok (.bl (toldW (shortr ws w.length) w)) s := ev_call2 rfl rfl (hT hok)
      rw [leastL_take hw2]
      cases hz : toldW (shortr ws w.length) w with
      | true =>
        rw [hz] at hc
        refine ⟨[some (.tup (ws.map .str)), some (.ref st.length), some (.str w), some (.tup ((shortr ws w.length).map .str)), none], s, forB_ok hbd (ex_seq (ex_asg (ev_o1 hf rfl) rfl) (ex_guard (tst_of (ev_o1 hc rfl)) rfl)), _, _, rfl, ?_⟩
        rw [← hs]
        simp
      | false =>
        rw [hz] at hc
        have ha : f2 .append (.ref st.length) (.str w) s = .ok .non (st ++ [O.lst (((ws.take m).filter (fun w => !toldW (shortr ws w.length) w) ++ [w]).map .str)]) := by
          rw [← hs]
          exact append_strs rfl (by omega)
        have hty : isTy .lst s (.ref st.length) = true := by rw [← hs]; exact isTy_new rfl
        exact ⟨[some (.tup (ws.map .str)), some (.ref st.length), some (.str w), some (.tup ((shortr ws w.length).map .str)), none], _, forB_ok hbd (ex_seq (ex_asg (ev_o1 hf rfl) rfl) (ex_thenT (tst_of (ev_o1 hc rfl)) (ex_last (ex_ex (ev_m2 (x := .ref st.length) rfl hty rfl ha))) rfl)), _, _, rfl, rfl⟩)
  rw [Nat.zero_add, List.length_map, List.take_length] at e2
  have hb : exS (run P (k + 3)) (pleastB iT) [some (.tup (ws.map .str)), none, none, none, none] st = .ok (.ret (.tup ((leastL ws).map .str))) (st ++ [O.lst ((leastL ws).map .str)]) := by
    refine ex_seq (ρ' := [some (.tup (ws.map .str)), some (.ref st.length), none, none, none]) (ex_asg (d := .ref st.length) (st1 := st ++ [O.lst []]) ?_ rfl) (ex_seq (ex_for (d := .tup (ws.map .str)) rfl rfl e2) (ex_ret (ev_o1 (x := .ref st.length) rfl ?_)))
    · simp [ev, R.bind, c3]
    · simp [f1, sq, R.of, leastL]
  have hr : run P (k + 4) i [.tup (ws.map .str)] st = gc st.length st (.tup ((leastL ws).map .str)) (st ++ [O.lst ((leastL ws).map .str)]) := run_ret hp rfl rfl hb
  rw [hr, gc_tl (by simp) (by show (D.tup _).under _ = true; rw [D.under]; exact strs_under _ _)]
  rfl
end MP
end

section
set_option Elab.async false
set_option linter.all false
set_option maxRecDepth 100000
/-! MP: classes, tells_all, is_same, whichever the program is. -/
namespace MP
open PySem
theorem enumL_map {g : Nat → D} : ∀ (k n : Nat), enumL n ((List.range k).map fun c => g c) = (List.range k).map fun c => .tup [.int (n + c : Nat), g c] := by
  intro k
  induction k generalizing g with
  | zero => intro n; rfl
  | succ k ih =>
    intro n
    rw [List.range_succ_eq_map, List.map_cons, List.map_map, enumL, List.map_cons, List.map_map]
    have := ih (g := fun c => g (c + 1)) (n + 1)
    have e : ((List.range k).map ((fun c => g c) ∘ Nat.succ)) = (List.range k).map fun c => g (c + 1) := rfl
    rw [e, this]
    congr 1
    refine List.map_congr_left fun c _ => ?_
    show D.tup [.int ((n + 1 + c : Nat) : Int), g (c + 1)] = .tup [.int ((n + (c + 1) : Nat) : Int), g (c + 1)]
    rw [show n + 1 + c = n + (c + 1) by omega]
theorem labD_nats (f : Nat → Nat) (n : Nat) : labD f n = nats ((List.range (n + 1)).map f) := by rw [labD, nats, List.map_map]; rfl
theorem sort_dedup_nats {l m : List Nat} (hm : m.Pairwise (· < ·)) (h : ∀ x, x ∈ l ↔ x ∈ m) : sortL (dedup (nats l)) = nats m := by
  have nd : (nats m).Nodup := by
    rw [nats, List.Nodup, List.pairwise_map]
    exact hm.imp fun {a b} h e => by
      have : (a : Int) = b := by injection e
      omega
  refine (sortL_is (z := .int 0) ?_ ?_ ?_).symm
  · intro y hy
    obtain ⟨a, _, rfl⟩ := List.mem_map.mp (dedup_mem.mp hy)
    rfl
  · refine once_perm nd (dedup_nodup _) fun x => ?_
    rw [dedup_mem]
    constructor
    · intro hx
      obtain ⟨a, ha, rfl⟩ := List.mem_map.mp hx
      exact List.mem_map.mpr ⟨a, (h a).mpr ha, rfl⟩
    · intro hx
      obtain ⟨a, ha, rfl⟩ := List.mem_map.mp hx
      exact List.mem_map.mpr ⟨a, (h a).mp ha, rfl⟩
  · rw [nats, List.pairwise_map]
    refine hm.imp fun {a b} h => ?_
    rw [leD_int, decide_eq_true_eq]
    omega
/-- the least cuts of the classes -/
def leasts (es : Ed) (n : Nat) : List Nat := (List.range (n + 1)).filter fun c => decide (labF es c = c)
theorem mem_leasts {es : Ed} {n x : Nat} : x ∈ leasts es n ↔ x ≤ n ∧ labF es x = x := by
  rw [leasts, List.mem_filter, List.mem_range, decide_eq_true_eq]
  exact ⟨fun h => ⟨by omega, h.2⟩, fun h => ⟨by omega, h.2⟩⟩
theorem leasts_is {es : Ed} {n x : Nat} : x ∈ (List.range (n + 1)).map (labF es) ↔ x ∈ leasts es n := by
  rw [mem_leasts, List.mem_map]
  constructor
  · rintro ⟨c, hc, rfl⟩
    rw [List.mem_range] at hc
    have := (lab_of es).le c
    exact ⟨by omega, (lab_of es).idem c⟩
  · rintro ⟨h1, h2⟩
    exact ⟨x, List.mem_range.mpr (by omega), h2⟩
def fiber (es : Ed) (n m : Nat) : List Nat := (List.range (n + 1)).filter fun c => decide (labF es c = m)
def clsD (es : Ed) (n : Nat) : List D := (leasts es n).map fun m => .tup (nats (fiber es n m))
def classesB (iL : Nat) : S := .seq (.asg (.nm 2) (.call iL (.cons (.v 0) (.cons (.v 1) .nil)) .nil [] [])) (.seq (.ret (.o1 .tuple (.lc (.nm 3) (.o1 .sortset (.v 2)) (.c (.bl true)) (.o1 .tuple (.lc (.cons (.nm 4) (.cons (.nm 5) .nil)) (.enum (.v 2)) (.o2 .eq (.v 5) (.v 3)) (.v 4)))))) .skip)
def ClassesS (P : Pg) (i : Nat) : Prop := ∀ {k : Nat} {st : Sto} {ws : List Tx} {t : Tx}, WOk ws t → run P (k + 3) i [.tup (ws.map .str), .str t] st = .ok (.tup (clsD (edgs ws t) t.length)) st
theorem classes_of {P : Pg} {iL i : Nat} (hp : P i = some ⟨2, 6, false, classesB iL⟩) (hL : LabelsS P iL) : ClassesS P i := by
  intro k st ws t h
  have c3 : sizeLine = 16777216 := rfl
  have hw := h.word
  have e1 : run P (k + 2) iL [.tup (ws.map .str), .str t] st = _ := hL h
  generalize hes : edgs ws t = es at e1
  generalize hn : t.length = n at e1 hw
  have hss : f1 .sortset (.lst (labD (labF es) n)) st = .ok (.lst (nats (leasts es n))) st := by
    have h2 : ((labD (labF es) n).length < 4000 && flatKeys (labD (labF es) n)) = true := by
      rw [labD_len, labD_nats, flat_nats, Bool.and_true, decide_eq_true_eq]
      omega
    have h3 : lsq st (.lst (labD (labF es) n)) = some (labD (labF es) n) := rfl
    simp only [f1, h3, Option.bind_some]
    rw [h2, if_pos rfl, labD_nats, sort_dedup_nats (List.Pairwise.filter _ List.pairwise_lt_range) fun x => leasts_is]
    rfl
  have hin (m : Nat) (s0 s1 : Option D) : ev (run P (k + 2)) (.lc (.cons (.nm 4) (.cons (.nm 5) .nil)) (.enum (.v 2)) (.o2 .eq (.v 5) (.v 3)) (.v 4)) [s0, s1, some (.lst (labD (labF es) n)), some (.int m), none, none] st = .ok (.lst (nats (fiber es n m))) st := by
    have hen : ev (run P (k + 2)) (.enum (.v 2)) [s0, s1, some (.lst (labD (labF es) n)), some (.int m), none, none] st = .ok (.tup ((List.range (n + 1)).map fun (c : Nat) => .tup [.int c, .int (labF es c : Nat)])) st := by
      rw [ev]
      show R.ok (D.tup (enumL 0 (labD (labF es) n))) st = _
      rw [labD, enumL_map]
      refine congrArg (fun z => R.ok (D.tup z) st) (List.map_congr_left fun c _ => ?_)
      rw [Nat.zero_add]
    have hfl : (nats (fiber es n m)).length ≤ n + 1 := by
      rw [nats_len, fiber]
      have := List.length_filter_le (fun c => decide (labF es c = m)) (List.range (n + 1))
      rwa [List.length_range] at this
    refine ev_lc hen rfl ?_ (by omega)
    have hp := lcL_pure (gd := gdOf (.tup ((List.range (n + 1)).map fun (c : Nat) => .tup [.int c, .int (labF es c : Nat)])) st) (st := st) (bd := lcB (.cons (.nm 4) (.cons (.nm 5) .nil)) (wipeE [s0, s1, some (.lst (labD (labF es) n)), some (.int m), none, none] [4, 5]) (tst (run P (k + 2)) (.o2 .eq (.v 5) (.v 3))) (ev (run P (k + 2)) (.v 4)))
      (fun x => match x with | .tup [.int c, .int l] => if l = m then [.int c] else [] | _ => []) rfl ((List.range (n + 1)).map fun (c : Nat) => .tup [.int c, .int (labF es c : Nat)]) (fun x hx => by
        obtain ⟨c, _, rfl⟩ := List.mem_map.mp hx
        have hbd : bindT (.cons (.nm 4) (.cons (.nm 5) .nil)) (.tup [.int c, .int (labF es c : Nat)]) (wipeE [s0, s1, some (.lst (labD (labF es) n)), some (.int m), none, none] [4, 5]) = some [s0, s1, some (.lst (labD (labF es) n)), some (.int m), some (.int c), some (.int (labF es c : Nat))] := by simp [bindT, bindTs, wipeE]
        have hc : tst (run P (k + 2)) (.o2 .eq (.v 5) (.v 3)) [s0, s1, some (.lst (labD (labF es) n)), some (.int m), some (.int c), some (.int (labF es c : Nat))] st = .ok (decide (labF es c = m)) st := tst_of (ev_o2 rfl rfl eq_nat)
        rw [lcB, hbd]
        show R.bind (tst _ _ _ _) _ = R.ok (if ((labF es c : Nat) : Int) = m then [D.int c] else []) st
        rw [hc]
        by_cases hz : labF es c = m
        · rw [decide_eq_true hz, if_pos (by rw [hz])]
          rfl
        · rw [decide_eq_false hz, if_neg (by omega)])
    refine hp.trans (congrArg (fun z => R.ok z st) ?_)
    rw [List.flatMap_map, nats, fiber]
    generalize List.range (n + 1) = l
    induction l with
    | nil => rfl
    | cons c r ih =>
      rw [List.flatMap_cons, ih, List.filter_cons]
      show (if ((labF es c : Nat) : Int) = m then [D.int c] else []) ++ _ = _
      by_cases hz : labF es c = m
      · rw [if_pos (by rw [hz]), decide_eq_true hz]
        rfl
      · rw [if_neg (by omega), decide_eq_false hz]
        rfl
  have hout : ev (run P (k + 2)) (.lc (.nm 3) (.o1 .sortset (.v 2)) (.c (.bl true)) (.o1 .tuple (.lc (.cons (.nm 4) (.cons (.nm 5) .nil)) (.enum (.v 2)) (.o2 .eq (.v 5) (.v 3)) (.v 4)))) [some (.tup (ws.map .str)), some (.str t), some (.lst (labD (labF es) n)), none, none, none] st = .ok (.lst (clsD es n)) st := by
    have hll : (clsD es n).length ≤ n + 1 := by
      rw [clsD, List.length_map, leasts]
      have := List.length_filter_le (fun c => decide (labF es c = c)) (List.range (n + 1))
      rwa [List.length_range] at this
    refine ev_lc (ev_o1 rfl hss) rfl ?_ (by omega)
    have hp := lcL_pure (gd := gdOf (.lst (nats (leasts es n))) st) (st := st) (bd := lcB (.nm 3) (wipeE [some (.tup (ws.map .str)), some (.str t), some (.lst (labD (labF es) n)), none, none, none] [3]) (tst (run P (k + 2)) (.c (.bl true))) (ev (run P (k + 2)) (.o1 .tuple (.lc (.cons (.nm 4) (.cons (.nm 5) .nil)) (.enum (.v 2)) (.o2 .eq (.v 5) (.v 3)) (.v 4)))))
      (fun x => match x with | .int m => [.tup (nats (fiber es n m.toNat))] | _ => []) rfl (nats (leasts es n)) (fun x hx => by
        obtain ⟨m, _, rfl⟩ := List.mem_map.mp hx
        have hbd : bindT (.nm 3) (.int m) (wipeE [some (.tup (ws.map .str)), some (.str t), some (.lst (labD (labF es) n)), none, none, none] [3]) = some [some (.tup (ws.map .str)), some (.str t), some (.lst (labD (labF es) n)), some (.int m), none, none] := by simp [bindT, wipeE]
        rw [lcB, hbd]
        show R.bind (tst _ _ _ _) _ = R.ok [D.tup (nats (fiber es n (m : Int).toNat))] st
        rw [tst_of (b := true) (st1 := st) rfl, Int.toNat_natCast]
        show R.bind (ev _ _ _ _) _ = _
        rw [ev_o1 (hin m _ _) (z := .tup (nats (fiber es n m))) (st2 := st) rfl])
    refine hp.trans (congrArg (fun z => R.ok z st) ?_)
    rw [nats, List.flatMap_map, clsD, ← List.flatMap_singleton' (List.map _ _), List.flatMap_map]
    rfl
  have hb : exS (run P (k + 2)) (classesB iL) [some (.tup (ws.map .str)), some (.str t), none, none, none, none] st = .ok (.ret (.tup (clsD es n))) st :=
    ex_seq (ex_asg (ev_call2 rfl rfl e1) rfl) (ex_ret (ev_o1 hout rfl))
  have hr : run P (k + 3) i [.tup (ws.map .str), .str t] st = gc st.length st (.tup (clsD es n)) st := run_ret hp rfl rfl hb
  rw [hr, gc_eq rfl]
/-! ### tells_all, is_same -/
def tellsB (iT : Nat) : S := .seq (.ret (.o1 .all (.lc (.nm 2) (.v 1) (.c (.bl true)) (.call iT (.cons (.v 0) (.cons (.v 2) .nil)) .nil [] [])))) .skip
theorem bools_map {α : Type} (f : α → Bool) : ∀ l : List α, bools (l.map fun x => .bl (f x)) = some (l.map f)
  | [] => rfl
  | x :: r => by rw [List.map_cons, bools, bools_map f r]; rfl
def TellsS (P : Pg) (i : Nat) : Prop := ∀ {k : Nat} {st : Sto} {ws us : List Tx}, (∀ u ∈ us, WOk ws u) → us.length ≤ 1000 → run P (k + 4) i [.tup (ws.map .str), .tup (us.map .str)] st = .ok (.bl (us.all fun u => toldW ws u)) st
theorem tells_of {P : Pg} {iT i : Nat} (hp : P i = some ⟨2, 3, false, tellsB iT⟩) (hT : ToldS P iT) : TellsS P i := by
  intro k st ws us hu hl
  have c3 : sizeLine = 16777216 := rfl
  have hlc : ev (run P (k + 3)) (.lc (.nm 2) (.v 1) (.c (.bl true)) (.call iT (.cons (.v 0) (.cons (.v 2) .nil)) .nil [] [])) [some (.tup (ws.map .str)), some (.tup (us.map .str)), none] st = .ok (.lst (us.map fun u => .bl (toldW ws u))) st := by
    refine ev_lc (d := .tup (us.map .str)) (xs := us.map .str) rfl rfl ?_ (by rw [List.length_map]; omega)
    have hp := lcL_pure (gd := gdOf (.tup (us.map .str)) st) (st := st) (bd := lcB (.nm 2) (wipeE [some (.tup (ws.map .str)), some (.tup (us.map .str)), none] [2]) (tst (run P (k + 3)) (.c (.bl true))) (ev (run P (k + 3)) (.call iT (.cons (.v 0) (.cons (.v 2) .nil)) .nil [] [])))
      (fun x => match x with | .str u => [.bl (toldW ws u)] | _ => []) rfl (us.map .str) (fun x hx => by
        obtain ⟨u, hm, rfl⟩ := List.mem_map.mp hx
        have e : run P (k + 3) iT [.tup (ws.map .str), .str u] st = .ok (.bl (toldW ws u)) st := hT (hu u hm)
        have hbd : bindT (.nm 2) (.str u) (wipeE [some (.tup (ws.map .str)), some (.tup (us.map .str)), none] [2]) = some [some (.tup (ws.map .str)), some (.tup (us.map .str)), some (.str u)] := by simp [bindT, wipeE]
        rw [lcB, hbd]
        show R.bind (tst _ _ _ _) _ = R.ok [D.bl (toldW ws u)] st
        rw [tst_of (b := true) (st1 := st) rfl]
        show R.bind (ev _ _ _ _) _ = _
        rw [ev_call2 (x := .tup (ws.map .str)) (y := .str u) (st1 := st) (st2 := st) rfl rfl e])
    refine hp.trans (congrArg (fun z => R.ok z st) ?_)
    rw [List.flatMap_map, ← List.flatMap_singleton' (List.map _ _), List.flatMap_map]
  have hall : f1 .all (.lst (us.map fun u => .bl (toldW ws u))) st = .ok (.bl (us.all fun u => toldW ws u)) st := by
    have h3 : lsq st (.lst (us.map fun u => .bl (toldW ws u))) = some (us.map fun u => .bl (toldW ws u)) := rfl
    simp only [f1, h3, Option.bind_some, bools_map, Option.map_some, R.of, List.all_map]
    rfl
  have hb : exS (run P (k + 3)) (tellsB iT) [some (.tup (ws.map .str)), some (.tup (us.map .str)), none] st = .ok (.ret (.bl (us.all fun u => toldW ws u))) st := ex_ret (ev_o1 hlc hall)
  have hr : run P (k + 4) i [.tup (ws.map .str), .tup (us.map .str)] st = gc st.length st (.bl (us.all fun u => toldW ws u)) st := run_ret hp rfl rfl hb
  rw [hr, gc_eq rfl]
theorem eqT_strs {st : Sto} {a b : List Tx} (ha : ∀ w ∈ a, ∀ c ∈ w, c < 200) (hb : ∀ w ∈ b, ∀ c ∈ w, c < 200) : eqD st (.tup (a.map .str)) (.tup (b.map .str)) = some (decide (a = b)) := by
  show eqP st (.tup (a.map .str)) (.tup (b.map .str)) = _
  have hd (a : List Tx) : dps (a.map D.str) ≤ 60 := dps_le fun x hx => by
    obtain ⟨i, _, rfl⟩ := List.mem_map.mp hx
    exact Nat.zero_le _
  have hc (a : List Tx) (ha : ∀ w ∈ a, ∀ c ∈ w, c < 200) : (D.tup (a.map D.str)).cl = true := by
    rw [D.cl, cls_all]
    intro x hx
    obtain ⟨i, hi, rfl⟩ := List.mem_map.mp hx
    rw [D.cl, List.all_eq_true]
    intro c hc
    have := ha i hi c hc
    exact decide_eq_true (by omega)
  have h1 := hd a
  have h2 := hd b
  rw [eqP_cl (a' := .tup (a.map .str)) (b' := .tup (b.map .str)) rfl rfl (hc a ha) (hc b hb) (by rw [D.dp]; omega) (by rw [D.dp]; omega)]
  congr 1
  rw [decide_eq_decide]
  constructor
  · intro h
    injection h with h
    exact strs_inj h
  · intro h
    rw [h]
theorem ev_call1 {Φ : Phi} {ρ : Env} {st st1 : Sto} {f : Nat} {a : E} {x : D} {r : R D} (h1 : ev Φ a ρ st = .ok x st1) (h3 : Φ f [x] st1 = r) : ev Φ (.call f (.cons a .nil) .nil [] []) ρ st = r := by
  simp [ev, R.bind, pick, h1, h3]
def sameB (iL : Nat) : S := .seq (.ret (.o2 .eq (.call iL (.cons (.v 0) .nil) .nil [] []) (.call iL (.cons (.v 1) .nil) .nil [] []))) .skip
/-- a list of words -/
structure LsOk (ws : List Tx) : Prop where
  nd : ws.Nodup
  ok : ∀ w ∈ ws, w ≠ [] ∧ w.length ≤ 1000
  few : ws.length ≤ 1000
  sg : ∀ w ∈ ws, ∀ c ∈ w, c < 200
theorem LsOk.wok {ws : List Tx} (h : LsOk ws) {t : Tx} (ht : t.length ≤ 1000) : WOk ws t := ⟨h.nd, fun w hw => (h.ok w hw).1, fun w hw => (h.ok w hw).2, h.few, ht⟩
def SameS (P : Pg) (i : Nat) : Prop := ∀ {k : Nat} {st : Sto} {a b : List Tx}, LsOk a → LsOk b → run P (k + 5) i [.tup (a.map .str), .tup (b.map .str)] st = .ok (.bl (decide (leastL a = leastL b))) st
theorem same_of {P : Pg} {iL i : Nat} (hp : P i = some ⟨2, 2, false, sameB iL⟩) (hL : PLeastS P iL) : SameS P i := by
  intro k st a b ha hb
  have e1 : run P (k + 4) iL [.tup (a.map .str)] st = .ok (.tup ((leastL a).map .str)) st := hL ha.nd ha.ok ha.few
  have e2 : run P (k + 4) iL [.tup (b.map .str)] st = .ok (.tup ((leastL b).map .str)) st := hL hb.nd hb.ok hb.few
  have q := eqT_strs (st := st) (fun w hw => ha.sg w (mem_leastL.mp hw).1) (fun w hw => hb.sg w (mem_leastL.mp hw).1) (a := leastL a) (b := leastL b)
  have hb : exS (run P (k + 4)) (sameB iL) [some (.tup (a.map .str)), some (.tup (b.map .str))] st = .ok (.ret (.bl (decide (leastL a = leastL b)))) st :=
    ex_ret (ev_o2 (ev_call1 rfl e1) (ev_call1 rfl e2) (by simp only [f2, q, R.of, Option.map]))
  have hr : run P (k + 5) i [.tup (a.map .str), .tup (b.map .str)] st = gc st.length st (.bl (decide (leastL a = leastL b))) st := run_ret hp rfl rfl hb
  rw [hr, gc_eq rfl]
end MP
end

section
set_option Elab.async false
set_option linter.all false
set_option maxRecDepth 100000
/-! MP: the links between cuts, and the shortest way over them, whichever the program is. -/
namespace MP
open PySem
/-! ### the links in the store -/
def lkKeys (n : Nat) : List D := nats (List.range (n + 1))
def lkRefs (b n : Nat) : List D := (List.range (n + 1)).map fun c => .ref (b + c)
def lkSto (st : Sto) (n : Nat) (F : Nat → List D) : Sto := st ++ ((List.range (n + 1)).map fun c => O.lst (F c)) ++ [.dic (lkKeys n) (lkRefs st.length n)]
theorem lkSto_len (st : Sto) (n : Nat) (F : Nat → List D) : (lkSto st n F).length = st.length + n + 2 := by simp [lkSto]; omega
theorem lkSto_at {st : Sto} {n c : Nat} {F : Nat → List D} (h : c ≤ n) : (lkSto st n F)[st.length + c]? = some (.lst (F c)) := by
  rw [lkSto, List.append_assoc, List.getElem?_append_right (by omega), Nat.add_sub_cancel_left, List.getElem?_append_left (by simp; omega), List.getElem?_map, List.getElem?_range (by omega)]
  rfl
theorem lkSto_dic (st : Sto) (n : Nat) (F : Nat → List D) : (lkSto st n F)[st.length + n + 1]? = some (.dic (lkKeys n) (lkRefs st.length n)) := by
  rw [lkSto, List.getElem?_append_right (by simp; omega), List.length_append, List.length_map, List.length_range]
  have : st.length + n + 1 - (st.length + (n + 1)) = 0 := by omega
  rw [this]
  rfl
theorem lkSto_old {st : Sto} {n i : Nat} {F : Nat → List D} (h : i < st.length) : (lkSto st n F)[i]? = st[i]? := by
  rw [lkSto, List.append_assoc, List.getElem?_append_left h]
def putF (F : Nat → List D) (c : Nat) (y : D) : Nat → List D := fun x => if x = c then F x ++ [y] else F x
theorem lkSto_put {st : Sto} {n c : Nat} {F : Nat → List D} {y : D} (h : c ≤ n) : (lkSto st n F).set (st.length + c) (.lst (F c ++ [y])) = lkSto st n (putF F c y) := by
  refine List.ext_getElem? fun i => ?_
  by_cases h0 : i < st.length
  · rw [List.getElem?_set_ne (by omega), lkSto_old h0, lkSto_old h0]
  · by_cases h1 : i = st.length + c
    · subst h1
      rw [List.getElem?_set_self (by rw [lkSto_len]; omega), lkSto_at h, putF, if_pos rfl]
    · rw [List.getElem?_set_ne (by omega)]
      by_cases h2 : i ≤ st.length + n
      · have e : i = st.length + (i - st.length) := by omega
        rw [e, lkSto_at (by omega), lkSto_at (by omega), putF, if_neg (by omega)]
      · by_cases h3 : i = st.length + n + 1
        · rw [h3, lkSto_dic, lkSto_dic]
        · rw [List.getElem?_eq_none (by rw [lkSto_len]; omega), List.getElem?_eq_none (by rw [lkSto_len]; omega)]
theorem look_nats {g : Nat → D} {i : Nat} : ∀ {l : List Nat}, i ∈ l → look (.int i) (nats l) (l.map g) = some (g i)
  | a :: r, h => by
    show look (.int i) (.int (a : Nat) :: nats r) (g a :: r.map g) = _
    rw [look]
    by_cases e : a = i
    · subst e
      rw [if_pos rfl]
    · rw [if_neg (fun z => e (by injection z with z; omega))]
      exact look_nats ((List.mem_cons.mp h).resolve_left fun z => e z.symm)
theorem lk_ix {s : Sto} {r b n i : Nat} (h : s[r]? = some (.dic (lkKeys n) (lkRefs b n))) (hi : i ≤ n) : f2 .ix (.ref r) (.int i) s = .ok (.ref (b + i)) s := by
  have hl : look (.int i) (lkKeys n) (lkRefs b n) = some (.ref (b + i)) := look_nats (List.mem_range.mpr (by omega))
  simp only [f2, dict?, h, isKey, if_true, hl, R.of]
/-- one more item behind a cut -/
theorem lk_app {st : Sto} {n c : Nat} {F : Nat → List D} {y : D} (h : c ≤ n) (hl : (F c).length ≤ 1000000) : f2 .append (.ref (st.length + c)) y (lkSto st n F) = .ok .non (lkSto st n (putF F c y)) := by
  have : (F c).length < sizeLine := by have c3 : sizeLine = 16777216 := rfl; omega
  simp only [f2, lkSto_at h]
  rw [if_pos this, lkSto_put h]
def fwdI (t : Tx) (e : Nat × Nat) : D := .tup [.tup [.str [115, 111, 109, 101], .str (sl t e.1 e.2)], .int e.2]
def bwdI (t : Tx) (e : Nat × Nat) : D := .tup [.tup [.str [97, 108, 108], .str (sl t e.1 e.2)], .int e.1]
def fwdL (t : Tx) (es : Ed) (c : Nat) : List D := es.flatMap fun e => if e.1 = c then [fwdI t e] else []
def bwdL (t : Tx) (es : Ed) (c : Nat) : List D := es.flatMap fun e => if e.2 = c then [bwdI t e] else []
theorem pick_len (p : Nat × Nat → Nat) (f : Nat × Nat → D) (c : Nat) : ∀ es : Ed, (es.flatMap fun e => if p e = c then [f e] else []).length ≤ es.length
  | [] => by simp
  | e :: r => by
    have := pick_len p f c r
    rw [List.flatMap_cons, List.length_append, List.length_cons]
    split
    · rw [List.length_singleton]; omega
    · rw [List.length_nil]; omega
theorem fwdL_snoc (t : Tx) (es : Ed) (e : Nat × Nat) : fwdL t (es ++ [e]) = putF (fwdL t es) e.1 (fwdI t e) := by
  funext c
  rw [fwdL, List.flatMap_append, List.flatMap_singleton, putF]
  by_cases h : c = e.1
  · rw [if_pos h, if_pos h.symm]; rfl
  · rw [if_neg h, if_neg (fun z => h z.symm), List.append_nil]; rfl
def bothL (t : Tx) (es fs : Ed) (c : Nat) : List D := fwdL t es c ++ bwdL t fs c
theorem bothL_snoc (t : Tx) (es fs : Ed) (e : Nat × Nat) : bothL t es (fs ++ [e]) = putF (bothL t es fs) e.2 (bwdI t e) := by
  funext c
  rw [bothL, bwdL, List.flatMap_append, List.flatMap_singleton, putF]
  by_cases h : c = e.2
  · rw [if_pos h, if_pos h.symm, ← List.append_assoc]; rfl
  · rw [if_neg h, if_neg (fun z => h z.symm), List.append_nil]; rfl
def lfwdL : S := .seq (.ex (.m2 .lst .append (.o2 .ix (.v 2) (.v 3)) (.tup (.cons (.tup (.cons (.c (.str [115, 111, 109, 101])) (.cons (.o3 .slice (.v 1) (.o1 .idx (.v 3)) (.o1 .idx (.v 4))) .nil))) (.cons (.v 4) .nil))))) .skip
def lfwdB (iS : Nat) : S := .seq (.asg (.nm 2) (.dcomp (.nm 5) (.range (.c (.int 0)) (.o2 .add (.o1 .len (.v 1)) (.c (.int 1)))) (.c (.bl true)) (.v 5) (.new (.lst .nil)))) (.seq (.for_ (.cons (.nm 3) (.cons (.nm 4) .nil)) (.call iS (.cons (.v 0) (.cons (.v 1) .nil)) .nil [] []) lfwdL) (.seq (.ret (.v 2)) .skip))
def lbothL : S := .seq (.ex (.m2 .lst .append (.o2 .ix (.v 2) (.v 4)) (.tup (.cons (.tup (.cons (.c (.str [97, 108, 108])) (.cons (.o3 .slice (.v 1) (.o1 .idx (.v 3)) (.o1 .idx (.v 4))) .nil))) (.cons (.v 3) .nil))))) .skip
def lbothB (iS iF : Nat) : S := .seq (.asg (.nm 2) (.call iF (.cons (.v 0) (.cons (.v 1) .nil)) .nil [] [])) (.seq (.for_ (.cons (.nm 3) (.cons (.nm 4) .nil)) (.call iS (.cons (.v 0) (.cons (.v 1) .nil)) .nil [] []) lbothL) (.seq (.ret (.v 2)) .skip))
theorem lk_empty {Φ : Phi} {st : Sto} {t : Tx} {s0 s2 s3 s4 : Option D} (ht : t.length ≤ 1000) : ev Φ (.dcomp (.nm 5) (.range (.c (.int 0)) (.o2 .add (.o1 .len (.v 1)) (.c (.int 1)))) (.c (.bl true)) (.v 5) (.new (.lst .nil))) [s0, some (.str t), s2, s3, s4, none] st = .ok (.ref (st.length + t.length + 1)) (lkSto st t.length (fwdL t [])) := by
  have c3 : sizeLine = 16777216 := rfl
  have hrg : ev Φ (.range (.c (.int 0)) (.o2 .add (.o1 .len (.v 1)) (.c (.int 1)))) [s0, some (.str t), s2, s3, s4, none] st = .ok (.tup (rangeL 0 ((t.length : Int) + 1))) st := by
    refine ev_range (i := 0) rfl ?_ (by omega) (by omega) (by omega) (by omega)
    have : t.length ≤ 16777216 := by omega
    simp [ev, R.bind, f1, f2, c3, this]
  obtain ⟨zs, st2, e2, ez, rfl⟩ := lcL_ok (gd := gdOf (.tup (rangeL 0 ((t.length : Int) + 1))) st) (bd := lcB (.nm 5) (wipeE [s0, some (.str t), s2, s3, s4, none] [5]) (tst Φ (.c (.bl true))) (fun ρ st => (ev Φ (.v 5) ρ st).bind fun k st1 => (ev Φ (.new (.lst .nil)) ρ st1).bind fun v st2 => R.ok (D.tup [k, v]) st2))
    (fun m ys st' => ys = (List.range m).map (fun (c : Nat) => .tup [.int c, .ref (st.length + c)]) ∧ st' = st ++ (List.range m).map fun c => O.lst []) (rangeL 0 ((t.length : Int) + 1)) 0 [] st ⟨rfl, by simp⟩ (fun _ _ _ _ => rfl)
    (fun m y hy ys st' hI => by
      obtain ⟨rfl, rfl⟩ := hI
      obtain ⟨hm, rfl⟩ := rangeL_get hy
      rw [Int.zero_add, Nat.zero_add]
      have hbd : bindT (.nm 5) (.int m) (wipeE [s0, some (.str t), s2, s3, s4, none] [5]) = some [s0, some (.str t), s2, s3, s4, some (.int m)] := by simp [bindT, wipeE]
      refine ⟨[.tup [.int m, .ref (st.length + m)]], st ++ (List.range (m + 1)).map fun c => O.lst [], ?_, ?_, rfl⟩
      · rw [lcB, hbd]
        show R.bind (tst _ _ _ _) _ = _
        rw [tst_of (b := true) (st1 := st ++ (List.range m).map fun c => O.lst []) rfl]
        rw [List.range_succ, List.map_append]
        simp [ev, R.bind, c3]
      · rw [List.range_succ, List.map_append]
        rfl)
  rw [List.nil_append] at ez
  rw [Nat.zero_add, rangeL_len] at ez e2
  have e9 : ((t.length : Int) + 1 - 0).toNat = t.length + 1 := by omega
  rw [e9] at ez e2
  have hmk : ∀ (l : List Nat) (ks vs : List D), (∀ x ∈ l, (.int (x : Nat) : D) ∉ ks) → l.Nodup → mkD (l.map fun (c : Nat) => .tup [.int c, .ref (st.length + c)]) ks vs = some (ks ++ nats l, vs ++ l.map fun c => .ref (st.length + c)) := by
    intro l
    induction l with
    | nil => intro ks vs _ _; simp [mkD, nats]
    | cons x r ih =>
      intro ks vs hx hn
      obtain ⟨n1, n2⟩ := List.nodup_cons.mp hn
      have h0 := hx x List.mem_cons_self
      rw [List.map_cons, mkD, if_pos (by rfl), putK, if_neg h0, putV, if_neg h0, ih _ _ ?_ n2]
      · rw [List.append_assoc, List.append_assoc]
        rfl
      · intro y hy hm
        rcases List.mem_append.mp hm with hm | hm
        · exact hx y (List.mem_cons_of_mem _ hy) hm
        · have := List.mem_singleton.mp hm
          injection this with this
          have : y = x := by omega
          rw [this] at hy
          exact n1 hy
  have hmk := hmk (List.range (t.length + 1)) [] [] (by simp) List.nodup_range
  rw [← ez] at hmk
  have hzl : zs.length ≤ sizeLine := by rw [ez, List.length_map, List.length_range]; omega
  rw [ev, hrg]
  show (match items st (D.tup (rangeL 0 ((t.length : Int) + 1))) with
    | some xs => (lcL (gdOf (.tup (rangeL 0 ((t.length : Int) + 1))) st) (lcB (.nm 5) (wipeE [s0, some (.str t), s2, s3, s4, none] [5]) (tst Φ (.c (.bl true))) (fun ρ st => (ev Φ (.v 5) ρ st).bind fun k st1 => (ev Φ (.new (.lst .nil)) ρ st1).bind fun v st2 => R.ok (D.tup [k, v]) st2)) xs st).bind fun zs st2 => match mkD zs [] [] with
      | some (ks, vs) => if zs.length ≤ sizeLine then R.ok (D.ref st2.length) (st2 ++ [O.dic ks vs]) else .no
      | none => .no
    | none => .no) = _
  show R.bind (lcL _ _ _ _) _ = _
  rw [e2]
  show (match mkD zs [] [] with
      | some (ks, vs) => if zs.length ≤ sizeLine then R.ok (D.ref (st ++ (List.range (t.length + 1)).map fun c => O.lst []).length) ((st ++ (List.range (t.length + 1)).map fun c => O.lst []) ++ [O.dic ks vs]) else .no
      | none => .no) = _
  rw [hmk]
  dsimp only
  rw [if_pos hzl, List.nil_append, List.nil_append, List.length_append, List.length_map, List.length_range]
  rfl
theorem sl_ev {s : Sto} {t : Tx} {i j : Nat} (hi : i ≤ t.length) (ht : t.length ≤ 1000) : f3 .slice (.str t) (.int i) (.int j) s = .ok (.str (sl t i j)) s := by
  simp only [f3, optI]
  rw [if_pos (by have c3 : sizeLine = 16777216 := rfl; omega), cut_sl hi]
theorem ev_tup2 {Φ : Phi} {ρ : Env} {st st1 st2 : Sto} {a b : E} {x y : D} (h1 : ev Φ a ρ st = .ok x st1) (h2 : ev Φ b ρ st1 = .ok y st2) : ev Φ (.tup (.cons a (.cons b .nil))) ρ st = .ok (.tup [x, y]) st2 := by
  have c3 : sizeLine = 16777216 := rfl
  simp [ev, R.bind, h1, h2, c3]
def LFwdS (P : Pg) (i : Nat) : Prop := ∀ {k : Nat} {st : Sto} {ws : List Tx} {t : Tx}, WOk ws t → run P (k + 2) i [.tup (ws.map .str), .str t] st = .ok (.ref (st.length + t.length + 1)) (lkSto st t.length (fwdL t (edgs ws t)))
theorem lfwd_of {P : Pg} {iS i : Nat} (hp : P i = some ⟨2, 6, true, lfwdB iS⟩) (hS : SpotsS P iS) : LFwdS P i := by
  intro k st ws t h
  have c3 : sizeLine = 16777216 := rfl
  have hw := h.word
  have hel : (edgs ws t).length ≤ 1000000 := Nat.le_trans (edgs_len ws t) (Nat.mul_le_mul hw hw)
  obtain ⟨ρ, st2, e2, p3, p4, rfl, rfl⟩ := forL_ok (gd := gdOf (.tup (sptD ws t)) (lkSto st t.length (fwdL t []))) (bd := forB (.cons (.nm 3) (.cons (.nm 4) .nil)) (exS (run P (k + 1)) lfwdL))
    (fun m ρ st' => ∃ p3 p4 : Option D, ρ = [some (.tup (ws.map .str)), some (.str t), some (.ref (st.length + t.length + 1)), p3, p4, none] ∧ st' = lkSto st t.length (fwdL t ((edgs ws t).take m))) (sptD ws t) 0
    [some (.tup (ws.map .str)), some (.str t), some (.ref (st.length + t.length + 1)), none, none, none] (lkSto st t.length (fwdL t [])) ⟨none, none, rfl, rfl⟩ (fun _ _ _ _ => rfl)
    (fun m y hy ρ st' hI => by
      obtain ⟨p3, p4, rfl, rfl⟩ := hI
      obtain ⟨a, b, he, rfl, hab, hb⟩ := sptD_get hy
      rw [Nat.zero_add]
      generalize hF : fwdL t ((edgs ws t).take m) = F
      have hFl : (F a).length ≤ 1000000 := by
        rw [← hF]
        have := pick_len (·.1) (fwdI t) a ((edgs ws t).take m)
        have h2 := List.length_take_le' m (edgs ws t)
        exact Nat.le_trans this (Nat.le_trans h2 hel)
      have hbd : bindT (.cons (.nm 3) (.cons (.nm 4) .nil)) (pr a b) [some (.tup (ws.map .str)), some (.str t), some (.ref (st.length + t.length + 1)), p3, p4, none] = some [some (.tup (ws.map .str)), some (.str t), some (.ref (st.length + t.length + 1)), some (.int a), some (.int b), none] := by simp [bindT, bindTs, pr]
      have hix : ev (run P (k + 1)) (.o2 .ix (.v 2) (.v 3)) [some (.tup (ws.map .str)), some (.str t), some (.ref (st.length + t.length + 1)), some (.int a), some (.int b), none] (lkSto st t.length F) = .ok (.ref (st.length + a)) (lkSto st t.length F) := ev_o2 rfl rfl (lk_ix (lkSto_dic st t.length F) (by omega))
      have hit : ev (run P (k + 1)) (.tup (.cons (.tup (.cons (.c (.str [115, 111, 109, 101])) (.cons (.o3 .slice (.v 1) (.o1 .idx (.v 3)) (.o1 .idx (.v 4))) .nil))) (.cons (.v 4) .nil))) [some (.tup (ws.map .str)), some (.str t), some (.ref (st.length + t.length + 1)), some (.int a), some (.int b), none] (lkSto st t.length F) = .ok (fwdI t (a, b)) (lkSto st t.length F) :=
        ev_tup2 (ev_tup2 rfl (ev_o3 (x := .str t) rfl (ev_o1 rfl rfl) (ev_o1 rfl rfl) (sl_ev (by omega) hw))) rfl
      have hty : isTy .lst (lkSto st t.length F) (.ref (st.length + a)) = true := by
        show (match (lkSto st t.length F)[st.length + a]? with | some (.lst _) => true | _ => false) = true
        rw [lkSto_at (by omega)]
      have happ := lk_app (st := st) (n := t.length) (c := a) (F := F) (y := fwdI t (a, b)) (by omega) hFl
      have hsn : fwdL t ((edgs ws t).take (m + 1)) = putF F a (fwdI t (a, b)) := by
        rw [List.take_succ, he, ← hF]
        exact fwdL_snoc t _ (a, b)
      rw [hsn]
      exact ⟨_, _, forB_ok hbd (ex_last (ex_ex (ev_m2 hix hty hit happ))), _, _, rfl, rfl⟩)
  rw [Nat.zero_add, sptD_len, List.take_length] at e2
  have hb : exS (run P (k + 1)) (lfwdB iS) [some (.tup (ws.map .str)), some (.str t), none, none, none, none] st = .ok (.ret (.ref (st.length + t.length + 1))) (lkSto st t.length (fwdL t (edgs ws t))) :=
    ex_seq (ρ' := [some (.tup (ws.map .str)), some (.str t), some (.ref (st.length + t.length + 1)), none, none, none]) (ex_asg (lk_empty hw) rfl) (ex_seq (ex_for (d := .tup (sptD ws t)) (ev_call2 rfl rfl (hS h)) rfl e2) (ex_ret rfl))
  exact run_keep hp rfl rfl hb
def LBothS (P : Pg) (i : Nat) : Prop := ∀ {k : Nat} {st : Sto} {ws : List Tx} {t : Tx}, WOk ws t → run P (k + 3) i [.tup (ws.map .str), .str t] st = .ok (.ref (st.length + t.length + 1)) (lkSto st t.length (bothL t (edgs ws t) (edgs ws t)))
theorem lboth_of {P : Pg} {iS iF i : Nat} (hp : P i = some ⟨2, 5, true, lbothB iS iF⟩) (hS : SpotsS P iS) (hF : LFwdS P iF) : LBothS P i := by
  intro k st ws t h
  have c3 : sizeLine = 16777216 := rfl
  have hw := h.word
  have hel : (edgs ws t).length ≤ 1000000 := Nat.le_trans (edgs_len ws t) (Nat.mul_le_mul hw hw)
  have e1 : run P (k + 2) iF [.tup (ws.map .str), .str t] st = _ := hF h
  have hb0 : bothL t (edgs ws t) [] = fwdL t (edgs ws t) := by
    funext c
    rw [bothL, bwdL, List.flatMap_nil, List.append_nil]
  obtain ⟨ρ, st2, e2, p3, p4, rfl, rfl⟩ := forL_ok (gd := gdOf (.tup (sptD ws t)) (lkSto st t.length (fwdL t (edgs ws t)))) (bd := forB (.cons (.nm 3) (.cons (.nm 4) .nil)) (exS (run P (k + 2)) lbothL))
    (fun m ρ st' => ∃ p3 p4 : Option D, ρ = [some (.tup (ws.map .str)), some (.str t), some (.ref (st.length + t.length + 1)), p3, p4] ∧ st' = lkSto st t.length (bothL t (edgs ws t) ((edgs ws t).take m))) (sptD ws t) 0
    [some (.tup (ws.map .str)), some (.str t), some (.ref (st.length + t.length + 1)), none, none] (lkSto st t.length (fwdL t (edgs ws t))) ⟨none, none, rfl, by rw [List.take_zero, hb0]⟩ (fun _ _ _ _ => rfl)
    (fun m y hy ρ st' hI => by
      obtain ⟨p3, p4, rfl, rfl⟩ := hI
      obtain ⟨a, b, he, rfl, hab, hb⟩ := sptD_get hy
      rw [Nat.zero_add]
      generalize hF : bothL t (edgs ws t) ((edgs ws t).take m) = F
      have hFl : (F b).length ≤ 10000000 := by
        rw [← hF, bothL, List.length_append]
        have h1 := pick_len (·.1) (fwdI t) b (edgs ws t)
        have h2 := pick_len (·.2) (bwdI t) b ((edgs ws t).take m)
        have h3 := List.length_take_le' m (edgs ws t)
        have h4 : (fwdL t (edgs ws t) b).length ≤ 1000000 := Nat.le_trans h1 hel
        have h5 : (bwdL t ((edgs ws t).take m) b).length ≤ 1000000 := Nat.le_trans h2 (Nat.le_trans h3 hel)
        omega
      have hbd : bindT (.cons (.nm 3) (.cons (.nm 4) .nil)) (pr a b) [some (.tup (ws.map .str)), some (.str t), some (.ref (st.length + t.length + 1)), p3, p4] = some [some (.tup (ws.map .str)), some (.str t), some (.ref (st.length + t.length + 1)), some (.int a), some (.int b)] := by simp [bindT, bindTs, pr]
      have hix : ev (run P (k + 2)) (.o2 .ix (.v 2) (.v 4)) [some (.tup (ws.map .str)), some (.str t), some (.ref (st.length + t.length + 1)), some (.int a), some (.int b)] (lkSto st t.length F) = .ok (.ref (st.length + b)) (lkSto st t.length F) := ev_o2 rfl rfl (lk_ix (lkSto_dic st t.length F) hb)
      have hit : ev (run P (k + 2)) (.tup (.cons (.tup (.cons (.c (.str [97, 108, 108])) (.cons (.o3 .slice (.v 1) (.o1 .idx (.v 3)) (.o1 .idx (.v 4))) .nil))) (.cons (.v 3) .nil))) [some (.tup (ws.map .str)), some (.str t), some (.ref (st.length + t.length + 1)), some (.int a), some (.int b)] (lkSto st t.length F) = .ok (bwdI t (a, b)) (lkSto st t.length F) :=
        ev_tup2 (ev_tup2 rfl (ev_o3 (x := .str t) rfl (ev_o1 rfl rfl) (ev_o1 rfl rfl) (sl_ev (by omega) hw))) rfl
      have hty : isTy .lst (lkSto st t.length F) (.ref (st.length + b)) = true := by
        show (match (lkSto st t.length F)[st.length + b]? with | some (.lst _) => true | _ => false) = true
        rw [lkSto_at hb]
      have happ : f2 .append (.ref (st.length + b)) (bwdI t (a, b)) (lkSto st t.length F) = .ok .non (lkSto st t.length (putF F b (bwdI t (a, b)))) := by
        have : (F b).length < sizeLine := by omega
        simp only [f2, lkSto_at hb]
        rw [if_pos this, lkSto_put hb]
      have hsn : bothL t (edgs ws t) ((edgs ws t).take (m + 1)) = putF F b (bwdI t (a, b)) := by
        rw [List.take_succ, he, ← hF]
        exact bothL_snoc t _ _ (a, b)
      rw [hsn]
      exact ⟨_, _, forB_ok hbd (ex_last (ex_ex (ev_m2 hix hty hit happ))), _, _, rfl, rfl⟩)
  rw [Nat.zero_add, sptD_len, List.take_length] at e2
  have hb : exS (run P (k + 2)) (lbothB iS iF) [some (.tup (ws.map .str)), some (.str t), none, none, none] st = .ok (.ret (.ref (st.length + t.length + 1))) (lkSto st t.length (bothL t (edgs ws t) (edgs ws t))) :=
    ex_seq (ρ' := [some (.tup (ws.map .str)), some (.str t), some (.ref (st.length + t.length + 1)), none, none]) (ex_asg (ev_call2 rfl rfl e1) rfl) (ex_seq (ex_for (d := .tup (sptD ws t)) (ev_call2 rfl rfl (hS h)) rfl e2) (ex_ret rfl))
  exact run_keep hp rfl rfl hb
end MP
end

section
set_option Elab.async false
set_option linter.all false
set_option maxRecDepth 100000
/-! MP: the shortest way, plan, bar, judge, whichever the program is. -/
namespace MP
open PySem
def bsSto (S : Sto) (wt : List Nat) (ways : List (List D)) : Sto := S ++ [O.dic (nats wt) (ways.map .tup), O.lst (nats wt)]
theorem bsSto_old {S : Sto} {wt : List Nat} {ways : List (List D)} {i : Nat} (h : i < S.length) : (bsSto S wt ways)[i]? = S[i]? := List.getElem?_append_left h
theorem bsSto_d {S : Sto} {wt : List Nat} {ways : List (List D)} : (bsSto S wt ways)[S.length]? = some (.dic (nats wt) (ways.map .tup)) := by
  rw [bsSto, List.getElem?_append_right (Nat.le_refl _), Nat.sub_self]
  rfl
theorem bsSto_l {S : Sto} {wt : List Nat} {ways : List (List D)} : (bsSto S wt ways)[S.length + 1]? = some (.lst (nats wt)) := by
  rw [bsSto, List.getElem?_append_right (by omega), Nat.add_sub_cancel_left]
  rfl
/-- nothing in it is a place -/
def Clo (xs : List D) : Prop := ∀ n, unders n xs = true
theorem clo_app {xs : List D} {s : D} (h : Clo xs) (hs : ∀ n, s.under n = true) : Clo (xs ++ [s]) := by
  intro n
  have : ∀ xs : List D, unders n xs = true → unders n (xs ++ [s]) = true := by
    intro xs
    induction xs with
    | nil => intro _; show (s.under n && true) = true; rw [hs n]; rfl
    | cons x r ih =>
      intro h
      rw [unders, Bool.and_eq_true] at h
      rw [List.cons_append, unders, h.1, ih h.2]
      rfl
  exact this xs (h n)
structure Ways (wt : List Nat) (ways : List (List D)) : Prop where
  len : ways.length = wt.length
  ok : ∀ ss ∈ ways, Clo ss ∧ ss.length ≤ wt.length
theorem look_in : ∀ {wt : List Nat} {ways : List (List D)} {x : Nat}, ways.length = wt.length → x ∈ wt → ∃ ss ∈ ways, look (.int x) (nats wt) (ways.map .tup) = some (.tup ss)
  | [], _, x, _, h => absurd h (by simp)
  | a :: r, [], x, hl, _ => absurd hl (by simp)
  | a :: r, w :: ws, x, hl, h => by
    show ∃ ss ∈ w :: ws, look (.int x) (.int (a : Nat) :: nats r) (.tup w :: ws.map .tup) = some (.tup ss)
    rw [look]
    by_cases e : a = x
    · subst e
      exact ⟨w, List.mem_cons_self, by rw [if_pos rfl]⟩
    · rw [if_neg (fun z => e (by injection z with z; omega))]
      obtain ⟨ss, h1, h2⟩ := look_in (wt := r) (ways := ws) (x := x) (by simpa using hl) ((List.mem_cons.mp h).resolve_left fun z => e z.symm)
      exact ⟨ss, List.mem_cons_of_mem _ h1, h2⟩
theorem look_out : ∀ {wt : List Nat} {vs : List D} {x : Nat}, x ∉ wt → look (.int x) (nats wt) vs = none
  | [], vs, x, _ => by simp [nats, look]
  | a :: r, [], x, _ => by simp [nats, look]
  | a :: r, w :: ws, x, h => by
    show look (.int x) (.int (a : Nat) :: nats r) (w :: ws) = none
    rw [look, if_neg (fun z => h (by injection z with z; have : a = x := by omega
                                     rw [this]; exact List.mem_cons_self))]
    exact look_out fun z => h (List.mem_cons_of_mem _ z)
theorem notIn_way {S : Sto} {wt : List Nat} {ways : List (List D)} {y : Nat} (hl : ways.length = wt.length) : f2 .notIn (.int y) (.ref S.length) (bsSto S wt ways) = .ok (.bl (!decide (y ∈ wt))) (bsSto S wt ways) := by
  have h : (look (.int y) (nats wt) (ways.map .tup)).isSome = decide (y ∈ wt) := by
    by_cases z : y ∈ wt
    · obtain ⟨ss, _, e⟩ := look_in hl z
      rw [e, decide_eq_true z]; rfl
    · rw [look_out z, decide_eq_false z]; rfl
  simp only [f2, dict?, bsSto_d, isKey, if_true, h]
theorem put_way {S : Sto} {wt : List Nat} {ways : List (List D)} {y : Nat} {ss : List D} (hy : y ∉ wt) (hl : wt.length ≤ 1000000) : setR (.ref S.length) (.int y) (.tup ss) (bsSto S wt ways) = some (S ++ [O.dic (nats (wt ++ [y])) ((ways ++ [ss]).map .tup), O.lst (nats wt)]) := by
  have c3 : sizeLine = 16777216 := rfl
  have hk : (D.int (y : Nat)) ∉ nats wt := fun z => hy (mem_nats.mp z)
  have h1 : putK (.int y) (nats wt) = nats (wt ++ [y]) := by rw [putK, if_neg hk, nats, nats, List.map_append]; rfl
  have h2 : putV (.int y) (.tup ss) (nats wt) (ways.map .tup) = (ways ++ [ss]).map .tup := by rw [putV, if_neg hk, List.map_append]; rfl
  have h3 : (isKey (.int y) && decide ((nats wt).length < sizeLine)) = true := by rw [nats_len, decide_eq_true (by omega)]; rfl
  simp only [setR, bsSto_d]
  rw [h3, if_pos rfl, h1, h2, bsSto, List.set_append_right _ _ (Nat.le_refl _), Nat.sub_self]
  rfl
theorem app_way {S : Sto} {wt : List Nat} {ways : List (List D)} {y : Nat} {o : O} (hl : wt.length ≤ 1000000) : f2 .append (.ref (S.length + 1)) (.int y) (S ++ [o, O.lst (nats wt)]) = .ok .non (S ++ [o, O.lst (nats (wt ++ [y]))]) := by
  have c3 : sizeLine = 16777216 := rfl
  have hg : (S ++ [o, O.lst (nats wt)])[S.length + 1]? = some (.lst (nats wt)) := by
    rw [List.getElem?_append_right (by omega), Nat.add_sub_cancel_left]
    rfl
  have h1 : (nats wt).length < sizeLine := by rw [nats_len]; omega
  simp only [f2, hg]
  rw [if_pos h1, List.set_append_right _ _ (by omega), Nat.add_sub_cancel_left]
  show R.ok D.non (S ++ [o, O.lst (nats wt ++ [D.int (y : Nat)])]) = _
  rw [nats, nats, List.map_append]
  rfl
inductive LkR : List D → List Nat → Prop
  | nil : LkR [] []
  | cons {s : D} {y : Nat} {r : List D} {ys : List Nat} : (∀ n, s.under n = true) → LkR r ys → LkR (.tup [s, .int y] :: r) (y :: ys)
theorem LkR.app {a b : List D} {xs ys : List Nat} (h : LkR a xs) (g : LkR b ys) : LkR (a ++ b) (xs ++ ys) := by
  induction h with
  | nil => exact g
  | cons hs _ ih => exact .cons hs ih
theorem lkr_pick (p q : Nat × Nat → Nat) (f : Nat × Nat → D) (hf : ∀ e, ∃ s : D, f e = .tup [s, .int (q e)] ∧ ∀ n, s.under n = true) (c : Nat) : ∀ es : Ed, LkR (es.flatMap fun e => if p e = c then [f e] else []) (es.flatMap fun e => if p e = c then [q e] else [])
  | [] => .nil
  | e :: r => by
    rw [List.flatMap_cons, List.flatMap_cons]
    refine LkR.app ?_ (lkr_pick p q f hf c r)
    split
    · obtain ⟨s, h1, h2⟩ := hf e
      rw [h1]
      exact .cons h2 .nil
    · exact .nil
theorem lkr_both (t : Tx) (es : Ed) (c : Nat) : LkR (bothL t es es c) (nearL es c) :=
  LkR.app (lkr_pick (·.1) (·.2) (fwdI t) (fun e => ⟨_, rfl, fun n => rfl⟩) c es) (lkr_pick (·.2) (·.1) (bwdI t) (fun e => ⟨_, rfl, fun n => rfl⟩) c es)
theorem LkR.get {a : List D} {xs : List Nat} (h : LkR a xs) : ∀ {i : Nat} {d : D}, a[i]? = some d → ∃ s y, d = .tup [s, .int (y : Nat)] ∧ xs[i]? = some y ∧ ∀ n, s.under n = true := by
  induction h with
  | nil => intro i d h; simp at h
  | cons hs _ ih =>
    intro i d h
    cases i with
    | zero => simp at h; subst h; exact ⟨_, _, rfl, rfl, hs⟩
    | succ i => exact ih (by simpa using h)
theorem LkR.len {a : List D} {xs : List Nat} (h : LkR a xs) : a.length = xs.length := by
  induction h with
  | nil => rfl
  | cons _ _ ih => rw [List.length_cons, List.length_cons, ih]
def shI : S := .seq (.ite (.o2 .notIn (.v 7) (.v 2)) (.seq (.seti (.v 2) (.v 7) (.tup (.star (.o2 .ix (.v 2) (.v 5)) (.cons (.v 6) .nil)))) (.seq (.ex (.m2 .lst .append (.v 3) (.v 7))) .skip)) .skip) .skip
def shW : S := .seq (.par (.cons (.nm 5) (.cons (.nm 4) .nil)) (.cons (.o2 .ix (.v 3) (.v 4)) (.cons (.o2 .add (.v 4) (.c (.int 1))) .nil))) (.seq (.for_ (.cons (.nm 6) (.cons (.nm 7) .nil)) (.o2 .ix (.v 0) (.v 5)) shI) .skip)
def shortB : S := .seq (.par (.cons (.nm 2) (.cons (.nm 3) (.cons (.nm 4) .nil))) (.cons (.newd (.dic [.int 0] (.cons (.tup .nil) .nil))) (.cons (.new (.lst (.cons (.c (.int 0)) .nil))) (.cons (.c (.int 0)) .nil)))) (.seq (.whl (.o2 .lt (.v 4) (.o1 .len (.v 3))) shW) (.seq (.ret (.tup (.cons (.m2 .dic .get (.v 2) (.v 1)) (.cons (.o1 .tuple (.o1 .sortdic (.v 2))) .nil)))) .skip))
theorem ex_par2 {Φ : Phi} {ρ ρ' : Env} {st st1 st2 : Sto} {l : T} {a b : E} {x y : D} (h1 : ev Φ a ρ st = .ok x st1) (h2 : ev Φ b ρ st1 = .ok y st2) (h3 : bindTs l [x, y] ρ = some ρ') : exS Φ (.par l (.cons a (.cons b .nil))) ρ st = .ok (.next ρ') st2 := by
  simp [exS, ev, R.bind, h1, h2, h3]
theorem sh_in {Φ : Phi} {S : Sto} {wt : List Nat} {ways : List (List D)} {x y : Nat} {s : D} {s0 s1 s4 s6 s7 : Option D} (hW : Ways wt ways) (hx : x ∈ wt) (hs : ∀ n, s.under n = true) (hl : wt.length ≤ 2000) :
    ∃ ways', forB (.cons (.nm 6) (.cons (.nm 7) .nil)) (exS Φ shI) (.tup [s, .int y]) [s0, s1, some (.ref S.length), some (.ref (S.length + 1)), s4, some (.int x), s6, s7] (bsSto S wt ways) =
      .ok (.next [s0, s1, some (.ref S.length), some (.ref (S.length + 1)), s4, some (.int x), some s, some (.int y)]) (bsSto S (addN wt y) ways') ∧ Ways (addN wt y) ways' := by
  have c3 : sizeLine = 16777216 := rfl
  have hbd : bindT (.cons (.nm 6) (.cons (.nm 7) .nil)) (.tup [s, .int y]) [s0, s1, some (.ref S.length), some (.ref (S.length + 1)), s4, some (.int x), s6, s7] = some [s0, s1, some (.ref S.length), some (.ref (S.length + 1)), s4, some (.int x), some s, some (.int y)] := by simp [bindT, bindTs]
  have hc : ev Φ (.o2 .notIn (.v 7) (.v 2)) [s0, s1, some (.ref S.length), some (.ref (S.length + 1)), s4, some (.int x), some s, some (.int y)] (bsSto S wt ways) = .ok (.bl (!decide (y ∈ wt))) (bsSto S wt ways) := ev_o2 rfl rfl (notIn_way hW.len)
  by_cases hy : y ∈ wt
  · rw [decide_eq_true hy] at hc
    have e : addN wt y = wt := if_pos hy
    rw [e]
    exact ⟨ways, forB_ok hbd (ex_guard (tst_of hc) rfl), hW⟩
  · rw [decide_eq_false hy] at hc
    have e : addN wt y = wt ++ [y] := if_neg hy
    rw [e]
    obtain ⟨ss, hss, hlk⟩ := look_in hW.len hx
    obtain ⟨hcl, hsl⟩ := hW.ok ss hss
    have hix : f2 .ix (.ref S.length) (.int x) (bsSto S wt ways) = .ok (.tup ss) (bsSto S wt ways) := by
      simp only [f2, dict?, bsSto_d, isKey, if_true, hlk, R.of]
    have hv : ev Φ (.tup (.star (.o2 .ix (.v 2) (.v 5)) (.cons (.v 6) .nil))) [s0, s1, some (.ref S.length), some (.ref (S.length + 1)), s4, some (.int x), some s, some (.int y)] (bsSto S wt ways) = .ok (.tup (ss ++ [s])) (bsSto S wt ways) := by
      have g1 : ev Φ (.o2 .ix (.v 2) (.v 5)) [s0, s1, some (.ref S.length), some (.ref (S.length + 1)), s4, some (.int x), some s, some (.int y)] (bsSto S wt ways) = .ok (.tup ss) (bsSto S wt ways) := ev_o2 rfl rfl hix
      have q : (ss ++ [s]).length ≤ sizeLine := by rw [List.length_append, List.length_singleton]; omega
      rw [ev, ev, g1]
      show R.bind (R.ok (D.tup (ss ++ [s])) (bsSto S wt ways)) _ = _
      show (if (ss ++ [s]).length ≤ sizeLine then R.ok (D.tup (ss ++ [s])) (bsSto S wt ways) else .no) = _
      rw [if_pos q]
    have hset := put_way (S := S) (ways := ways) (ss := ss ++ [s]) hy (by omega)
    have hap := app_way (S := S) (wt := wt) (ways := ways) (y := y) (o := O.dic (nats (wt ++ [y])) ((ways ++ [ss ++ [s]]).map .tup)) (by omega)
    have hty : isTy .lst (S ++ [O.dic (nats (wt ++ [y])) ((ways ++ [ss ++ [s]]).map .tup), O.lst (nats wt)]) (.ref (S.length + 1)) = true := by
      have hg : (S ++ [O.dic (nats (wt ++ [y])) ((ways ++ [ss ++ [s]]).map .tup), O.lst (nats wt)])[S.length + 1]? = some (.lst (nats wt)) := by
        rw [List.getElem?_append_right (by omega), Nat.add_sub_cancel_left]
        rfl
      show (match (S ++ [O.dic (nats (wt ++ [y])) ((ways ++ [ss ++ [s]]).map .tup), O.lst (nats wt)])[S.length + 1]? with | some (.lst _) => true | _ => false) = true
      rw [hg]
    refine ⟨ways ++ [ss ++ [s]], forB_ok hbd (ex_thenT (tst_of hc) (ex_seq (ex_seti hv rfl rfl hset) (ex_last (ex_ex (ev_m2 (x := .ref (S.length + 1)) rfl hty rfl hap)))) rfl), ?_, ?_⟩
    · rw [List.length_append, List.length_append, hW.len]; rfl
    · intro zs hz
      rw [List.length_append, List.length_singleton]
      rcases List.mem_append.mp hz with hz | hz
      · obtain ⟨a, b⟩ := hW.ok zs hz
        exact ⟨a, by omega⟩
      · rw [List.mem_singleton.mp hz]
        exact ⟨clo_app hcl hs, by rw [List.length_append, List.length_singleton]; omega⟩
/-- links laid in a store -/
structure Laid (S : Sto) (r b n : Nat) (F : Nat → List D) : Prop where
  d : S[r]? = some (.dic (lkKeys n) (lkRefs b n))
  l : ∀ c, c ≤ n → S[b + c]? = some (.lst (F c))
def ShortS (P : Pg) (i : Nat) : Prop := ∀ {k : Nat} {S : Sto} {r b n : Nat} {F : Nat → List D} {es : Ed}, Laid S r b n F → (∀ c, c ≤ n → LkR (F c) (nearL es c)) → (∀ e ∈ es, e.1 ≤ n ∧ e.2 ≤ n) → n ≤ 62 →
    ∃ d : D, run P (k + 1) i [.ref r, .int n] S = .ok (.tup [d, .tup (nats (clsL es n 0))]) S ∧ (toldB es n = true → ∃ ss, d = .tup ss ∧ Clo ss) ∧ (toldB es n = false → d = .non)
theorem short_of {P : Pg} {i : Nat} (hp : P i = some ⟨2, 8, false, shortB⟩) : ShortS P i := by
  intro k S r b n F es hL hF hes hn
  have c3 : sizeLine = 16777216 := rfl
  have lt_of {j : Nat} {o : O} (h : S[j]? = some o) : j < S.length := (List.getElem?_eq_some_iff.mp h).1
  have hr := lt_of hL.d
  obtain ⟨ρ, st2, e2, wt, ways, s4, s5, s6, s7, rfl, rfl, hW, hB⟩ := whl_ok (c := tst (run P k) (.o2 .lt (.v 4) (.o1 .len (.v 3)))) (b := exS (run P k) shW)
    (fun m ρ st' => ∃ (wt : List Nat) (ways : List (List D)) (q : Nat) (s5 s6 s7 : Option D), ρ = [some (.ref r), some (.int n), some (.ref S.length), some (.ref (S.length + 1)), some (.int q), s5, s6, s7] ∧ st' = bsSto S wt ways ∧ Ways wt ways ∧ Bfs es n 0 wt q ∧ m = n + 1 - q)
    (fun ρ st' => ∃ (wt : List Nat) (ways : List (List D)) (s4 s5 s6 s7 : Option D), ρ = [some (.ref r), some (.int n), some (.ref S.length), some (.ref (S.length + 1)), s4, s5, s6, s7] ∧ st' = bsSto S wt ways ∧ Ways wt ways ∧ Bfs es n 0 wt wt.length)
    (fun m ρ st' hI => by
      obtain ⟨wt, ways, q, s5, s6, s7, rfl, rfl, hW, hB, rfl⟩ := hI
      have hlen := hB.len
      have hll : f1 .len (.ref (S.length + 1)) (bsSto S wt ways) = .ok (.int wt.length) (bsSto S wt ways) := by
        simp only [f1, bsSto_l, nats_len]
      have hc : tst (run P k) (.o2 .lt (.v 4) (.o1 .len (.v 3))) [some (.ref r), some (.int n), some (.ref S.length), some (.ref (S.length + 1)), some (.int q), s5, s6, s7] (bsSto S wt ways) = .ok (decide (q < wt.length)) (bsSto S wt ways) := tst_of (ev_o2 rfl (ev_o1 rfl hll) lt_nat)
      rw [hc]
      by_cases hq : q < wt.length
      · right
        rw [decide_eq_true hq]
        have hx : wt[q]? = some wt[q] := List.getElem?_eq_getElem hq
        have hxm : wt[q] ∈ wt := List.getElem_mem _
        have hxn := (hB.ok _ hxm).1
        generalize hxx : wt[q] = x at hx hxm hxn
        have hB2 := hB.step hes hx
        have hix1 : f2 .ix (.ref (S.length + 1)) (.int q) (bsSto S wt ways) = .ok (.int x) (bsSto S wt ways) := ix_ref bsSto_l (by rw [nats, List.getElem?_map, hx]; rfl)
        have hadd : f2 .add (.int q) (.int 1) (bsSto S wt ways) = .ok (.int ((q + 1 : Nat) : Int)) (bsSto S wt ways) := rfl
        have hpar : exS (run P k) (.par (.cons (.nm 5) (.cons (.nm 4) .nil)) (.cons (.o2 .ix (.v 3) (.v 4)) (.cons (.o2 .add (.v 4) (.c (.int 1))) .nil))) [some (.ref r), some (.int n), some (.ref S.length), some (.ref (S.length + 1)), some (.int q), s5, s6, s7] (bsSto S wt ways) = .ok (.next [some (.ref r), some (.int n), some (.ref S.length), some (.ref (S.length + 1)), some (.int ((q + 1 : Nat) : Int)), some (.int x), s6, s7]) (bsSto S wt ways) := by
          have g1 : ev (run P k) (.o2 .ix (.v 3) (.v 4)) [some (.ref r), some (.int n), some (.ref S.length), some (.ref (S.length + 1)), some (.int q), s5, s6, s7] (bsSto S wt ways) = _ := ev_o2 rfl rfl hix1
          have g2 : ev (run P k) (.o2 .add (.v 4) (.c (.int 1))) [some (.ref r), some (.int n), some (.ref S.length), some (.ref (S.length + 1)), some (.int q), s5, s6, s7] (bsSto S wt ways) = _ := ev_o2 rfl rfl hadd
          exact ex_par2 g1 g2 rfl
        have hlk : ev (run P k) (.o2 .ix (.v 0) (.v 5)) [some (.ref r), some (.int n), some (.ref S.length), some (.ref (S.length + 1)), some (.int ((q + 1 : Nat) : Int)), some (.int x), s6, s7] (bsSto S wt ways) = .ok (.ref (b + x)) (bsSto S wt ways) :=
          ev_o2 rfl rfl (lk_ix (by rw [bsSto_old hr]; exact hL.d) hxn)
        have hfx := hL.l x hxn
        have hbx := lt_of hfx
        have hR := hF x hxn
        obtain ⟨ρ3, st3, e3, s6', s7', ways3, rfl, rfl, hW3⟩ := forL_ok (gd := gdOf (.ref (b + x)) (bsSto S wt ways)) (bd := forB (.cons (.nm 6) (.cons (.nm 7) .nil)) (exS (run P k) shI))
          (fun m ρ st' => ∃ (s6 s7 : Option D) (ways' : List (List D)), ρ = [some (.ref r), some (.int n), some (.ref S.length), some (.ref (S.length + 1)), some (.int ((q + 1 : Nat) : Int)), some (.int x), s6, s7] ∧ st' = bsSto S (List.foldl addN wt ((nearL es x).take m)) ways' ∧ Ways (List.foldl addN wt ((nearL es x).take m)) ways') (F x) 0
          [some (.ref r), some (.int n), some (.ref S.length), some (.ref (S.length + 1)), some (.int ((q + 1 : Nat) : Int)), some (.int x), s6, s7] (bsSto S wt ways) ⟨s6, s7, ways, rfl, rfl, hW⟩
          (fun m ρ st' hI => by
            obtain ⟨_, _, ways', _, rfl, _⟩ := hI
            show decide ((bsSto S _ ways')[b + x]? = (bsSto S wt ways)[b + x]?) = true
            rw [bsSto_old hbx, bsSto_old hbx, decide_eq_true rfl])
          (fun m d hd ρ st' hI => by
            obtain ⟨s6, s7, ways', rfl, rfl, hW'⟩ := hI
            obtain ⟨s, y, rfl, hy, hs⟩ := hR.get hd
            have hmem : ∀ z ∈ List.foldl addN wt ((nearL es x).take (0 + m)), z ∈ List.foldl addN wt (nearL es x) := fun z hz => by
              rcases addF_mem.mp hz with hz | hz
              · exact addF_mem.mpr (.inl hz)
              · exact addF_mem.mpr (.inr (List.mem_of_mem_take hz))
            have hln : (List.foldl addN wt ((nearL es x).take (0 + m))).length ≤ 2000 := by
              have h1 := addF_nodup (xs := (nearL es x).take (0 + m)) hB.nd
              have := h1.length_le_of_subset (l₂ := List.range (n + 1)) fun z hz => List.mem_range.mpr (by have := (hB2.ok z (hmem z hz)).1; omega)
              rw [List.length_range] at this
              omega
            obtain ⟨ways2, e4, hW2⟩ := sh_in (Φ := run P k) (S := S) (x := x) (y := y) (s := s) (s0 := some (.ref r)) (s1 := some (.int n)) (s4 := some (.int ((q + 1 : Nat) : Int))) (s6 := s6) (s7 := s7) hW' (addF_mem.mpr (.inl hxm)) hs hln
            have hsn : List.foldl addN wt ((nearL es x).take (0 + m + 1)) = addN (List.foldl addN wt ((nearL es x).take (0 + m))) y := by
              rw [Nat.zero_add, List.take_succ, hy, List.foldl_append]
              rfl
            rw [← hsn] at e4 hW2
            exact ⟨_, _, e4, _, _, ways2, rfl, rfl, hW2⟩)
        rw [Nat.zero_add, hR.len, List.take_length] at e3 hW3
        have hit : items (bsSto S wt ways) (.ref (b + x)) = some (F x) := by
          show (match (bsSto S wt ways)[b + x]? with | some (.lst xs) => some xs | _ => none) = _
          rw [bsSto_old hbx, hfx]
        refine ⟨_, [some (.ref r), some (.int n), some (.ref S.length), some (.ref (S.length + 1)), some (.int ((q + 1 : Nat) : Int)), some (.int x), s6', s7'], _, n + 1 - (q + 1), rfl, ex_seq hpar (ex_last (ex_for hlk hit e3)), by omega, _, ways3, q + 1, _, _, _, rfl, ?_, ?_, hB2, rfl⟩
        · rfl
        · exact hW3
      · left
        rw [decide_eq_false hq]
        have : q = wt.length := by have := hB.le; omega
        subst this
        exact ⟨_, rfl, wt, ways, _, _, _, _, rfl, rfl, hW, hB⟩)
    whlFuel (n + 1) [some (.ref r), some (.int n), some (.ref S.length), some (.ref (S.length + 1)), some (.int (0 : Nat)), none, none, none] (bsSto S [0] [[]]) (by have : whlFuel = 1000000 := rfl; omega)
    ⟨[0], [[]], 0, none, none, none, rfl, rfl, ⟨rfl, fun ss h => by rw [List.mem_singleton.mp h]; exact ⟨fun _ => rfl, by simp⟩⟩, ⟨by simp, fun x hx => by rw [List.mem_singleton.mp hx]; exact ⟨Nat.zero_le _, .refl _⟩, by simp, Nat.zero_le _, fun p x hp => absurd hp (by omega)⟩, rfl⟩
  have hwl := hB.len
  have hcl : ∀ x, x ∈ wt ↔ x ∈ clsL es n 0 := fun x => hB.fin x
  have hsrt : f1 .sortdic (.ref S.length) (bsSto S wt ways) = .ok (.lst (nats (clsL es n 0))) (bsSto S wt ways) := by
    have h1 : ((nats wt).length < 64 && (intsOf (nats wt)).isSome) = true := by
      rw [nats_len, ints_nats, decide_eq_true (by omega)]
      rfl
    have h2 : sortL (nats wt) = nats (clsL es n 0) := sort_nats hB.nd (clsL_asc _ _ _) hcl
    simp only [f1, dict?, bsSto_d, Option.bind_some]
    rw [h1, if_pos rfl, h2]
    rfl
  have htold : toldB es n = decide (n ∈ wt) := by
    rw [Bool.eq_iff_iff, decide_eq_true_eq, hcl, mem_clsL, toldB_iff]
    exact ⟨fun h => ⟨Nat.le_refl _, h⟩, fun h => h.2⟩
  have hget : f2 .get (.ref S.length) (.int n) (bsSto S wt ways) = .ok ((look (.int n) (nats wt) (ways.map .tup)).getD .non) (bsSto S wt ways) := by
    simp only [f2, dict?, bsSto_d, isKey, if_true]
  have hty : isTy .dic (bsSto S wt ways) (.ref S.length) = true := by
    show (match (bsSto S wt ways)[S.length]? with | some (.dic _ _) => true | _ => false) = true
    rw [bsSto_d]
  have hb : exS (run P k) shortB [some (.ref r), some (.int n), none, none, none, none, none, none] S = .ok (.ret (.tup [(look (.int n) (nats wt) (ways.map .tup)).getD .non, .tup (nats (clsL es n 0))])) (bsSto S wt ways) := by
    refine ex_seq (ρ' := [some (.ref r), some (.int n), some (.ref S.length), some (.ref (S.length + 1)), some (.int (0 : Nat)), none, none, none]) (st1 := bsSto S [0] [[]]) ?_ ?_
    · simp [exS, ev, R.bind, bindTs, bindT, c3, bsSto, nats, isKey]
    exact ex_seq (ex_whl e2) (ex_ret (ev_tup2 (ev_m2 (x := .ref S.length) rfl hty rfl hget) (ev_o1 (ev_o1 rfl hsrt) rfl)))
  have hrr : run P (k + 1) i [.ref r, .int n] S = gc S.length S (.tup [(look (.int n) (nats wt) (ways.map .tup)).getD .non, .tup (nats (clsL es n 0))]) (bsSto S wt ways) := run_ret hp rfl rfl hb
  have hfin : ∀ d : D, (look (.int n) (nats wt) (ways.map .tup)).getD .non = d → d.under S.length = true → run P (k + 1) i [.ref r, .int n] S = .ok (.tup [d, .tup (nats (clsL es n 0))]) S := by
    intro d hd hu
    rw [hrr, hd]
    refine gc_tl (st := S) (tl := [O.dic (nats wt) (ways.map .tup), O.lst (nats wt)]) (by simp) ?_
    show (D.tup _).under _ = true
    rw [D.under, unders, hu, unders, D.under, nats_under]
    rfl
  by_cases hz : n ∈ wt
  · obtain ⟨ss, h1, h2⟩ := look_in hW.len hz
    refine ⟨.tup ss, hfin _ (by rw [h2]; rfl) (by rw [D.under]; exact (hW.ok ss h1).1 _), fun _ => ⟨ss, rfl, (hW.ok ss h1).1⟩, fun h => ?_⟩
    rw [htold, decide_eq_true hz] at h
    cases h
  · refine ⟨.non, hfin _ (by rw [look_out hz]; rfl) rfl, fun h => ?_, fun _ => rfl⟩
    rw [htold, decide_eq_false hz] at h
    cases h
/-! ### plan, bar, judge -/
def planB (iH iB : Nat) : S := .seq (.asg (.cons (.nm 2) (.cons (.nm 3) .nil)) (.call iH (.cons (.call iB (.cons (.v 0) (.cons (.v 1) .nil)) .nil [] []) (.cons (.o1 .len (.v 1)) .nil)) .nil [] [])) (.seq (.ite (.o2 .is (.v 2) (.c .non)) (.seq .stuck .skip) .skip) (.seq (.ret (.v 2)) .skip))
def PlanS (P : Pg) (i : Nat) : Prop := ∀ {k : Nat} {st : Sto} {ws : List Tx} {t : Tx}, WOk ws t → t.length ≤ 62 → toldW ws t = true → ∃ ss, run P (k + 4) i [.tup (ws.map .str), .str t] st = .ok (.tup ss) st ∧ Clo ss
theorem plan_of' {P : Pg} {iH iB i : Nat} (hp : P i = some ⟨2, 4, false, planB iH iB⟩) (hB : LBothS P iB) (hH : ShortS P iH) : PlanS P i := by
  intro k st ws t h ht hT
  have c3 : sizeLine = 16777216 := rfl
  have e1 : run P (k + 3) iB [.tup (ws.map .str), .str t] st = _ := hB (k := k) h
  generalize hS : lkSto st t.length (bothL t (edgs ws t) (edgs ws t)) = S at e1
  have hL : Laid S (st.length + t.length + 1) st.length t.length (bothL t (edgs ws t) (edgs ws t)) := by
    rw [← hS]
    exact ⟨lkSto_dic _ _ _, fun c hc => lkSto_at hc⟩
  obtain ⟨d, e2, hd, _⟩ := hH (k := k + 2) hL (fun c _ => lkr_both t (edgs ws t) c) edgs_le ht
  obtain ⟨ss, rfl, hc⟩ := hd hT
  have hlen : f1 .len (.str t) S = .ok (.int t.length) S := strs_len (by omega)
  have hb : exS (run P (k + 3)) (planB iH iB) [some (.tup (ws.map .str)), some (.str t), none, none] st = .ok (.ret (.tup ss)) S := by
    refine ex_seq (ρ' := [some (.tup (ws.map .str)), some (.str t), some (.tup ss), some (.tup (nats (clsL (edgs ws t) t.length 0)))]) (ex_asg (ev_call2 (ev_call2 rfl rfl e1) (ev_o1 rfl hlen) e2) rfl) (ex_guard (tst_of (ev_o2 (x := .tup ss) (y := .non) (z := .bl false) (st1 := S) (st2 := S) rfl rfl ?_)) (ex_ret rfl))
    show R.ok (D.bl (decide (D.tup ss = .non))) S = _
    rw [decide_eq_false (by simp)]
  have hr : run P (k + 4) i [.tup (ws.map .str), .str t] st = gc st.length st (.tup ss) S := run_ret hp rfl rfl hb
  refine ⟨ss, ?_, hc⟩
  rw [hr, ← hS, lkSto, List.append_assoc, gc_tl (by simp) (by show (D.tup ss).under _ = true; rw [D.under]; exact hc _)]
  rfl
def barB (iT iC : Nat) : S := .seq (.ite (.call iT (.cons (.v 0) (.cons (.v 1) .nil)) .nil [] []) (.seq .stuck .skip) .skip) (.seq (.ret (.o2 .ix (.call iC (.cons (.v 0) (.cons (.v 1) .nil)) .nil [] []) (.c (.int 0)))) .skip)
def BarS (P : Pg) (i : Nat) : Prop := ∀ {k : Nat} {st : Sto} {ws : List Tx} {t : Tx}, WOk ws t → toldW ws t = false → run P (k + 4) i [.tup (ws.map .str), .str t] st = .ok (.tup (nats (fiber (edgs ws t) t.length 0))) st
theorem bar_of {P : Pg} {iT iC i : Nat} (hp : P i = some ⟨2, 2, false, barB iT iC⟩) (hT : ToldS P iT) (hC : ClassesS P iC) : BarS P i := by
  intro k st ws t h ht
  have e1 : run P (k + 3) iT [.tup (ws.map .str), .str t] st = .ok (.bl (toldW ws t)) st := hT h
  rw [ht] at e1
  have e2 : run P (k + 3) iC [.tup (ws.map .str), .str t] st = .ok (.tup (clsD (edgs ws t) t.length)) st := hC h
  have hix : f2 .ix (.tup (clsD (edgs ws t) t.length)) (.int 0) st = .ok (.tup (nats (fiber (edgs ws t) t.length 0))) st := by
    have hl : leasts (edgs ws t) t.length = 0 :: ((List.range t.length).map Nat.succ).filter fun c => decide (labF (edgs ws t) c = c) := by
      rw [leasts, List.range_succ_eq_map, List.filter_cons, decide_eq_true (lab_zero _), if_pos rfl]
    rw [clsD, hl, List.map_cons]
    simp [f2, dict?, sq, ixN, R.of]
  have hb : exS (run P (k + 3)) (barB iT iC) [some (.tup (ws.map .str)), some (.str t)] st = .ok (.ret (.tup (nats (fiber (edgs ws t) t.length 0)))) st :=
    ex_guard (tst_of (ev_call2 rfl rfl e1)) (ex_ret (ev_o2 (ev_call2 rfl rfl e2) rfl hix))
  have hr : run P (k + 4) i [.tup (ws.map .str), .str t] st = gc st.length st (.tup (nats (fiber (edgs ws t) t.length 0))) st := run_ret hp rfl rfl hb
  rw [hr, gc_eq rfl]
def judgeB (iT iP iR : Nat) : S := .seq (.ite (.call iT (.cons (.v 0) (.cons (.v 1) .nil)) .nil [] []) (.seq (.ret (.tup (.cons (.c (.str [116, 111, 108, 100])) (.cons (.call iP (.cons (.v 0) (.cons (.v 1) .nil)) .nil [] []) .nil)))) .skip) .skip) (.seq (.ret (.tup (.cons (.c (.str [98, 97, 114, 114, 101, 100])) (.cons (.call iR (.cons (.v 0) (.cons (.v 1) .nil)) .nil [] []) .nil)))) .skip)
def JudgeS (P : Pg) (i : Nat) : Prop := ∀ {k : Nat} {st : Sto} {ws : List Tx} {t : Tx}, WOk ws t → t.length ≤ 62 → ∃ d : D, run P (k + 5) i [.tup (ws.map .str), .str t] st = .ok (.tup [.str (if toldW ws t then [116, 111, 108, 100] else [98, 97, 114, 114, 101, 100]), d]) st
theorem judge_of {P : Pg} {iT iP iR i : Nat} (hp : P i = some ⟨2, 2, false, judgeB iT iP iR⟩) (hT : ToldS P iT) (hPl : PlanS P iP) (hB : BarS P iR) : JudgeS P i := by
  intro k st ws t h ht
  have e1 : run P (k + 4) iT [.tup (ws.map .str), .str t] st = .ok (.bl (toldW ws t)) st := hT (k := k + 1) h
  cases hz : toldW ws t with
  | true =>
    rw [hz] at e1
    obtain ⟨ss, e2, _⟩ := hPl (k := k) (st := st) h ht hz
    have hb : exS (run P (k + 4)) (judgeB iT iP iR) [some (.tup (ws.map .str)), some (.str t)] st = .ok (.ret (.tup [.str [116, 111, 108, 100], .tup ss])) st :=
      ex_retT (tst_of (ev_call2 rfl rfl e1)) (ex_ret (ev_tup2 rfl (ev_call2 rfl rfl e2)))
    have hr : run P (k + 5) i [.tup (ws.map .str), .str t] st = gc st.length st (.tup [.str [116, 111, 108, 100], .tup ss]) st := run_ret hp rfl rfl hb
    exact ⟨_, by rw [hr, gc_eq rfl]; rfl⟩
  | false =>
    rw [hz] at e1
    have e2 := hB (k := k) (st := st) h hz
    have hb : exS (run P (k + 4)) (judgeB iT iP iR) [some (.tup (ws.map .str)), some (.str t)] st = .ok (.ret (.tup [.str [98, 97, 114, 114, 101, 100], .tup (nats (fiber (edgs ws t) t.length 0))])) st :=
      ex_guard (tst_of (ev_call2 rfl rfl e1)) (ex_ret (ev_tup2 rfl (ev_call2 rfl rfl e2)))
    have hr : run P (k + 5) i [.tup (ws.map .str), .str t] st = gc st.length st (.tup [.str [98, 97, 114, 114, 101, 100], .tup (nats (fiber (edgs ws t) t.length 0))]) st := run_ret hp rfl rfl hb
    exact ⟨_, by rw [hr, gc_eq rfl]; rfl⟩
end MP
end

section
set_option Elab.async false
set_option linter.all false
set_option maxRecDepth 100000
/-! MP: more of what laws draw and ask, whichever the program is. -/
namespace MP
open PySem
def BuiltN (X : DK) (P : Pg) (i : Nat) : Prop := ∀ {k : Nat} {tl : Sto} {n : Nat} {st : Sto} {S : Tx} {ws : List Tx} {hi : Nat}, S ≠ [] → S.length < 1000 → (∀ c ∈ S, c < 200) → ws.length ≤ 1000 → (∀ w ∈ ws, w.length ≤ 1000 ∧ ∀ c ∈ w, c < 200) → (∀ w ∈ ws, w ≠ []) → 1 ≤ hi → X.I tl n st → n < 2 ^ 38 →
    ∃ (t : Tx) (st' : Sto), run P (k + 2 + 1) i [.ref X.rf, .tup (ws.map .str), .lst (chars S), .int hi] st = .ok (.str t) st' ∧ 1 ≤ t.length ∧ t.length ≤ hi ∧ (∀ c ∈ t, (∃ w ∈ ws, c ∈ w) ∨ c ∈ S) ∧ X.I tl (n + 100) st'
theorem builtN_of {X : DK} {P : Pg} {iD iP i : Nat} (hp : P i = some ⟨4, 7, false, builtB iD iP⟩) (hD0 : DrawS X P iD) (hP0 : PickS X P iP) : BuiltN X P i := by
  intro k tl n st S ws hi hS hS2 hS3 hw hw2 hne hhi h hn
  obtain ⟨x, st1, e, x1, x2, x3⟩ := hD0 (k := k + 1) (b := 8) h (by omega) (by omega) (by omega)
  have c3 : sizeLine = 16777216 := rfl
  obtain ⟨ρ, st2, e2, t, p, q, rfl, ht, htn, hc, hD⟩ := forL_ok (gd := gdOf (.tup (rangeL 0 (1 + x))) st1) (bd := forB (.nm 5) (exS (run P (k + 2)) (.seq (.asg (.nm 6) (.ite (.ite (.o2 .ne (.v 1) (.tup .nil)) (.o2 .gt (.call iD (.cons (.v 0) (.cons (.c (.int 5)) .nil)) .nil [] []) (.c (.int 0))) (.c (.bl false))) (.v 1) (.v 2))) (.seq (.asg (.nm 4) (.o2 .add (.v 4) (.call iP (.cons (.v 0) (.cons (.v 6) .nil)) .nil [] []))) .skip))))
    (fun m ρ st => ∃ (t : Tx) (p q : Option D), ρ = [some (.ref X.rf), some (.tup (ws.map .str)), some (.lst (chars S)), some (.int hi), some (.str t), p, q] ∧ t.length ≤ 1000 * m ∧ (1 ≤ m → t ≠ []) ∧ (∀ c ∈ t, (∃ w ∈ ws, c ∈ w) ∨ c ∈ S) ∧ X.I tl (n + 1 + m * 2) st) (rangeL 0 (1 + x)) 0
    [some (.ref X.rf), some (.tup (ws.map .str)), some (.lst (chars S)), some (.int hi), some (.str []), none, none] st1 ⟨[], none, none, rfl, by simp, fun z => absurd z (by decide), by simp, x3⟩ (fun _ _ _ _ => rfl)
    (fun i2 y hy ρ st hI => by
      obtain ⟨t, p, q, rfl, e2, _, e3, e4⟩ := hI
      obtain ⟨hi2, rfl⟩ := rangeL_get hy
      rw [Nat.zero_add] at e2 e4
      have en := eq_nil (st := st) (fun w hw => (hw2 w hw).2)
      have hS' (m : Nat) (st : Sto) (e4 : X.I tl m st) (hm : m < 2 ^ 39) : (∃ (c : Tx) (st' : Sto), run P (k + 2) iP [.ref X.rf, .lst (chars S)] st = .ok (.str c) st' ∧ c ≠ [] ∧ c.length ≤ 1000 ∧ (∀ z ∈ c, (∃ w ∈ ws, z ∈ w) ∨ z ∈ S) ∧ X.I tl (m + 1) st') := by
        obtain ⟨y, st2, f1, f2, f3⟩ := hP0 (k := k) (d := .lst (chars S)) (.inl rfl) (by simpa [chars] using hS) (by simp [chars]; omega) e4 (by omega)
        obtain ⟨c, hc, rfl⟩ := List.mem_map.mp f2
        exact ⟨[c], st2, f1, by simp, by simp, fun z hz => .inr (by rw [List.mem_singleton.mp hz]; exact hc), f3⟩
      have fin (c : Tx) (f3 : ∀ z ∈ c, (∃ w ∈ ws, z ∈ w) ∨ z ∈ S) : ∀ z ∈ t ++ c, (∃ w ∈ ws, z ∈ w) ∨ z ∈ S := by
        intro z hz
        rcases List.mem_append.mp hz with z1 | z1
        · exact e3 z z1
        · exact f3 z z1
      by_cases hz : ws = []
      · subst hz
        obtain ⟨c, st2, f1, f0, f2, f3, f4⟩ := hS' _ st e4 (by omega)
        have hl : t.length + c.length ≤ 16777216 := by omega
        have en' : eqD st (.tup []) (.tup []) = some true := en
        refine ⟨_, st2, ?_, t ++ c, some (.int i2), some (.lst (chars S)), rfl, by simp; omega, fun _ z => f0 (List.append_eq_nil_iff.mp z).2, fin c f3, X.mono f4 (by omega)⟩
        simp [forB, bindT, exS, ev, R.bind, R.of, MP.f2, truth, pick, en', c3, f1, hl]
      · obtain ⟨y, st3, g1, g2, g3, g4⟩ := hD0 (k := k + 1) (b := 5) e4 (by omega) (by omega) (by omega)
        by_cases hy0 : 0 < y
        · obtain ⟨z, st2, f1, f2, f3⟩ := hP0 (k := k) (d := .tup (ws.map .str)) (.inr rfl) (by simpa using hz) (by simp; omega) g4 (by omega)
          obtain ⟨c, hc, rfl⟩ := List.mem_map.mp f2
          obtain ⟨q1, q2⟩ := hw2 c hc
          have hl : t.length + c.length ≤ 16777216 := by omega
          refine ⟨_, st2, ?_, t ++ c, some (.int i2), some (.tup (ws.map .str)), rfl, by simp; omega, fun _ z => hne c hc (List.append_eq_nil_iff.mp z).2, fin c (fun z hz => .inl ⟨c, hc, hz⟩), X.mono f3 (by omega)⟩
          simp [forB, bindT, exS, ev, R.bind, R.of, MP.f2, truth, pick, en, c3, f1, hl, hz, g1, ltF, hy0]
        · obtain ⟨c, st2, f1, f0, f2, f3, f4⟩ := hS' _ st3 g4 (by omega)
          have hl : t.length + c.length ≤ 16777216 := by omega
          refine ⟨_, st2, ?_, t ++ c, some (.int i2), some (.lst (chars S)), rfl, by simp; omega, fun _ z => f0 (List.append_eq_nil_iff.mp z).2, fin c f3, X.mono f4 (by omega)⟩
          simp [forB, bindT, exS, ev, R.bind, R.of, MP.f2, truth, pick, en, c3, f1, hl, hz, g1, ltF, hy0])
  rw [rangeL_len] at ht htn hD
  have hb : exS (run P (k + 2)) (builtB iD iP) [some (.ref X.rf), some (.tup (ws.map .str)), some (.lst (chars S)), some (.int hi), none, none, none] st = .ok (.ret (.str (cut t none (some (hi : Int))))) st2 := by
    refine ex_seq (ex_asg (d := .str []) (st1 := st) rfl rfl) ?_
    refine ex_seq (ex_for (d := .tup (rangeL 0 (1 + x))) (st1 := st1) (xs := rangeL 0 (1 + x)) ?_ rfl e2) ?_
    · refine ev_range (st1 := st) (i := 0) (j := 1 + x) (st2 := st1) rfl ?_ (by omega) (by omega) (by omega) (by omega)
      simp [ev, R.bind, R.of, f1, f2, pick, e]
    · refine ex_ret ?_
      have hl : t.length ≤ 16777216 := by omega
      simp [ev, R.bind, R.of, f1, f3, optI, c3, hl]
  have hr : run P (k + 2 + 1) i [.ref X.rf, .tup (ws.map .str), .lst (chars S), .int hi] st = gc st.length st (.str (cut t none (some (hi : Int)))) st2 := run_ret hp rfl rfl hb
  refine ⟨_, st2, hr.trans (gc_eq (by rw [X.len hD, X.len h])), ?_, ?_, ?_, X.mono hD (by omega)⟩
  · rw [cut_lo, List.length_take]
    have h1 : t ≠ [] := htn (by omega)
    have h2 : 0 < t.length := List.length_pos_iff.mpr h1
    omega
  · rw [cut_lo, List.length_take]
    omega
  · intro c hm
    exact hc c (List.mem_of_mem_drop (List.mem_of_mem_take hm))

/-- some of a list, drawn -/
theorem lc_drawn {X : DK} {P : Pg} {iD : Nat} (hD : DrawS X P iD) {k n tv lv : Nat} {b : Nat} {tl : Sto} {st : Sto} {ws : List Tx} {ρ : Env} (hb0 : 0 < b) (hb1 : b < 1000)
    (h : X.I tl n st) (hn : n < 2 ^ 38) (hl : ws.length ≤ 1000) (hz : ρ[lv]? = some (some (.tup (ws.map .str)))) (h8 : tv < ρ.length) (hr : ∀ x : Option D, ((ρ.set tv none).set tv x)[0]? = some (some (.ref X.rf))) :
    ∃ (us : List Tx) (st' : Sto), ev (run P (k + 1)) (.lc (.nm tv) (.v lv) (.o2 .gt (.call iD (.cons (.v 0) (.cons (.c (.int b)) .nil)) .nil [] []) (.c (.int 0))) (.v tv)) ρ st = .ok (.lst (us.map .str)) st' ∧ us.Sublist ws ∧ X.I tl (n + ws.length) st' := by
  have c3 : sizeLine = 16777216 := rfl
  obtain ⟨zs, st2, e2, us, ez, hs, hD2⟩ := lcL_ok (gd := gdOf (.tup (ws.map .str)) st) (bd := lcB (.nm tv) (wipeE ρ [tv]) (tst (run P (k + 1)) (.o2 .gt (.call iD (.cons (.v 0) (.cons (.c (.int b)) .nil)) .nil [] []) (.c (.int 0)))) (ev (run P (k + 1)) (.v tv)))
    (fun m ys st' => ∃ us : List Tx, ys = us.map .str ∧ us.Sublist (ws.take m) ∧ X.I tl (n + m) st') (ws.map .str) 0 [] st ⟨[], rfl, List.nil_sublist _, h⟩ (fun _ _ _ _ => rfl)
    (fun m y hy ys st' hI => by
      obtain ⟨us, rfl, hs, hI⟩ := hI
      rw [List.getElem?_map] at hy
      obtain ⟨w, hw, rfl⟩ := Option.map_eq_some_iff.mp hy
      have hml := (List.getElem?_eq_some_iff.mp hw).1
      obtain ⟨x, st1, e1, x1, x2, h1⟩ := hD (k := k) (b := (b : Int)) hI (by omega) (by omega) (by omega)
      have hb : bindT (.nm tv) (.str w) (wipeE ρ [tv]) = some ((ρ.set tv none).set tv (some (.str w))) := by
        rw [bindT, wipeE, wipeE, if_pos (by rw [List.length_set]; exact h8)]
      have hv : ev (run P (k + 1)) (.v tv) ((ρ.set tv none).set tv (some (.str w))) st1 = .ok (.str w) st1 := by
        rw [ev, List.getElem?_set_self (by rw [List.length_set]; exact h8)]
      have hc : tst (run P (k + 1)) (.o2 .gt (.call iD (.cons (.v 0) (.cons (.c (.int b)) .nil)) .nil [] []) (.c (.int 0))) ((ρ.set tv none).set tv (some (.str w))) st' = .ok (decide (0 < x)) st1 :=
        tst_of (ev_o2 (ev_call2 (by rw [ev, hr]) rfl e1) rfl rfl)
      have ht : ws.take (0 + m + 1) = ws.take (0 + m) ++ [w] := by rw [Nat.zero_add, List.take_succ, hw]; rfl
      rw [ht]
      by_cases hx : 0 < x
      · refine ⟨[.str w], st1, ?_, us ++ [w], by simp, hs.append (List.Sublist.refl _), h1⟩
        rw [lcB, hb]
        show R.bind (tst _ _ _ _) _ = _
        rw [hc, decide_eq_true hx]
        show R.bind (ev _ _ _ _) _ = _
        rw [hv]
      · refine ⟨[], st1, ?_, us, by simp, hs.trans (List.sublist_append_left _ _), h1⟩
        rw [lcB, hb]
        show R.bind (tst _ _ _ _) _ = _
        rw [hc, decide_eq_false hx])
  rw [List.nil_append] at ez
  subst ez
  rw [Nat.zero_add, List.length_map] at hs hD2
  rw [List.take_length] at hs
  have hul := hs.length_le
  exact ⟨us, st2, ev_lc (d := .tup (ws.map .str)) (by rw [ev, hz]) rfl e2 (by rw [List.length_map]; omega), hs, hD2⟩
theorem notIn_strs {st : Sto} {ws : List Tx} {t : Tx} (hw : ∀ w ∈ ws, ∀ c ∈ w, c < 200) (ht : ∀ c ∈ t, c < 200) : f2 .notIn (.str t) (.tup (ws.map .str)) st = .ok (.bl (!decide (t ∈ ws))) st := by
  simp [f2, dict?, in_strs hw ht, R.of]
theorem isIn_strs {st : Sto} {ws : List Tx} {t : Tx} (hw : ∀ w ∈ ws, ∀ c ∈ w, c < 200) (ht : ∀ c ∈ t, c < 200) : f2 .isIn (.str t) (.tup (ws.map .str)) st = .ok (.bl (decide (t ∈ ws))) st := by
  simp [f2, dict?, in_strs hw ht, R.of]
theorem eqE_strs {st : Sto} {ws : List Tx} (hw : ∀ w ∈ ws, ∀ c ∈ w, c < 200) : eqD st (.lst (ws.map .str)) (.lst []) = some (decide (ws = [])) := by
  show eqP st (.lst (ws.map .str)) (.lst []) = _
  have hd : dps (ws.map D.str) ≤ 60 := dps_le fun x hx => by
    obtain ⟨i, _, rfl⟩ := List.mem_map.mp hx
    exact Nat.zero_le _
  rw [eqP_cl (a' := .lst (ws.map .str)) (b' := .lst []) rfl rfl (by
    rw [D.cl, cls_all]
    intro x hx
    obtain ⟨i, hi, rfl⟩ := List.mem_map.mp hx
    rw [D.cl, List.all_eq_true]
    intro c hc
    have := hw i hi c hc
    exact decide_eq_true (by omega)) rfl (by rw [D.dp]; omega) (by decide)]
  cases ws <;> simp
theorem neE_strs {st : Sto} {ws : List Tx} (hw : ∀ w ∈ ws, ∀ c ∈ w, c < 200) : f2 .ne (.lst (ws.map .str)) (.lst []) st = .ok (.bl (!decide (ws = []))) st := by
  simp only [f2, eqE_strs hw, R.of, Option.map]
theorem eqE_strs2 {st : Sto} {ws : List Tx} (hw : ∀ w ∈ ws, ∀ c ∈ w, c < 200) : f2 .eq (.lst (ws.map .str)) (.lst []) st = .ok (.bl (decide (ws = []))) st := by
  simp only [f2, eqE_strs hw, R.of, Option.map]
theorem ev_lst0 {Φ : Phi} {ρ : Env} {st : Sto} : ev Φ (.lst .nil) ρ st = .ok (.lst []) st := by
  have c3 : sizeLine = 16777216 := rfl
  simp [ev, R.bind, c3]
theorem ev_call3 {Φ : Phi} {ρ : Env} {st st1 st2 st3 : Sto} {f : Nat} {a b c : E} {x y z : D} {r : R D} (h1 : ev Φ a ρ st = .ok x st1) (h2 : ev Φ b ρ st1 = .ok y st2) (h3 : ev Φ c ρ st2 = .ok z st3) (h4 : Φ f [x, y, z] st3 = r) : ev Φ (.call f (.cons a (.cons b (.cons c .nil))) .nil [] []) ρ st = r := by
  simp [ev, R.bind, pick, h1, h2, h3, h4]
theorem ne_bool {st : Sto} (a b : Bool) : f2 .ne (.bl a) (.bl b) st = .ok (.bl (a != b)) st := by
  cases a <;> cases b <;> rfl
theorem eq_same {st : Sto} {xs : List D} (h : cls xs = true) (hd : dps xs ≤ 60) : f2 .ne (.tup xs) (.tup xs) st = .ok (.bl false) st := by
  have : eqD st (.tup xs) (.tup xs) = some true := by
    show eqP st (.tup xs) (.tup xs) = _
    rw [eqP_cl (a' := .tup xs) (b' := .tup xs) rfl rfl (by rw [D.cl, h]) (by rw [D.cl, h]) (by rw [D.dp]; omega) (by rw [D.dp]; omega), decide_eq_true rfl]
  simp only [f2, this, R.of, Option.map]
  rfl
theorem eqE_rows {st : Sto} {xs : List D} (h : cls xs = true) (hd : dps xs ≤ 60) : f2 .eq (.lst xs) (.lst []) st = .ok (.bl (decide (xs = []))) st := by
  have : eqD st (.lst xs) (.lst []) = some (decide (xs = [])) := by
    show eqP st (.lst xs) (.lst []) = _
    rw [eqP_cl (a' := .lst xs) (b' := .lst []) rfl rfl (by rw [D.cl, h]) rfl (by rw [D.dp]; omega) (by decide)]
    cases xs <;> simp
  simp only [f2, this, R.of, Option.map]
theorem clsD_cl (es : Ed) (n : Nat) : cls (clsD es n) = true ∧ dps (clsD es n) ≤ 1 := by
  refine ⟨cls_all.mpr fun x hx => ?_, dps_le fun x hx => ?_⟩
  all_goals obtain ⟨m, _, rfl⟩ := List.mem_map.mp hx
  · rw [D.cl, (nats_cl _).1]
  · rw [D.dp]
    have := (nats_cl (fiber es n m)).2
    omega
/-! ### plain laws -/
theorem lab_eq {es fs : Ed} (h : ∀ c d, Conn es c d ↔ Conn fs c d) : labF es = labF fs := by
  funext c
  have L := lab_of es
  have M := lab_of fs
  have h1 : Conn es (labF es c) c := (L.eq _ _).mp (L.idem c)
  have h2 : Conn fs (labF fs c) c := (M.eq _ _).mp (M.idem c)
  have h3 : labF fs (labF es c) = labF fs c := (M.eq _ _).mpr ((h _ _).mp h1)
  have h4 : labF es (labF fs c) = labF es c := (L.eq _ _).mpr ((h _ _).mpr h2)
  have h5 := M.le (labF es c)
  have h6 := L.le (labF fs c)
  omega
theorem clsD_eq {es fs : Ed} (h : labF es = labF fs) (n : Nat) : clsD es n = clsD fs n := by
  unfold clsD leasts fiber
  rw [h]
theorem Rea.mono {es fs : Ed} (hs : ∀ e ∈ es, e ∈ fs) {c : Nat} (h : Rea es c) : Rea fs c := by
  induction h with
  | zero => exact .zero
  | step _ e ih => exact .step ih (hs _ e)
/-- words told, one behind the other -/
theorem told_cat {ws : List Tx} {u v : Tx} (hu : toldW ws u = true) (hv : toldW ws v = true) : toldW ws (u ++ v) = true := by
  have e1 : sl (u ++ v) 0 u.length = u := by simp [sl]
  have e2 : sl (u ++ v) u.length (u ++ v).length = v := by simp [sl]
  have c1 := conn_shift (us := ws) (t := u ++ v) (i := 0) (j := u.length) (a := 0) (b := u.length) (by rw [List.length_append]; omega) (Nat.zero_le _) (by rw [e1]; exact toldW_iff.mp hu)
  have c2 := conn_shift (us := ws) (t := u ++ v) (i := u.length) (j := (u ++ v).length) (a := 0) (b := v.length) (Nat.le_refl _) (by rw [List.length_append]; omega) (by rw [e2]; exact toldW_iff.mp hv)
  rw [Nat.zero_add, Nat.zero_add] at c1
  rw [Nat.add_zero] at c2
  rw [toldW_iff, List.length_append]
  exact c1.trans c2
/-- each class of a lesser list lies in one of the greater one -/
theorem coarser {es fs : Ed} (hs : ∀ e ∈ es, e ∈ fs) {n m : Nat} (hm : m ∈ leasts es n) : labF fs m ∈ leasts fs n ∧ ∀ c ∈ fiber es n m, c ∈ fiber fs n (labF fs m) := by
  obtain ⟨h1, h2⟩ := mem_leasts.mp hm
  have M := lab_of fs
  refine ⟨mem_leasts.mpr ⟨by have := M.le m; omega, M.idem m⟩, fun c hc => ?_⟩
  rw [fiber, List.mem_filter, decide_eq_true_eq] at hc ⊢
  refine ⟨hc.1, (M.eq _ _).mpr (Conn.mono hs (((lab_of es).eq _ _).mp ?_))⟩
  rw [hc.2, h2]
end MP
end

section
set_option Elab.async false
set_option linter.all false
set_option maxRecDepth 100000
namespace MP.Law
open PySem MP
def tops (i : Nat) : PySem.Stmt := PySem.Challenge.pw_wordstold_k46_whole_told_by_what_is_told.main.body.getD i (.Pass ⟨0, 0, 0, 0⟩)
def bl : List Str := ["len", "all", "max", "min", "sorted", "tuple", "list", "int", "set", "range", "enumerate"]
def gcs : List (Str × Tx) := [("SOME", [115, 111, 109, 101]), ("ALL", [97, 108, 108]), ("TOLD", [116, 111, 108, 100]), ("BARRED", [98, 97, 114, 114, 101, 100])]
def b0 : S := .seq (.asg (.nm 2) (.new (.lst .nil))) (.seq (.for_ (.nm 3) (.range (.c (.int 0)) (.o1 .len (.v 1))) (.seq (.ex (.m2 .lst .extend (.v 2) (.lc (.nm 4) (.v 0) (.o2 .eq (.o3 .slice (.v 1) (.o1 .idx (.v 3)) (.o1 .idx (.o2 .add (.v 3) (.o1 .len (.v 4))))) (.v 4)) (.tup (.cons (.v 3) (.cons (.o2 .add (.v 3) (.o1 .len (.v 4))) .nil)))))) .skip)) (.seq (.ret (.o1 .tuple (.o1 .sorted (.v 2)))) .skip))
def e0 : Ent := ⟨"spots", tops 1, ["words", "word", "found", "start", "kept"], [(3, 12)], ⟨0, ["words", "word"], [(2, [], [], [])]⟩, false, b0⟩
def b1 : S := .seq (.asg (.nm 2) (.o1 .list (.range (.c (.int 0)) (.o2 .add (.o1 .len (.v 1)) (.c (.int 1)))))) (.seq (.for_ (.cons (.nm 3) (.cons (.nm 4) .nil)) (.call 0 (.cons (.v 0) (.cons (.v 1) .nil)) .nil [] []) (.seq (.asg (.cons (.nm 5) (.cons (.nm 6) .nil)) (.tup (.cons (.o2 .min (.o2 .ix (.v 2) (.v 3)) (.o2 .ix (.v 2) (.v 4))) (.cons (.o2 .max (.o2 .ix (.v 2) (.v 3)) (.o2 .ix (.v 2) (.v 4))) .nil)))) (.seq (.asg (.nm 2) (.lc (.nm 7) (.v 2) (.c (.bl true)) (.ite (.o2 .eq (.v 7) (.v 6)) (.v 5) (.v 7)))) .skip))) (.seq (.ret (.v 2)) .skip))
def e1 : Ent := ⟨"labels", tops 2, ["words", "word", "found", "one", "other", "low", "high", "label"], [], ⟨1, ["words", "word"], [(2, [], [], [])]⟩, false, b1⟩
def b2 : S := .seq (.asg (.nm 2) (.call 1 (.cons (.v 0) (.cons (.v 1) .nil)) .nil [] [])) (.seq (.ret (.o1 .tuple (.lc (.nm 3) (.o1 .sortset (.v 2)) (.c (.bl true)) (.o1 .tuple (.lc (.cons (.nm 4) (.cons (.nm 5) .nil)) (.enum (.v 2)) (.o2 .eq (.v 5) (.v 3)) (.v 4)))))) .skip)
def e2 : Ent := ⟨"classes", tops 3, ["words", "word", "known", "least", "cut", "label"], [], ⟨2, ["words", "word"], [(2, [], [], [])]⟩, false, b2⟩
def b3 : S := .seq (.ret (.o2 .eq (.o2 .ix (.call 1 (.cons (.v 0) (.cons (.v 1) .nil)) .nil [] []) (.o1 .neg (.c (.int 1)))) (.c (.int 0)))) .skip
def e3 : Ent := ⟨"is_told", tops 4, ["words", "word"], [], ⟨3, ["words", "word"], [(2, [], [], [])]⟩, false, b3⟩
def b4 : S := .seq (.asg (.nm 2) (.new (.lst (.cons (.c (.int 0)) .nil)))) (.seq (.for_ (.cons (.nm 3) (.cons (.nm 4) .nil)) (.call 0 (.cons (.v 0) (.cons (.v 1) .nil)) .nil [] []) (.seq (.ite (.ite (.o2 .isIn (.v 3) (.v 2)) (.o2 .notIn (.v 4) (.v 2)) (.c (.bl false))) (.seq (.ex (.m2 .lst .append (.v 2) (.v 4))) .skip) .skip) .skip)) (.seq (.ret (.o1 .tuple (.o1 .sorted (.v 2)))) .skip))
def e4 : Ent := ⟨"reached", tops 5, ["words", "word", "found", "one", "other"], [(19, 12)], ⟨4, ["words", "word"], [(2, [], [], [])]⟩, false, b4⟩
def b5 : S := .seq (.ret (.o2 .isIn (.o1 .len (.v 1)) (.call 4 (.cons (.v 0) (.cons (.v 1) .nil)) .nil [] []))) .skip
def e5 : Ent := ⟨"is_row", tops 6, ["words", "word"], [], ⟨5, ["words", "word"], [(2, [], [], [])]⟩, false, b5⟩
def b6 : S := .seq (.asg (.nm 1) (.new (.lst .nil))) (.seq (.for_ (.nm 2) (.v 0) (.seq (.asg (.nm 3) (.o1 .tuple (.lc (.nm 4) (.v 0) (.o2 .lt (.o1 .len (.v 4)) (.o1 .len (.v 2))) (.v 4)))) (.seq (.ite (.o1 .not (.call 3 (.cons (.v 3) (.cons (.v 2) .nil)) .nil [] [])) (.seq (.ex (.m2 .lst .append (.v 1) (.v 2))) .skip) .skip) .skip))) (.seq (.ret (.o1 .tuple (.v 1))) .skip))
def e6 : Ent := ⟨"least_list", tops 8, ["words", "found", "word", "shorter", "other"], [(28, 12)], ⟨6, ["words"], [(1, [], [], [])]⟩, false, b6⟩
def b7 : S := .seq (.ret (.o1 .all (.lc (.nm 2) (.v 1) (.c (.bl true)) (.call 3 (.cons (.v 0) (.cons (.v 2) .nil)) .nil [] [])))) .skip
def e7 : Ent := ⟨"tells_all", tops 9, ["words", "other", "word"], [], ⟨7, ["words", "other"], [(2, [], [], [])]⟩, false, b7⟩
def b8 : S := .seq (.ret (.o2 .eq (.call 6 (.cons (.v 0) .nil) .nil [] []) (.call 6 (.cons (.v 1) .nil) .nil [] []))) .skip
def e8 : Ent := ⟨"is_same", tops 10, ["words", "other"], [], ⟨8, ["words", "other"], [(2, [], [], [])]⟩, false, b8⟩
def b9 : S := .seq (.asg (.nm 2) (.dcomp (.nm 5) (.range (.c (.int 0)) (.o2 .add (.o1 .len (.v 1)) (.c (.int 1)))) (.c (.bl true)) (.v 5) (.new (.lst .nil)))) (.seq (.for_ (.cons (.nm 3) (.cons (.nm 4) .nil)) (.call 0 (.cons (.v 0) (.cons (.v 1) .nil)) .nil [] []) (.seq (.ex (.m2 .lst .append (.o2 .ix (.v 2) (.v 3)) (.tup (.cons (.tup (.cons (.c (.str [115, 111, 109, 101])) (.cons (.o3 .slice (.v 1) (.o1 .idx (.v 3)) (.o1 .idx (.v 4))) .nil))) (.cons (.v 4) .nil))))) .skip)) (.seq (.ret (.v 2)) .skip))
def e9 : Ent := ⟨"links_forwards", tops 18, ["words", "word", "found", "i", "j", "cut"], [(55, 18)], ⟨9, ["words", "word"], [(2, [], [], [])]⟩, true, b9⟩
def b10 : S := .seq (.asg (.nm 2) (.call 9 (.cons (.v 0) (.cons (.v 1) .nil)) .nil [] [])) (.seq (.for_ (.cons (.nm 3) (.cons (.nm 4) .nil)) (.call 0 (.cons (.v 0) (.cons (.v 1) .nil)) .nil [] []) (.seq (.ex (.m2 .lst .append (.o2 .ix (.v 2) (.v 4)) (.tup (.cons (.tup (.cons (.c (.str [97, 108, 108])) (.cons (.o3 .slice (.v 1) (.o1 .idx (.v 3)) (.o1 .idx (.v 4))) .nil))) (.cons (.v 3) .nil))))) .skip)) (.seq (.ret (.v 2)) .skip))
def e10 : Ent := ⟨"links_both", tops 19, ["words", "word", "found", "i", "j"], [], ⟨10, ["words", "word"], [(2, [], [], [])]⟩, true, b10⟩
def b11 : S := .seq (.par (.cons (.nm 2) (.cons (.nm 3) (.cons (.nm 4) .nil))) (.cons (.newd (.dic [.int 0] (.cons (.tup .nil) .nil))) (.cons (.new (.lst (.cons (.c (.int 0)) .nil))) (.cons (.c (.int 0)) .nil)))) (.seq (.whl (.o2 .lt (.v 4) (.o1 .len (.v 3))) (.seq (.par (.cons (.nm 5) (.cons (.nm 4) .nil)) (.cons (.o2 .ix (.v 3) (.v 4)) (.cons (.o2 .add (.v 4) (.c (.int 1))) .nil))) (.seq (.for_ (.cons (.nm 6) (.cons (.nm 7) .nil)) (.o2 .ix (.v 0) (.v 5)) (.seq (.ite (.o2 .notIn (.v 7) (.v 2)) (.seq (.seti (.v 2) (.v 7) (.tup (.star (.o2 .ix (.v 2) (.v 5)) (.cons (.v 6) .nil)))) (.seq (.ex (.m2 .lst .append (.v 3) (.v 7))) .skip)) .skip) .skip)) .skip))) (.seq (.ret (.tup (.cons (.m2 .dic .get (.v 2) (.v 1)) (.cons (.o1 .tuple (.o1 .sortdic (.v 2))) .nil)))) .skip))
def e11 : Ent := ⟨"shortest", tops 20, ["links", "last", "ways", "waiting", "at", "here", "step", "there"], [(65, 34), (72, 1000034)], ⟨11, ["links", "last"], [(2, [], [], [])]⟩, false, b11⟩
def b12 : S := .seq (.asg (.cons (.nm 2) (.cons (.nm 3) .nil)) (.call 11 (.cons (.call 10 (.cons (.v 0) (.cons (.v 1) .nil)) .nil [] []) (.cons (.o1 .len (.v 1)) .nil)) .nil [] [])) (.seq (.ite (.o2 .is (.v 2) (.c .non)) (.seq .stuck .skip) .skip) (.seq (.ret (.v 2)) .skip))
def e12 : Ent := ⟨"plan", tops 21, ["words", "word", "steps", "met"], [], ⟨12, ["words", "word"], [(2, [], [], [])]⟩, false, b12⟩
def b13 : S := .seq (.ite (.call 3 (.cons (.v 0) (.cons (.v 1) .nil)) .nil [] []) (.seq .stuck .skip) .skip) (.seq (.ret (.o2 .ix (.call 2 (.cons (.v 0) (.cons (.v 1) .nil)) .nil [] []) (.c (.int 0)))) .skip)
def e13 : Ent := ⟨"bar", tops 25, ["words", "word"], [], ⟨13, ["words", "word"], [(2, [], [], [])]⟩, false, b13⟩
def b14 : S := .seq (.ite (.call 3 (.cons (.v 0) (.cons (.v 1) .nil)) .nil [] []) (.seq (.ret (.tup (.cons (.c (.str [116, 111, 108, 100])) (.cons (.call 12 (.cons (.v 0) (.cons (.v 1) .nil)) .nil [] []) .nil)))) .skip) .skip) (.seq (.ret (.tup (.cons (.c (.str [98, 97, 114, 114, 101, 100])) (.cons (.call 13 (.cons (.v 0) (.cons (.v 1) .nil)) .nil [] []) .nil)))) .skip)
def e14 : Ent := ⟨"judge", tops 26, ["words", "word"], [], ⟨14, ["words", "word"], [(2, [], [], [])]⟩, false, b14⟩
def b15 : S := .seq (.asg (.nm 1) (.c (.int 1085346))) (.seq (.for_ (.nm 2) (.o3 .slice (.v 0) (.c .non) (.o1 .idx (.c (.int 63)))) (.seq (.asg (.nm 1) (.o2 .mod (.o1 .int (.o2 .add (.o2 .add (.o2 .mul (.v 1) (.c (.int 48271))) (.o2 .mod (.o1 .int (.v 2)) (.c (.int 2147483629)))) (.c (.int 89)))) (.c (.int 2147483587)))) .skip)) (.seq (.ret (.newd (.dic [.str [114, 101, 115, 116], .str [109, 105, 120, 101, 100], .str [100, 114, 97, 119, 115]] (.cons (.new (.o1 .rev (.new (.o1 .list (.o3 .slice (.v 0) (.c .non) (.o1 .idx (.c (.int 63)))))))) (.cons (.v 1) (.cons (.c (.int 0)) .nil)))))) .skip))
def e15 : Ent := ⟨"_law_deck", tops 28, ["script", "mixed", "cell"], [(94, 20)], ⟨15, ["script"], [(1, [], [], [])]⟩, true, b15⟩
def b16 : S := .seq (.seti (.v 0) (.c (.str [100, 114, 97, 119, 115])) (.o2 .add (.o2 .ix (.v 0) (.c (.str [100, 114, 97, 119, 115]))) (.c (.int 1)))) (.seq (.par (.cons (.nm 2) (.cons (.nm 3) .nil)) (.cons (.o2 .ix (.v 0) (.c (.str [109, 105, 120, 101, 100]))) (.cons (.o2 .ix (.v 0) (.c (.str [100, 114, 97, 119, 115]))) .nil))) (.seq (.ite (.o2 .ne (.o2 .ix (.v 0) (.c (.str [114, 101, 115, 116]))) (.lst .nil)) (.seq (.asg (.nm 4) (.m1 .lst .pop (.o2 .ix (.v 0) (.c (.str [114, 101, 115, 116]))))) (.seq (.ite (.o2 .ge (.v 4) (.o2 .pow (.c (.int 10)) (.c (.int 18)))) (.seq (.ex (.m2 .lst .append (.o2 .ix (.v 0) (.c (.str [114, 101, 115, 116]))) (.o2 .fdiv (.v 4) (.v 1)))) (.seq (.ret (.o2 .mod (.o1 .int (.v 4)) (.v 1))) .skip)) .skip) (.seq (.asg (.nm 2) (.o2 .add (.v 2) (.v 4))) .skip))) .skip) (.seq (.asg (.nm 2) (.o2 .mul (.o1 .int (.o2 .add (.o2 .add (.o2 .mod (.o1 .int (.v 2)) (.c (.int 2147483563))) (.o2 .mul (.o2 .mul (.c (.int 60661)) (.v 3)) (.v 3))) (.c (.int 41)))) (.c (.int 40692)))) (.seq (.asg (.nm 2) (.o2 .mod (.o1 .int (.v 2)) (.c (.int 2147483647)))) (.seq (.asg (.nm 2) (.o2 .mod (.o1 .int (.o2 .add (.o2 .add (.o2 .mul (.v 2) (.v 2)) (.o2 .mul (.c (.int 39373)) (.v 3))) (.c (.int 61)))) (.c (.int 2147483579)))) (.seq (.ret (.o2 .mod (.o2 .fdiv (.o2 .mod (.o1 .int (.o2 .mul (.v 2) (.c (.int 48271)))) (.c (.int 2147483549))) (.c (.int 64))) (.v 1))) .skip))))))
def e16 : Ent := ⟨"_law_draw", tops 29, ["deck", "below", "number", "turn", "cell"], [], ⟨16, ["deck", "below"], [(2, [], [], [])]⟩, false, b16⟩
def b17 : S := .seq (.ret (.o2 .ix (.v 1) (.call 16 (.cons (.v 0) (.cons (.o1 .len (.v 1)) .nil)) .nil [] []))) .skip
def e17 : Ent := ⟨"_law_pick", tops 30, ["deck", "some"], [], ⟨17, ["deck", "some"], [(2, [], [], [])]⟩, false, b17⟩
def b18 : S := .seq (.ret (.m2 .str .join (.c (.str [])) (.lc (.nm 4) (.range (.c (.int 0)) (.o2 .add (.v 2) (.call 16 (.cons (.v 0) (.cons (.o2 .add (.o2 .sub (.v 3) (.v 2)) (.c (.int 1))) .nil)) .nil [] []))) (.c (.bl true)) (.call 17 (.cons (.v 0) (.cons (.v 1) .nil)) .nil [] [])))) .skip
def e18 : Ent := ⟨"_law_run", tops 31, ["deck", "signs", "least", "most", "k"], [], ⟨18, ["deck", "signs", "least", "most"], [(4, [], [], [])]⟩, false, b18⟩
def b19 : S := .seq (.ret (.o1 .tuple (.o1 .sortset (.lc (.nm 4) (.range (.c (.int 0)) (.call 16 (.cons (.v 0) (.cons (.o2 .add (.v 2) (.c (.int 1))) .nil)) .nil [] [])) (.c (.bl true)) (.call 18 (.cons (.v 0) (.cons (.v 1) (.cons (.c (.int 1)) (.cons (.v 3) .nil)))) .nil [] []))))) .skip
def e19 : Ent := ⟨"_law_lot", tops 32, ["deck", "signs", "many", "most", "k"], [], ⟨19, ["deck", "signs", "many", "most"], [(4, [], [], [])]⟩, false, b19⟩
def b20 : S := .seq (.ret (.call 17 (.cons (.v 0) (.cons (.lst (.cons (.lst (.cons (.c (.str [97])) .nil)) (.cons (.lst (.cons (.c (.str [97])) (.cons (.c (.str [98])) .nil))) (.cons (.lst (.cons (.c (.str [97])) (.cons (.c (.str [98])) (.cons (.c (.str [99])) .nil)))) (.cons (.lst (.cons (.c (.str [120])) (.cons (.c (.str [122])) .nil))) .nil))))) .nil)) .nil [] [])) .skip
def e20 : Ent := ⟨"_law_signs", tops 33, ["deck"], [], ⟨20, ["deck"], [(1, [], [], [])]⟩, false, b20⟩
def b21 : S := .seq (.asg (.nm 4) (.c (.str []))) (.seq (.for_ (.nm 5) (.range (.c (.int 0)) (.o2 .add (.c (.int 1)) (.call 16 (.cons (.v 0) (.cons (.c (.int 8)) .nil)) .nil [] []))) (.seq (.asg (.nm 6) (.ite (.ite (.o2 .ne (.v 1) (.tup .nil)) (.o2 .gt (.call 16 (.cons (.v 0) (.cons (.c (.int 5)) .nil)) .nil [] []) (.c (.int 0))) (.c (.bl false))) (.v 1) (.v 2))) (.seq (.asg (.nm 4) (.o2 .add (.v 4) (.call 17 (.cons (.v 0) (.cons (.v 6) .nil)) .nil [] []))) .skip))) (.seq (.ret (.o3 .slice (.v 4) (.c .non) (.o1 .idx (.v 3)))) .skip))
def e21 : Ent := ⟨"_law_built", tops 34, ["deck", "lot", "signs", "most", "found", "k", "pool"], [], ⟨21, ["deck", "lot", "signs", "most"], [(4, [], [], [])]⟩, false, b21⟩
def b22 : S := .seq (.asg (.nm 3) (.new (.lst .nil))) (.seq (.for_ (.nm 4) (.range (.c (.int 0)) (.c (.int 8))) (.seq (.asg (.nm 5) (.call 21 (.cons (.v 0) (.cons (.v 1) (.cons (.v 2) (.cons (.o2 .add (.c (.int 1)) (.call 16 (.cons (.v 0) (.cons (.c (.int 8)) .nil)) .nil [] [])) .nil)))) .nil [] [])) (.seq (.ite (.call 3 (.cons (.v 1) (.cons (.v 5) .nil)) .nil [] []) (.seq (.ex (.m2 .lst .append (.v 3) (.v 5))) .skip) .skip) .skip))) (.seq (.ret (.v 3)) .skip))
def e22 : Ent := ⟨"_law_told_ones", tops 35, ["deck", "lot", "signs", "found", "k", "run"], [(123, 12)], ⟨22, ["deck", "lot", "signs"], [(3, [], [], [])]⟩, false, b22⟩
def b23 : S := .seq (.ite (.ite (.o2 .isNot (.call 8 (.cons (.v 0) (.cons (.v 1) .nil)) .nil [] []) (.c (.bl true))) (.c (.bl true)) (.o2 .ne (.call 6 (.cons (.v 0) .nil) .nil [] []) (.call 6 (.cons (.v 1) .nil) .nil [] []))) (.seq (.ret (.c (.bl false))) .skip) .skip) (.seq (.for_ (.nm 3) (.v 2) (.seq (.ite (.ite (.o2 .ne (.call 2 (.cons (.v 0) (.cons (.v 3) .nil)) .nil [] []) (.call 2 (.cons (.v 1) (.cons (.v 3) .nil)) .nil [] [])) (.c (.bl true)) (.o2 .ne (.call 3 (.cons (.v 0) (.cons (.v 3) .nil)) .nil [] []) (.call 3 (.cons (.v 1) (.cons (.v 3) .nil)) .nil [] []))) (.seq (.ret (.c (.bl false))) .skip) .skip) .skip)) (.seq (.ret (.and (.o2 .is (.call 7 (.cons (.v 0) (.cons (.v 1) .nil)) .nil [] []) (.c (.bl true))) (.o2 .is (.call 7 (.cons (.v 1) (.cons (.v 0) .nil)) .nil [] []) (.c (.bl true))))) .skip))
def e23 : Ent := ⟨"_law_same_right", tops 36, ["lot", "more", "some", "run"], [], ⟨23, ["lot", "more", "some"], [(3, [], [], [])]⟩, false, b23⟩
def b24 : S := .seq (.asg (.nm 3) (.o1 .tuple (.lc (.nm 4) (.v 1) (.o2 .gt (.call 16 (.cons (.v 0) (.cons (.c (.int 3)) .nil)) .nil [] []) (.c (.int 0))) (.v 4)))) (.seq (.for_ (.nm 4) (.v 2) (.seq (.ite (.ite (.ite (.call 3 (.cons (.v 3) (.cons (.v 4) .nil)) .nil [] []) (.o1 .not (.call 3 (.cons (.v 1) (.cons (.v 4) .nil)) .nil [] [])) (.c (.bl false))) (.c (.bl true)) (.ite (.call 5 (.cons (.v 3) (.cons (.v 4) .nil)) .nil [] []) (.o1 .not (.call 5 (.cons (.v 1) (.cons (.v 4) .nil)) .nil [] [])) (.c (.bl false)))) (.seq (.ret (.c (.bl false))) .skip) .skip) (.seq (.asg (.nm 5) (.call 2 (.cons (.v 1) (.cons (.v 4) .nil)) .nil [] [])) (.seq (.for_ (.nm 6) (.call 2 (.cons (.v 3) (.cons (.v 4) .nil)) .nil [] []) (.seq (.ite (.o2 .eq (.lc (.nm 7) (.v 5) (.o2 .eq (.lc (.nm 8) (.v 6) (.o2 .notIn (.v 8) (.v 7)) (.v 8)) (.lst .nil)) (.v 7)) (.lst .nil)) (.seq (.ret (.c (.bl false))) .skip) .skip) .skip)) .skip)))) (.seq (.ret (.o2 .is (.call 7 (.cons (.v 1) (.cons (.v 3) .nil)) .nil [] []) (.c (.bl true)))) .skip))
def e24 : Ent := ⟨"_law_fewer_right", tops 37, ["deck", "lot", "some", "few", "run", "wide", "part", "it", "k"], [], ⟨24, ["deck", "lot", "some"], [(3, [], [], [])]⟩, false, b24⟩
def b25 : S := .seq (.for_ (.nm 3) (.v 1) (.seq (.for_ (.nm 4) (.v 1) (.seq (.ite (.o1 .not (.call 3 (.cons (.v 0) (.cons (.o2 .add (.v 3) (.v 4)) .nil)) .nil [] [])) (.seq (.ret (.c (.bl false))) .skip) .skip) .skip)) (.seq (.for_ (.nm 5) (.v 2) (.seq (.asg (.nm 6) (.lst (.cons (.call 3 (.cons (.v 0) (.cons (.o2 .add (.v 5) (.v 3)) .nil)) .nil [] []) (.cons (.call 3 (.cons (.v 0) (.cons (.o2 .add (.v 3) (.v 5)) .nil)) .nil [] []) .nil)))) (.seq (.ite (.ite (.call 3 (.cons (.v 0) (.cons (.v 5) .nil)) .nil [] []) (.o2 .ne (.v 6) (.lst (.cons (.c (.bl true)) (.cons (.c (.bl true)) .nil)))) (.c (.bl false))) (.seq (.ret (.c (.bl false))) .skip) .skip) .skip))) .skip))) (.seq (.ret (.o2 .eq (.lc (.nm 5) (.v 2) (.o2 .ne (.o2 .ix (.call 14 (.cons (.v 0) (.cons (.v 5) .nil)) .nil [] []) (.c (.int 0))) (.ite (.call 3 (.cons (.v 0) (.cons (.v 5) .nil)) .nil [] []) (.c (.str [116, 111, 108, 100])) (.c (.str [98, 97, 114, 114, 101, 100])))) (.v 5)) (.lst .nil))) .skip)
def e25 : Ent := ⟨"_law_rows_right", tops 38, ["lot", "told_ones", "some", "one_run", "two_run", "run", "ends"], [], ⟨25, ["lot", "told_ones", "some"], [(3, [], [], [])]⟩, false, b25⟩
def b26 : S := .seq (.asg (.nm 1) (.call 15 (.cons (.v 0) .nil) .nil [] [])) (.seq (.for_ (.nm 2) (.range (.c (.int 0)) (.c (.int 5))) (.seq (.asg (.nm 3) (.call 20 (.cons (.v 1) .nil) .nil [] [])) (.seq (.asg (.nm 4) (.call 19 (.cons (.v 1) (.cons (.v 3) (.cons (.c (.int 5)) (.cons (.c (.int 6)) .nil)))) .nil [] [])) (.seq (.asg (.nm 5) (.call 22 (.cons (.v 1) (.cons (.v 4) (.cons (.v 3) .nil))) .nil [] [])) (.seq (.asg (.nm 6) (.o1 .tuple (.o1 .sortset (.o2 .add (.o1 .list (.v 4)) (.o3 .slice (.v 5) (.c .non) (.o1 .idx (.c (.int 3)))))))) (.seq (.asg (.nm 7) (.lst (.cons (.call 18 (.cons (.v 1) (.cons (.v 3) (.cons (.c (.int 1)) (.cons (.c (.int 22)) .nil)))) .nil [] []) (.cons (.call 21 (.cons (.v 1) (.cons (.v 4) (.cons (.v 3) (.cons (.c (.int 22)) .nil)))) .nil [] []) (.cons (.call 21 (.cons (.v 1) (.cons (.v 4) (.cons (.v 3) (.cons (.c (.int 12)) .nil)))) .nil [] []) .nil))))) (.seq (.ite (.ite (.o1 .not (.call 23 (.cons (.v 4) (.cons (.v 6) (.cons (.o2 .add (.v 7) (.v 5)) .nil))) .nil [] [])) (.c (.bl true)) (.o1 .not (.call 24 (.cons (.v 1) (.cons (.v 4) (.cons (.o2 .add (.v 7) (.v 5)) .nil))) .nil [] []))) (.seq (.ret (.c (.bl false))) .skip) .skip) (.seq (.ite (.o1 .not (.call 25 (.cons (.v 4) (.cons (.v 5) (.cons (.v 7) .nil))) .nil [] [])) (.seq (.ret (.c (.bl false))) .skip) .skip) .skip)))))))) (.seq (.ret (.c (.bl true))) .skip))
def e26 : Ent := ⟨"law", tops 39, ["script", "deck", "turn", "signs", "lot", "told_ones", "more", "some"], [], ⟨26, ["script"], []⟩, false, b26⟩
def tab : List Ent := [e0, e1, e2, e3, e4, e5, e6, e7, e8, e9, e10, e11, e12, e13, e14, e15, e16, e17, e18, e19, e20, e21, e22, e23, e24, e25, e26]
theorem cb0 : cBody 60 (ccOf tab bl gcs e0) (L2.defBody e0.st) = some e0.body := by kernel_rfl
theorem cb1 : cBody 60 (ccOf tab bl gcs e1) (L2.defBody e1.st) = some e1.body := by kernel_rfl
theorem cb2 : cBody 60 (ccOf tab bl gcs e2) (L2.defBody e2.st) = some e2.body := by kernel_rfl
theorem cb3 : cBody 60 (ccOf tab bl gcs e3) (L2.defBody e3.st) = some e3.body := by kernel_rfl
theorem cb4 : cBody 60 (ccOf tab bl gcs e4) (L2.defBody e4.st) = some e4.body := by kernel_rfl
theorem cb5 : cBody 60 (ccOf tab bl gcs e5) (L2.defBody e5.st) = some e5.body := by kernel_rfl
theorem cb6 : cBody 60 (ccOf tab bl gcs e6) (L2.defBody e6.st) = some e6.body := by kernel_rfl
theorem cb7 : cBody 60 (ccOf tab bl gcs e7) (L2.defBody e7.st) = some e7.body := by kernel_rfl
theorem cb8 : cBody 60 (ccOf tab bl gcs e8) (L2.defBody e8.st) = some e8.body := by kernel_rfl
theorem cb9 : cBody 60 (ccOf tab bl gcs e9) (L2.defBody e9.st) = some e9.body := by kernel_rfl
theorem cb10 : cBody 60 (ccOf tab bl gcs e10) (L2.defBody e10.st) = some e10.body := by kernel_rfl
theorem cb11 : cBody 60 (ccOf tab bl gcs e11) (L2.defBody e11.st) = some e11.body := by kernel_rfl
theorem cb12 : cBody 60 (ccOf tab bl gcs e12) (L2.defBody e12.st) = some e12.body := by kernel_rfl
theorem cb13 : cBody 60 (ccOf tab bl gcs e13) (L2.defBody e13.st) = some e13.body := by kernel_rfl
theorem cb14 : cBody 60 (ccOf tab bl gcs e14) (L2.defBody e14.st) = some e14.body := by kernel_rfl
theorem cb15 : cBody 60 (ccOf tab bl gcs e15) (L2.defBody e15.st) = some e15.body := by kernel_rfl
theorem cb16 : cBody 60 (ccOf tab bl gcs e16) (L2.defBody e16.st) = some e16.body := by kernel_rfl
theorem cb17 : cBody 60 (ccOf tab bl gcs e17) (L2.defBody e17.st) = some e17.body := by kernel_rfl
theorem cb18 : cBody 60 (ccOf tab bl gcs e18) (L2.defBody e18.st) = some e18.body := by kernel_rfl
theorem cb19 : cBody 60 (ccOf tab bl gcs e19) (L2.defBody e19.st) = some e19.body := by kernel_rfl
theorem cb20 : cBody 60 (ccOf tab bl gcs e20) (L2.defBody e20.st) = some e20.body := by kernel_rfl
theorem cb21 : cBody 60 (ccOf tab bl gcs e21) (L2.defBody e21.st) = some e21.body := by kernel_rfl
theorem cb22 : cBody 60 (ccOf tab bl gcs e22) (L2.defBody e22.st) = some e22.body := by kernel_rfl
theorem cb23 : cBody 60 (ccOf tab bl gcs e23) (L2.defBody e23.st) = some e23.body := by kernel_rfl
theorem cb24 : cBody 60 (ccOf tab bl gcs e24) (L2.defBody e24.st) = some e24.body := by kernel_rfl
theorem cb25 : cBody 60 (ccOf tab bl gcs e25) (L2.defBody e25.st) = some e25.body := by kernel_rfl
theorem cb26 : cBody 60 (ccOf tab bl gcs e26) (L2.defBody e26.st) = some e26.body := by kernel_rfl
theorem sc0 : L2.FnScope e0.N e0.fi.ps (L2.defScope e0.st) := ⟨rfl, rfl, rfl, by decide +kernel, rfl, by decide +kernel, by decide +kernel⟩
theorem sc1 : L2.FnScope e1.N e1.fi.ps (L2.defScope e1.st) := ⟨rfl, rfl, rfl, by decide +kernel, rfl, by decide +kernel, by decide +kernel⟩
theorem sc2 : L2.FnScope e2.N e2.fi.ps (L2.defScope e2.st) := ⟨rfl, rfl, rfl, by decide +kernel, rfl, by decide +kernel, by decide +kernel⟩
theorem sc3 : L2.FnScope e3.N e3.fi.ps (L2.defScope e3.st) := ⟨rfl, rfl, rfl, by decide +kernel, rfl, by decide +kernel, by decide +kernel⟩
theorem sc4 : L2.FnScope e4.N e4.fi.ps (L2.defScope e4.st) := ⟨rfl, rfl, rfl, by decide +kernel, rfl, by decide +kernel, by decide +kernel⟩
theorem sc5 : L2.FnScope e5.N e5.fi.ps (L2.defScope e5.st) := ⟨rfl, rfl, rfl, by decide +kernel, rfl, by decide +kernel, by decide +kernel⟩
theorem sc6 : L2.FnScope e6.N e6.fi.ps (L2.defScope e6.st) := ⟨rfl, rfl, rfl, by decide +kernel, rfl, by decide +kernel, by decide +kernel⟩
theorem sc7 : L2.FnScope e7.N e7.fi.ps (L2.defScope e7.st) := ⟨rfl, rfl, rfl, by decide +kernel, rfl, by decide +kernel, by decide +kernel⟩
theorem sc8 : L2.FnScope e8.N e8.fi.ps (L2.defScope e8.st) := ⟨rfl, rfl, rfl, by decide +kernel, rfl, by decide +kernel, by decide +kernel⟩
theorem sc9 : L2.FnScope e9.N e9.fi.ps (L2.defScope e9.st) := ⟨rfl, rfl, rfl, by decide +kernel, rfl, by decide +kernel, by decide +kernel⟩
theorem sc10 : L2.FnScope e10.N e10.fi.ps (L2.defScope e10.st) := ⟨rfl, rfl, rfl, by decide +kernel, rfl, by decide +kernel, by decide +kernel⟩
theorem sc11 : L2.FnScope e11.N e11.fi.ps (L2.defScope e11.st) := ⟨rfl, rfl, rfl, by decide +kernel, rfl, by decide +kernel, by decide +kernel⟩
theorem sc12 : L2.FnScope e12.N e12.fi.ps (L2.defScope e12.st) := ⟨rfl, rfl, rfl, by decide +kernel, rfl, by decide +kernel, by decide +kernel⟩
theorem sc13 : L2.FnScope e13.N e13.fi.ps (L2.defScope e13.st) := ⟨rfl, rfl, rfl, by decide +kernel, rfl, by decide +kernel, by decide +kernel⟩
theorem sc14 : L2.FnScope e14.N e14.fi.ps (L2.defScope e14.st) := ⟨rfl, rfl, rfl, by decide +kernel, rfl, by decide +kernel, by decide +kernel⟩
theorem sc15 : L2.FnScope e15.N e15.fi.ps (L2.defScope e15.st) := ⟨rfl, rfl, rfl, by decide +kernel, rfl, by decide +kernel, by decide +kernel⟩
theorem sc16 : L2.FnScope e16.N e16.fi.ps (L2.defScope e16.st) := ⟨rfl, rfl, rfl, by decide +kernel, rfl, by decide +kernel, by decide +kernel⟩
theorem sc17 : L2.FnScope e17.N e17.fi.ps (L2.defScope e17.st) := ⟨rfl, rfl, rfl, by decide +kernel, rfl, by decide +kernel, by decide +kernel⟩
theorem sc18 : L2.FnScope e18.N e18.fi.ps (L2.defScope e18.st) := ⟨rfl, rfl, rfl, by decide +kernel, rfl, by decide +kernel, by decide +kernel⟩
theorem sc19 : L2.FnScope e19.N e19.fi.ps (L2.defScope e19.st) := ⟨rfl, rfl, rfl, by decide +kernel, rfl, by decide +kernel, by decide +kernel⟩
theorem sc20 : L2.FnScope e20.N e20.fi.ps (L2.defScope e20.st) := ⟨rfl, rfl, rfl, by decide +kernel, rfl, by decide +kernel, by decide +kernel⟩
theorem sc21 : L2.FnScope e21.N e21.fi.ps (L2.defScope e21.st) := ⟨rfl, rfl, rfl, by decide +kernel, rfl, by decide +kernel, by decide +kernel⟩
theorem sc22 : L2.FnScope e22.N e22.fi.ps (L2.defScope e22.st) := ⟨rfl, rfl, rfl, by decide +kernel, rfl, by decide +kernel, by decide +kernel⟩
theorem sc23 : L2.FnScope e23.N e23.fi.ps (L2.defScope e23.st) := ⟨rfl, rfl, rfl, by decide +kernel, rfl, by decide +kernel, by decide +kernel⟩
theorem sc24 : L2.FnScope e24.N e24.fi.ps (L2.defScope e24.st) := ⟨rfl, rfl, rfl, by decide +kernel, rfl, by decide +kernel, by decide +kernel⟩
theorem sc25 : L2.FnScope e25.N e25.fi.ps (L2.defScope e25.st) := ⟨rfl, rfl, rfl, by decide +kernel, rfl, by decide +kernel, by decide +kernel⟩
theorem sc26 : L2.FnScope e26.N e26.fi.ps (L2.defScope e26.st) := ⟨rfl, rfl, rfl, by decide +kernel, rfl, by decide +kernel, by decide +kernel⟩
theorem bd0 : ∀ c ∈ e0.fi.cs, BdE e0 c := by
  intro c hc
  rcases List.mem_cons.mp hc with rfl | hc
  · exact fun K kV doc pm an cdv ct => ⟨[], [], fun s us ws _ h1 h2 => (match us, ws, h1, h2 with | [_, _], [], _, _ => BindsTo.of_eq rfl), .nil, fun _ _ _ => .nil⟩
  exact nomatch hc
theorem bd1 : ∀ c ∈ e1.fi.cs, BdE e1 c := by
  intro c hc
  rcases List.mem_cons.mp hc with rfl | hc
  · exact fun K kV doc pm an cdv ct => ⟨[], [], fun s us ws _ h1 h2 => (match us, ws, h1, h2 with | [_, _], [], _, _ => BindsTo.of_eq rfl), .nil, fun _ _ _ => .nil⟩
  exact nomatch hc
theorem bd2 : ∀ c ∈ e2.fi.cs, BdE e2 c := by
  intro c hc
  rcases List.mem_cons.mp hc with rfl | hc
  · exact fun K kV doc pm an cdv ct => ⟨[], [], fun s us ws _ h1 h2 => (match us, ws, h1, h2 with | [_, _], [], _, _ => BindsTo.of_eq rfl), .nil, fun _ _ _ => .nil⟩
  exact nomatch hc
theorem bd3 : ∀ c ∈ e3.fi.cs, BdE e3 c := by
  intro c hc
  rcases List.mem_cons.mp hc with rfl | hc
  · exact fun K kV doc pm an cdv ct => ⟨[], [], fun s us ws _ h1 h2 => (match us, ws, h1, h2 with | [_, _], [], _, _ => BindsTo.of_eq rfl), .nil, fun _ _ _ => .nil⟩
  exact nomatch hc
theorem bd4 : ∀ c ∈ e4.fi.cs, BdE e4 c := by
  intro c hc
  rcases List.mem_cons.mp hc with rfl | hc
  · exact fun K kV doc pm an cdv ct => ⟨[], [], fun s us ws _ h1 h2 => (match us, ws, h1, h2 with | [_, _], [], _, _ => BindsTo.of_eq rfl), .nil, fun _ _ _ => .nil⟩
  exact nomatch hc
theorem bd5 : ∀ c ∈ e5.fi.cs, BdE e5 c := by
  intro c hc
  rcases List.mem_cons.mp hc with rfl | hc
  · exact fun K kV doc pm an cdv ct => ⟨[], [], fun s us ws _ h1 h2 => (match us, ws, h1, h2 with | [_, _], [], _, _ => BindsTo.of_eq rfl), .nil, fun _ _ _ => .nil⟩
  exact nomatch hc
theorem bd6 : ∀ c ∈ e6.fi.cs, BdE e6 c := by
  intro c hc
  rcases List.mem_cons.mp hc with rfl | hc
  · exact fun K kV doc pm an cdv ct => ⟨[], [], fun s us ws _ h1 h2 => (match us, ws, h1, h2 with | [_], [], _, _ => BindsTo.of_eq rfl), .nil, fun _ _ _ => .nil⟩
  exact nomatch hc
theorem bd7 : ∀ c ∈ e7.fi.cs, BdE e7 c := by
  intro c hc
  rcases List.mem_cons.mp hc with rfl | hc
  · exact fun K kV doc pm an cdv ct => ⟨[], [], fun s us ws _ h1 h2 => (match us, ws, h1, h2 with | [_, _], [], _, _ => BindsTo.of_eq rfl), .nil, fun _ _ _ => .nil⟩
  exact nomatch hc
theorem bd8 : ∀ c ∈ e8.fi.cs, BdE e8 c := by
  intro c hc
  rcases List.mem_cons.mp hc with rfl | hc
  · exact fun K kV doc pm an cdv ct => ⟨[], [], fun s us ws _ h1 h2 => (match us, ws, h1, h2 with | [_, _], [], _, _ => BindsTo.of_eq rfl), .nil, fun _ _ _ => .nil⟩
  exact nomatch hc
theorem bd9 : ∀ c ∈ e9.fi.cs, BdE e9 c := by
  intro c hc
  rcases List.mem_cons.mp hc with rfl | hc
  · exact fun K kV doc pm an cdv ct => ⟨[], [], fun s us ws _ h1 h2 => (match us, ws, h1, h2 with | [_, _], [], _, _ => BindsTo.of_eq rfl), .nil, fun _ _ _ => .nil⟩
  exact nomatch hc
theorem bd10 : ∀ c ∈ e10.fi.cs, BdE e10 c := by
  intro c hc
  rcases List.mem_cons.mp hc with rfl | hc
  · exact fun K kV doc pm an cdv ct => ⟨[], [], fun s us ws _ h1 h2 => (match us, ws, h1, h2 with | [_, _], [], _, _ => BindsTo.of_eq rfl), .nil, fun _ _ _ => .nil⟩
  exact nomatch hc
theorem bd11 : ∀ c ∈ e11.fi.cs, BdE e11 c := by
  intro c hc
  rcases List.mem_cons.mp hc with rfl | hc
  · exact fun K kV doc pm an cdv ct => ⟨[], [], fun s us ws _ h1 h2 => (match us, ws, h1, h2 with | [_, _], [], _, _ => BindsTo.of_eq rfl), .nil, fun _ _ _ => .nil⟩
  exact nomatch hc
theorem bd12 : ∀ c ∈ e12.fi.cs, BdE e12 c := by
  intro c hc
  rcases List.mem_cons.mp hc with rfl | hc
  · exact fun K kV doc pm an cdv ct => ⟨[], [], fun s us ws _ h1 h2 => (match us, ws, h1, h2 with | [_, _], [], _, _ => BindsTo.of_eq rfl), .nil, fun _ _ _ => .nil⟩
  exact nomatch hc
theorem bd13 : ∀ c ∈ e13.fi.cs, BdE e13 c := by
  intro c hc
  rcases List.mem_cons.mp hc with rfl | hc
  · exact fun K kV doc pm an cdv ct => ⟨[], [], fun s us ws _ h1 h2 => (match us, ws, h1, h2 with | [_, _], [], _, _ => BindsTo.of_eq rfl), .nil, fun _ _ _ => .nil⟩
  exact nomatch hc
theorem bd14 : ∀ c ∈ e14.fi.cs, BdE e14 c := by
  intro c hc
  rcases List.mem_cons.mp hc with rfl | hc
  · exact fun K kV doc pm an cdv ct => ⟨[], [], fun s us ws _ h1 h2 => (match us, ws, h1, h2 with | [_, _], [], _, _ => BindsTo.of_eq rfl), .nil, fun _ _ _ => .nil⟩
  exact nomatch hc
theorem bd15 : ∀ c ∈ e15.fi.cs, BdE e15 c := by
  intro c hc
  rcases List.mem_cons.mp hc with rfl | hc
  · exact fun K kV doc pm an cdv ct => ⟨[], [], fun s us ws _ h1 h2 => (match us, ws, h1, h2 with | [_], [], _, _ => BindsTo.of_eq rfl), .nil, fun _ _ _ => .nil⟩
  exact nomatch hc
theorem bd16 : ∀ c ∈ e16.fi.cs, BdE e16 c := by
  intro c hc
  rcases List.mem_cons.mp hc with rfl | hc
  · exact fun K kV doc pm an cdv ct => ⟨[], [], fun s us ws _ h1 h2 => (match us, ws, h1, h2 with | [_, _], [], _, _ => BindsTo.of_eq rfl), .nil, fun _ _ _ => .nil⟩
  exact nomatch hc
theorem bd17 : ∀ c ∈ e17.fi.cs, BdE e17 c := by
  intro c hc
  rcases List.mem_cons.mp hc with rfl | hc
  · exact fun K kV doc pm an cdv ct => ⟨[], [], fun s us ws _ h1 h2 => (match us, ws, h1, h2 with | [_, _], [], _, _ => BindsTo.of_eq rfl), .nil, fun _ _ _ => .nil⟩
  exact nomatch hc
theorem bd18 : ∀ c ∈ e18.fi.cs, BdE e18 c := by
  intro c hc
  rcases List.mem_cons.mp hc with rfl | hc
  · exact fun K kV doc pm an cdv ct => ⟨[], [], fun s us ws _ h1 h2 => (match us, ws, h1, h2 with | [_, _, _, _], [], _, _ => BindsTo.of_eq rfl), .nil, fun _ _ _ => .nil⟩
  exact nomatch hc
theorem bd19 : ∀ c ∈ e19.fi.cs, BdE e19 c := by
  intro c hc
  rcases List.mem_cons.mp hc with rfl | hc
  · exact fun K kV doc pm an cdv ct => ⟨[], [], fun s us ws _ h1 h2 => (match us, ws, h1, h2 with | [_, _, _, _], [], _, _ => BindsTo.of_eq rfl), .nil, fun _ _ _ => .nil⟩
  exact nomatch hc
theorem bd20 : ∀ c ∈ e20.fi.cs, BdE e20 c := by
  intro c hc
  rcases List.mem_cons.mp hc with rfl | hc
  · exact fun K kV doc pm an cdv ct => ⟨[], [], fun s us ws _ h1 h2 => (match us, ws, h1, h2 with | [_], [], _, _ => BindsTo.of_eq rfl), .nil, fun _ _ _ => .nil⟩
  exact nomatch hc
theorem bd21 : ∀ c ∈ e21.fi.cs, BdE e21 c := by
  intro c hc
  rcases List.mem_cons.mp hc with rfl | hc
  · exact fun K kV doc pm an cdv ct => ⟨[], [], fun s us ws _ h1 h2 => (match us, ws, h1, h2 with | [_, _, _, _], [], _, _ => BindsTo.of_eq rfl), .nil, fun _ _ _ => .nil⟩
  exact nomatch hc
theorem bd22 : ∀ c ∈ e22.fi.cs, BdE e22 c := by
  intro c hc
  rcases List.mem_cons.mp hc with rfl | hc
  · exact fun K kV doc pm an cdv ct => ⟨[], [], fun s us ws _ h1 h2 => (match us, ws, h1, h2 with | [_, _, _], [], _, _ => BindsTo.of_eq rfl), .nil, fun _ _ _ => .nil⟩
  exact nomatch hc
theorem bd23 : ∀ c ∈ e23.fi.cs, BdE e23 c := by
  intro c hc
  rcases List.mem_cons.mp hc with rfl | hc
  · exact fun K kV doc pm an cdv ct => ⟨[], [], fun s us ws _ h1 h2 => (match us, ws, h1, h2 with | [_, _, _], [], _, _ => BindsTo.of_eq rfl), .nil, fun _ _ _ => .nil⟩
  exact nomatch hc
theorem bd24 : ∀ c ∈ e24.fi.cs, BdE e24 c := by
  intro c hc
  rcases List.mem_cons.mp hc with rfl | hc
  · exact fun K kV doc pm an cdv ct => ⟨[], [], fun s us ws _ h1 h2 => (match us, ws, h1, h2 with | [_, _, _], [], _, _ => BindsTo.of_eq rfl), .nil, fun _ _ _ => .nil⟩
  exact nomatch hc
theorem bd25 : ∀ c ∈ e25.fi.cs, BdE e25 c := by
  intro c hc
  rcases List.mem_cons.mp hc with rfl | hc
  · exact fun K kV doc pm an cdv ct => ⟨[], [], fun s us ws _ h1 h2 => (match us, ws, h1, h2 with | [_, _, _], [], _, _ => BindsTo.of_eq rfl), .nil, fun _ _ _ => .nil⟩
  exact nomatch hc
theorem bd26 : ∀ c ∈ e26.fi.cs, BdE e26 c := by
  intro c hc
  exact nomatch hc
theorem all_tab {p : Ent → Prop} (h0 : p e0) (h1 : p e1) (h2 : p e2) (h3 : p e3) (h4 : p e4) (h5 : p e5) (h6 : p e6) (h7 : p e7) (h8 : p e8) (h9 : p e9) (h10 : p e10) (h11 : p e11) (h12 : p e12) (h13 : p e13) (h14 : p e14) (h15 : p e15) (h16 : p e16) (h17 : p e17) (h18 : p e18) (h19 : p e19) (h20 : p e20) (h21 : p e21) (h22 : p e22) (h23 : p e23) (h24 : p e24) (h25 : p e25) (h26 : p e26) : ∀ e ∈ tab, p e := by
  intro e he
  rcases List.mem_cons.mp he with rfl | he
  · exact h0
  rcases List.mem_cons.mp he with rfl | he
  · exact h1
  rcases List.mem_cons.mp he with rfl | he
  · exact h2
  rcases List.mem_cons.mp he with rfl | he
  · exact h3
  rcases List.mem_cons.mp he with rfl | he
  · exact h4
  rcases List.mem_cons.mp he with rfl | he
  · exact h5
  rcases List.mem_cons.mp he with rfl | he
  · exact h6
  rcases List.mem_cons.mp he with rfl | he
  · exact h7
  rcases List.mem_cons.mp he with rfl | he
  · exact h8
  rcases List.mem_cons.mp he with rfl | he
  · exact h9
  rcases List.mem_cons.mp he with rfl | he
  · exact h10
  rcases List.mem_cons.mp he with rfl | he
  · exact h11
  rcases List.mem_cons.mp he with rfl | he
  · exact h12
  rcases List.mem_cons.mp he with rfl | he
  · exact h13
  rcases List.mem_cons.mp he with rfl | he
  · exact h14
  rcases List.mem_cons.mp he with rfl | he
  · exact h15
  rcases List.mem_cons.mp he with rfl | he
  · exact h16
  rcases List.mem_cons.mp he with rfl | he
  · exact h17
  rcases List.mem_cons.mp he with rfl | he
  · exact h18
  rcases List.mem_cons.mp he with rfl | he
  · exact h19
  rcases List.mem_cons.mp he with rfl | he
  · exact h20
  rcases List.mem_cons.mp he with rfl | he
  · exact h21
  rcases List.mem_cons.mp he with rfl | he
  · exact h22
  rcases List.mem_cons.mp he with rfl | he
  · exact h23
  rcases List.mem_cons.mp he with rfl | he
  · exact h24
  rcases List.mem_cons.mp he with rfl | he
  · exact h25
  rcases List.mem_cons.mp he with rfl | he
  · exact h26
  exact nomatch he
theorem text : Text tab bl gcs := ⟨all_tab sc0 sc1 sc2 sc3 sc4 sc5 sc6 sc7 sc8 sc9 sc10 sc11 sc12 sc13 sc14 sc15 sc16 sc17 sc18 sc19 sc20 sc21 sc22 sc23 sc24 sc25 sc26, all_tab cb0 cb1 cb2 cb3 cb4 cb5 cb6 cb7 cb8 cb9 cb10 cb11 cb12 cb13 cb14 cb15 cb16 cb17 cb18 cb19 cb20 cb21 cb22 cb23 cb24 cb25 cb26, all_tab bd0 bd1 bd2 bd3 bd4 bd5 bd6 bd7 bd8 bd9 bd10 bd11 bd12 bd13 bd14 bd15 bd16 bd17 bd18 bd19 bd20 bd21 bd22 bd23 bd24 bd25 bd26, all_tab rfl rfl rfl rfl rfl rfl rfl rfl rfl rfl rfl rfl rfl rfl rfl rfl rfl rfl rfl rfl rfl rfl rfl rfl rfl rfl rfl⟩
theorem facts {K : PySem.W.Frag} {h : Heap} {mg : Str → Option Value} (X : K.In h) (G : h.Ns mainGlobals mg) {f0 f1 f2 f3 f4 f5 f6 f7 f8 f9 f10 f11 f12 f13 f14 f15 f16 f17 f18 f19 f20 f21 f22 f23 f24 f25 f26 : Addr} {od0 an0 od1 an1 od2 an2 od3 an3 od4 an4 od5 an5 od6 an6 od7 an7 od8 an8 od9 an9 od10 an10 od11 an11 od12 an12 od13 an13 od14 an14 od15 an15 od16 an16 od17 an17 od18 an18 od19 an19 od20 an20 od21 an21 od22 an22 od23 an23 od24 an24 od25 an25 od26 an26 : Option Addr} {sl0 sl1 sl2 sl3 sl4 sl5 sl6 sl7 sl8 sl9 sl10 sl11 sl12 sl13 sl14 sl15 sl16 sl17 sl18 sl19 sl20 sl21 sl22 sl23 sl24 sl25 sl26 : Array (Option Value)} {oc0 kV0 dc0 pm0 cd0 ct0 oc1 kV1 dc1 pm1 cd1 ct1 oc2 kV2 dc2 pm2 cd2 ct2 oc3 kV3 dc3 pm3 cd3 ct3 oc4 kV4 dc4 pm4 cd4 ct4 oc5 kV5 dc5 pm5 cd5 ct5 oc6 kV6 dc6 pm6 cd6 ct6 oc7 kV7 dc7 pm7 cd7 ct7 oc8 kV8 dc8 pm8 cd8 ct8 oc9 kV9 dc9 pm9 cd9 ct9 oc10 kV10 dc10 pm10 cd10 ct10 oc11 kV11 dc11 pm11 cd11 ct11 oc12 kV12 dc12 pm12 cd12 ct12 oc13 kV13 dc13 pm13 cd13 ct13 oc14 kV14 dc14 pm14 cd14 ct14 oc15 kV15 dc15 pm15 cd15 ct15 oc16 kV16 dc16 pm16 cd16 ct16 oc17 kV17 dc17 pm17 cd17 ct17 oc18 kV18 dc18 pm18 cd18 ct18 oc19 kV19 dc19 pm19 cd19 ct19 oc20 kV20 dc20 pm20 cd20 ct20 oc21 kV21 dc21 pm21 cd21 ct21 oc22 kV22 dc22 pm22 cd22 ct22 oc23 kV23 dc23 pm23 cd23 ct23 oc24 kV24 dc24 pm24 cd24 ct24 oc25 kV25 dc25 pm25 cd25 ct25 oc26 kV26 dc26 pm26 cd26 ct26 : Value} {tk0 tk1 tk2 tk3 : Tok}
    (a0 : PySem.W.nsIn K mainGlobals "spots" = some (some (.ref f0))) (l0 : K.lookup f0 = some ⟨oc0, od0, .func (PySem.W.fnOf "spots" "spots" (L2.defArgs e0.st) (L2.defBody e0.st) (L2.defScope e0.st) .none kV0 dc0 pm0 an0 cd0 ct0), sl0⟩) (c0 : PySem.W.codeIn K cd0 "spots" = true) (k0 : PySem.W.keepIn K (.ref f0) = true)
    (a1 : PySem.W.nsIn K mainGlobals "labels" = some (some (.ref f1))) (l1 : K.lookup f1 = some ⟨oc1, od1, .func (PySem.W.fnOf "labels" "labels" (L2.defArgs e1.st) (L2.defBody e1.st) (L2.defScope e1.st) .none kV1 dc1 pm1 an1 cd1 ct1), sl1⟩) (c1 : PySem.W.codeIn K cd1 "labels" = true) (k1 : PySem.W.keepIn K (.ref f1) = true)
    (a2 : PySem.W.nsIn K mainGlobals "classes" = some (some (.ref f2))) (l2 : K.lookup f2 = some ⟨oc2, od2, .func (PySem.W.fnOf "classes" "classes" (L2.defArgs e2.st) (L2.defBody e2.st) (L2.defScope e2.st) .none kV2 dc2 pm2 an2 cd2 ct2), sl2⟩) (c2 : PySem.W.codeIn K cd2 "classes" = true) (k2 : PySem.W.keepIn K (.ref f2) = true)
    (a3 : PySem.W.nsIn K mainGlobals "is_told" = some (some (.ref f3))) (l3 : K.lookup f3 = some ⟨oc3, od3, .func (PySem.W.fnOf "is_told" "is_told" (L2.defArgs e3.st) (L2.defBody e3.st) (L2.defScope e3.st) .none kV3 dc3 pm3 an3 cd3 ct3), sl3⟩) (c3 : PySem.W.codeIn K cd3 "is_told" = true) (k3 : PySem.W.keepIn K (.ref f3) = true)
    (a4 : PySem.W.nsIn K mainGlobals "reached" = some (some (.ref f4))) (l4 : K.lookup f4 = some ⟨oc4, od4, .func (PySem.W.fnOf "reached" "reached" (L2.defArgs e4.st) (L2.defBody e4.st) (L2.defScope e4.st) .none kV4 dc4 pm4 an4 cd4 ct4), sl4⟩) (c4 : PySem.W.codeIn K cd4 "reached" = true) (k4 : PySem.W.keepIn K (.ref f4) = true)
    (a5 : PySem.W.nsIn K mainGlobals "is_row" = some (some (.ref f5))) (l5 : K.lookup f5 = some ⟨oc5, od5, .func (PySem.W.fnOf "is_row" "is_row" (L2.defArgs e5.st) (L2.defBody e5.st) (L2.defScope e5.st) .none kV5 dc5 pm5 an5 cd5 ct5), sl5⟩) (c5 : PySem.W.codeIn K cd5 "is_row" = true) (k5 : PySem.W.keepIn K (.ref f5) = true)
    (a6 : PySem.W.nsIn K mainGlobals "least_list" = some (some (.ref f6))) (l6 : K.lookup f6 = some ⟨oc6, od6, .func (PySem.W.fnOf "least_list" "least_list" (L2.defArgs e6.st) (L2.defBody e6.st) (L2.defScope e6.st) .none kV6 dc6 pm6 an6 cd6 ct6), sl6⟩) (c6 : PySem.W.codeIn K cd6 "least_list" = true) (k6 : PySem.W.keepIn K (.ref f6) = true)
    (a7 : PySem.W.nsIn K mainGlobals "tells_all" = some (some (.ref f7))) (l7 : K.lookup f7 = some ⟨oc7, od7, .func (PySem.W.fnOf "tells_all" "tells_all" (L2.defArgs e7.st) (L2.defBody e7.st) (L2.defScope e7.st) .none kV7 dc7 pm7 an7 cd7 ct7), sl7⟩) (c7 : PySem.W.codeIn K cd7 "tells_all" = true) (k7 : PySem.W.keepIn K (.ref f7) = true)
    (a8 : PySem.W.nsIn K mainGlobals "is_same" = some (some (.ref f8))) (l8 : K.lookup f8 = some ⟨oc8, od8, .func (PySem.W.fnOf "is_same" "is_same" (L2.defArgs e8.st) (L2.defBody e8.st) (L2.defScope e8.st) .none kV8 dc8 pm8 an8 cd8 ct8), sl8⟩) (c8 : PySem.W.codeIn K cd8 "is_same" = true) (k8 : PySem.W.keepIn K (.ref f8) = true)
    (a9 : PySem.W.nsIn K mainGlobals "links_forwards" = some (some (.ref f9))) (l9 : K.lookup f9 = some ⟨oc9, od9, .func (PySem.W.fnOf "links_forwards" "links_forwards" (L2.defArgs e9.st) (L2.defBody e9.st) (L2.defScope e9.st) .none kV9 dc9 pm9 an9 cd9 ct9), sl9⟩) (c9 : PySem.W.codeIn K cd9 "links_forwards" = true) (k9 : PySem.W.keepIn K (.ref f9) = true)
    (a10 : PySem.W.nsIn K mainGlobals "links_both" = some (some (.ref f10))) (l10 : K.lookup f10 = some ⟨oc10, od10, .func (PySem.W.fnOf "links_both" "links_both" (L2.defArgs e10.st) (L2.defBody e10.st) (L2.defScope e10.st) .none kV10 dc10 pm10 an10 cd10 ct10), sl10⟩) (c10 : PySem.W.codeIn K cd10 "links_both" = true) (k10 : PySem.W.keepIn K (.ref f10) = true)
    (a11 : PySem.W.nsIn K mainGlobals "shortest" = some (some (.ref f11))) (l11 : K.lookup f11 = some ⟨oc11, od11, .func (PySem.W.fnOf "shortest" "shortest" (L2.defArgs e11.st) (L2.defBody e11.st) (L2.defScope e11.st) .none kV11 dc11 pm11 an11 cd11 ct11), sl11⟩) (c11 : PySem.W.codeIn K cd11 "shortest" = true) (k11 : PySem.W.keepIn K (.ref f11) = true)
    (a12 : PySem.W.nsIn K mainGlobals "plan" = some (some (.ref f12))) (l12 : K.lookup f12 = some ⟨oc12, od12, .func (PySem.W.fnOf "plan" "plan" (L2.defArgs e12.st) (L2.defBody e12.st) (L2.defScope e12.st) .none kV12 dc12 pm12 an12 cd12 ct12), sl12⟩) (c12 : PySem.W.codeIn K cd12 "plan" = true) (k12 : PySem.W.keepIn K (.ref f12) = true)
    (a13 : PySem.W.nsIn K mainGlobals "bar" = some (some (.ref f13))) (l13 : K.lookup f13 = some ⟨oc13, od13, .func (PySem.W.fnOf "bar" "bar" (L2.defArgs e13.st) (L2.defBody e13.st) (L2.defScope e13.st) .none kV13 dc13 pm13 an13 cd13 ct13), sl13⟩) (c13 : PySem.W.codeIn K cd13 "bar" = true) (k13 : PySem.W.keepIn K (.ref f13) = true)
    (a14 : PySem.W.nsIn K mainGlobals "judge" = some (some (.ref f14))) (l14 : K.lookup f14 = some ⟨oc14, od14, .func (PySem.W.fnOf "judge" "judge" (L2.defArgs e14.st) (L2.defBody e14.st) (L2.defScope e14.st) .none kV14 dc14 pm14 an14 cd14 ct14), sl14⟩) (c14 : PySem.W.codeIn K cd14 "judge" = true) (k14 : PySem.W.keepIn K (.ref f14) = true)
    (a15 : PySem.W.nsIn K mainGlobals "_law_deck" = some (some (.ref f15))) (l15 : K.lookup f15 = some ⟨oc15, od15, .func (PySem.W.fnOf "_law_deck" "_law_deck" (L2.defArgs e15.st) (L2.defBody e15.st) (L2.defScope e15.st) .none kV15 dc15 pm15 an15 cd15 ct15), sl15⟩) (c15 : PySem.W.codeIn K cd15 "_law_deck" = true) (k15 : PySem.W.keepIn K (.ref f15) = true)
    (a16 : PySem.W.nsIn K mainGlobals "_law_draw" = some (some (.ref f16))) (l16 : K.lookup f16 = some ⟨oc16, od16, .func (PySem.W.fnOf "_law_draw" "_law_draw" (L2.defArgs e16.st) (L2.defBody e16.st) (L2.defScope e16.st) .none kV16 dc16 pm16 an16 cd16 ct16), sl16⟩) (c16 : PySem.W.codeIn K cd16 "_law_draw" = true) (k16 : PySem.W.keepIn K (.ref f16) = true)
    (a17 : PySem.W.nsIn K mainGlobals "_law_pick" = some (some (.ref f17))) (l17 : K.lookup f17 = some ⟨oc17, od17, .func (PySem.W.fnOf "_law_pick" "_law_pick" (L2.defArgs e17.st) (L2.defBody e17.st) (L2.defScope e17.st) .none kV17 dc17 pm17 an17 cd17 ct17), sl17⟩) (c17 : PySem.W.codeIn K cd17 "_law_pick" = true) (k17 : PySem.W.keepIn K (.ref f17) = true)
    (a18 : PySem.W.nsIn K mainGlobals "_law_run" = some (some (.ref f18))) (l18 : K.lookup f18 = some ⟨oc18, od18, .func (PySem.W.fnOf "_law_run" "_law_run" (L2.defArgs e18.st) (L2.defBody e18.st) (L2.defScope e18.st) .none kV18 dc18 pm18 an18 cd18 ct18), sl18⟩) (c18 : PySem.W.codeIn K cd18 "_law_run" = true) (k18 : PySem.W.keepIn K (.ref f18) = true)
    (a19 : PySem.W.nsIn K mainGlobals "_law_lot" = some (some (.ref f19))) (l19 : K.lookup f19 = some ⟨oc19, od19, .func (PySem.W.fnOf "_law_lot" "_law_lot" (L2.defArgs e19.st) (L2.defBody e19.st) (L2.defScope e19.st) .none kV19 dc19 pm19 an19 cd19 ct19), sl19⟩) (c19 : PySem.W.codeIn K cd19 "_law_lot" = true) (k19 : PySem.W.keepIn K (.ref f19) = true)
    (a20 : PySem.W.nsIn K mainGlobals "_law_signs" = some (some (.ref f20))) (l20 : K.lookup f20 = some ⟨oc20, od20, .func (PySem.W.fnOf "_law_signs" "_law_signs" (L2.defArgs e20.st) (L2.defBody e20.st) (L2.defScope e20.st) .none kV20 dc20 pm20 an20 cd20 ct20), sl20⟩) (c20 : PySem.W.codeIn K cd20 "_law_signs" = true) (k20 : PySem.W.keepIn K (.ref f20) = true)
    (a21 : PySem.W.nsIn K mainGlobals "_law_built" = some (some (.ref f21))) (l21 : K.lookup f21 = some ⟨oc21, od21, .func (PySem.W.fnOf "_law_built" "_law_built" (L2.defArgs e21.st) (L2.defBody e21.st) (L2.defScope e21.st) .none kV21 dc21 pm21 an21 cd21 ct21), sl21⟩) (c21 : PySem.W.codeIn K cd21 "_law_built" = true) (k21 : PySem.W.keepIn K (.ref f21) = true)
    (a22 : PySem.W.nsIn K mainGlobals "_law_told_ones" = some (some (.ref f22))) (l22 : K.lookup f22 = some ⟨oc22, od22, .func (PySem.W.fnOf "_law_told_ones" "_law_told_ones" (L2.defArgs e22.st) (L2.defBody e22.st) (L2.defScope e22.st) .none kV22 dc22 pm22 an22 cd22 ct22), sl22⟩) (c22 : PySem.W.codeIn K cd22 "_law_told_ones" = true) (k22 : PySem.W.keepIn K (.ref f22) = true)
    (a23 : PySem.W.nsIn K mainGlobals "_law_same_right" = some (some (.ref f23))) (l23 : K.lookup f23 = some ⟨oc23, od23, .func (PySem.W.fnOf "_law_same_right" "_law_same_right" (L2.defArgs e23.st) (L2.defBody e23.st) (L2.defScope e23.st) .none kV23 dc23 pm23 an23 cd23 ct23), sl23⟩) (c23 : PySem.W.codeIn K cd23 "_law_same_right" = true) (k23 : PySem.W.keepIn K (.ref f23) = true)
    (a24 : PySem.W.nsIn K mainGlobals "_law_fewer_right" = some (some (.ref f24))) (l24 : K.lookup f24 = some ⟨oc24, od24, .func (PySem.W.fnOf "_law_fewer_right" "_law_fewer_right" (L2.defArgs e24.st) (L2.defBody e24.st) (L2.defScope e24.st) .none kV24 dc24 pm24 an24 cd24 ct24), sl24⟩) (c24 : PySem.W.codeIn K cd24 "_law_fewer_right" = true) (k24 : PySem.W.keepIn K (.ref f24) = true)
    (a25 : PySem.W.nsIn K mainGlobals "_law_rows_right" = some (some (.ref f25))) (l25 : K.lookup f25 = some ⟨oc25, od25, .func (PySem.W.fnOf "_law_rows_right" "_law_rows_right" (L2.defArgs e25.st) (L2.defBody e25.st) (L2.defScope e25.st) .none kV25 dc25 pm25 an25 cd25 ct25), sl25⟩) (c25 : PySem.W.codeIn K cd25 "_law_rows_right" = true) (k25 : PySem.W.keepIn K (.ref f25) = true)
    (a26 : PySem.W.nsIn K mainGlobals "law" = some (some (.ref f26))) (l26 : K.lookup f26 = some ⟨oc26, od26, .func (PySem.W.fnOf "law" "law" (L2.defArgs e26.st) (L2.defBody e26.st) (L2.defScope e26.st) .none kV26 dc26 pm26 an26 cd26 ct26), sl26⟩) (c26 : PySem.W.codeIn K cd26 "law" = true) (k26 : PySem.W.keepIn K (.ref f26) = true)
    (z0 : PySem.W.nsIn K mainGlobals "len" = some none) (z1 : PySem.W.nsIn K mainGlobals "all" = some none) (z2 : PySem.W.nsIn K mainGlobals "max" = some none) (z3 : PySem.W.nsIn K mainGlobals "min" = some none) (z4 : PySem.W.nsIn K mainGlobals "sorted" = some none) (z5 : PySem.W.nsIn K mainGlobals "tuple" = some none) (z6 : PySem.W.nsIn K mainGlobals "list" = some none) (z7 : PySem.W.nsIn K mainGlobals "int" = some none) (z8 : PySem.W.nsIn K mainGlobals "set" = some none) (z9 : PySem.W.nsIn K mainGlobals "range" = some none) (z10 : PySem.W.nsIn K mainGlobals "enumerate" = some none) (y0 : PySem.W.nsIn K mainGlobals "SOME" = some (some (.str ("some" : Str) tk0))) (y1 : PySem.W.nsIn K mainGlobals "ALL" = some (some (.str ("all" : Str) tk1))) (y2 : PySem.W.nsIn K mainGlobals "TOLD" = some (some (.str ("told" : Str) tk2))) (y3 : PySem.W.nsIn K mainGlobals "BARRED" = some (some (.str ("barred" : Str) tk3))) :
    (∀ e ∈ tab, ∃ fa fd, Has K mg e fa fd) ∧ (∀ x ∈ bl, mg x = none) ∧ ∀ c ∈ gcs, ∃ tk, mg c.1 = some (.str (sOf c.2) tk) := by
  refine ⟨all_tab ⟨_, _, has_mk (e := e0) X G a0 l0 c0 k0⟩ ⟨_, _, has_mk (e := e1) X G a1 l1 c1 k1⟩ ⟨_, _, has_mk (e := e2) X G a2 l2 c2 k2⟩ ⟨_, _, has_mk (e := e3) X G a3 l3 c3 k3⟩ ⟨_, _, has_mk (e := e4) X G a4 l4 c4 k4⟩ ⟨_, _, has_mk (e := e5) X G a5 l5 c5 k5⟩ ⟨_, _, has_mk (e := e6) X G a6 l6 c6 k6⟩ ⟨_, _, has_mk (e := e7) X G a7 l7 c7 k7⟩ ⟨_, _, has_mk (e := e8) X G a8 l8 c8 k8⟩ ⟨_, _, has_mk (e := e9) X G a9 l9 c9 k9⟩ ⟨_, _, has_mk (e := e10) X G a10 l10 c10 k10⟩ ⟨_, _, has_mk (e := e11) X G a11 l11 c11 k11⟩ ⟨_, _, has_mk (e := e12) X G a12 l12 c12 k12⟩ ⟨_, _, has_mk (e := e13) X G a13 l13 c13 k13⟩ ⟨_, _, has_mk (e := e14) X G a14 l14 c14 k14⟩ ⟨_, _, has_mk (e := e15) X G a15 l15 c15 k15⟩ ⟨_, _, has_mk (e := e16) X G a16 l16 c16 k16⟩ ⟨_, _, has_mk (e := e17) X G a17 l17 c17 k17⟩ ⟨_, _, has_mk (e := e18) X G a18 l18 c18 k18⟩ ⟨_, _, has_mk (e := e19) X G a19 l19 c19 k19⟩ ⟨_, _, has_mk (e := e20) X G a20 l20 c20 k20⟩ ⟨_, _, has_mk (e := e21) X G a21 l21 c21 k21⟩ ⟨_, _, has_mk (e := e22) X G a22 l22 c22 k22⟩ ⟨_, _, has_mk (e := e23) X G a23 l23 c23 k23⟩ ⟨_, _, has_mk (e := e24) X G a24 l24 c24 k24⟩ ⟨_, _, has_mk (e := e25) X G a25 l25 c25 k25⟩ ⟨_, _, has_mk (e := e26) X G a26 l26 c26 k26⟩, fun x hx => ?_, fun c hc => ?_⟩
  · rcases List.mem_cons.mp hx with rfl | hx
    · exact PySem.W.mg_none_of X G z0
    rcases List.mem_cons.mp hx with rfl | hx
    · exact PySem.W.mg_none_of X G z1
    rcases List.mem_cons.mp hx with rfl | hx
    · exact PySem.W.mg_none_of X G z2
    rcases List.mem_cons.mp hx with rfl | hx
    · exact PySem.W.mg_none_of X G z3
    rcases List.mem_cons.mp hx with rfl | hx
    · exact PySem.W.mg_none_of X G z4
    rcases List.mem_cons.mp hx with rfl | hx
    · exact PySem.W.mg_none_of X G z5
    rcases List.mem_cons.mp hx with rfl | hx
    · exact PySem.W.mg_none_of X G z6
    rcases List.mem_cons.mp hx with rfl | hx
    · exact PySem.W.mg_none_of X G z7
    rcases List.mem_cons.mp hx with rfl | hx
    · exact PySem.W.mg_none_of X G z8
    rcases List.mem_cons.mp hx with rfl | hx
    · exact PySem.W.mg_none_of X G z9
    rcases List.mem_cons.mp hx with rfl | hx
    · exact PySem.W.mg_none_of X G z10
    exact nomatch hx
  · rcases List.mem_cons.mp hc with rfl | hc
    · exact ⟨_, PySem.W.mg_of X G y0⟩
    rcases List.mem_cons.mp hc with rfl | hc
    · exact ⟨_, PySem.W.mg_of X G y1⟩
    rcases List.mem_cons.mp hc with rfl | hc
    · exact ⟨_, PySem.W.mg_of X G y2⟩
    rcases List.mem_cons.mp hc with rfl | hc
    · exact ⟨_, PySem.W.mg_of X G y3⟩
    exact nomatch hc

end MP.Law
end

section
set_option Elab.async false
set_option linter.all false
set_option maxRecDepth 100000
namespace MP.Law
open PySem MP
abbrev PP : Pg := pgOf tab
theorem P0 : PP 0 = some ⟨2, 5, false, b0⟩ := rfl  -- spots
theorem P1 : PP 1 = some ⟨2, 8, false, b1⟩ := rfl  -- labels
theorem P2 : PP 2 = some ⟨2, 6, false, b2⟩ := rfl  -- classes
theorem P3 : PP 3 = some ⟨2, 2, false, b3⟩ := rfl  -- is_told
theorem P4 : PP 4 = some ⟨2, 5, false, b4⟩ := rfl  -- reached
theorem P5 : PP 5 = some ⟨2, 2, false, b5⟩ := rfl  -- is_row
theorem P6 : PP 6 = some ⟨1, 5, false, b6⟩ := rfl  -- least_list
theorem P7 : PP 7 = some ⟨2, 3, false, b7⟩ := rfl  -- tells_all
theorem P8 : PP 8 = some ⟨2, 2, false, b8⟩ := rfl  -- is_same
theorem P9 : PP 9 = some ⟨2, 6, true, b9⟩ := rfl  -- links_forwards
theorem P10 : PP 10 = some ⟨2, 5, true, b10⟩ := rfl  -- links_both
theorem P11 : PP 11 = some ⟨2, 8, false, b11⟩ := rfl  -- shortest
theorem P12 : PP 12 = some ⟨2, 4, false, b12⟩ := rfl  -- plan
theorem P13 : PP 13 = some ⟨2, 2, false, b13⟩ := rfl  -- bar
theorem P14 : PP 14 = some ⟨2, 2, false, b14⟩ := rfl  -- judge
theorem P15 : PP 15 = some ⟨1, 3, true, b15⟩ := rfl  -- _law_deck
theorem P16 : PP 16 = some ⟨2, 5, false, b16⟩ := rfl  -- _law_draw
theorem P17 : PP 17 = some ⟨2, 2, false, b17⟩ := rfl  -- _law_pick
theorem P18 : PP 18 = some ⟨4, 5, false, b18⟩ := rfl  -- _law_run
theorem P19 : PP 19 = some ⟨4, 5, false, b19⟩ := rfl  -- _law_lot
theorem P20 : PP 20 = some ⟨1, 1, false, b20⟩ := rfl  -- _law_signs
theorem P21 : PP 21 = some ⟨4, 7, false, b21⟩ := rfl  -- _law_built
theorem P22 : PP 22 = some ⟨3, 6, false, b22⟩ := rfl  -- _law_told_ones
theorem P23 : PP 23 = some ⟨3, 4, false, b23⟩ := rfl  -- _law_same_right
theorem P24 : PP 24 = some ⟨3, 9, false, b24⟩ := rfl  -- _law_fewer_right
theorem P25 : PP 25 = some ⟨3, 7, false, b25⟩ := rfl  -- _law_rows_right
theorem P26 : PP 26 = some ⟨1, 8, false, b26⟩ := rfl  -- law
theorem hSp : SpotsS PP 0 := spotsS_of P0
theorem hLb : LabelsS PP 1 := labels_of P1 hSp
theorem hCs : ClassesS PP 2 := classes_of P2 hLb
theorem hTd : ToldS PP 3 := istold_of P3 hLb
theorem hRc : ReachedS PP 4 := reached_of P4 hSp
theorem hRw : RowS PP 5 := isrow_of P5 hRc
theorem hLe : PLeastS PP 6 := pleast_of P6 hTd
theorem hTa : TellsS PP 7 := tells_of P7 hTd
theorem hSa : SameS PP 8 := same_of P8 hLe
theorem hLf : LFwdS PP 9 := lfwd_of P9 hSp
theorem hLb2 : LBothS PP 10 := lboth_of P10 hSp hLf
theorem hSh : ShortS PP 11 := short_of P11
theorem hPn : PlanS PP 12 := plan_of' P12 hLb2 hSh
theorem hBr : BarS PP 13 := bar_of P13 hTd hCs
theorem hJg : JudgeS PP 14 := judge_of P14 hTd hPn hBr
theorem hDr : DrawS dkA PP 16 := drawA_of P16 (by decide)
theorem hPk : PickS dkA PP 17 := pick_of P17 hDr
theorem hRn : RunS dkA PP 18 := run_of P18 hDr hPk
theorem hLt : LotS dkA PP 19 := lot_of P19 hDr hRn
theorem hSg : SignsS dkA PP 20 := signs_of P20 hPk
theorem hBt : BuiltN dkA PP 21 := builtN_of P21 hDr hPk
/-- a list of short words, ascending -/
structure LOk (ws : List Tx) : Prop where
  srt : SrtT ws
  few : ws.length ≤ 20
  ok : ∀ w ∈ ws, 1 ≤ w.length ∧ w.length ≤ 30 ∧ ∀ c ∈ w, c < 200
theorem srt_nd {ws : List Tx} (h : SrtT ws) : ws.Nodup := List.Pairwise.imp (fun {x y} h e => by rw [e, ltT_irr] at h; cases h) h
theorem LOk.ls {ws : List Tx} (h : LOk ws) : LsOk ws := ⟨srt_nd h.srt, fun w hw => ⟨fun e => by
    have := (h.ok w hw).1
    rw [e] at this
    exact absurd this (by decide), by have := (h.ok w hw).2.1; omega⟩, by have := h.few; omega, fun w hw => (h.ok w hw).2.2⟩
theorem LOk.sub {ws us : List Tx} (h : LOk ws) (hs : us.Sublist ws) : LOk us := ⟨h.srt.sublist hs, Nat.le_trans hs.length_le h.few, fun w hw => h.ok w (hs.subset hw)⟩
theorem LOk.ne {ws : List Tx} (h : LOk ws) : ∀ w ∈ ws, w ≠ [] := fun w hw => (h.ls.ok w hw).1
/-- words that a list tells -/
def toldL : S := .seq (.asg (.nm 5) (.call 21 (.cons (.v 0) (.cons (.v 1) (.cons (.v 2) (.cons (.o2 .add (.c (.int 1)) (.call 16 (.cons (.v 0) (.cons (.c (.int 8)) .nil)) .nil [] [])) .nil)))) .nil [] [])) (.seq (.ite (.call 3 (.cons (.v 1) (.cons (.v 5) .nil)) .nil [] []) (.seq (.ex (.m2 .lst .append (.v 3) (.v 5))) .skip) .skip) .skip)
theorem told_ones_ {k n : Nat} {tl st : Sto} {ws : List Tx} {S : Tx} (hw : LOk ws) (hw8 : ∀ w ∈ ws, w.length ≤ 30) (hS : S ≠ []) (hS2 : S.length < 1000) (hS3 : ∀ c ∈ S, c < 200) (h : Dk tl n st) (hn : n < 2 ^ 36) :
    ∃ (us : List Tx) (st' : Sto), run PP (k + 4) 22 [.ref 2, .tup (ws.map .str), .lst (chars S)] st = .ok (.lst (us.map .str)) st' ∧ us.length ≤ 8 ∧ (∀ u ∈ us, toldW ws u = true ∧ 1 ≤ u.length ∧ u.length ≤ 8 ∧ ∀ c ∈ u, c < 200) ∧ Dk tl (n + 1000) st' := by
  have c3 : sizeLine = 16777216 := rfl
  have hl := Dk.len h
  have h0 := Dk.push (.lst []) h
  have hfew := hw.few
  obtain ⟨ρ, st2, e2, us, p4, p5, rfl, ul, uo, h2⟩ := forL_ok (gd := gdOf (.tup (rangeL 0 8)) (st ++ [O.lst []])) (bd := forB (.nm 4) (exS (run PP (k + 3)) toldL))
    (fun m ρ st' => ∃ (us : List Tx) (p4 p5 : Option D), ρ = [some (.ref 2), some (.tup (ws.map .str)), some (.lst (chars S)), some (.ref st.length), p4, p5] ∧ us.length ≤ m ∧ (∀ u ∈ us, toldW ws u = true ∧ 1 ≤ u.length ∧ u.length ≤ 8 ∧ ∀ c ∈ u, c < 200) ∧ Dk (tl ++ [O.lst (us.map .str)]) (n + m * 101) st') (rangeL 0 8) 0
    [some (.ref 2), some (.tup (ws.map .str)), some (.lst (chars S)), some (.ref st.length), none, none] (st ++ [O.lst []]) ⟨[], none, none, rfl, by simp, by simp, h0⟩ (fun _ _ _ _ => rfl)
    (fun m y hy ρ st' hI => by
      obtain ⟨us, p4, p5, rfl, ul, uo, hI⟩ := hI
      obtain ⟨hm, rfl⟩ := rangeL_get hy
      have hm2 : m < 8 := hm
      obtain ⟨x, st1, e1, x1, x2, h1⟩ := hDr (k := k + 2) (b := 8) hI (by omega) (by omega) (by omega)
      have e1' : run PP (k + 3) 16 [.ref 2, .int 8] st' = .ok (.int x) st1 := e1
      obtain ⟨hi, hhi⟩ : ∃ a : Nat, 1 + x = (a : Int) := ⟨(1 + x).toNat, by omega⟩
      obtain ⟨t, st3, e3, t1, t2, t3, h3⟩ := hBt (k := k) (hi := hi) (ws := ws) hS hS2 hS3 (by omega) (fun w hw2 => ⟨by have := hw8 w hw2; omega, (hw.ok w hw2).2.2⟩) hw.ne (by omega) h1 (by omega)
      have e3' : run PP (k + 3) 21 [.ref 2, .tup (ws.map .str), .lst (chars S), .int hi] st1 = .ok (.str t) st3 := e3
      have htc : ∀ c ∈ t, c < 200 := fun c hc => by
        rcases t3 c hc with ⟨w, hw2, hc2⟩ | hc2
        · exact (hw.ok w hw2).2.2 c hc2
        · exact hS3 c hc2
      obtain ⟨st4, rfl, h4⟩ := Dk.split h3
      have hl4 : st4.length = st.length := by rw [Dk.len h4, hl]
      have eT : run PP (k + 3) 3 [.tup (ws.map .str), .str t] (st4 ++ [O.lst (us.map .str)]) = .ok (.bl (toldW ws t)) (st4 ++ [O.lst (us.map .str)]) := hTd (k := k) (hw.ls.wok (by omega))
      have hbd : bindT (.nm 4) (.int (0 + (m : Int))) [some (.ref 2), some (.tup (ws.map .str)), some (.lst (chars S)), some (.ref st.length), p4, p5] = some [some (.ref 2), some (.tup (ws.map .str)), some (.lst (chars S)), some (.ref st.length), some (.int (0 + (m : Int))), p5] := by simp [bindT]
      have hrun : ev (run PP (k + 3)) (.call 21 (.cons (.v 0) (.cons (.v 1) (.cons (.v 2) (.cons (.o2 .add (.c (.int 1)) (.call 16 (.cons (.v 0) (.cons (.c (.int 8)) .nil)) .nil [] [])) .nil)))) .nil [] []) [some (.ref 2), some (.tup (ws.map .str)), some (.lst (chars S)), some (.ref st.length), some (.int (0 + (m : Int))), p5] st' = .ok (.str t) (st4 ++ [O.lst (us.map .str)]) := by
        rw [← hhi] at e3'
        simp [ev, R.bind, pick, e1', f2, e3']
      have hct := ev_call2 (Φ := run PP (k + 3)) (ρ := [some (.ref 2), some (.tup (ws.map .str)), some (.lst (chars S)), some (.ref st.length), some (.int (0 + (m : Int))), some (.str t)]) (a := .v 1) (b := .v 5) rfl rfl eT
      cases hz : toldW ws t with
      | true =>
        rw [hz] at hct
        have hap := append_strs (st0 := st4) (n := st.length) (xs := us) (w := t) hl4 (by omega)
        have hty : isTy .lst (st4 ++ [O.lst (us.map .str)]) (.ref st.length) = true := isTy_new hl4
        refine ⟨[some (.ref 2), some (.tup (ws.map .str)), some (.lst (chars S)), some (.ref st.length), some (.int (0 + (m : Int))), some (.str t)], _, forB_ok hbd (ex_seq (ex_asg hrun rfl) (ex_thenT (tst_of hct) (ex_last (ex_ex (ev_m2 (x := .ref st.length) rfl hty rfl hap))) rfl)), us ++ [t], _, _, rfl, by simp; omega, fun u hu => ?_, Dk.mono (Dk.push _ h4) (by omega)⟩
        rcases List.mem_append.mp hu with hu | hu
        · exact uo u hu
        · rw [List.mem_singleton.mp hu]
          exact ⟨hz, t1, by omega, htc⟩
      | false =>
        rw [hz] at hct
        exact ⟨[some (.ref 2), some (.tup (ws.map .str)), some (.lst (chars S)), some (.ref st.length), some (.int (0 + (m : Int))), some (.str t)], _, forB_ok hbd (ex_seq (ex_asg hrun rfl) (ex_guard (tst_of hct) rfl)), us, _, _, rfl, by omega, uo, Dk.mono (Dk.push _ h4) (by omega)⟩)
  rw [rangeL_len] at ul h2
  have e9 : 0 + ((8 : Int) - 0).toNat = 8 := rfl
  rw [e9] at ul h2
  obtain ⟨st3, rfl, h3⟩ := Dk.split h2
  have hl3 : st3.length = st.length := by rw [Dk.len h3, hl]
  have hb : exS (run PP (k + 3)) b22 [some (.ref 2), some (.tup (ws.map .str)), some (.lst (chars S)), none, none, none] st = .ok (.ret (.ref st.length)) (st3 ++ [O.lst (us.map .str)]) := by
    refine ex_seq (ρ' := [some (.ref 2), some (.tup (ws.map .str)), some (.lst (chars S)), some (.ref st.length), none, none]) (ex_asg (d := .ref st.length) (st1 := st ++ [O.lst []]) ?_ rfl) (ex_seq (ex_for (d := .tup (rangeL 0 8)) (ev_range rfl rfl (by decide) (by decide) (by decide) (by decide)) rfl e2) (ex_ret rfl))
    simp [ev, R.bind, c3]
  have hr : run PP (k + 4) 22 [.ref 2, .tup (ws.map .str), .lst (chars S)] st = gc st.length st (.ref st.length) (st3 ++ [O.lst (us.map .str)]) := run_ret P22 rfl rfl hb
  have hv : leave st.length (st3 ++ [O.lst (us.map .str)]) (.ref st.length) = .lst (us.map .str) := by
    rw [leave, if_neg (Nat.lt_irrefl _), ← hl3, get_new]
  refine ⟨us, st3, ?_, ul, uo, Dk.mono h3 (by omega)⟩
  rw [hr, gc_dk (X := dkA) h h3 (by simp) (by rw [hv, D.under]; exact strs_under _ _), hv]
def sameL : S := .seq (.ite (.ite (.o2 .ne (.call 2 (.cons (.v 0) (.cons (.v 3) .nil)) .nil [] []) (.call 2 (.cons (.v 1) (.cons (.v 3) .nil)) .nil [] [])) (.c (.bl true)) (.o2 .ne (.call 3 (.cons (.v 0) (.cons (.v 3) .nil)) .nil [] []) (.call 3 (.cons (.v 1) (.cons (.v 3) .nil)) .nil [] []))) (.seq (.ret (.c (.bl false))) .skip) .skip) .skip
/-- a list with words that it tells -/
theorem same_right_ {k : Nat} {st : Sto} {ws ms ts : List Tx} (hw : LOk ws) (hm : LOk ms) (h1 : ∀ w ∈ ws, w ∈ ms) (h2 : ∀ w ∈ ms, toldW ws w = true) (ht : ∀ t ∈ ts, t.length ≤ 60) (htl : ts.length ≤ 100) :
    run PP (k + 6) 23 [.tup (ws.map .str), .tup (ms.map .str), .lst (ts.map .str)] st = .ok (.bl true) st := by
  have c3 : sizeLine = 16777216 := rfl
  have hwf := hw.few
  have hmf := hm.few
  have hmk : ∀ w ∈ ws, toldW ms w = true := fun w hw2 => told_kept (h1 w hw2) (hw.ne w hw2)
  have hL : leastL ws = leastL ms := (least_same hw.srt hm.srt hw.ne hm.ne).mpr ⟨h2, hmk⟩
  have hC : ∀ (t : Tx) (c d : Nat), Conn (edgs ws t) c d ↔ Conn (edgs ms t) c d := fun t c d => ⟨fun h => h.mono (edgs_mono h1 t), fun h => conn_sub h2 h⟩
  have hF : ∀ t : Tx, labF (edgs ws t) = labF (edgs ms t) := fun t => lab_eq (hC t)
  have e8 : run PP (k + 5) 8 [.tup (ws.map .str), .tup (ms.map .str)] st = .ok (.bl true) st := by
    have := hSa (k := k) (st := st) hw.ls hm.ls
    rw [decide_eq_true hL] at this
    exact this
  have e6 : run PP (k + 5) 6 [.tup (ws.map .str)] st = .ok (.tup ((leastL ws).map .str)) st := hLe (k := k + 1) hw.ls.nd hw.ls.ok hw.ls.few
  have e6m : run PP (k + 5) 6 [.tup (ms.map .str)] st = .ok (.tup ((leastL ws).map .str)) st := by
    rw [hL]
    exact hLe (k := k + 1) hm.ls.nd hm.ls.ok hm.ls.few
  have q6 : f2 .ne (.tup ((leastL ws).map .str)) (.tup ((leastL ws).map .str)) st = .ok (.bl false) st := by
    simp only [f2, eqT_strs (fun w hw2 => hw.ls.sg w (mem_leastL.mp hw2).1) (fun w hw2 => hw.ls.sg w (mem_leastL.mp hw2).1), R.of, Option.map, decide_true]
    rfl
  have e7 : run PP (k + 5) 7 [.tup (ws.map .str), .tup (ms.map .str)] st = .ok (.bl true) st := by
    have := hTa (k := k + 1) (st := st) (ws := ws) (us := ms) (fun u hu => hw.ls.wok (by have := (hm.ok u hu).2.1; omega)) (by omega)
    rw [List.all_eq_true.mpr h2] at this
    exact this
  have e7m : run PP (k + 5) 7 [.tup (ms.map .str), .tup (ws.map .str)] st = .ok (.bl true) st := by
    have := hTa (k := k + 1) (st := st) (ws := ms) (us := ws) (fun u hu => hm.ls.wok (by have := (hw.ok u hu).2.1; omega)) (by omega)
    rw [List.all_eq_true.mpr hmk] at this
    exact this
  obtain ⟨ρ, st2, e2, p3, rfl, est⟩ := forL_ok (gd := gdOf (.lst (ts.map .str)) st) (bd := forB (.nm 3) (exS (run PP (k + 5)) sameL))
    (fun m ρ st' => ∃ p3 : Option D, ρ = [some (.tup (ws.map .str)), some (.tup (ms.map .str)), some (.lst (ts.map .str)), p3] ∧ st' = st) (ts.map .str) 0
    [some (.tup (ws.map .str)), some (.tup (ms.map .str)), some (.lst (ts.map .str)), none] st ⟨none, rfl, rfl⟩ (fun _ _ _ _ => rfl)
    (fun m y hy ρ st' hI => by
      obtain ⟨p3, rfl, est⟩ := hI
      rw [est]
      obtain ⟨t, htm, rfl⟩ := List.mem_map.mp (List.mem_of_getElem? hy)
      have htn := ht t htm
      have f2c : run PP (k + 5) 2 [.tup (ws.map .str), .str t] st = .ok (.tup (clsD (edgs ws t) t.length)) st := hCs (k := k + 2) (hw.ls.wok (by omega))
      have f2m : run PP (k + 5) 2 [.tup (ms.map .str), .str t] st = .ok (.tup (clsD (edgs ws t) t.length)) st := by
        rw [clsD_eq (hF t)]
        exact hCs (k := k + 2) (hm.ls.wok (by omega))
      have f3c : run PP (k + 5) 3 [.tup (ws.map .str), .str t] st = .ok (.bl (toldW ws t)) st := hTd (k := k + 2) (hw.ls.wok (by omega))
      have f3m : run PP (k + 5) 3 [.tup (ms.map .str), .str t] st = .ok (.bl (toldW ws t)) st := by
        have : toldW ws t = toldW ms t := by unfold toldW toldB; rw [hF t]
        rw [this]
        exact hTd (k := k + 2) (hm.ls.wok (by omega))
      obtain ⟨q1, q2⟩ := clsD_cl (edgs ws t) t.length
      have hbd : bindT (.nm 3) (.str t) [some (.tup (ws.map .str)), some (.tup (ms.map .str)), some (.lst (ts.map .str)), p3] = some [some (.tup (ws.map .str)), some (.tup (ms.map .str)), some (.lst (ts.map .str)), some (.str t)] := by simp [bindT]
      refine ⟨[some (.tup (ws.map .str)), some (.tup (ms.map .str)), some (.lst (ts.map .str)), some (.str t)], st, forB_ok hbd (ex_guard (st1 := st) (tst_of (ev_iteF (ev_o2 (ev_call2 rfl rfl f2c) (ev_call2 rfl rfl f2m) (eq_same q1 (by omega))) (ev_o2 (ev_call2 rfl rfl f3c) (ev_call2 rfl rfl f3m) ?_))) rfl), _, rfl, rfl⟩
      rw [ne_bool, bne_self_eq_false])
  rw [est] at e2
  have is_t : ∀ s : Sto, f2 .is (.bl true) (.bl true) s = .ok (.bl true) s := fun s => rfl
  have hfin : ev (run PP (k + 5)) (.and (.o2 .is (.call 7 (.cons (.v 0) (.cons (.v 1) .nil)) .nil [] []) (.c (.bl true))) (.o2 .is (.call 7 (.cons (.v 1) (.cons (.v 0) .nil)) .nil [] []) (.c (.bl true)))) [some (.tup (ws.map .str)), some (.tup (ms.map .str)), some (.lst (ts.map .str)), p3] st = .ok (.bl true) st := by
    rw [ev, ev_o2 (ev_call2 rfl rfl e7) rfl (is_t st)]
    exact ev_o2 (ev_call2 rfl rfl e7m) rfl (is_t st)
  have hb : exS (run PP (k + 5)) b23 [some (.tup (ws.map .str)), some (.tup (ms.map .str)), some (.lst (ts.map .str)), none] st = .ok (.ret (.bl true)) st :=
    ex_guard (tst_of (ev_iteF (ev_o2 (ev_call2 rfl rfl e8) rfl rfl) (ev_o2 (ev_call1 rfl e6) (ev_call1 rfl e6m) q6))) (ex_seq (ex_for (d := .lst (ts.map .str)) rfl rfl e2) (ex_ret hfin))
  have hr : run PP (k + 6) 23 [.tup (ws.map .str), .tup (ms.map .str), .lst (ts.map .str)] st = gc st.length st (.bl true) st := run_ret P23 rfl rfl hb
  rw [hr, gc_eq rfl]
end MP.Law
end

section
set_option Elab.async false
set_option linter.all false
set_option maxRecDepth 100000
namespace MP.Law
open PySem MP
def fewI : S := .seq (.ite (.o2 .eq (.lc (.nm 7) (.v 5) (.o2 .eq (.lc (.nm 8) (.v 6) (.o2 .notIn (.v 8) (.v 7)) (.v 8)) (.lst .nil)) (.v 7)) (.lst .nil)) (.seq (.ret (.c (.bl false))) .skip) .skip) .skip
def fewL : S := .seq (.ite (.ite (.ite (.call 3 (.cons (.v 3) (.cons (.v 4) .nil)) .nil [] []) (.o1 .not (.call 3 (.cons (.v 1) (.cons (.v 4) .nil)) .nil [] [])) (.c (.bl false))) (.c (.bl true)) (.ite (.call 5 (.cons (.v 3) (.cons (.v 4) .nil)) .nil [] []) (.o1 .not (.call 5 (.cons (.v 1) (.cons (.v 4) .nil)) .nil [] [])) (.c (.bl false)))) (.seq (.ret (.c (.bl false))) .skip) .skip) (.seq (.asg (.nm 5) (.call 2 (.cons (.v 1) (.cons (.v 4) .nil)) .nil [] [])) (.seq (.for_ (.nm 6) (.call 2 (.cons (.v 3) (.cons (.v 4) .nil)) .nil [] []) (.seq (.ite (.o2 .eq (.lc (.nm 7) (.v 5) (.o2 .eq (.lc (.nm 8) (.v 6) (.o2 .notIn (.v 8) (.v 7)) (.v 8)) (.lst .nil)) (.v 7)) (.lst .nil)) (.seq (.ret (.c (.bl false))) .skip) .skip) .skip)) .skip))
theorem few_in {k : Nat} {st : Sto} {es fs : Ed} {n m : Nat} {s0 s1 s2 s3 s4 s6 s7 s8 : Option D} (hs : ∀ e ∈ es, e ∈ fs) (hm : m ∈ leasts es n) (hn : n ≤ 1000) :
    forB (.nm 6) (exS (run PP k) fewI) (.tup (nats (fiber es n m))) [s0, s1, s2, s3, s4, some (.tup (clsD fs n)), s6, s7, s8] st = .ok (.next [s0, s1, s2, s3, s4, some (.tup (clsD fs n)), some (.tup (nats (fiber es n m))), s7, s8]) st := by
  have c3 : sizeLine = 16777216 := rfl
  have hbd : bindT (.nm 6) (.tup (nats (fiber es n m))) [s0, s1, s2, s3, s4, some (.tup (clsD fs n)), s6, s7, s8] = some [s0, s1, s2, s3, s4, some (.tup (clsD fs n)), some (.tup (nats (fiber es n m))), s7, s8] := by simp [bindT]
  have hfl : (fiber es n m).length ≤ n + 1 := by
    have := List.length_filter_le (fun c => decide (labF es c = m)) (List.range (n + 1))
    rwa [List.length_range] at this
  have hin (q : List Nat) (s8' : Option D) : ev (run PP k) (.lc (.nm 8) (.v 6) (.o2 .notIn (.v 8) (.v 7)) (.v 8)) [s0, s1, s2, s3, s4, some (.tup (clsD fs n)), some (.tup (nats (fiber es n m))), some (.tup (nats q)), s8'] st = .ok (.lst (nats ((fiber es n m).filter fun c => !decide (c ∈ q)))) st := by
    have hfl2 := List.length_filter_le (fun c => !decide (c ∈ q)) (fiber es n m)
    refine ev_lc (d := .tup (nats (fiber es n m))) (xs := nats (fiber es n m)) rfl rfl ?_ (by rw [nats_len]; omega)
    have hp := lcL_pure (gd := gdOf (.tup (nats (fiber es n m))) st) (st := st) (bd := lcB (.nm 8) (wipeE [s0, s1, s2, s3, s4, some (.tup (clsD fs n)), some (.tup (nats (fiber es n m))), some (.tup (nats q)), s8'] [8]) (tst (run PP k) (.o2 .notIn (.v 8) (.v 7))) (ev (run PP k) (.v 8)))
      (fun x => match x with | .int c => if c.toNat ∈ q then [] else [.int c] | _ => []) rfl (nats (fiber es n m)) (fun x hx => by
        obtain ⟨c, _, rfl⟩ := List.mem_map.mp hx
        have hbd : bindT (.nm 8) (.int c) (wipeE [s0, s1, s2, s3, s4, some (.tup (clsD fs n)), some (.tup (nats (fiber es n m))), some (.tup (nats q)), s8'] [8]) = some [s0, s1, s2, s3, s4, some (.tup (clsD fs n)), some (.tup (nats (fiber es n m))), some (.tup (nats q)), some (.int c)] := by simp [bindT, wipeE]
        have hni : f2 .notIn (.int c) (.tup (nats q)) st = .ok (.bl (!decide (c ∈ q))) st := by simp [f2, dict?, in_nats, R.of]
        rw [lcB, hbd]
        show R.bind (tst _ _ _ _) _ = R.ok (if (c : Int).toNat ∈ q then [] else [D.int c]) st
        rw [tst_of (ev_o2 (Φ := run PP k) (a := .v 8) (b := .v 7) (x := .int c) (y := .tup (nats q)) rfl rfl hni), Int.toNat_natCast]
        by_cases hz : c ∈ q
        · rw [decide_eq_true hz, if_pos hz]
          rfl
        · rw [decide_eq_false hz, if_neg hz]
          rfl)
    refine hp.trans (congrArg (fun z => R.ok z st) ?_)
    rw [nats, nats, List.flatMap_map]
    generalize fiber es n m = l
    induction l with
    | nil => rfl
    | cons c r ih =>
      rw [List.flatMap_cons, ih, List.filter_cons]
      show (if (c : Int).toNat ∈ q then [] else [D.int c]) ++ _ = _
      rw [Int.toNat_natCast]
      by_cases hz : c ∈ q
      · rw [if_pos hz, decide_eq_true hz]
        rfl
      · rw [if_neg hz, decide_eq_false hz]
        rfl
  have hout : ev (run PP k) (.lc (.nm 7) (.v 5) (.o2 .eq (.lc (.nm 8) (.v 6) (.o2 .notIn (.v 8) (.v 7)) (.v 8)) (.lst .nil)) (.v 7)) [s0, s1, s2, s3, s4, some (.tup (clsD fs n)), some (.tup (nats (fiber es n m))), s7, s8] st = .ok (.lst (((leasts fs n).filter fun a => decide ((fiber es n m).filter (fun c => !decide (c ∈ fiber fs n a)) = [])).map fun a => .tup (nats (fiber fs n a)))) st := by
    have hl1 := List.length_filter_le (fun a => decide ((fiber es n m).filter (fun c => !decide (c ∈ fiber fs n a)) = [])) (leasts fs n)
    have hl2 : (leasts fs n).length ≤ n + 1 := by
      have := List.length_filter_le (fun c => decide (labF fs c = c)) (List.range (n + 1))
      rwa [List.length_range] at this
    refine ev_lc (d := .tup (clsD fs n)) (xs := clsD fs n) rfl rfl ?_ (by rw [List.length_map]; omega)
    obtain ⟨zs, st', e, hz, est⟩ := lcL_ok (gd := gdOf (.tup (clsD fs n)) st) (bd := lcB (.nm 7) (wipeE [s0, s1, s2, s3, s4, some (.tup (clsD fs n)), some (.tup (nats (fiber es n m))), s7, s8] [7]) (tst (run PP k) (.o2 .eq (.lc (.nm 8) (.v 6) (.o2 .notIn (.v 8) (.v 7)) (.v 8)) (.lst .nil))) (ev (run PP k) (.v 7)))
      (fun i ys st' => ys = (((leasts fs n).take i).filter fun a => decide ((fiber es n m).filter (fun c => !decide (c ∈ fiber fs n a)) = [])).map (fun a => .tup (nats (fiber fs n a))) ∧ st' = st) (clsD fs n) 0 [] st ⟨by simp, rfl⟩ (fun _ _ _ _ => rfl)
      (fun i y hy ys st' hI => by
        obtain ⟨rfl, est⟩ := hI
        rw [est]
        rw [clsD, List.getElem?_map] at hy
        obtain ⟨a, ha, rfl⟩ := Option.map_eq_some_iff.mp hy
        have hbd : bindT (.nm 7) (.tup (nats (fiber fs n a))) (wipeE [s0, s1, s2, s3, s4, some (.tup (clsD fs n)), some (.tup (nats (fiber es n m))), s7, s8] [7]) = some [s0, s1, s2, s3, s4, some (.tup (clsD fs n)), some (.tup (nats (fiber es n m))), some (.tup (nats (fiber fs n a))), s8] := by simp [bindT, wipeE]
        have hc : tst (run PP k) (.o2 .eq (.lc (.nm 8) (.v 6) (.o2 .notIn (.v 8) (.v 7)) (.v 8)) (.lst .nil)) [s0, s1, s2, s3, s4, some (.tup (clsD fs n)), some (.tup (nats (fiber es n m))), some (.tup (nats (fiber fs n a))), s8] st = .ok (decide ((fiber es n m).filter (fun c => !decide (c ∈ fiber fs n a)) = [])) st := by
          refine tst_of (ev_o2 (hin (fiber fs n a) s8) ev_lst0 ?_)
          simp only [f2, eq_natsE, R.of, Option.map]
        have ht : (leasts fs n).take (0 + i + 1) = (leasts fs n).take (0 + i) ++ [a] := by rw [Nat.zero_add, List.take_succ, ha]; rfl
        rw [ht, List.filter_append, List.map_append]
        by_cases hz : (fiber es n m).filter (fun c => !decide (c ∈ fiber fs n a)) = []
        · refine ⟨[.tup (nats (fiber fs n a))], st, ?_, ?_, rfl⟩
          · rw [lcB, hbd]
            show R.bind (tst _ _ _ _) _ = _
            rw [hc, decide_eq_true hz]
            rfl
          · rw [List.filter_cons, decide_eq_true hz]
            rfl
        · refine ⟨[], st, ?_, ?_, rfl⟩
          · rw [lcB, hbd]
            show R.bind (tst _ _ _ _) _ = _
            rw [hc, decide_eq_false hz]
          · rw [List.filter_cons, decide_eq_false hz]
            rfl)
    rw [List.nil_append, Nat.zero_add, clsD, List.length_map, List.take_length] at hz
    rw [est, hz] at e
    exact e
  have hne : (((leasts fs n).filter fun a => decide ((fiber es n m).filter (fun c => !decide (c ∈ fiber fs n a)) = [])).map fun a => D.tup (nats (fiber fs n a))) ≠ [] := by
    obtain ⟨h1, h2⟩ := coarser hs hm
    intro z
    have : labF fs m ∈ (leasts fs n).filter fun a => decide ((fiber es n m).filter (fun c => !decide (c ∈ fiber fs n a)) = []) := by
      rw [List.mem_filter, decide_eq_true_eq, List.filter_eq_nil_iff]
      exact ⟨h1, fun c hc => by rw [decide_eq_true (h2 c hc)]; simp⟩
    rw [List.map_eq_nil_iff.mp z] at this
    exact absurd this (by simp)
  have hcl : cls (((leasts fs n).filter fun a => decide ((fiber es n m).filter (fun c => !decide (c ∈ fiber fs n a)) = [])).map fun a => D.tup (nats (fiber fs n a))) = true := cls_all.mpr fun x hx => by
    obtain ⟨a, _, rfl⟩ := List.mem_map.mp hx
    rw [D.cl, (nats_cl _).1]
  have hdp : dps (((leasts fs n).filter fun a => decide ((fiber es n m).filter (fun c => !decide (c ∈ fiber fs n a)) = [])).map fun a => D.tup (nats (fiber fs n a))) ≤ 60 := dps_le fun x hx => by
    obtain ⟨a, _, rfl⟩ := List.mem_map.mp hx
    have := (nats_cl (fiber fs n a)).2
    rw [D.dp]
    omega
  have heq := eqE_rows (st := st) hcl hdp
  rw [decide_eq_false hne] at heq
  exact forB_ok hbd (ex_guard (tst_of (ev_o2 hout ev_lst0 heq)) rfl)
theorem few_ {k n : Nat} {tl st : Sto} {ws ts : List Tx} (hw : LOk ws) (ht : ∀ t ∈ ts, t.length ≤ 60) (h : Dk tl n st) (hn : n < 2 ^ 36) :
    ∃ st', run PP (k + 5) 24 [.ref 2, .tup (ws.map .str), .lst (ts.map .str)] st = .ok (.bl true) st' ∧ Dk tl (n + 20) st' := by
  have c3 : sizeLine = 16777216 := rfl
  have hfew := hw.few
  obtain ⟨us, st3, e3, hus, h3⟩ := lc_drawn (P := PP) (iD := 16) hDr (k := k + 3) (tv := 4) (lv := 1) (b := 3) (ws := ws) (ρ := [some (.ref 2), some (.tup (ws.map .str)), some (.lst (ts.map .str)), none, none, none, none, none, none]) (by decide) (by decide) h (by omega) (by omega) rfl (by simp) (fun _ => rfl)
  have h3 : Dk tl (n + ws.length) st3 := h3
  have hu := hw.sub hus
  have hsub : ∀ u ∈ us, u ∈ ws := fun u h => hus.subset h
  have e7 : run PP (k + 4) 7 [.tup (ws.map .str), .tup (us.map .str)] st3 = .ok (.bl true) st3 := by
    have := hTa (k := k) (st := st3) (ws := ws) (us := us) (fun u hu2 => hw.ls.wok (by have := (hu.ok u hu2).2.1; omega)) (by have := hu.few; omega)
    rw [List.all_eq_true.mpr fun u hu2 => told_kept (hsub u hu2) (hu.ne u hu2)] at this
    exact this
  obtain ⟨ρ, st2, e2, p4, p5, p6, rfl, est⟩ := forL_ok (gd := gdOf (.lst (ts.map .str)) st3) (bd := forB (.nm 4) (exS (run PP (k + 4)) fewL))
    (fun m ρ st' => ∃ p4 p5 p6 : Option D, ρ = [some (.ref 2), some (.tup (ws.map .str)), some (.lst (ts.map .str)), some (.tup (us.map .str)), p4, p5, p6, none, none] ∧ st' = st3) (ts.map .str) 0
    [some (.ref 2), some (.tup (ws.map .str)), some (.lst (ts.map .str)), some (.tup (us.map .str)), none, none, none, none, none] st3 ⟨none, none, none, rfl, rfl⟩ (fun _ _ _ _ => rfl)
    (fun m y hy ρ st' hI => by
      obtain ⟨p4, p5, p6, rfl, est⟩ := hI
      rw [est]
      obtain ⟨t, htm, rfl⟩ := List.mem_map.mp (List.mem_of_getElem? hy)
      have htn := ht t htm
      have w1 : WOk ws t := hw.ls.wok (by omega)
      have w2 : WOk us t := hu.ls.wok (by omega)
      have f3c : run PP (k + 4) 3 [.tup (ws.map .str), .str t] st3 = .ok (.bl (toldW ws t)) st3 := hTd (k := k + 1) w1
      have f3u : run PP (k + 4) 3 [.tup (us.map .str), .str t] st3 = .ok (.bl (toldW us t)) st3 := hTd (k := k + 1) w2
      have f5c : run PP (k + 4) 5 [.tup (ws.map .str), .str t] st3 = .ok (.bl (rowQ ws t)) st3 := hRw (k := k + 1) w1
      have f5u : run PP (k + 4) 5 [.tup (us.map .str), .str t] st3 = .ok (.bl (rowQ us t)) st3 := hRw (k := k + 1) w2
      have f2c : run PP (k + 4) 2 [.tup (ws.map .str), .str t] st3 = .ok (.tup (clsD (edgs ws t) t.length)) st3 := hCs (k := k + 1) w1
      have f2u : run PP (k + 4) 2 [.tup (us.map .str), .str t] st3 = .ok (.tup (clsD (edgs us t) t.length)) st3 := hCs (k := k + 1) w2
      have hbd : bindT (.nm 4) (.str t) [some (.ref 2), some (.tup (ws.map .str)), some (.lst (ts.map .str)), some (.tup (us.map .str)), p4, p5, p6, none, none] = some [some (.ref 2), some (.tup (ws.map .str)), some (.lst (ts.map .str)), some (.tup (us.map .str)), some (.str t), p5, p6, none, none] := by simp [bindT]
      have q1 : ev (run PP (k + 4)) (.ite (.call 3 (.cons (.v 3) (.cons (.v 4) .nil)) .nil [] []) (.o1 .not (.call 3 (.cons (.v 1) (.cons (.v 4) .nil)) .nil [] [])) (.c (.bl false))) [some (.ref 2), some (.tup (ws.map .str)), some (.lst (ts.map .str)), some (.tup (us.map .str)), some (.str t), p5, p6, none, none] st3 = .ok (.bl false) st3 := by
        cases hz : toldW us t with
        | true =>
          rw [hz] at f3u
          rw [told_mono hsub hz] at f3c
          exact ev_iteT (ev_call2 rfl rfl f3u) (ev_o1 (ev_call2 rfl rfl f3c) rfl)
        | false =>
          rw [hz] at f3u
          exact ev_iteF (ev_call2 rfl rfl f3u) rfl
      have q2 : ev (run PP (k + 4)) (.ite (.call 5 (.cons (.v 3) (.cons (.v 4) .nil)) .nil [] []) (.o1 .not (.call 5 (.cons (.v 1) (.cons (.v 4) .nil)) .nil [] [])) (.c (.bl false))) [some (.ref 2), some (.tup (ws.map .str)), some (.lst (ts.map .str)), some (.tup (us.map .str)), some (.str t), p5, p6, none, none] st3 = .ok (.bl false) st3 := by
        cases hz : rowQ us t with
        | true =>
          rw [hz] at f5u
          rw [rowQ_iff.mpr (Rea.mono (edgs_mono hsub t) (rowQ_iff.mp hz))] at f5c
          exact ev_iteT (ev_call2 rfl rfl f5u) (ev_o1 (ev_call2 rfl rfl f5c) rfl)
        | false =>
          rw [hz] at f5u
          exact ev_iteF (ev_call2 rfl rfl f5u) rfl
      obtain ⟨ρ3, st4, e4, p6', rfl, est4⟩ := forL_ok (gd := gdOf (.tup (clsD (edgs us t) t.length)) st3) (bd := forB (.nm 6) (exS (run PP (k + 4)) fewI))
        (fun m ρ st' => ∃ p6 : Option D, ρ = [some (.ref 2), some (.tup (ws.map .str)), some (.lst (ts.map .str)), some (.tup (us.map .str)), some (.str t), some (.tup (clsD (edgs ws t) t.length)), p6, none, none] ∧ st' = st3) (clsD (edgs us t) t.length) 0
        [some (.ref 2), some (.tup (ws.map .str)), some (.lst (ts.map .str)), some (.tup (us.map .str)), some (.str t), some (.tup (clsD (edgs ws t) t.length)), p6, none, none] st3 ⟨p6, rfl, rfl⟩ (fun _ _ _ _ => rfl)
        (fun m y hy ρ st' hI => by
          obtain ⟨p6, rfl, est⟩ := hI
          rw [est]
          obtain ⟨a, ha, rfl⟩ := List.mem_map.mp (List.mem_of_getElem? hy)
          exact ⟨_, _, few_in (edgs_mono hsub t) ha (by omega), _, rfl, rfl⟩)
      rw [est4] at e4
      exact ⟨_, _, forB_ok hbd (ex_guard (tst_of (ev_iteF q1 q2)) (ex_seq (ex_asg (ev_call2 rfl rfl f2c) rfl) (ex_last (ex_for (d := .tup (clsD (edgs us t) t.length)) (ev_call2 rfl rfl f2u) rfl e4)))), _, _, _, rfl, rfl⟩)
  rw [est] at e2
  have hb : exS (run PP (k + 4)) b24 [some (.ref 2), some (.tup (ws.map .str)), some (.lst (ts.map .str)), none, none, none, none, none, none] st = .ok (.ret (.bl true)) st3 :=
    ex_seq (ex_asg (ev_o1 e3 rfl) rfl) (ex_seq (ex_for (d := .lst (ts.map .str)) rfl rfl e2) (ex_ret (ev_o2 (ev_call2 rfl rfl e7) rfl rfl)))
  have hr : run PP (k + 5) 24 [.ref 2, .tup (ws.map .str), .lst (ts.map .str)] st = gc st.length st (.bl true) st3 := run_ret P24 rfl rfl hb
  exact ⟨st3, hr.trans (gc_eq (by rw [Dk.len h3, Dk.len h])), Dk.mono h3 (by omega)⟩
end MP.Law
end

section
set_option Elab.async false
set_option linter.all false
set_option maxRecDepth 100000
namespace MP.Law
open PySem MP
def rowsA : S := .seq (.ite (.o1 .not (.call 3 (.cons (.v 0) (.cons (.o2 .add (.v 3) (.v 4)) .nil)) .nil [] [])) (.seq (.ret (.c (.bl false))) .skip) .skip) .skip
def rowsB : S := .seq (.asg (.nm 6) (.lst (.cons (.call 3 (.cons (.v 0) (.cons (.o2 .add (.v 5) (.v 3)) .nil)) .nil [] []) (.cons (.call 3 (.cons (.v 0) (.cons (.o2 .add (.v 3) (.v 5)) .nil)) .nil [] []) .nil)))) (.seq (.ite (.ite (.call 3 (.cons (.v 0) (.cons (.v 5) .nil)) .nil [] []) (.o2 .ne (.v 6) (.lst (.cons (.c (.bl true)) (.cons (.c (.bl true)) .nil)))) (.c (.bl false))) (.seq (.ret (.c (.bl false))) .skip) .skip) .skip)
def rowsL : S := .seq (.for_ (.nm 4) (.v 1) rowsA) (.seq (.for_ (.nm 5) (.v 2) rowsB) .skip)
theorem add_strs {st : Sto} {a b : Tx} (h : a.length + b.length ≤ 1000000) : f2 .add (.str a) (.str b) st = .ok (.str (a ++ b)) st := by
  have c3 : sizeLine = 16777216 := rfl
  have : a.length + b.length ≤ 16777216 := by omega
  simp [f2, c3, this]
theorem ne_tt (st : Sto) : f2 .ne (.lst [.bl true, .bl true]) (.lst [.bl true, .bl true]) st = .ok (.bl false) st := rfl
theorem ev_lst2 {Φ : Phi} {ρ : Env} {st st1 st2 : Sto} {a b : E} {x y : D} (h1 : ev Φ a ρ st = .ok x st1) (h2 : ev Φ b ρ st1 = .ok y st2) : ev Φ (.lst (.cons a (.cons b .nil))) ρ st = .ok (.lst [x, y]) st2 := by
  have c3 : sizeLine = 16777216 := rfl
  simp [ev, R.bind, h1, h2, c3]
theorem rows_ {k : Nat} {st : Sto} {ws us ts : List Tx} (hw : LOk ws) (hu : ∀ u ∈ us, toldW ws u = true ∧ 1 ≤ u.length ∧ u.length ≤ 8 ∧ ∀ c ∈ u, c < 200) (ht : ∀ t ∈ ts, t.length ≤ 30) (htl : ts.length ≤ 100) :
    run PP (k + 6) 25 [.tup (ws.map .str), .lst (us.map .str), .lst (ts.map .str)] st = .ok (.bl true) st := by
  have c3 : sizeLine = 16777216 := rfl
  have told (t : Tx) (h : t.length ≤ 1000) : run PP (k + 5) 3 [.tup (ws.map .str), .str t] st = .ok (.bl (toldW ws t)) st := hTd (k := k + 2) (hw.ls.wok h)
  obtain ⟨ρ, st2, e2, p3, p4, p5, p6, rfl, est⟩ := forL_ok (gd := gdOf (.lst (us.map .str)) st) (bd := forB (.nm 3) (exS (run PP (k + 5)) rowsL))
    (fun m ρ st' => ∃ p3 p4 p5 p6 : Option D, ρ = [some (.tup (ws.map .str)), some (.lst (us.map .str)), some (.lst (ts.map .str)), p3, p4, p5, p6] ∧ st' = st) (us.map .str) 0
    [some (.tup (ws.map .str)), some (.lst (us.map .str)), some (.lst (ts.map .str)), none, none, none, none] st ⟨none, none, none, none, rfl, rfl⟩ (fun _ _ _ _ => rfl)
    (fun m y hy ρ st' hI => by
      obtain ⟨p3, p4, p5, p6, rfl, est⟩ := hI
      rw [est]
      obtain ⟨u, hum, rfl⟩ := List.mem_map.mp (List.mem_of_getElem? hy)
      obtain ⟨u1, u2, u3, _⟩ := hu u hum
      have hbd : bindT (.nm 3) (.str u) [some (.tup (ws.map .str)), some (.lst (us.map .str)), some (.lst (ts.map .str)), p3, p4, p5, p6] = some [some (.tup (ws.map .str)), some (.lst (us.map .str)), some (.lst (ts.map .str)), some (.str u), p4, p5, p6] := by simp [bindT]
      obtain ⟨ρ3, st3, e3, q4, rfl, est3⟩ := forL_ok (gd := gdOf (.lst (us.map .str)) st) (bd := forB (.nm 4) (exS (run PP (k + 5)) rowsA))
        (fun m ρ st' => ∃ p4 : Option D, ρ = [some (.tup (ws.map .str)), some (.lst (us.map .str)), some (.lst (ts.map .str)), some (.str u), p4, p5, p6] ∧ st' = st) (us.map .str) 0
        [some (.tup (ws.map .str)), some (.lst (us.map .str)), some (.lst (ts.map .str)), some (.str u), p4, p5, p6] st ⟨p4, rfl, rfl⟩ (fun _ _ _ _ => rfl)
        (fun m y hy ρ st' hI => by
          obtain ⟨p4, rfl, est⟩ := hI
          rw [est]
          obtain ⟨v, hvm, rfl⟩ := List.mem_map.mp (List.mem_of_getElem? hy)
          obtain ⟨v1, v2, v3, _⟩ := hu v hvm
          have hbd : bindT (.nm 4) (.str v) [some (.tup (ws.map .str)), some (.lst (us.map .str)), some (.lst (ts.map .str)), some (.str u), p4, p5, p6] = some [some (.tup (ws.map .str)), some (.lst (us.map .str)), some (.lst (ts.map .str)), some (.str u), some (.str v), p5, p6] := by simp [bindT]
          have e := told (u ++ v) (by rw [List.length_append]; omega)
          rw [told_cat u1 v1] at e
          exact ⟨_, _, forB_ok hbd (ex_guard (st1 := st) (tst_of (ev_o1 (ev_call2 rfl (ev_o2 rfl rfl (add_strs (by omega))) e) rfl)) rfl), _, rfl, rfl⟩)
      rw [est3] at e3
      obtain ⟨ρ4, st4, e4, q5, q6, rfl, est4⟩ := forL_ok (gd := gdOf (.lst (ts.map .str)) st) (bd := forB (.nm 5) (exS (run PP (k + 5)) rowsB))
        (fun m ρ st' => ∃ p5 p6 : Option D, ρ = [some (.tup (ws.map .str)), some (.lst (us.map .str)), some (.lst (ts.map .str)), some (.str u), q4, p5, p6] ∧ st' = st) (ts.map .str) 0
        [some (.tup (ws.map .str)), some (.lst (us.map .str)), some (.lst (ts.map .str)), some (.str u), q4, p5, p6] st ⟨p5, p6, rfl, rfl⟩ (fun _ _ _ _ => rfl)
        (fun m y hy ρ st' hI => by
          obtain ⟨p5, p6, rfl, est⟩ := hI
          rw [est]
          obtain ⟨t, htm, rfl⟩ := List.mem_map.mp (List.mem_of_getElem? hy)
          have htn := ht t htm
          have hbd : bindT (.nm 5) (.str t) [some (.tup (ws.map .str)), some (.lst (us.map .str)), some (.lst (ts.map .str)), some (.str u), q4, p5, p6] = some [some (.tup (ws.map .str)), some (.lst (us.map .str)), some (.lst (ts.map .str)), some (.str u), q4, some (.str t), p6] := by simp [bindT]
          have k1 := told (t ++ u) (by rw [List.length_append]; omega)
          have k2 := told (u ++ t) (by rw [List.length_append]; omega)
          have k3 := told t (by omega)
          have hls : ev (run PP (k + 5)) (.lst (.cons (.call 3 (.cons (.v 0) (.cons (.o2 .add (.v 5) (.v 3)) .nil)) .nil [] []) (.cons (.call 3 (.cons (.v 0) (.cons (.o2 .add (.v 3) (.v 5)) .nil)) .nil [] []) .nil))) [some (.tup (ws.map .str)), some (.lst (us.map .str)), some (.lst (ts.map .str)), some (.str u), q4, some (.str t), p6] st = .ok (.lst [.bl (toldW ws (t ++ u)), .bl (toldW ws (u ++ t))]) st :=
            ev_lst2 (ev_call2 rfl (ev_o2 rfl rfl (add_strs (by omega))) k1) (ev_call2 rfl (ev_o2 rfl rfl (add_strs (by omega))) k2)
          have hg : ev (run PP (k + 5)) (.ite (.call 3 (.cons (.v 0) (.cons (.v 5) .nil)) .nil [] []) (.o2 .ne (.v 6) (.lst (.cons (.c (.bl true)) (.cons (.c (.bl true)) .nil)))) (.c (.bl false))) [some (.tup (ws.map .str)), some (.lst (us.map .str)), some (.lst (ts.map .str)), some (.str u), q4, some (.str t), some (.lst [.bl (toldW ws (t ++ u)), .bl (toldW ws (u ++ t))])] st = .ok (.bl false) st := by
            cases hz : toldW ws t with
            | true =>
              rw [hz] at k3
              rw [told_cat hz u1, told_cat u1 hz]
              exact ev_iteT (ev_call2 rfl rfl k3) (ev_o2 rfl (ev_lst2 rfl rfl) (ne_tt st))
            | false =>
              rw [hz] at k3
              exact ev_iteF (ev_call2 rfl rfl k3) rfl
          exact ⟨_, _, forB_ok hbd (ex_seq (ex_asg hls rfl) (ex_guard (tst_of hg) rfl)), _, _, rfl, rfl⟩)
      rw [est4] at e4
      exact ⟨_, _, forB_ok hbd (ex_seq (ex_for (d := .lst (us.map .str)) rfl rfl e3) (ex_last (ex_for (d := .lst (ts.map .str)) rfl rfl e4))), _, _, _, _, rfl, rfl⟩)
  rw [est] at e2
  have hlc : ev (run PP (k + 5)) (.lc (.nm 5) (.v 2) (.o2 .ne (.o2 .ix (.call 14 (.cons (.v 0) (.cons (.v 5) .nil)) .nil [] []) (.c (.int 0))) (.ite (.call 3 (.cons (.v 0) (.cons (.v 5) .nil)) .nil [] []) (.c (.str [116, 111, 108, 100])) (.c (.str [98, 97, 114, 114, 101, 100])))) (.v 5)) [some (.tup (ws.map .str)), some (.lst (us.map .str)), some (.lst (ts.map .str)), p3, p4, p5, p6] st = .ok (.lst ((ts.filter fun _ => false).map .str)) st :=
    lc_filter (p := fun _ => false) rfl rfl rfl (by simp) (by omega) fun t htm => by
      have htn := ht t htm
      obtain ⟨d, ej⟩ := hJg (k := k) (st := st) (hw.ls.wok (t := t) (by omega)) (by omega)
      have k3 := told t (by omega)
      have hix : f2 .ix (.tup [.str (if toldW ws t then [116, 111, 108, 100] else [98, 97, 114, 114, 101, 100]), d]) (.int 0) st = .ok (.str (if toldW ws t then [116, 111, 108, 100] else [98, 97, 114, 114, 101, 100])) st := by
        simp [f2, dict?, sq, ixN, R.of]
      have hit : ev (run PP (k + 5)) (.ite (.call 3 (.cons (.v 0) (.cons (.v 5) .nil)) .nil [] []) (.c (.str [116, 111, 108, 100])) (.c (.str [98, 97, 114, 114, 101, 100]))) [some (.tup (ws.map .str)), some (.lst (us.map .str)), some (.lst (ts.map .str)), p3, p4, some (.str t), p6] st = .ok (.str (if toldW ws t then [116, 111, 108, 100] else [98, 97, 114, 114, 101, 100])) st := by
        cases hz : toldW ws t with
        | true =>
          rw [hz] at k3
          exact ev_iteT (ev_call2 rfl rfl k3) rfl
        | false =>
          rw [hz] at k3
          exact ev_iteF (ev_call2 rfl rfl k3) rfl
      refine tst_of (ev_o2 (ev_o2 (ev_call2 rfl rfl ej) rfl hix) hit ?_)
      simp [f2, eqD, R.of]
  have hf0 : (ts.filter fun _ => false) = [] := by rw [List.filter_eq_nil_iff]; simp
  rw [hf0] at hlc
  have hb : exS (run PP (k + 5)) b25 [some (.tup (ws.map .str)), some (.lst (us.map .str)), some (.lst (ts.map .str)), none, none, none, none] st = .ok (.ret (.bl true)) st :=
    ex_seq (ex_for (d := .lst (us.map .str)) rfl rfl e2) (ex_ret (ev_o2 hlc ev_lst0 (eqE_strs2 (ws := []) (by simp))))
  have hr : run PP (k + 6) 25 [.tup (ws.map .str), .lst (us.map .str), .lst (ts.map .str)] st = gc st.length st (.bl true) st := run_ret P25 rfl rfl hb
  rw [hr, gc_eq rfl]
def turnB : S := .seq (.asg (.nm 3) (.call 20 (.cons (.v 1) .nil) .nil [] [])) (.seq (.asg (.nm 4) (.call 19 (.cons (.v 1) (.cons (.v 3) (.cons (.c (.int 5)) (.cons (.c (.int 6)) .nil)))) .nil [] [])) (.seq (.asg (.nm 5) (.call 22 (.cons (.v 1) (.cons (.v 4) (.cons (.v 3) .nil))) .nil [] [])) (.seq (.asg (.nm 6) (.o1 .tuple (.o1 .sortset (.o2 .add (.o1 .list (.v 4)) (.o3 .slice (.v 5) (.c .non) (.o1 .idx (.c (.int 3)))))))) (.seq (.asg (.nm 7) (.lst (.cons (.call 18 (.cons (.v 1) (.cons (.v 3) (.cons (.c (.int 1)) (.cons (.c (.int 22)) .nil)))) .nil [] []) (.cons (.call 21 (.cons (.v 1) (.cons (.v 4) (.cons (.v 3) (.cons (.c (.int 22)) .nil)))) .nil [] []) (.cons (.call 21 (.cons (.v 1) (.cons (.v 4) (.cons (.v 3) (.cons (.c (.int 12)) .nil)))) .nil [] []) .nil))))) (.seq (.ite (.ite (.o1 .not (.call 23 (.cons (.v 4) (.cons (.v 6) (.cons (.o2 .add (.v 7) (.v 5)) .nil))) .nil [] [])) (.c (.bl true)) (.o1 .not (.call 24 (.cons (.v 1) (.cons (.v 4) (.cons (.o2 .add (.v 7) (.v 5)) .nil))) .nil [] []))) (.seq (.ret (.c (.bl false))) .skip) .skip) (.seq (.ite (.o1 .not (.call 25 (.cons (.v 4) (.cons (.v 5) (.cons (.v 7) .nil))) .nil [] [])) (.seq (.ret (.c (.bl false))) .skip) .skip) .skip))))))
theorem turn_ {n i : Nat} {st : Sto} {s0 s2 s3 s4 s5 s6 s7 : Option D} (h : Dk [] n st) (hn : n < 2 ^ 30) :
    ∃ (st' : Sto) (a3 a4 a5 a6 a7 : Option D), forB (.nm 2) (exS (run PP 6) turnB) (.int i) [s0, some (.ref 2), s2, s3, s4, s5, s6, s7] st = .ok (.next [s0, some (.ref 2), some (.int i), a3, a4, a5, a6, a7]) st' ∧ Dk [] (n + 100000) st' := by
  have c3 : sizeLine = 16777216 := rfl
  obtain ⟨S, st1, e1, hS, hS2, hS4, h1⟩ := hSg (k := 3) h (by omega)
  have hS3 : ∀ c ∈ S, c < 200 := fun c hc => by have := hS4 c hc; omega
  obtain ⟨ts, st2, e2, g2, g3, h2⟩ := hLt (k := 2) (many := 5) (most := 6) hS (by omega) (by omega) (by omega) (by omega) h1 (by omega)
  have hw : LOk (sdT ts) := ⟨sdT_srt ts, by have := sdT_len ts; omega, fun w hw => by
    obtain ⟨q1, q2, q3⟩ := g3 w (sdT_mem.mp hw)
    exact ⟨q1, by omega, fun c hc => hS3 c (q3 c hc)⟩⟩
  have hw6 : ∀ w ∈ sdT ts, w.length ≤ 6 := fun w hw => (g3 w (sdT_mem.mp hw)).2.1
  have hwl : (sdT ts).length ≤ 5 := Nat.le_trans (sdT_len ts) g2
  obtain ⟨us, st3, e3, ul, uo, h3⟩ := told_ones_ (k := 2) (S := S) hw (fun w hw2 => by have := hw6 w hw2; omega) hS (by omega) hS3 h2 (by show n + 1 + 20000 < 2 ^ 36; omega)
  have hm : LOk (sdT (sdT ts ++ us.take 3)) := ⟨sdT_srt _, by
      have h1 := sdT_len (sdT ts ++ us.take 3)
      rw [List.length_append, List.length_take] at h1
      omega, fun w hw2 => by
    rcases List.mem_append.mp (sdT_mem.mp hw2) with hw2 | hw2
    · exact hw.ok w hw2
    · obtain ⟨_, q1, q2, q3⟩ := uo w (List.mem_of_mem_take hw2)
      exact ⟨q1, by omega, q3⟩⟩
  have hm1 : ∀ w ∈ sdT ts, w ∈ sdT (sdT ts ++ us.take 3) := fun w hw2 => sdT_mem.mpr (List.mem_append_left _ hw2)
  have hm2 : ∀ w ∈ sdT (sdT ts ++ us.take 3), toldW (sdT ts) w = true := fun w hw2 => by
    rcases List.mem_append.mp (sdT_mem.mp hw2) with hw2 | hw2
    · exact told_kept hw2 (hw.ne w hw2)
    · exact (uo w (List.mem_of_mem_take hw2)).1
  obtain ⟨t1, st4, e4, l1, l2, c1, h4⟩ := hRn (k := 3) (lo := 1) (hi := 22) hS (by omega) (by omega) (by omega) h3 (by show n + 1 + 20000 + 1000 < 2 ^ 39; omega)
  have hws : ∀ w ∈ sdT ts, w.length ≤ 1000 ∧ ∀ c ∈ w, c < 200 := fun w hw2 => ⟨by have := hw6 w hw2; omega, (hw.ok w hw2).2.2⟩
  obtain ⟨t2, st5, e5, l3, l4, c2, h5⟩ := hBt (k := 3) (hi := 22) (ws := sdT ts) hS (by omega) hS3 (by omega) hws hw.ne (by omega) h4 (by omega)
  obtain ⟨t3, st6, e6, l5, l6, c4, h6⟩ := hBt (k := 3) (hi := 12) (ws := sdT ts) hS (by omega) hS3 (by omega) hws hw.ne (by omega) h5 (by omega)
  have h6 : Dk [] _ st6 := h6
  have e1' : run PP 6 20 [.ref 2] st = .ok (.lst (chars S)) st1 := e1
  have e2' : run PP 6 19 [.ref 2, .lst (chars S), .int 5, .int 6] st1 = .ok (.tup ((sdT ts).map .str)) st2 := e2
  have e3' : run PP 6 22 [.ref 2, .tup ((sdT ts).map .str), .lst (chars S)] st2 = .ok (.lst (us.map .str)) st3 := e3
  have e4' : run PP 6 18 [.ref 2, .lst (chars S), .int 1, .int 22] st3 = .ok (.str t1) st4 := e4
  have e5' : run PP 6 21 [.ref 2, .tup ((sdT ts).map .str), .lst (chars S), .int 22] st4 = .ok (.str t2) st5 := e5
  have e6' : run PP 6 21 [.ref 2, .tup ((sdT ts).map .str), .lst (chars S), .int 12] st5 = .ok (.str t3) st6 := e6
  have hall : ∀ t ∈ [t1, t2, t3] ++ us, t.length ≤ 30 := by
    intro t ht
    rcases List.mem_append.mp ht with ht | ht
    · simp only [List.mem_cons, List.not_mem_nil, or_false] at ht
      rcases ht with rfl | rfl | rfl <;> omega
    · have := (uo t ht).2.2.1
      omega
  have r23 : run PP 6 23 [.tup ((sdT ts).map .str), .tup ((sdT (sdT ts ++ us.take 3)).map .str), .lst (([t1, t2, t3] ++ us).map .str)] st6 = .ok (.bl true) st6 := same_right_ (k := 0) hw hm hm1 hm2 (fun t ht => by have := hall t ht; omega) (by simp; omega)
  obtain ⟨st7, r24, h7⟩ := few_ (k := 1) (ws := sdT ts) (ts := [t1, t2, t3] ++ us) hw (fun t ht => by have := hall t ht; omega) h6 (by omega)
  have r24' : run PP 6 24 [.ref 2, .tup ((sdT ts).map .str), .lst (([t1, t2, t3] ++ us).map .str)] st6 = .ok (.bl true) st7 := r24
  have r25 : run PP 6 25 [.tup ((sdT ts).map .str), .lst (us.map .str), .lst ([t1, t2, t3].map .str)] st7 = .ok (.bl true) st7 := rows_ (k := 0) hw uo (fun t ht => hall t (List.mem_append_left _ ht)) (by simp)
  have hbd : bindT (.nm 2) (.int i) [s0, some (.ref 2), s2, s3, s4, s5, s6, s7] = some [s0, some (.ref 2), some (.int i), s3, s4, s5, s6, s7] := by simp [bindT]
  have hmore : ev (run PP 6) (.o1 .tuple (.o1 .sortset (.o2 .add (.o1 .list (.v 4)) (.o3 .slice (.v 5) (.c .non) (.o1 .idx (.c (.int 3))))))) [s0, some (.ref 2), some (.int i), some (.lst (chars S)), some (.tup ((sdT ts).map .str)), some (.lst (us.map .str)), s6, s7] st3 = .ok (.tup ((sdT (sdT ts ++ us.take 3)).map .str)) st3 := by
    have g1 : f3 .slice (.lst (us.map .str)) .non (.int 3) st3 = .ok (.lst ((us.take 3).map .str)) st3 := by
      have : cut (us.map D.str) none (some ((3 : Nat) : Int)) = (us.take 3).map .str := by
        simp only [cut, sIx]
        rw [if_neg (by omega), List.drop_zero, Int.toNat_natCast, Nat.sub_zero, List.map_take]
        by_cases h : 3 ≤ (us.map D.str).length
        · rw [Nat.min_eq_left h]
        · rw [Nat.min_eq_right (by omega), List.take_of_length_le (Nat.le_refl _), List.take_of_length_le (by omega)]
      simp only [f3, optI, sq, Option.map_some, R.of]
      exact congrArg (fun z => R.ok (D.lst z) st3) this
    have g2 : f2 .add (.lst ((sdT ts).map .str)) (.lst ((us.take 3).map .str)) st3 = .ok (.lst ((sdT ts ++ us.take 3).map .str)) st3 := by
      have q : ((sdT ts).map D.str).length + ((us.take 3).map D.str).length ≤ sizeLine := by rw [List.length_map, List.length_map, List.length_take]; omega
      simp only [f2, top]
      rw [if_pos q, List.map_append]
    exact ev_o1 (ev_o1 (ev_o2 (ev_o1 (x := .tup ((sdT ts).map .str)) rfl rfl) (ev_o3 rfl rfl rfl g1) g2) (sortset_lst (by rw [List.length_append, List.length_take]; omega))) rfl
  have hsome : ev (run PP 6) (.lst (.cons (.call 18 (.cons (.v 1) (.cons (.v 3) (.cons (.c (.int 1)) (.cons (.c (.int 22)) .nil)))) .nil [] []) (.cons (.call 21 (.cons (.v 1) (.cons (.v 4) (.cons (.v 3) (.cons (.c (.int 22)) .nil)))) .nil [] []) (.cons (.call 21 (.cons (.v 1) (.cons (.v 4) (.cons (.v 3) (.cons (.c (.int 12)) .nil)))) .nil [] []) .nil)))) [s0, some (.ref 2), some (.int i), some (.lst (chars S)), some (.tup ((sdT ts).map .str)), some (.lst (us.map .str)), some (.tup ((sdT (sdT ts ++ us.take 3)).map .str)), s7] st3 = .ok (.lst ([t1, t2, t3].map .str)) st6 := by
    simp [ev, R.bind, pick, e4', e5', e6', c3]
  have hcat (s : Sto) : f2 .add (.lst ([t1, t2, t3].map .str)) (.lst (us.map .str)) s = .ok (.lst (([t1, t2, t3] ++ us).map .str)) s := by
    have q : ([t1, t2, t3].map D.str).length + (us.map D.str).length ≤ sizeLine := by rw [List.length_map, List.length_map]; show 3 + _ ≤ _; omega
    simp only [f2, top]
    rw [if_pos q, List.map_append]
  refine ⟨st7, some (.lst (chars S)), some (.tup ((sdT ts).map .str)), some (.lst (us.map .str)), some (.tup ((sdT (sdT ts ++ us.take 3)).map .str)), some (.lst ([t1, t2, t3].map .str)), forB_ok hbd ?_, Dk.mono h7 (by omega)⟩
  refine ex_seq (ex_asg (ev_call1 rfl e1') rfl) ?_
  refine ex_seq (ρ' := [s0, some (.ref 2), some (.int i), some (.lst (chars S)), some (.tup ((sdT ts).map .str)), s5, s6, s7]) (ex_asg (d := .tup ((sdT ts).map .str)) (st1 := st2) ?_ rfl) ?_
  · simp [ev, R.bind, pick, e2']
  refine ex_seq (ex_asg (ev_call3 rfl rfl rfl e3') rfl) (ex_seq (ex_asg hmore rfl) (ex_seq (ex_asg hsome rfl) ?_))
  refine ex_guard (tst_of (ev_iteF (ev_o1 (ev_call3 rfl rfl (ev_o2 rfl rfl (hcat _)) r23) rfl) (ev_o1 (ev_call3 rfl rfl (ev_o2 rfl rfl (hcat _)) r24') rfl))) ?_
  exact ex_guard (tst_of (ev_o1 (ev_call3 rfl rfl rfl r25) rfl)) rfl
theorem runs : ∀ ns : List Int, ns.length ≤ 63 → ∃ st, run (pgOf tab) 7 e26.fi.id [.rol (ns.map .int)] [] = .ok (.bl true) st := by
  intro ns h
  obtain ⟨st1, e1, h1⟩ := deckA_of P15 (k := 5) h
  have e1' : run PP 6 15 [.rol (ns.map .int)] [] = .ok (.ref 2) st1 := e1
  obtain ⟨ρ, st2, e2, a2, a3, a4, a5, a6, a7, rfl, h2⟩ := forL_ok (gd := gdOf (.tup (rangeL 0 5)) st1) (bd := forB (.nm 2) (exS (run PP 6) turnB))
    (fun m ρ st => ∃ a2 a3 a4 a5 a6 a7 : Option D, ρ = [some (.rol (ns.map .int)), some (.ref 2), a2, a3, a4, a5, a6, a7] ∧ Dk [] (m * 100000) st)
    (rangeL 0 5) 0 [some (.rol (ns.map .int)), some (.ref 2), none, none, none, none, none, none] st1 ⟨_, _, _, _, _, _, rfl, Dk.mono h1 (Nat.zero_le _)⟩ (fun _ _ _ _ => rfl)
    (fun m y hy ρ st hI => by
      obtain ⟨a2, a3, a4, a5, a6, a7, rfl, hD⟩ := hI
      obtain ⟨hm, rfl⟩ := rangeL_get hy
      have hm2 : m < 5 := hm
      rw [Nat.zero_add] at hD
      have em : (0 : Int) + m = (m : Nat) := by omega
      rw [em]
      obtain ⟨st', b3, b4, b5, b6, b7, e, hD'⟩ := turn_ (i := m) (s0 := some (.rol (ns.map .int))) (s2 := a2) (s3 := a3) (s4 := a4) (s5 := a5) (s6 := a6) (s7 := a7) hD (by omega)
      exact ⟨_, _, e, _, _, _, _, _, _, rfl, Dk.mono hD' (by omega)⟩)
  have hb : exS (run PP 6) b26 [some (.rol (ns.map .int)), none, none, none, none, none, none, none] [] = .ok (.ret (.bl true)) st2 :=
    ex_seq (ex_asg (ρ' := [some (.rol (ns.map .int)), some (.ref 2), none, none, none, none, none, none]) (ev_call1 rfl e1') rfl) (ex_seq (ex_for (d := .tup (rangeL 0 5)) (st1 := st1) (xs := rangeL 0 5) (ev_range (st1 := st1) rfl rfl (by decide) (by decide) (by decide) (by decide)) rfl e2) (ex_ret rfl))
  have hr2 : run PP 7 26 [.rol (ns.map .int)] [] = gc 0 [] (.bl true) st2 := run_ret (k := 6) P26 rfl rfl hb
  refine ⟨[], hr2.trans ?_⟩
  have := gc_tl (st := []) (tl := st2) (d := .bl true) (fun e => by
    have := Dk.len h2
    rw [e] at this
    exact absurd this (by decide)) rfl
  exact this
end MP.Law
end

section
set_option Elab.async false
set_option linter.all false
set_option maxRecDepth 100000
open PySem PySem.W PyProof.Rows
set_option maxRecDepth 100000 in
set_option maxHeartbeats 0 in
theorem PySem.Challenge.cw_wordstold_k46_whole_told_by_what_is_told_holds : PySem.Challenge.rw_wordstold_k46_whole_told_by_what_is_told.Holds := by
  w_on; o_law; k_head; (case hw => w_witness2)
  k_fill
  refine MP.law_of (l := PySem.Challenge.rw_wordstold_k46_whole_told_by_what_is_told) (n := 63) (k := 7) (e := MP.Law.e26) MP.Law.text (List.mem_of_getElem? (i := 26) rfl) rfl rfl rfl (by decide) rfl ⟨rfl, by decide, by decide⟩ (fun w h Y => PySem.W.kIn_of Y) (fun _ _ _ _ _ _ _ => rfl) ?F MP.Law.runs
  case F =>
    intro w mg h KX G
    refine' MP.Law.facts KX G ?a0 ?l0 ?c0 ?k0 ?a1 ?l1 ?c1 ?k1 ?a2 ?l2 ?c2 ?k2 ?a3 ?l3 ?c3 ?k3 ?a4 ?l4 ?c4 ?k4 ?a5 ?l5 ?c5 ?k5 ?a6 ?l6 ?c6 ?k6 ?a7 ?l7 ?c7 ?k7 ?a8 ?l8 ?c8 ?k8 ?a9 ?l9 ?c9 ?k9 ?a10 ?l10 ?c10 ?k10 ?a11 ?l11 ?c11 ?k11 ?a12 ?l12 ?c12 ?k12 ?a13 ?l13 ?c13 ?k13 ?a14 ?l14 ?c14 ?k14 ?a15 ?l15 ?c15 ?k15 ?a16 ?l16 ?c16 ?k16 ?a17 ?l17 ?c17 ?k17 ?a18 ?l18 ?c18 ?k18 ?a19 ?l19 ?c19 ?k19 ?a20 ?l20 ?c20 ?k20 ?a21 ?l21 ?c21 ?k21 ?a22 ?l22 ?c22 ?k22 ?a23 ?l23 ?c23 ?k23 ?a24 ?l24 ?c24 ?k24 ?a25 ?l25 ?c25 ?k25 ?a26 ?l26 ?c26 ?k26 ?z0 ?z1 ?z2 ?z3 ?z4 ?z5 ?z6 ?z7 ?z8 ?z9 ?z10 ?y0 ?y1 ?y2 ?y3
    (case a0 => k_is); (case l0 => k_is); (case c0 => k_is); (case k0 => k_is)
    (case a1 => k_is); (case l1 => k_is); (case c1 => k_is); (case k1 => k_is)
    (case a2 => k_is); (case l2 => k_is); (case c2 => k_is); (case k2 => k_is)
    (case a3 => k_is); (case l3 => k_is); (case c3 => k_is); (case k3 => k_is)
    (case a4 => k_is); (case l4 => k_is); (case c4 => k_is); (case k4 => k_is)
    (case a5 => k_is); (case l5 => k_is); (case c5 => k_is); (case k5 => k_is)
    (case a6 => k_is); (case l6 => k_is); (case c6 => k_is); (case k6 => k_is)
    (case a7 => k_is); (case l7 => k_is); (case c7 => k_is); (case k7 => k_is)
    (case a8 => k_is); (case l8 => k_is); (case c8 => k_is); (case k8 => k_is)
    (case a9 => k_is); (case l9 => k_is); (case c9 => k_is); (case k9 => k_is)
    (case a10 => k_is); (case l10 => k_is); (case c10 => k_is); (case k10 => k_is)
    (case a11 => k_is); (case l11 => k_is); (case c11 => k_is); (case k11 => k_is)
    (case a12 => k_is); (case l12 => k_is); (case c12 => k_is); (case k12 => k_is)
    (case a13 => k_is); (case l13 => k_is); (case c13 => k_is); (case k13 => k_is)
    (case a14 => k_is); (case l14 => k_is); (case c14 => k_is); (case k14 => k_is)
    (case a15 => k_is); (case l15 => k_is); (case c15 => k_is); (case k15 => k_is)
    (case a16 => k_is); (case l16 => k_is); (case c16 => k_is); (case k16 => k_is)
    (case a17 => k_is); (case l17 => k_is); (case c17 => k_is); (case k17 => k_is)
    (case a18 => k_is); (case l18 => k_is); (case c18 => k_is); (case k18 => k_is)
    (case a19 => k_is); (case l19 => k_is); (case c19 => k_is); (case k19 => k_is)
    (case a20 => k_is); (case l20 => k_is); (case c20 => k_is); (case k20 => k_is)
    (case a21 => k_is); (case l21 => k_is); (case c21 => k_is); (case k21 => k_is)
    (case a22 => k_is); (case l22 => k_is); (case c22 => k_is); (case k22 => k_is)
    (case a23 => k_is); (case l23 => k_is); (case c23 => k_is); (case k23 => k_is)
    (case a24 => k_is); (case l24 => k_is); (case c24 => k_is); (case k24 => k_is)
    (case a25 => k_is); (case l25 => k_is); (case c25 => k_is); (case k25 => k_is)
    (case a26 => k_is); (case l26 => k_is); (case c26 => k_is); (case k26 => k_is)
    (case z0 => k_is); (case z1 => k_is); (case z2 => k_is); (case z3 => k_is); (case z4 => k_is); (case z5 => k_is); (case z6 => k_is); (case z7 => k_is); (case z8 => k_is); (case z9 => k_is); (case z10 => k_is)
    (case y0 => k_is); (case y1 => k_is); (case y2 => k_is); (case y3 => k_is)
end
