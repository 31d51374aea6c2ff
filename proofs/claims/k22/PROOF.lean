import PyProof.Rows.All
import Wide.All
import OpenK.AllK
import Wide.FinOn
import HandS.ForMost
import HandS.ForExc
import HandS.CallSlots
import HandS.Flow
import HandS.Wide
import HandS.TupAny
import HandS.TupMul
import HandS.WideBits
import HandS.IsInst
import HandS.SortKw
import HandS.EndBits
import HandS.More
import KE.DataCmp
import KE.SortCalls
import KE.SortData
import HandS.Zip
import HandS.WrittenGet
import HandS.Style
import PyProof.CollectIter
import PyProof.WalksMore
import HandS.Words
import PyProof.StrLawsRepr
import KE.KIntText
import PySem.Challenge.RW_everbetween_k22_rounds_to_both_sides
set_option Elab.async false
set_option linter.all false
set_option maxRecDepth 100000
set_option autoImplicit false
/-! Mi1: a small language over pure data: values, heap, what a program of it does. -/
namespace Mi
open PySem

inductive D where
  | non | bl (b : Bool) | int (i : Int) | str (x : List Nat) | tup (ds : List D) | ref (i : Nat) | rol (is : List Int)
  deriving Inhabited

mutual
def D.eqb : D → D → Bool
  | .non, .non => true
  | .bl a, .bl b => a == b
  | .int a, .int b => a == b
  | .str a, .str b => a == b
  | .ref a, .ref b => a == b
  | .rol a, .rol b => a == b
  | .tup a, .tup b => D.eqbs a b
  | _, _ => false
def D.eqbs : List D → List D → Bool
  | [], [] => true
  | a :: r, b :: s => D.eqb a b && D.eqbs r s
  | _, _ => false
end
mutual
theorem D.eqb_refl : ∀ a : D, D.eqb a a = true
  | .non => rfl
  | .bl b => by simp [D.eqb]
  | .int b => by simp [D.eqb]
  | .str b => by simp [D.eqb]
  | .ref b => by simp [D.eqb]
  | .rol b => by simp [D.eqb]
  | .tup ds => by simp only [D.eqb]; exact D.eqbs_refl ds
theorem D.eqbs_refl : ∀ a : List D, D.eqbs a a = true
  | [] => rfl
  | a :: r => by simp only [D.eqbs, D.eqb_refl a, D.eqbs_refl r, Bool.and_self]
end
mutual
theorem D.eq_of : ∀ a b : D, D.eqb a b = true → a = b
  | .non, b, h => by cases b <;> simp_all [D.eqb]
  | .bl x, b, h => by cases b <;> simp_all [D.eqb]
  | .int x, b, h => by cases b <;> simp_all [D.eqb]
  | .str x, b, h => by cases b <;> simp_all [D.eqb]
  | .ref x, b, h => by cases b <;> simp_all [D.eqb]
  | .rol x, b, h => by cases b <;> simp_all [D.eqb]
  | .tup ds, b, h => by
    cases b with
    | tup es => simp only [D.eqb] at h; rw [D.eqs_of ds es h]
    | _ => simp [D.eqb] at h
theorem D.eqs_of : ∀ a b : List D, D.eqbs a b = true → a = b
  | [], b, h => by cases b <;> simp_all [D.eqbs]
  | a :: r, b, h => by
    cases b with
    | nil => simp [D.eqbs] at h
    | cons c s =>
      simp only [D.eqbs, Bool.and_eq_true] at h
      rw [D.eq_of a c h.1, D.eqs_of r s h.2]
end
instance : DecidableEq D := fun a b => decidable_of_iff (D.eqb a b = true) ⟨D.eq_of a b, fun h => h ▸ D.eqb_refl a⟩

/-- what stands in the heap -/
inductive MO where
  | lst (ds : List D) | dct (kvs : List (D × D))
  deriving Inhabited
def MO.eqb : MO → MO → Bool
  | .lst a, .lst b => decide (a = b)
  | .dct a, .dct b => decide (a = b)
  | _, _ => false
theorem MO.eq_of {a b : MO} (h : MO.eqb a b = true) : a = b := by
  cases a <;> cases b <;> simp_all [MO.eqb]
theorem MO.eqb_refl (a : MO) : MO.eqb a a = true := by cases a <;> simp [MO.eqb]
instance : DecidableEq MO := fun a b => decidable_of_iff (MO.eqb a b = true) ⟨MO.eq_of, fun h => h ▸ MO.eqb_refl a⟩

abbrev Hm := List MO
abbrev Sl := List (Option D)

/-- an exception: its class by number, its field -/
structure Ex where
  cls : Nat
  fld : Option D
  deriving Inhabited

inductive Out (α : Type) where
  | ok (a : α) (M : Hm) | exc (x : Ex) (M : Hm)
  deriving Inhabited
abbrev R (α : Type) := Option (Out α)
def ok {α : Type} (a : α) (M : Hm) : R α := some (.ok a M)
def bnd {α β : Type} (x : R α) (f : α → Hm → R β) : R β :=
  match x with
  | some (.ok a M) => f a M
  | some (.exc e M) => some (.exc e M)
  | none => none
def ifo {α : Type} (c : Bool) (x : R α) : R α := if c then x else none

/-! ### data -/
abbrev lim : Nat := 16777216
mutual
def D.py : D → Option PyData
  | .non => some .none
  | .bl b => some (.bool b)
  | .int i => some (.int i)
  | .str x => some (.str ⟨x.toArray⟩)
  | .tup ds => (D.pys ds).map .tuple
  | .ref _ => none
  | .rol _ => none
def D.pys : List D → Option (List PyData)
  | [] => some []
  | d :: ds => (D.py d).bind fun p => (D.pys ds).map fun ps => p :: ps
end
def pyM (M : Hm) : Nat → D → Option PyData
  | 0, d => d.py
  | n + 1, .ref i => match M[i]? with
    | some (.lst ds) => (ds.mapM (pyM M n)).map .list
    | some (.dct kvs) => (kvs.mapM fun kv => (pyM M n kv.1).bind fun p => (pyM M n kv.2).map fun q => (p, q)).map .dict
    | none => none
  | n + 1, .tup ds => (ds.mapM (pyM M n)).map .tuple
  | _ + 1, d => d.py

mutual
/-- Python's == of pure data -/
def D.peq : D → D → Bool
  | .bl a, .int j => (if a then 1 else 0) == j
  | .int i, .bl b => i == (if b then 1 else 0)
  | .non, .non => true
  | .bl a, .bl b => a == b
  | .int a, .int b => a == b
  | .str a, .str b => a == b
  | .tup a, .tup b => D.peqs a b
  | _, _ => false
def D.peqs : List D → List D → Bool
  | [], [] => true
  | a :: r, b :: s => D.peq a b && D.peqs r s
  | _, _ => false
end
def D.atom : D → Bool
  | .non => true
  | .bl _ => true
  | .int _ => true
  | .str _ => true
  | _ => false

def dataEq (M : Hm) (x y : D) : Option Bool :=
  (pyM M 65 x).bind fun p => (pyM M 65 y).bind fun q => if SeqAt.shaped p && SeqAt.shaped q then some (PyData.eqv p q) else none
/-- ==, one side empty -/
def empM (M : Hm) : D → D → Option Bool
  | .tup a, .tup b => if a.isEmpty || b.isEmpty then some (a.isEmpty && b.isEmpty) else none
  | .ref i, .ref j => match M[i]?, M[j]? with
    | some (.lst a), some (.lst b) => if a.isEmpty || b.isEmpty then some (a.isEmpty && b.isEmpty) else none
    | _, _ => none
  | _, _ => none
/-- ==, where it is served -/
def eqM (M : Hm) (x y : D) : Option Bool :=
  if x.atom && y.atom then some (D.peq x y) else
  match dataEq M x y with
  | some k => some k
  | none => empM M x y
def reprM (M : Hm) (x : D) : Option (List Nat) :=
  (pyM M 65 x).bind fun p => if p.showable && decide (p.depth ≤ 64) && decide (p.shown.length ≤ lim) then some p.shown.cps.toList else none
/-- truth -/
def truM (M : Hm) : D → Option Bool
  | .non => some false
  | .bl b => some b
  | .int i => some (i != 0)
  | .str x => if x.length ≤ lim then some (!x.isEmpty) else none
  | .tup ds => some (!ds.isEmpty)
  | .rol is => some (!is.isEmpty)
  | .ref i => match M[i]? with
    | some (.lst ds) => some (!ds.isEmpty)
    | some (.dct kvs) => some (!kvs.isEmpty)
    | none => none
/-- the items of a list or a tuple -/
def seqM (M : Hm) : D → Option (List D)
  | .tup ds => some ds
  | .rol is => some (is.map .int)
  | .ref i => match M[i]? with
    | some (.lst ds) => some ds
    | _ => none
  | _ => none
def lstM (M : Hm) : D → Option (List D)
  | .ref i => match M[i]? with
    | some (.lst ds) => some ds
    | _ => none
  | _ => none
def dctM (M : Hm) : D → Option (List (D × D))
  | .ref i => match M[i]? with
    | some (.dct kvs) => some kvs
    | _ => none
  | _ => none
def newO {α : Type} (M : Hm) (o : MO) (f : D → Hm → R α) : R α := f (.ref M.length) (M ++ [o])
def newL (ds : List D) (M : Hm) : R D := if ds.length ≤ lim then ok (.ref M.length) (M ++ [.lst ds]) else none
def newT (ds : List D) (M : Hm) : R D := if ds.length ≤ lim then ok (.tup ds) M else none

/-! ### operators -/
inductive Bop where
  | add | sub | mul | fdiv | mod | pow | band | shl | shr
  deriving DecidableEq,
      Inhabited
inductive Cop where
  | eq | ne | lt | le | gt | ge | isin | notin
  deriving DecidableEq,
      Inhabited
def rep {α : Type} (k : Int) (xs : List α) : List α := (List.replicate k.toNat xs).flatten
def binM : Bop → D → D → Hm → R D
  | .add, .int i, .int j, M => ok (.int (i + j)) M
  | .add, .str x, .str y, M => ifo (decide (x.length + y.length ≤ lim)) (ok (.str (x ++ y)) M)
  | .add, .tup x, .tup y, M => ifo (decide (x.length + y.length ≤ lim)) (ok (.tup (x ++ y)) M)
  | .add, .ref i, .ref j, M => match M[i]?, M[j]? with
    | some (.lst x), some (.lst y) => ifo (decide (x.length + y.length ≤ lim)) (ok (.ref M.length) (M ++ [.lst (x ++ y)]))
    | _, _ => none
  | .sub, .int i, .int j, M => ok (.int (i - j)) M
  | .mul, .int i, .int j, M => ifo (decide (i.natAbs.log2 + j.natAbs.log2 < 1000000)) (ok (.int (i * j)) M)
  | .mul, .str x, .int k, M => ifo (decide (-(2 ^ 62) ≤ k) && decide (k < 2 ^ 62) && decide (x.length * k.toNat ≤ lim)) (ok (.str (rep k x)) M)
  | .mul, .tup x, .int k, M => ifo (decide (-(2 ^ 62) ≤ k) && decide (k < 2 ^ 62) && decide (x.length * k.toNat ≤ lim)) (ok (.tup (rep k x)) M)
  | .mul, .ref i, .int k, M => match M[i]? with
    | some (.lst x) => ifo (decide (-(2 ^ 62) ≤ k) && decide (k < 2 ^ 62) && decide (x.length * k.toNat ≤ lim)) (ok (.ref M.length) (M ++ [.lst (rep k x)]))
    | _ => none
  | .fdiv, .int i, .int j, M => ifo (decide (0 < j) && decide (j.natAbs.log2 < 9000)) (ok (.int (i / j)) M)
  | .mod, .int i, .int j, M => ifo (decide (0 < j)) (ok (.int (i % j)) M)
  | .pow, .int i, .int j, M => ifo (decide (0 ≤ j) && decide (j ≤ 1000000) && decide (i.natAbs < 2 ^ 64)) (ok (.int (i ^ j.toNat)) M)
  | .shl, .int i, .int j, M => ifo (decide (0 ≤ j) && decide (j ≤ 1000000) && decide (i.natAbs < 2 ^ 64)) (ok (.int (i * 2 ^ j.toNat)) M)
  | .shr, .int i, .int j, M => ifo (decide (0 ≤ j)) (ok (.int (i / 2 ^ j.toNat)) M)
  | _, _, _, _ => none

def D.isStr : D → Option (List Nat)
  | .str x => some x
  | _ => none
/-- order of two lists of texts -/
def ltStrs : List (List Nat) → List (List Nat) → Bool
  | [], [] => false
  | [], _ :: _ => true
  | _ :: _, [] => false
  | x :: r, y :: s => if x = y then ltStrs r s else decide (x < y)
def D.key : D → Bool
  | .int _ => true
  | .str _ => true
  | _ => false
def dget (kvs : List (D × D)) (k : D) : Option D := kvs.lookup k
def dhas (kvs : List (D × D)) (k : D) : Bool := (kvs.lookup k).isSome
def dput (kvs : List (D × D)) (k v : D) : List (D × D) :=
  if dhas kvs k then kvs.map (fun p => if p.1 = k then (p.1, v) else p) else kvs ++ [(k, v)]
def ddel (kvs : List (D × D)) (k : D) : List (D × D) := kvs.filter fun p => decide (p.1 ≠ k)
/-- does the sign list y stand within x -/
def within (x y : List Nat) : Bool := (List.range (y.length + 1)).any fun i => (y.drop i).take x.length == x
def isinM : D → D → Hm → Option Bool
  | .str a, .str b, _ => match a with
    | [c] => some (b.contains c)
    | _ => none
  | x, .tup ds, _ => if x.atom && ds.all D.atom then some (ds.any fun y => D.peq y x) else none
  | x, .ref i, M => match M[i]? with
    | some (.lst ds) => if x.atom && ds.all D.atom then some (ds.any fun y => D.peq y x) else none
    | some (.dct kvs) => if x.key then some (dhas kvs x) else none
    | _ => none
  | _, _, _ => none
/-- < of two lists -/
def ltData (M : Hm) (x y : D) : Option Bool :=
  (pyM M 65 x).bind fun p => (pyM M 65 y).bind fun q => match p with
    | .list _ => if SeqAt.shaped p && SeqAt.shaped q && PySem.W.alike p q then some (PySem.W.dataLt p q) else none
    | _ => none
def cmpM : Cop → D → D → Hm → Option Bool
  | .eq, x, y, M => eqM M x y
  | .ne, x, y, M => (eqM M x y).map (!·)
  | .lt, .int i, .int j, _ => some (decide (i < j))
  | .le, .int i, .int j, _ => some (decide (i ≤ j))
  | .gt, .int i, .int j, _ => some (decide (j < i))
  | .ge, .int i, .int j, _ => some (decide (j ≤ i))
  | .lt, .str x, .str y, _ => some (decide (x < y))
  | .lt, .ref i, .ref j, M => ltData M (.ref i) (.ref j)
  | .isin, x, y, M => isinM x y M
  | .notin, x, y, M => (isinM x y M).map (!·)
  | _, _, _, _ => none

/-! ### subscripts -/
def idxM : D → D → Hm → Option D
  | .tup ds, .int i, _ => L2.atI ds i
  | .str x, .int i, _ => if x.length ≤ lim then (L2.atI x i).map fun c => .str [c] else none
  | .ref a, k, M => match M[a]? with
    | some (.lst ds) => match k with
      | .int i => L2.atI ds i
      | _ => none
    | some (.dct kvs) => if k.key then dget kvs k else none
    | none => none
  | .rol is, .int i, _ => L2.atI (is.map .int) i
  | _, _, _ => none
/-- where a slice begins or ends in n items (HT.sIx) -/
def cut {α : Type} (xs : List α) (lo hi : Option Int) : List α :=
  (xs.drop (HT.sIx xs.length 0 lo)).take (HT.sIx xs.length xs.length hi - HT.sIx xs.length 0 lo)
def slcM : D → Option Int → Option Int → Hm → R D
  | .tup ds, lo, hi, M => ok (.tup (cut ds lo hi)) M
  | .str x, lo, hi, M => if x.length ≤ lim then ok (.str (cut x lo hi)) M else none
  | .ref a, lo, hi, M => match M[a]? with
    | some (.lst ds) => ok (.ref M.length) (M ++ [.lst (cut ds lo hi)])
    | _ => none
  | .rol is, lo, hi, M => ok (.ref M.length) (M ++ [.lst (cut (is.map .int) lo hi)])
  | _, _, _, _ => none

end Mi

/-! Mi2: the terms of the small language, and what they do. -/
namespace Mi
open PySem

inductive Ty where
  | int | bool | str | tuple | list | dict
  deriving DecidableEq,
      Inhabited
/-- built-in functions of one value -/
inductive Blt where
  | len | repr | tuple | list | sum | all | any | int | max | min | sorted
  deriving DecidableEq,
      Inhabited
inductive Tg where
  | nm (i : Nat) | tp (is : List Nat)
  deriving Inhabited

mutual
inductive E where
  | lit (d : D)
  | var (i : Nat)
  | bin (o : Bop) (a b : E)
  | cmp (o : Cop) (a b : E)
  | chn (o p : Cop) (a b c : E)
  | isN (a : E) (no : Bool)
  | isB (a : E) (b no : Bool)
  | neg (a : E)
  | notE (a : E)
  | andE (a b : E)
  | orE (a b : E)
  | ife (c a b : E)
  | tup (es : Es)
  | lst (es : Es)
  | dct (kvs : Es)
  | idx (a i : E)
  | slc (a : E) (lo hi : Eo)
  | rev (a : E)
  | call (f : Nat) (es : Es)
  | blt (b : Blt) (a : E)
  | bl2 (b : Blt) (a c : E)
  | isi (a : E) (ts : List Ty)
  | kin (c : List (List Nat × D)) (a : E) (no : Bool)
  | kix (c : List (List Nat × D)) (a : E)
  | join (a b : E)
  | app (a b : E)
  | ext (a b : E)
  | get (a k d : E)
  | comp (elt : E) (tg : Tg) (s : Sr) (cs : Es)
inductive Es where
  | nil | cons (e : E) (es : Es)
inductive Eo where
  | no | so (e : E)
inductive Sr where
  | seq (e : E) | rng (a b : E) | enum (e : E) | zip (a b : E) | items (e : E) | vals (e : E)
end

inductive S where
  | set (i : Nat) (e : E)
  | setT (is : List Nat) (e : E)
  | setP (i j : Nat) (a b : E)
  | setS (i j : Nat) (e : E)
  | setI (o k e : E)
  | aug (i : Nat) (o : Bop) (e : E)
  | exp (e : E)
  | ifS (c : E) (a b : S)
  | whl (c : E) (b : S)
  | forS (tg : Tg) (s : Sr) (b : S)
  | ret (e : E)
  | retN
  | pas
  | brk
  | cnt
  | seq (a b : S)

/-! ### leaving out what nothing leads to -/
mutual
/-- all references lie below n -/
def D.low (n : Nat) : D → Bool
  | .ref i => decide (i < n)
  | .tup ds => D.lows n ds
  | _ => true
def D.lows (n : Nat) : List D → Bool
  | [] => true
  | d :: ds => D.low n d && D.lows n ds
end
def MO.low (n : Nat) : MO → Bool
  | .lst ds => D.lows n ds
  | .dct kvs => kvs.all fun p => D.low n p.1 && D.low n p.2
mutual
/-- the references from n on -/
def D.refs (n : Nat) : D → List Nat
  | .ref i => if i < n then [] else [i]
  | .tup ds => D.refss n ds
  | _ => []
def D.refss (n : Nat) : List D → List Nat
  | [] => []
  | d :: ds => D.refs n d ++ D.refss n ds
end
mutual
def D.ren (f : Nat → Nat) : D → D
  | .ref i => .ref (f i)
  | .tup ds => .tup (D.rens f ds)
  | d => d
def D.rens (f : Nat → Nat) : List D → List D
  | [] => []
  | d :: ds => D.ren f d :: D.rens f ds
end
def slRefs (n : Nat) : Sl → List Nat
  | [] => []
  | none :: r => slRefs n r
  | some d :: r => D.refs n d ++ slRefs n r
def slRen (f : Nat → Nat) : Sl → Sl
  | [] => []
  | none :: r => none :: slRen f r
  | some d :: r => some (d.ren f) :: slRen f r
/-- each once -/
def dd : List Nat → List Nat
  | [] => []
  | a :: r => a :: (dd r).filter fun b => b != a
/-- what stood in the heap M0 stands, or holds nothing newer -/
def kept (M0 M : Hm) : Bool := M0.length ≤ M.length && (List.range M0.length).all fun i => match M0[i]?, M[i]? with
  | some o, some o' => decide (o = o') || o'.low M0.length
  | _, _ => false
def place (n : Nat) (rs : List Nat) (i : Nat) : Nat := if i < n then i else n + rs.idxOf i
def pick (M : Hm) (rs : List Nat) : List MO := rs.filterMap fun i => M[i]?
/-- may the heap be cut down to M0's places and rs -/
def cuts (M0 M : Hm) (rs : List Nat) : Bool := kept M0 M && rs.all fun i => match M[i]? with
  | some o => o.low M0.length
  | none => false
/-- behind a call: its value and the heap, cut down -/
def leave (M0 : Hm) (d : D) (M : Hm) : R D :=
  if M.length = M0.length then ok d M else
  let rs := dd (d.refs M0.length)
  if cuts M0 M rs then ok (d.ren (place M0.length rs)) (M.take M0.length ++ pick M rs) else ok d M
/-- behind a turn of a loop -/
def leaveS (M0 : Hm) (σ : Sl) (M : Hm) : Sl × Hm :=
  if M.length = M0.length then (σ, M) else
  let rs := dd (slRefs M0.length σ)
  if cuts M0 M rs then (slRen (place M0.length rs) σ, M.take M0.length ++ pick M rs) else (σ, M)

/-! ### values of built-in functions -/
def allInts : List D → Option (List Int)
  | [] => some []
  | .int i :: r => (allInts r).map (i :: ·)
  | _ => none
def allBls : List D → Option (List Bool)
  | [] => some []
  | .bl i :: r => (allBls r).map (i :: ·)
  | _ => none
def allStrs : List D → Option (List (List Nat))
  | [] => some []
  | .str i :: r => (allStrs r).map (i :: ·)
  | _ => none
def joinS (sep : List Nat) : List (List Nat) → List Nat
  | [] => []
  | [x] => x
  | x :: r => x ++ sep ++ joinS sep r
def maxI : List Int → Int
  | [] => 0
  | [x] => x
  | x :: r => if maxI r > x then maxI r else x
def minI : List Int → Int
  | [] => 0
  | [x] => x
  | x :: r => if minI r < x then minI r else x
/-- may these be sorted -/
def sortOk (ps : List PyData) : Bool := ps.all (fun p => SeqAt.shaped p && decide (p.depth ≤ 60)) && (ps.all fun p => ps.all fun q => PySem.W.alike p q) && (ps.all (fun p => match p with | .tuple (_ :: _) => true | _ => false) || ps.all fun p => match p with | .none => false | .tuple _ => false | _ => true)
def sortD (ds : List D) (ps : List PyData) : List D := ((ds.zip ps).mergeSort (PySem.W.dataLe false fun b => b.2)).map (·.1)
/-- of a list's items -/
def bltL (b : Blt) (ds : List D) (M : Hm) : R D :=
  match b with
  | .len => ok (.int ds.length) M
  | .tuple => ok (.tup ds) M
  | .list => ok (.ref M.length) (M ++ [.lst ds])
  | .sum => match allInts ds with
    | some is => ok (.int is.sum) M
    | none => none
  | .all => match allBls ds with
    | some bs => ok (.bl (bs.all id)) M
    | none => none
  | .any => match allBls ds with
    | some bs => ok (.bl (bs.any id)) M
    | none => none
  | .max => match allInts ds with
    | some (i :: is) => ok (.int (maxI (i :: is))) M
    | _ => none
  | .min => match allInts ds with
    | some (i :: is) => ok (.int (minI (i :: is))) M
    | _ => none
  | .sorted => match ds.mapM (pyM M 62) with
    | some ps => if sortOk ps = true ∧ ds.length ≤ lim then ok (.ref M.length) (M ++ [.lst (sortD ds ps)]) else none
    | none => none
  | _ => none
def bltM (b : Blt) (x : D) (M : Hm) : R D :=
  match b, x with
  | .repr, x => match reprM M x with
    | some t => ok (.str t) M
    | none => none
  | .int, .int i => ok (.int i) M
  | .int, .bl k => ok (.int (if k then 1 else 0)) M
  | .len, .str t => if t.length ≤ lim then ok (.int t.length) M else none
  | .len, .tup ds => ok (.int ds.length) M
  | .tuple, .tup ds => ok (.tup ds) M
  | .list, .tup ds => ok (.ref M.length) (M ++ [.lst ds])
  | b, .ref i => match M[i]? with
    | some (.lst ds) => bltL b ds M
    | some (.dct kvs) => match b with
      | .len => ok (.int kvs.length) M
      | .list => ok (.ref M.length) (M ++ [.lst (kvs.map (·.1))])
      | _ => none
    | none => none
  | b, .rol is => bltL b (is.map .int) M
  | _, _ => none
def bl2M (b : Blt) (x y : D) (M : Hm) : R D :=
  match b, x, y with
  | .max, .int i, .int j => ok (.int (if j > i then j else i)) M
  | .min, .int i, .int j => ok (.int (if j < i then j else i)) M
  | _, _, _ => none
def isiM (x : D) (t : Ty) (M : Hm) : Option Bool :=
  match x with
  | .non => some false
  | .bl _ => some (decide (t = .bool) || decide (t = .int))
  | .int _ => some (decide (t = .int))
  | .str _ => some (decide (t = .str))
  | .tup _ => some (decide (t = .tuple))
  | .rol _ => none
  | .ref i => match M[i]? with
    | some (.lst _) => some (decide (t = .list))
    | some (.dct _) => some (decide (t = .dict))
    | _ => none
def joinL (sep : List Nat) (ds : List D) (M : Hm) : R D :=
  match allStrs ds with
  | some ts => ifo (decide ((ts.map List.length).sum + ts.length * sep.length ≤ lim)) (ok (.str (joinS sep ts)) M)
  | none => none
def joinM (sep : List Nat) (y : D) (M : Hm) : R D :=
  match seqM M y with
  | some ds => joinL sep ds M
  | none => none
def strK (x : D) (k : List Nat → R D) : R D := match x with
  | .str s => k s
  | _ => none
/-- from the end -/
def revM (x : D) (M : Hm) : R D := match x with
  | .tup ds => ok (.tup ds.reverse) M
  | .ref i => match M[i]? with
    | some (.lst ds) => ok (.ref M.length) (M ++ [.lst ds.reverse])
    | _ => none
  | .rol is => ok (.ref M.length) (M ++ [.lst (is.map .int).reverse])
  | _ => none
def isLst (M : Hm) : D → Bool
  | .ref i => match M[i]? with
    | some (.lst _) => true
    | _ => false
  | _ => false
def isDct (M : Hm) : D → Bool
  | .ref i => match M[i]? with
    | some (.dct _) => true
    | _ => false
  | _ => false
def appM (x y : D) (M : Hm) : R D :=
  match x with
  | .ref i => match M[i]? with
    | some (.lst ds) => ifo (decide (ds.length < lim)) (ok .non (M.set i (.lst (ds ++ [y]))))
    | _ => none
  | _ => none
def extM (x y : D) (M : Hm) : R D :=
  match x with
  | .ref i => match M[i]? with
    | some (.lst ds) => match lstM M y with
      | some es => ifo (decide (ds.length + es.length ≤ lim)) (ok .non (M.set i (.lst (ds ++ es))))
      | none => none
    | _ => none
  | _ => none
/-- a display's pairs -/
def pairsD : List D → Option (List (D × D))
  | [] => some []
  | k :: v :: r => if k.key then (pairsD r).map ((k, v) :: ·) else none
  | _ => none
def dmerge (kvs more : List (D × D)) : List (D × D) := more.foldl (fun acc kv => dput acc kv.1 kv.2) kvs
def dctD (ds : List D) (M : Hm) : R D := match pairsD ds with
  | some kvs => if kvs.length ≤ 15 then ok (.ref M.length) (M ++ [.dct (dmerge [] kvs)]) else none
  | none => none
def getM (x y z : D) (M : Hm) : R D :=
  match dctM M x with
  | some kvs => ifo y.key (ok ((dget kvs y).getD z) M)
  | none => none

/-! ### what terms do -/
/-- a written dict's value -/
def kixM (c : List (List Nat × D)) : D → Option D
  | .str x => c.lookup x
  | _ => none
abbrev Caller := Nat → List D → Hm → R D
/-- the items that a walk takes, and the list that must stay as it is -/
structure Wk where
  its : List D
  grd : List (Nat × MO)
  deriving Inhabited
def Wk.ok (w : Wk) (M : Hm) : Bool := w.grd.all fun g => decide (M[g.1]? = some g.2)
def setTg : Tg → D → Sl → Option Sl
  | .nm i, d, σ => some (σ.set i (some d))
  | .tp is, .tup ds, σ => if is.length = ds.length then some ((is.zip ds).foldl (fun s p => s.set p.1 (some p.2)) σ) else none
  | _, _, _ => none
def rngD (lo hi : Int) : List D := (List.range (hi - lo).toNat).map fun (k : Nat) => .int (lo + k)
def enumD : Nat → List D → List D
  | _, [] => []
  | n, d :: r => .tup [.int n, d] :: enumD (n + 1) r
def zipD : List D → List D → List D
  | a :: r, b :: s => .tup [a, b] :: zipD r s
  | _, _ => []
/-- two lists, or two tuples, side by side -/
def zipW (M : Hm) : D → D → Option Wk
  | .tup xs, .tup ys => some ⟨zipD xs ys, []⟩
  | .ref a, .ref b => match M[a]?, M[b]? with
    | some (.lst xs), some (.lst ys) => some ⟨zipD xs ys, [(a, .lst xs), (b, .lst ys)]⟩
    | _, _ => none
  | _, _ => none
def seqW (M : Hm) : D → Option Wk
  | .tup ds => some ⟨ds, []⟩
  | .rol is => some ⟨is.map .int, []⟩
  | .str x => some ⟨x.map fun c => .str [c], []⟩
  | .ref a => match M[a]? with
    | some (.lst ds) => some ⟨ds, [(a, .lst ds)]⟩
    | _ => none
  | _ => none
/-- the elements of a comprehension -/
def compL (tg : Tg) (tst : Sl → Hm → R Bool) (elt : Sl → Hm → R D) (w : Wk) (σ : Sl) : List D → Hm → R (List D)
  | [], M => if w.ok M then ok [] M else none
  | d :: r, M => if w.ok M then
      match setTg tg d σ with
      | none => none
      | some σ1 => match tst σ1 M with
        | some (.ok true M1) => match elt σ1 M1 with
          | some (.ok y M2) => match leave M y M2 with
            | some (.ok y' M3) => match compL tg tst elt w σ r M3 with
              | some (.ok ys M4) => ok (y' :: ys) M4
              | _ => none
            | _ => none
          | _ => none
        | some (.ok false M1) => compL tg tst elt w σ r M1
        | _ => none
    else none

/-- .. of a walk that is not too long -/
def compW (tg : Tg) (tst : Sl → Hm → R Bool) (elt : Sl → Hm → R D) (w : Wk) (σ : Sl) (M : Hm) : R (List D) :=
  if w.its.length ≤ lim then compL tg tst elt w σ w.its M else none

mutual
def ev (F : Caller) : E → Sl → Hm → R D
  | .lit d, _, M => ok d M
  | .var i, σ, M => match σ[i]? with
    | some (some d) => ok d M
    | _ => none
  | .bin o a b, σ, M => bnd (ev F a σ M) fun x M1 => bnd (ev F b σ M1) fun y M2 => binM o x y M2
  | .cmp o a b, σ, M => bnd (ev F a σ M) fun x M1 => bnd (ev F b σ M1) fun y M2 => match cmpM o x y M2 with
    | some k => ok (.bl k) M2
    | none => none
  | .chn o p a b c, σ, M => bnd (ev F a σ M) fun x M1 => bnd (ev F b σ M1) fun y M2 => match cmpM o x y M2 with
    | some true => bnd (ev F c σ M2) fun z M3 => match cmpM p y z M3 with
      | some k => ok (.bl k) M3
      | none => none
    | some false => ok (.bl false) M2
    | none => none
  | .isN a no, σ, M => bnd (ev F a σ M) fun x M1 => ok (.bl (decide (x = .non) != no)) M1
  | .isB a b no, σ, M => bnd (ev F a σ M) fun x M1 => match x with
    | .bl k => ok (.bl (decide (k = b) != no)) M1
    | _ => none
  | .neg a, σ, M => bnd (ev F a σ M) fun x M1 => match x with
    | .int i => ok (.int (-i)) M1
    | _ => none
  | .notE a, σ, M => bnd (evT F a σ M) fun k M1 => ok (.bl (!k)) M1
  | .andE a b, σ, M => bnd (ev F a σ M) fun x M1 => match truM M1 x with
    | some true => ev F b σ M1
    | some false => ok x M1
    | none => none
  | .orE a b, σ, M => bnd (ev F a σ M) fun x M1 => match truM M1 x with
    | some true => ok x M1
    | some false => ev F b σ M1
    | none => none
  | .ife c a b, σ, M => bnd (evT F c σ M) fun k M1 => if k then ev F a σ M1 else ev F b σ M1
  | .tup es, σ, M => bnd (evs F es σ M) fun ds M1 => newT ds M1
  | .lst es, σ, M => bnd (evs F es σ M) fun ds M1 => newL ds M1
  | .dct kvs, σ, M => bnd (evs F kvs σ M) fun ds M1 => dctD ds M1
  | .idx a i, σ, M => bnd (ev F a σ M) fun x M1 => bnd (ev F i σ M1) fun y M2 => match idxM x y M2 with
    | some d => ok d M2
    | none => none
  | .slc a lo hi, σ, M => bnd (ev F a σ M) fun x M1 => bnd (evo F lo σ M1) fun l M2 => bnd (evo F hi σ M2) fun h M3 => slcM x l h M3
  | .rev a, σ, M => bnd (ev F a σ M) fun x M1 => revM x M1
  | .call f es, σ, M => bnd (evs F es σ M) fun ds M1 => F f ds M1
  | .blt b a, σ, M => match a with
    | .comp elt tg s cs => bnd (evW F s σ M) fun w M1 => bnd (compW tg (fun σ1 M2 => evA F cs σ1 M2) (fun σ1 M2 => ev F elt σ1 M2) w σ M1) fun ds M2 => bltL b ds M2
    | a => bnd (ev F a σ M) fun x M1 => bltM b x M1
  | .bl2 b a c, σ, M => bnd (ev F a σ M) fun x M1 => bnd (ev F c σ M1) fun y M2 => bl2M b x y M2
  | .isi a ts, σ, M => bnd (ev F a σ M) fun x M1 => match ts.mapM fun t => isiM x t M1 with
    | some bs => ok (.bl (bs.any id)) M1
    | none => none
  | .kin c a no, σ, M => bnd (ev F a σ M) fun x M1 => match kixM c x with
    | some _ => ok (.bl (!no)) M1
    | none => none
  | .kix c a, σ, M => bnd (ev F a σ M) fun x M1 => match kixM c x with
    | some d => ok d M1
    | none => none
  | .join a b, σ, M => bnd (ev F a σ M) fun x M1 => strK x fun sep => match b with
      | .comp elt tg s cs => bnd (evW F s σ M1) fun w M2 => bnd (compW tg (fun σ1 M2 => evA F cs σ1 M2) (fun σ1 M2 => ev F elt σ1 M2) w σ M2) fun ds M3 => joinL sep ds M3
      | b => bnd (ev F b σ M1) fun y M2 => joinM sep y M2
  | .app a b, σ, M => bnd (ev F a σ M) fun x M1 => if isLst M1 x then bnd (ev F b σ M1) fun y M2 => appM x y M2 else none
  | .ext a b, σ, M => bnd (ev F a σ M) fun x M1 => if isLst M1 x then bnd (ev F b σ M1) fun y M2 => extM x y M2 else none
  | .get a k d, σ, M => bnd (ev F a σ M) fun x M1 => if isDct M1 x then bnd (ev F k σ M1) fun y M2 => bnd (ev F d σ M2) fun z M3 => getM x y z M3 else none
  | .comp elt tg s cs, σ, M => bnd (evW F s σ M) fun w M1 => bnd (compW tg (fun σ1 M2 => evA F cs σ1 M2) (fun σ1 M2 => ev F elt σ1 M2) w σ M1) fun ds M2 => ok (.ref M2.length) (M2 ++ [.lst ds])
/-- as a test -/
def evT (F : Caller) : E → Sl → Hm → R Bool
  | .andE a b, σ, M => bnd (evT F a σ M) fun k M1 => if k then evT F b σ M1 else ok false M1
  | .orE a b, σ, M => bnd (evT F a σ M) fun k M1 => if k then ok true M1 else evT F b σ M1
  | .notE a, σ, M => bnd (evT F a σ M) fun k M1 => ok (!k) M1
  | e, σ, M => bnd (ev F e σ M) fun x M1 => match x with
    | .bl k => ok k M1
    | _ => none
def evs (F : Caller) : Es → Sl → Hm → R (List D)
  | .nil, _, M => ok [] M
  | .cons e es, σ, M => bnd (ev F e σ M) fun d M1 => bnd (evs F es σ M1) fun ds M2 => ok (d :: ds) M2
/-- all tests -/
def evA (F : Caller) : Es → Sl → Hm → R Bool
  | .nil, _, M => ok true M
  | .cons e es, σ, M => bnd (evT F e σ M) fun k M1 => if k then evA F es σ M1 else ok false M1
def evo (F : Caller) : Eo → Sl → Hm → R (Option Int)
  | .no, _, M => ok none M
  | .so e, σ, M => bnd (ev F e σ M) fun d M1 => match d with
    | .int i => if -(2 ^ 62) ≤ i ∧ i < 2 ^ 62 then ok (some i) M1 else none
    | _ => none
def evW (F : Caller) : Sr → Sl → Hm → R Wk
  | .seq e, σ, M => bnd (ev F e σ M) fun d M1 => match seqW M1 d with
    | some w => ok w M1
    | none => none
  | .rng a b, σ, M => bnd (ev F a σ M) fun x M1 => bnd (ev F b σ M1) fun y M2 => match x, y with
    | .int i, .int j => if -(2 ^ 62) ≤ i ∧ i < 2 ^ 62 ∧ -(2 ^ 62) ≤ j ∧ j < 2 ^ 62 then ok ⟨rngD i j, []⟩ M2 else none
    | _, _ => none
  | .enum e, σ, M => bnd (ev F e σ M) fun d M1 => match d with
    | .rol is => ok ⟨enumD 0 (is.map .int), []⟩ M1
    | .ref a => match M1[a]? with
      | some (.lst ds) => ok ⟨enumD 0 ds, [(a, .lst ds)]⟩ M1
      | _ => none
    | _ => none
  | .zip a b, σ, M => bnd (ev F a σ M) fun x M1 => bnd (ev F b σ M1) fun y M2 => match zipW M2 x y with
    | some w => ok w M2
    | none => none
  | _, _, _ => none
end

/-- o[k] = v -/
def putM (x y v : D) (M : Hm) : Option Hm :=
  match x with
  | .ref a => match M[a]? with
    | some (.lst ds) => match y with
      | .int i => match L2.ixN ds.length i with
        | some j => some (M.set a (.lst (ds.set j v)))
        | none => none
      | _ => none
    | some (.dct kvs) => if y.key && decide (kvs.length < lim) then some (M.set a (.dct (dput kvs y v))) else none
    | _ => none
  | _ => none
inductive OS where
  | nx (σ : Sl) (M : Hm) | rt (d : D) (M : Hm) | bk (σ : Sl) (M : Hm) | ct (σ : Sl) (M : Hm) | exc (x : Ex) (σ : Sl) (M : Hm)
  deriving Inhabited
abbrev RS := Option OS
def bndS {α : Type} (x : R α) (σ : Sl) (f : α → Hm → RS) : RS :=
  match x with
  | some (.ok a M) => f a M
  | some (.exc e M) => some (.exc e σ M)
  | none => none
def thenS (x : RS) (f : Sl → Hm → RS) : RS :=
  match x with
  | some (.nx σ M) => f σ M
  | r => r
/-- a loop over items -/
def forL (tg : Tg) (w : Wk) (body : Sl → Hm → RS) (M0 : Hm) : List D → Sl → Hm → RS
  | [], σ, M => if w.ok M then some (.nx σ M) else none
  | d :: r, σ, M => if w.ok M then
      match setTg tg d σ with
      | none => none
      | some σ1 => match body σ1 M with
        | some (.nx σ2 M2) => forL tg w body M0 r (leaveS M0 σ2 M2).1 (leaveS M0 σ2 M2).2
        | some (.ct σ2 M2) => forL tg w body M0 r (leaveS M0 σ2 M2).1 (leaveS M0 σ2 M2).2
        | some (.bk σ2 M2) => some (.nx σ2 M2)
        | x => x
    else none
def whileL (tst : Sl → Hm → R Bool) (body : Sl → Hm → RS) (M0 : Hm) (σ : Sl) (M : Hm) : RS :=
  match tst σ M with
  | some (.ok true M1) => match body σ M1 with
    | some (.nx σ2 M2) => whileL tst body M0 (leaveS M0 σ2 M2).1 (leaveS M0 σ2 M2).2
    | some (.ct σ2 M2) => whileL tst body M0 (leaveS M0 σ2 M2).1 (leaveS M0 σ2 M2).2
    | some (.bk σ2 M2) => some (.nx σ2 M2)
    | x => x
  | some (.ok false M1) => some (.nx σ M1)
  | some (.exc e M1) => some (.exc e σ M1)
  | none => none
partial_fixpoint

def ex (F : Caller) : S → Sl → Hm → RS
  | .set i e, σ, M => bndS (ev F e σ M) σ fun d M1 => some (.nx (σ.set i (some d)) M1)
  | .setT is e, σ, M => bndS (ev F e σ M) σ fun d M1 => match setTg (.tp is) d σ with
    | some σ1 => some (.nx σ1 M1)
    | none => none
  | .setP i j a b, σ, M => bndS (ev F a σ M) σ fun x M1 => bndS (ev F b σ M1) σ fun y M2 => some (.nx ((σ.set i (some x)).set j (some y)) M2)
  | .setS i j e, σ, M => bndS (ev F e σ M) σ fun d M1 => match d with
    | .tup (x :: xs) => some (.nx ((σ.set i (some x)).set j (some (.ref M1.length))) (M1 ++ [.lst xs]))
    | _ => none
  | .setI o k e, σ, M => bndS (ev F e σ M) σ fun v M1 => bndS (ev F o σ M1) σ fun x M2 => bndS (ev F k σ M2) σ fun y M3 => match putM x y v M3 with
    | some M4 => some (.nx σ M4)
    | none => none
  | .aug i o e, σ, M => match σ[i]? with
    | some (some x) => bndS (ev F e σ M) σ fun y M1 => match x, y with
      | .int a, .int b => match o with
        | .add => some (.nx (σ.set i (some (.int (a + b)))) M1)
        | .sub => some (.nx (σ.set i (some (.int (a - b)))) M1)
        | _ => none
      | _, _ => none
    | _ => none
  | .exp e, σ, M => bndS (ev F e σ M) σ fun _ M1 => some (.nx σ M1)
  | .ifS c a b, σ, M => bndS (evT F c σ M) σ fun k M1 => if k then ex F a σ M1 else ex F b σ M1
  | .whl c b, σ, M => whileL (fun σ1 M1 => evT F c σ1 M1) (fun σ1 M1 => ex F b σ1 M1) M σ M
  | .forS tg s b, σ, M => bndS (evW F s σ M) σ fun w M1 => forL tg w (fun σ1 M2 => ex F b σ1 M2) M1 w.its σ M1
  | .ret e, σ, M => bndS (ev F e σ M) σ fun d M1 => some (.rt d M1)
  | .retN, _, M => some (.rt .non M)
  | .pas, σ, M => some (.nx σ M)
  | .brk, σ, M => some (.bk σ M)
  | .cnt, σ, M => some (.ct σ M)
  | .seq a b, σ, M => thenS (ex F a σ M) fun σ1 M1 => ex F b σ1 M1

/-- a def: how many names and parameters it has, its body -/
structure Df where
  nm : Nat
  np : Nat
  bd : S
def runDf (F : Caller) (f : Df) (ds : List D) (M : Hm) : R D :=
  if ds.length = f.np then
    match ex F f.bd (ds.map some ++ List.replicate (f.nm - ds.length) none) M with
    | some (.rt d M1) => leave M d M1
    | some (.nx _ M1) => leave M .non M1
    | some (.exc e _ M1) => some (.exc e M1)
    | _ => none
  else none
/-- a call, so many calls within one another at most -/
def callAt (P : List Df) : Nat → Caller
  | 0, _, _, _ => none
  | k + 1, f, ds, M => match P[f]? with
    | some df => runDf (callAt P k) df ds M
    | none => none
end Mi

/-! Mi3: how the small language's values and heap stand to those of the layer. -/
namespace Mi
open PySem PySem.Spec
    PyProof.Rows L2
abbrev St := L2.St

/-- a list of ints that is read only: locked, or of the written part -/
def SqR (K : PySem.W.Frag) (H : Hp) (a : Addr) (vs : List V) : Prop := (∃ o, H a = some (.frz o (.lst vs))) ∨ ∀ H' : Hp, SqL K H' a vs
mutual
inductive DV (K : PySem.W.Frag) (H : Hp) (ι : List Addr) : D → V → Prop
  | non : DV K H ι .non .non
  | bl (b : Bool) : DV K H ι (.bl b) (.bl b)
  | int (i : Int) : DV K H ι (.int i) (.int i)
  | str (x : List Nat) : DV K H ι (.str x) (.str ⟨x.toArray⟩)
  | tup {a : Addr} {vs : List V} {ds : List D} : SqT K H a vs → DVs K H ι ds vs → DV K H ι (.tup ds) (.ref a)
  | ref {i : Nat} {a : Addr} : ι[i]? = some a → DV K H ι (.ref i) (.ref a)
  | rol {a : Addr} {is : List Int} : SqR K H a (is.map V.int) → DV K H ι (.rol is) (.ref a)
inductive DVs (K : PySem.W.Frag) (H : Hp) (ι : List Addr) : List D → List V → Prop
  | nil : DVs K H ι [] []
  | cons {d : D} {ds : List D} {v : V} {vs : List V} : DV K H ι d v → DVs K H ι ds vs → DVs K H ι (d :: ds) (v :: vs)
end
/-- the key of a dict that a value is -/
def kd : D → Option Key
  | .int i => some (.inl i)
  | .str x => some (.inr ⟨x.toArray⟩)
  | _ => none
inductive KVs (K : PySem.W.Frag) (H : Hp) (ι : List Addr) : List (D × D) → List (Key × V) → Prop
  | nil : KVs K H ι [] []
  | cons {k d : D} {κ : Key} {v : V} {r : List (D × D)} {s : List (Key × V)} : kd k = some κ → DV K H ι d v → KVs K H ι r s → KVs K H ι ((k, d) :: r) ((κ, v) :: s)
def MO.isRol : MO → Bool := fun _ => false
def OM (K : PySem.W.Frag) (H : Hp) (ι : List Addr) : MO → Addr → Prop
  | .lst ds, a => ∃ vs, H a = some (.lst vs) ∧ DVs K H ι ds vs
  | .dct kvs, a => ∃ ws, H a = some (.dK ws) ∧ KVs K H ι kvs ws
structure HM (K : PySem.W.Frag) (H : Hp) (ι : List Addr) (M : Hm) : Prop where
  len : ι.length = M.length
  nd : ∀ (i j : Nat) (a : Addr) (o o' : MO), ι[i]? = some a → ι[j]? = some a → M[i]? = some o → M[j]? = some o' → o.isRol = false → o'.isRol = false → i = j
  ob : ∀ (i : Nat) (a : Addr) (o : MO), ι[i]? = some a → M[i]? = some o → OM K H ι o a
inductive SM (K : PySem.W.Frag) (H : Hp) (ι : List Addr) : Sl → St → Prop
  | nil : SM K H ι [] []
  | non {x : Option V} {σ : Sl} {τ : St} : SM K H ι σ τ → SM K H ι (none :: σ) (x :: τ)
  | som {d : D} {v : V} {σ : Sl} {τ : St} : DV K H ι d v → SM K H ι σ τ → SM K H ι (some d :: σ) (some v :: τ)
structure Ext (H : Hp) (ι : List Addr) (H' : Hp) (ι' : List Addr) : Prop where
  pre : ∃ t, ι' = ι ++ t
  new : ∀ a, a ∈ ι' → a ∉ ι → H a = none
  frm : ∀ a o, H a = some o → a ∉ ι → H' a = some o
  stay : ∀ a o, H a = some o → ¬ Mut (some o) → H' a = some o

section
variable {K : PySem.W.Frag} {H H' H1 H2 : Hp} {ι ι' ι1 ι2 : List Addr}
theorem Ext.refl : Ext H ι H ι := ⟨⟨[], by simp⟩, fun a h1 h2 => absurd h1 h2, fun _ _ e _ => e, fun _ _ e _ => e⟩
theorem Ext.trans (a : Ext H ι H1 ι1) (b : Ext H1 ι1 H2 ι2) : Ext H ι H2 ι2 := by
  obtain ⟨t1, e1⟩ := a.pre
  obtain ⟨t2, e2⟩ := b.pre
  refine ⟨⟨t1 ++ t2, by rw [e2, e1, List.append_assoc]⟩, fun x h1 h2 => ?_, fun x o e h => ?_, fun x o e h => b.stay x o (a.stay x o e h) h⟩
  · by_cases hx : x ∈ ι1
    · exact a.new x hx h2
    · have hn := b.new x h1 hx
      cases q : H x with
      | none => rfl
      | some o =>
        rw [a.frm x o q h2] at hn
        cases hn
  · have q := a.frm x o e h
    refine b.frm x o q fun hx => ?_
    rw [a.new x hx h] at e
    cases e
theorem Ext.get (a : Ext H ι H1 ι1) {i : Nat} {x : Addr} (e : ι[i]? = some x) : ι1[i]? = some x := by
  obtain ⟨t, e1⟩ := a.pre
  obtain ⟨hi, _⟩ := List.getElem?_eq_some_iff.mp e
  rw [e1, List.getElem?_append_left hi]
  exact e
theorem Ext.mem (a : Ext H ι H1 ι1) {x : Addr} (h : x ∈ ι) : x ∈ ι1 := by
  obtain ⟨t, e1⟩ := a.pre
  rw [e1]
  exact List.mem_append_left _ h
theorem sqt_to {a : Addr} {vs : List V} (k : ∀ a o, H a = some o → ¬ Mut (some o) → H' a = some o) (h : SqT K H a vs) : SqT K H' a vs := by
  rcases h with (h
      | ⟨o, h⟩) | h
  · exact .inl (.inl (k _ _ h id))
  · exact .inl (.inr ⟨o, k _ _ h id⟩)
  · exact .inr h
theorem sqr_to {a : Addr} {vs : List V} (k : ∀ a o, H a = some o → ¬ Mut (some o) → H' a = some o) (h : SqR K H a vs) : SqR K H' a vs := by
  rcases h with ⟨o, h⟩ | h
  · exact .inl ⟨o, k _ _ h id⟩
  · exact .inr h
theorem SqR.sql {a : Addr} {vs : List V} (h : SqR K H a vs) : SqL K H a vs := by
  rcases h with ⟨o, h⟩ | h
  · exact .inl (.inr ⟨o, h⟩)
  · exact h H
mutual
theorem DV.to (k : ∀ a o, H a = some o → ¬ Mut (some o) → H' a = some o) (g : ∀ (i : Nat) x, ι[i]? = some x → ι'[i]? = some x) : ∀ {d : D} {v : V}, DV K H ι d v → DV K H' ι' d v
  | _, _, .non => .non
  | _, _, .bl b => .bl b
  | _, _, .int i => .int i
  | _, _, .str x => .str x
  | _, _, .tup h r => .tup (sqt_to k h) (DVs.to k g r)
  | _, _, .ref e => .ref (g _ _ e)
  | _, _, .rol h => .rol (sqr_to k h)
theorem DVs.to (k : ∀ a o, H a = some o → ¬ Mut (some o) → H' a = some o) (g : ∀ (i : Nat) x, ι[i]? = some x → ι'[i]? = some x) : ∀ {ds : List D} {vs : List V}, DVs K H ι ds vs → DVs K H' ι' ds vs
  | _, _, .nil => .nil
  | _, _, .cons h r => .cons (DV.to k g h) (DVs.to k g r)
end
theorem KVs.to (k : ∀ a o, H a = some o → ¬ Mut (some o) → H' a = some o) (g : ∀ (i : Nat) x, ι[i]? = some x → ι'[i]? = some x) : ∀ {ds : List (D × D)} {vs : List (Key × V)}, KVs K H ι ds vs → KVs K H' ι' ds vs
  | _, _, .nil => .nil
  | _, _, .cons e h r => .cons e (DV.to k g h) (KVs.to k g r)
theorem SM.to (k : ∀ a o, H a = some o → ¬ Mut (some o) → H' a = some o) (g : ∀ (i : Nat) x, ι[i]? = some x → ι'[i]? = some x) : ∀ {σ : Sl} {τ : St}, SM K H ι σ τ → SM K H' ι' σ τ
  | _, _, .nil => .nil
  | _, _, .non r => .non (SM.to k g r)
  | _, _, .som h r => .som (DV.to k g h) (SM.to k g r)
theorem OM.to (k : ∀ a o, H a = some o → ¬ Mut (some o) → H' a = some o) (g : ∀ (i : Nat) x, ι[i]? = some x → ι'[i]? = some x) {o : MO} {a : Addr} (he : o.isRol = false → H' a = H a) (h : OM K H ι o a) : OM K H' ι' o a := by
  cases o with
  | lst ds => obtain ⟨vs, e, r⟩ := h; exact ⟨vs, (he rfl).trans e, r.to k g⟩
  | dct kvs => obtain ⟨vs, e, r⟩ := h; exact ⟨vs, (he rfl).trans e, r.to k g⟩
theorem OM.there {o : MO} {a : Addr} (h : OM K H ι o a) : ∃ u, H a = some u := by
  cases o with
  | lst ds => obtain ⟨vs, e, r⟩ := h; exact ⟨_, e⟩
  | dct kvs => obtain ⟨vs, e, r⟩ := h; exact ⟨_, e⟩
theorem DV.ex (x : Ext H ι H' ι') {d : D} {v : V} (h : DV K H ι d v) : DV K H' ι' d v := h.to x.stay fun _ _ e => x.get e
theorem DVs.ex (x : Ext H ι H' ι') {d : List D} {v : List V} (h : DVs K H ι d v) : DVs K H' ι' d v := h.to x.stay fun _ _ e => x.get e
theorem SM.ex (x : Ext H ι H' ι') {σ : Sl} {τ : St} (h : SM K H ι σ τ) : SM K H' ι' σ τ := h.to x.stay fun _ _ e => x.get e
theorem DVs.len : ∀ {ds : List D} {vs : List V}, DVs K H ι ds vs → ds.length = vs.length
  | _, _, .nil => rfl
  | _, _, .cons _ r => congrArg (· + 1) r.len
theorem SM.len : ∀ {σ : Sl} {τ : St}, SM K H ι σ τ → σ.length = τ.length
  | _, _, .nil => rfl
  | _, _, .non r => congrArg (· + 1) r.len
  | _, _, .som _ r => congrArg (· + 1) r.len
theorem SM.get : ∀ {σ : Sl} {τ : St} {i : Nat} {d : D}, SM K H ι σ τ → σ[i]? = some (some d) → ∃ v, τ[i]? = some (some v) ∧ DV K H ι d v
  | _, _, _, _, .nil,
      e => by simp at e
  | _, _, 0, _, .non r, e => by simp at e
  | _, _, 0, _, .som h r, e => by simp at e; subst e; exact ⟨_, rfl, h⟩
  | _, _, i + 1, _, .non r, e => by
    obtain ⟨v, e1, h⟩ := r.get (i := i) (by simpa using e)
    exact ⟨v, by simpa using e1, h⟩
  | _, _, i + 1, _, .som _ r, e => by
    obtain ⟨v, e1, h⟩ := r.get (i := i) (by simpa using e)
    exact ⟨v, by simpa using e1, h⟩
theorem SM.set {d : D} {v : V} (h : DV K H ι d v) : ∀ {σ : Sl} {τ : St} (i : Nat), SM K H ι σ τ → SM K H ι (σ.set i (some d)) (τ.set i (some v))
  | _, _, _, .nil => .nil
  | _, _, 0, .non r => .som h r
  | _, _, 0, .som _ r => .som h r
  | _, _, i + 1, .non r => .non (SM.set h i r)
  | _, _, i + 1, .som q r => .som q (SM.set h i r)
theorem SM.wipe1 : ∀ {σ : Sl} {τ : St} (i : Nat), SM K H ι σ τ → SM K H ι (σ.set i none) (τ.set i none)
  | _, _, _, .nil => .nil
  | _, _, 0, .non r => .non r
  | _, _, 0, .som _ r => .non r
  | _, _, i + 1, .non r => .non (SM.wipe1 i r)
  | _, _, i + 1, .som q r => .som q (SM.wipe1 i r)
theorem DVs.app : ∀ {ds es : List D} {vs ws : List V}, DVs K H ι ds vs → DVs K H ι es ws → DVs K H ι (ds ++ es) (vs ++ ws)
  | _, _, _, _, .nil, q => q
  | _, _, _, _, .cons h r, q => .cons h (DVs.app r q)
theorem DVs.get : ∀ {ds : List D} {vs : List V} {i : Nat} {d : D}, DVs K H ι ds vs → ds[i]? = some d → ∃ v, vs[i]? = some v ∧ DV K H ι d v
  | _, _, _, _, .nil,
      e => by simp at e
  | _, _, 0, _, .cons h r, e => by simp at e; subst e; exact ⟨_, rfl, h⟩
  | _, _, i + 1, _, .cons _ r, e => by
    obtain ⟨v, e1, h⟩ := r.get (i := i) (by simpa using e)
    exact ⟨v, by simpa using e1, h⟩
theorem DVs.set {d : D} {v : V} (h : DV K H ι d v) : ∀ {ds : List D} {vs : List V} (i : Nat), DVs K H ι ds vs → DVs K H ι (ds.set i d) (vs.set i v)
  | _, _, _, .nil => .nil
  | _, _, 0, .cons _ r => .cons h r
  | _, _, i + 1, .cons q r => .cons q (DVs.set h i r)
theorem DVs.take : ∀ {ds : List D} {vs : List V} (n : Nat), DVs K H ι ds vs → DVs K H ι (ds.take n) (vs.take n)
  | _, _, 0, _ => .nil
  | _, _, _ + 1, .nil => .nil
  | _, _, n + 1, .cons h r => .cons h (DVs.take n r)
theorem DVs.drop : ∀ {ds : List D} {vs : List V} (n : Nat), DVs K H ι ds vs → DVs K H ι (ds.drop n) (vs.drop n)
  | _, _, 0, h => h
  | _, _, _ + 1, .nil => .nil
  | _, _, n + 1, .cons _ r => DVs.drop n r
theorem DVs.rev : ∀ {ds : List D} {vs : List V}, DVs K H ι ds vs → DVs K H ι ds.reverse vs.reverse
  | _, _, .nil => .nil
  | _, _, .cons h r => by
    rw [List.reverse_cons,
        List.reverse_cons]
    exact (DVs.rev r).app (.cons h .nil)
theorem DVs.reps {ds : List D} {vs : List V} (h : DVs K H ι ds vs) : ∀ n : Nat, DVs K H ι (List.replicate n ds).flatten (List.replicate n vs).flatten
  | 0 => .nil
  | n + 1 => by
    rw [List.replicate_succ, List.replicate_succ,
        List.flatten_cons, List.flatten_cons]
    exact h.app (DVs.reps h n)
theorem DVs.cut {ds : List D} {vs : List V} (h : DVs K H ι ds vs) (lo hi : Option Int) : DVs K H ι (cut ds lo hi) (cutV vs lo hi) := by
  unfold Mi.cut cutV
  rw [h.len]
  exact (h.drop _).take _

theorem HM.lt {M : Hm} (h : HM K H ι M) {i : Nat} {a : Addr} (e : ι[i]? = some a) : i < M.length := by
  have := (List.getElem?_eq_some_iff.mp e).1
  rw [h.len] at this
  exact this
theorem HM.at {M : Hm} (h : HM K H ι M) {i : Nat} {a : Addr} (e : ι[i]? = some a) : ∃ o, M[i]? = some o ∧ OM K H ι o a := by
  have hi := h.lt e
  exact ⟨M[i], List.getElem?_eq_getElem hi, h.ob i a _ e (List.getElem?_eq_getElem hi)⟩
/-- a new thing that is none of the small heap's -/
theorem stay_new {p : Addr} {o : HO} (hp : H p = none) : ∀ a q, H a = some q → ¬ Mut (some q) → upd H p o a = some q := fun a q e _ => by
  rw [upd_ne (ne_of_none e hp)]
  exact e
theorem Ext.newT {p : Addr} {o : HO} (hp : H p = none) : Ext H ι (upd H p o) ι :=
  ⟨⟨[], by simp⟩, fun a h1 h2 => absurd h1 h2, fun a q e _ => by rw [upd_ne (ne_of_none e hp)]; exact e, stay_new hp⟩
theorem Ext.newM {p : Addr} {o : HO} (hp : H p = none) : Ext H ι (upd H p o) (ι ++ [p]) := by
  refine ⟨⟨[p], rfl⟩, fun a h1 h2 => ?_, fun a q e _ => by rw [upd_ne (ne_of_none e hp)]; exact e, stay_new hp⟩
  rcases List.mem_append.mp h1 with h | h
  · exact absurd h h2
  · rw [List.mem_singleton.mp h]
    exact hp
theorem HM.newT {M : Hm} (h : HM K H ι M) {p : Addr} {o : HO} (hp : H p = none) : HM K (upd H p o) ι M := by
  refine ⟨h.len, h.nd, fun i a q e em => (h.ob i a q e em).to (stay_new hp) (fun _ _ e => e) fun hr => ?_⟩
  obtain ⟨u, hu⟩ := (h.ob i a q e em).there
  exact upd_ne (ne_of_none hu hp)
/-- a new object of the small heap -/
theorem HM.newM {M : Hm} (h : HM K H ι M) {p : Addr} {o : HO} {q : MO} (hp : H p = none) (ho : OM K (upd H p o) (ι ++ [p]) q p) : HM K (upd H p o) (ι ++ [p]) (M ++ [q]) := by
  have old : ∀ {i : Nat} {a : Addr} {q' : MO}, (ι ++ [p])[i]? = some a → (M ++ [q])[i]? = some q' → (ι[i]? = some a ∧ M[i]? = some q') ∨ (i = ι.length ∧ a = p ∧ q' = q) := fun {i a q'} e em => by
    by_cases hi : i < ι.length
    · rw [List.getElem?_append_left hi] at e
      rw [List.getElem?_append_left (by rw [← h.len]; exact hi)] at em
      exact .inl ⟨e, em⟩
    · have hi2 : i = ι.length := by
        have := (List.getElem?_eq_some_iff.mp e).1
        rw [List.length_append] at this
        have e1 : [p].length = 1 := rfl
        omega
      subst hi2
      rw [List.getElem?_append_right (Nat.le_refl _), Nat.sub_self] at e
      rw [h.len, List.getElem?_append_right (Nat.le_refl _), Nat.sub_self] at em
      cases e
      cases em
      exact .inr ⟨rfl, rfl, rfl⟩
  have ne : ∀ {i : Nat} {a : Addr} {q' : MO}, ι[i]? = some a → M[i]? = some q' → q'.isRol = false → a ≠ p := fun e em hr => by
    obtain ⟨u, hu⟩ := (h.ob _ _ _ e em).there
    exact ne_of_none hu hp
  refine ⟨by rw [List.length_append, List.length_append, h.len]; rfl, fun i j a o1 o2 e1 e2 m1 m2 r1 r2 => ?_, fun i a q' e em => ?_⟩
  · rcases old e1 m1 with ⟨x1, y1⟩ | ⟨x1, y1, z1⟩
    · rcases old e2 m2 with ⟨x2, y2⟩ | ⟨x2, y2, z2⟩
      · exact h.nd i j a o1 o2 x1 x2 y1 y2 r1 r2
      · exact absurd y2 (ne x1 y1 r1)
    · rcases old e2 m2 with ⟨x2, y2⟩ | ⟨x2, y2, z2⟩
      · exact absurd y1 (ne x2 y2 r2)
      · rw [x1, x2]
  · rcases old e em with ⟨x1, y1⟩ | ⟨x1, y1, z1⟩
    · exact (h.ob i a q' x1 y1).to (stay_new hp) (fun _ _ e => (Ext.newM (o := o) hp).get e) fun hr => upd_ne (ne x1 y1 hr)
    · subst y1 z1
      exact ho
theorem stay_put {x : Addr} {o : HO} (hm : Mut (H x)) : ∀ a q, H a = some q → ¬ Mut (some q) → upd H x o a = some q := fun a q e hq => by
  rw [upd_ne]
  · exact e
  · intro z
    subst z
    rw [e] at hm
    exact hq hm
theorem Ext.put {x : Addr} {o : HO} (hx : x ∈ ι) (hm : Mut (H x)) : Ext H ι (upd H x o) ι :=
  ⟨⟨[], by simp⟩, fun a h1 h2 => absurd h1 h2, fun a q e h => by rw [upd_ne]; exact e; intro z; exact h (z ▸ hx), stay_put hm⟩
theorem HM.put {M : Hm} (h : HM K H ι M) {x : Addr} {j : Nat} {o : HO} {q q0 : MO} (hx : ι[j]? = some x) (hm : Mut (H x)) (h0 : M[j]? = some q0) (hr0 : q0.isRol = false) (ho : OM K (upd H x o) ι q x) : HM K (upd H x o) ι (M.set j q) := by
  have hj := h.lt hx
  have sw : ∀ {i : Nat} {q' : MO}, (M.set j q)[i]? = some q' → (i = j ∧ q' = q) ∨ (i ≠ j ∧ M[i]? = some q') := fun {i q'} em => by
    by_cases hi : i = j
    · subst hi
      rw [List.getElem?_set_self hj] at em
      cases em
      exact .inl ⟨rfl, rfl⟩
    · rw [List.getElem?_set_ne (Ne.symm hi)] at em
      exact .inr ⟨hi, em⟩
  refine ⟨by rw [List.length_set]; exact h.len, fun i k a o1 o2 e1 e2 m1 m2 r1 r2 => ?_, fun i a q' e em => ?_⟩
  · rcases sw m1 with ⟨x1, y1⟩ | ⟨x1, y1⟩
    · rcases sw m2 with ⟨x2, y2⟩ | ⟨x2, y2⟩
      · rw [x1, x2]
      · subst x1
        exact h.nd _ _ a q0 o2 e1 e2 h0 y2 hr0 r2
    · rcases sw m2 with ⟨x2, y2⟩ | ⟨x2, y2⟩
      · subst x2
        exact h.nd _ _ a o1 q0 e1 e2 y1 h0 r1 hr0
      · exact h.nd _ _ a o1 o2 e1 e2 y1 y2 r1 r2
  · rcases sw em with ⟨x1, y1⟩ | ⟨x1, y1⟩
    · subst x1 y1
      rw [hx] at e
      cases e
      exact ho
    · refine (h.ob i a q' e y1).to (stay_put hm) (fun _ _ e => e) fun hr => upd_ne fun z => ?_
      subst z
      exact x1 (h.nd _ _ a q' q0 e hx y1 h0 hr hr0)
end

/-! ### what is asked behind a term -/
/-- how an exception of the small language stands to one of the layer -/
abbrev XT := Ex → Value → Option Addr → Hp → List Addr → Prop
def PostE (T : XT) (K : PySem.W.Frag) (W : WX) (τ : St) (H : Hp) (ι : List Addr) (r : R D) (Q : VK) : Prop :=
  match r with
  | some (.ok d M') => ∀ v H' ι', Ext H ι H' ι' → HM K H' ι' M' → DV K H' ι' d v → Q v H'
  | some (.exc x M') => ∀ cls dx H' ι', Ext H ι H' ι' → HM K H' ι' M' → T x cls dx H' ι' → W cls dx τ H'
  | none => False
def PostB (T : XT) (K : PySem.W.Frag) (W : WX) (τ : St) (H : Hp) (ι : List Addr) (r : R Bool) (Q : Bool → Hp → Prop) : Prop :=
  match r with
  | some (.ok d M') => ∀ H' ι', Ext H ι H' ι' → HM K H' ι' M' → Q d H'
  | some (.exc x M') => ∀ cls dx H' ι', Ext H ι H' ι' → HM K H' ι' M' → T x cls dx H' ι' → W cls dx τ H'
  | none => False
def PostA (T : XT) (K : PySem.W.Frag) (W : WX) (τ : St) (H : Hp) (ι : List Addr) (r : R (List D)) (Q : List V → Hp → Prop) : Prop :=
  match r with
  | some (.ok d M') => ∀ v H' ι', Ext H ι H' ι' → HM K H' ι' M' → DVs K H' ι' d v → Q v H'
  | some (.exc x M') => ∀ cls dx H' ι', Ext H ι H' ι' → HM K H' ι' M' → T x cls dx H' ι' → W cls dx τ H'
  | none => False
/-- any result, by what is asked of a value -/
def Post {α : Type} (T : XT) (K : PySem.W.Frag) (W : WX) (τ : St) (H : Hp) (ι : List Addr) (r : R α) (G : α → Hm → Hp → List Addr → Prop) : Prop :=
  match r with
  | some (.ok d M') => ∀ H' ι', Ext H ι H' ι' → HM K H' ι' M' → G d M' H' ι'
  | some (.exc x M') => ∀ cls dx H' ι', Ext H ι H' ι' → HM K H' ι' M' → T x cls dx H' ι' → W cls dx τ H'
  | none => False
section
variable {T : XT} {K : PySem.W.Frag} {W : WX} {τ : St} {H H1 : Hp} {ι ι1 : List Addr}
theorem Post.ex {α : Type} {r : R α} {G : α → Hm → Hp → List Addr → Prop} (h : Post T K W τ H ι r G) (x : Ext H ι H1 ι1) : Post T K W τ H1 ι1 r G := by
  match r, h with
  | some (.ok d M'), h => exact fun H' ι' e m => h H' ι' (x.trans e) m
  | some (.exc y M'), h => exact fun cls dx H' ι' e m t => h cls dx H' ι' (x.trans e) m t
theorem PostE.ex {r : R D} {Q : VK} (h : PostE T K W τ H ι r Q) (x : Ext H ι H1 ι1) : PostE T K W τ H1 ι1 r Q := by
  match r, h with
  | some (.ok d M'), h => exact fun v H' ι' e m d => h v H' ι' (x.trans e) m d
  | some (.exc y M'), h => exact fun cls dx H' ι' e m t => h cls dx H' ι' (x.trans e) m t
theorem PostB.ex {r : R Bool} {Q : Bool → Hp → Prop} (h : PostB T K W τ H ι r Q) (x : Ext H ι H1 ι1) : PostB T K W τ H1 ι1 r Q := by
  match r, h with
  | some (.ok d M'), h => exact fun H' ι' e m => h H' ι' (x.trans e) m
  | some (.exc y M'), h => exact fun cls dx H' ι' e m t => h cls dx H' ι' (x.trans e) m t
theorem PostA.ex {r : R (List D)} {Q : List V → Hp → Prop} (h : PostA T K W τ H ι r Q) (x : Ext H ι H1 ι1) : PostA T K W τ H1 ι1 r Q := by
  match r, h with
  | some (.ok d M'), h => exact fun v H' ι' e m d => h v H' ι' (x.trans e) m d
  | some (.exc y M'), h => exact fun cls dx H' ι' e m t => h cls dx H' ι' (x.trans e) m t
/-- one part, then the rest: P is what is asked behind the whole -/
theorem PostE.of {β : Type} {x : R D} {f : D → Hm → R β} {Q : VK} (P : Hp → List Addr → R β → Prop) (Pe : ∀ y M', P H ι (some (.exc y M')) → ∀ cls dx H' ι', Ext H ι H' ι' → HM K H' ι' M' → T y cls dx H' ι' → W cls dx τ H')
    (Pn : P H ι none → False) (Pm : ∀ H1 ι1 r, Ext H ι H1 ι1 → P H ι r → P H1 ι1 r) (h : P H ι (bnd x f)) (k : ∀ d M1 v H1 ι1, Ext H ι H1 ι1 → HM K H1 ι1 M1 → DV K H1 ι1 d v → P H1 ι1 (f d M1) → Q v H1) : PostE T K W τ H ι x Q := by
  match x, h with
  | some (.ok d M'), h => exact fun v H' ι' e m dv => k d M' v H' ι' e m dv (Pm _ _ _ e h)
  | some (.exc y M'), h => exact Pe y M' h
  | none, h => exact (Pn h).elim
theorem PostE.bind {x : R D} {f : D → Hm → R D} {Q Q' : VK} (h : PostE T K W τ H ι (bnd x f) Q) (k : ∀ d M1 v H1 ι1, Ext H ι H1 ι1 → HM K H1 ι1 M1 → DV K H1 ι1 d v → PostE T K W τ H1 ι1 (f d M1) Q → Q' v H1) : PostE T K W τ H ι x Q' :=
  PostE.of (fun H ι r => PostE T K W τ H ι r Q) (fun _ _ h => h) id (fun _ _ _ e h => h.ex e) h k
theorem PostE.bindB {x : R D} {f : D → Hm → R Bool} {Q : Bool → Hp → Prop} {Q' : VK} (h : PostB T K W τ H ι (bnd x f) Q) (k : ∀ d M1 v H1 ι1, Ext H ι H1 ι1 → HM K H1 ι1 M1 → DV K H1 ι1 d v → PostB T K W τ H1 ι1 (f d M1) Q → Q' v H1) : PostE T K W τ H ι x Q' :=
  PostE.of (fun H ι r => PostB T K W τ H ι r Q) (fun _ _ h => h) id (fun _ _ _ e h => h.ex e) h k
theorem PostE.bindA {x : R D} {f : D → Hm → R (List D)} {Q : List V → Hp → Prop} {Q' : VK} (h : PostA T K W τ H ι (bnd x f) Q) (k : ∀ d M1 v H1 ι1, Ext H ι H1 ι1 → HM K H1 ι1 M1 → DV K H1 ι1 d v → PostA T K W τ H1 ι1 (f d M1) Q → Q' v H1) : PostE T K W τ H ι x Q' :=
  PostE.of (fun H ι r => PostA T K W τ H ι r Q) (fun _ _ h => h) id (fun _ _ _ e h => h.ex e) h k
theorem PostB.of {β : Type} {x : R Bool} {f : Bool → Hm → R β} {Q : Bool → Hp → Prop} (P : Hp → List Addr → R β → Prop) (Pe : ∀ y M', P H ι (some (.exc y M')) → ∀ cls dx H' ι', Ext H ι H' ι' → HM K H' ι' M' → T y cls dx H' ι' → W cls dx τ H')
    (Pn : P H ι none → False) (Pm : ∀ H1 ι1 r, Ext H ι H1 ι1 → P H ι r → P H1 ι1 r) (h : P H ι (bnd x f)) (k : ∀ d M1 H1 ι1, Ext H ι H1 ι1 → HM K H1 ι1 M1 → P H1 ι1 (f d M1) → Q d H1) : PostB T K W τ H ι x Q := by
  match x, h with
  | some (.ok d M'), h => exact fun H' ι' e m => k d M' H' ι' e m (Pm _ _ _ e h)
  | some (.exc y M'), h => exact Pe y M' h
  | none, h => exact (Pn h).elim
theorem PostB.bind {x : R Bool} {f : Bool → Hm → R Bool} {Q Q' : Bool → Hp → Prop} (h : PostB T K W τ H ι (bnd x f) Q) (k : ∀ d M1 H1 ι1, Ext H ι H1 ι1 → HM K H1 ι1 M1 → PostB T K W τ H1 ι1 (f d M1) Q → Q' d H1) : PostB T K W τ H ι x Q' :=
  PostB.of (fun H ι r => PostB T K W τ H ι r Q) (fun _ _ h => h) id (fun _ _ _ e h => h.ex e) h k
theorem PostB.bindE {x : R Bool} {f : Bool → Hm → R D} {Q : VK} {Q' : Bool → Hp → Prop} (h : PostE T K W τ H ι (bnd x f) Q) (k : ∀ d M1 H1 ι1, Ext H ι H1 ι1 → HM K H1 ι1 M1 → PostE T K W τ H1 ι1 (f d M1) Q → Q' d H1) : PostB T K W τ H ι x Q' :=
  PostB.of (fun H ι r => PostE T K W τ H ι r Q) (fun _ _ h => h) id (fun _ _ _ e h => h.ex e) h k
theorem PostA.of {β : Type} {x : R (List D)} {f : List D → Hm → R β} {Q : List V → Hp → Prop} (P : Hp → List Addr → R β → Prop) (Pe : ∀ y M', P H ι (some (.exc y M')) → ∀ cls dx H' ι', Ext H ι H' ι' → HM K H' ι' M' → T y cls dx H' ι' → W cls dx τ H')
    (Pn : P H ι none → False) (Pm : ∀ H1 ι1 r, Ext H ι H1 ι1 → P H ι r → P H1 ι1 r) (h : P H ι (bnd x f)) (k : ∀ d M1 v H1 ι1, Ext H ι H1 ι1 → HM K H1 ι1 M1 → DVs K H1 ι1 d v → P H1 ι1 (f d M1) → Q v H1) : PostA T K W τ H ι x Q := by
  match x, h with
  | some (.ok d M'), h => exact fun v H' ι' e m dv => k d M' v H' ι' e m dv (Pm _ _ _ e h)
  | some (.exc y M'), h => exact Pe y M' h
  | none, h => exact (Pn h).elim
theorem PostA.bind {x : R (List D)} {f : List D → Hm → R (List D)} {Q Q' : List V → Hp → Prop} (h : PostA T K W τ H ι (bnd x f) Q) (k : ∀ d M1 v H1 ι1, Ext H ι H1 ι1 → HM K H1 ι1 M1 → DVs K H1 ι1 d v → PostA T K W τ H1 ι1 (f d M1) Q → Q' v H1) : PostA T K W τ H ι x Q' :=
  PostA.of (fun H ι r => PostA T K W τ H ι r Q) (fun _ _ h => h) id (fun _ _ _ e h => h.ex e) h k
theorem PostA.bindE {x : R (List D)} {f : List D → Hm → R D} {Q : VK} {Q' : List V → Hp → Prop} (h : PostE T K W τ H ι (bnd x f) Q) (k : ∀ d M1 v H1 ι1, Ext H ι H1 ι1 → HM K H1 ι1 M1 → DVs K H1 ι1 d v → PostE T K W τ H1 ι1 (f d M1) Q → Q' v H1) : PostA T K W τ H ι x Q' :=
  PostA.of (fun H ι r => PostE T K W τ H ι r Q) (fun _ _ h => h) id (fun _ _ _ e h => h.ex e) h k
end
end Mi

/-! Mi4: where a term stands, calls of defs, plain expressions. -/
namespace Mi
open PySem PySem.Spec
    PyProof.Rows L2

/-! ### a def's promise, where nothing shows itself (repr) ahead of it -/
structure FnG (P : Program) (w : World) (K : PySem.W.Frag) (mg : Str → Option Value) (base : Heap) (k : Nat) (f : Addr) (fd : FuncData) (ps : List Str) (sp : Sp) : Prop where
  len : ∀ vs H Q E, sp vs H
      Q E → vs.length = ps.length
  run : ∀ (A : Around) (outer : List Env) (s : Shared) (H : Hp) (args : Args) (us : List Value) (vs : List V) (Q : VK) (E : XK), Room k A → A.guards = some [] →
    Env0 P w K mg base A outer s H → BindsTo s fd args (ps.zip us) → Vals vs us → sp vs H Q E →
    codeAny (model P w) A (.call (.ref f) args) (CR (CX P w) outer P w H s Q E) s
/-- a def's entry in the table: where it stands -/
structure Ent where
  x : Str
  a : Addr
  fd : FuncData
  ps : List Str
/-- what a call promises, by the small language -/
def spG (T : XT) (K : PySem.W.Frag) (F : Caller) (np : Nat) (f : Nat) : Sp := fun vs H Q E => ∃ ds M ι, HM K H ι M ∧ DVs K H ι ds vs ∧ ds.length = np ∧ PostE T K (fun cls dx _ H' => E cls dx H') [] H ι (F f ds M) Q

/-- the names of a text: its defs by number, its constants -/
structure Gn where
  fns : List (Str × Nat)
  cns : List (Str × D)
  nps : List Nat
  dcs : List (Str × List (List Nat × D))

/-- where code stands: N its names by slot, sc the kinds of names, F what its calls do -/
structure Cok (X : Cx) (G : Gn) (T : XT) (F : Caller) (W : WX) (N : List Str) (sc : List (Str × NameKind)) : Prop where
  hN : X.N = N
  nd : N.Nodup
  calm : X.calm = true
  loc : ∀ x, sc.lookup x = some .local → Loc X.env.scope x ∧ (X.fn x = true ∨ X.env.scope.names.lookup x = some .local)
  cel : ∀ x, sc.lookup x = some .cell → Loc X.env.scope x ∧ (X.fn x = true ∨ X.env.scope.names.lookup x = some .local)
  fre : ∀ x, sc.lookup x = some .free → Vis X.env.scope x
  glo : ∀ x, sc.lookup x = some .globalImplicit → Gl X x
  fns : ∀ x f, G.fns.lookup x = some f → ∃ a fd ps k, X.mg x = some (.ref a) ∧ PySem.W.keepIn X.K (.ref a) = true ∧ Binds X.K fd ps [] ∧ Room k X.A ∧
    FnG X.prog X.w X.K X.mg X.base k a fd ps (spG T X.K F (G.nps.getD f 0) f)
  cns : ∀ x d, G.cns.lookup x = some d → ∃ u v, X.mg x = some u ∧ RelV v u ∧ ∀ H ι, DV X.K H ι d v
  dcs : ∀ x c, G.dcs.lookup x = some c → ∃ p, X.mg x = some (.ref p) ∧ (p == sysModules) = false ∧ ∀ z d, c.lookup z = some d → ∃ v, KDct X.K X.w p ⟨z.toArray⟩ v ∧ ∀ H ι, DV X.K H ι d v
  bls : ∀ x, x ∈ (["len", "repr", "tuple", "list", "sum", "all", "any", "int", "max", "min", "range", "enumerate", "zip", "isinstance", "bool", "str", "dict", "sorted"] : List Str) → X.mg x = none
  room : Room 0 X.A
  grd : X.A.guards = some []
  tk : Takes X W
  sys : ∃ m, X.base.Ns sysModules m
  fk : X.env.scope.kind = .function
  cap : ∀ x, sc.lookup x = some .cell ∨ sc.lookup x = some .free → X.env.scope.names.lookup x = some .cell ∨ X.env.scope.names.lookup x = some .free
  ker : ∀ x, sc.lookup x = some .local → X.env.scope.names.lookup x = some .local
  ar : ∀ f ds M, F f ds M ≠ none → ds.length = G.nps.getD f 0

section
variable {X : Cx} {G : Gn} {T : XT} {F : Caller} {W : WX} {N : List Str} {sc : List (Str × NameKind)}
theorem Loc.vis {s : Scope} {x : Str} (h : Loc s x) : Vis s x := by
  rcases h with h | h
  · exact .inl h
  · exact .inr (.inl h)
theorem Cok.units (c : Cok X G T F W N sc) : X.A.units + 200 < cLine := by have := c.room.un; omega

/-- what a term does, as a reading of the layer -/
def tE (T : XT) (K : PySem.W.Frag) (W : WX) (F : Caller) (c : E) : TE := fun τ H Q => ∃ σ M ι, SM K H ι σ τ ∧ HM K H ι M ∧ PostE T K W τ H ι (ev F c σ M) Q
def tT (T : XT) (K : PySem.W.Frag) (W : WX) (F : Caller) (c : E) : TT := fun τ H Q => ∃ σ M ι, SM K H ι σ τ ∧ HM K H ι M ∧ PostB T K W τ H ι (evT F c σ M) Q
def tA (T : XT) (K : PySem.W.Frag) (W : WX) (F : Caller) (c : Es) : TA := fun τ H Q => ∃ σ M ι, SM K H ι σ τ ∧ HM K H ι M ∧ PostA T K W τ H ι (evs F c σ M) Q
theorem _root_.L2.PE.imp {e : Expr} {t t' : TE} (h : PE X e t) (k : ∀ σ H Q, t' σ H Q → t σ H Q) : PE X e t' := ⟨fun pins s σ H Q I q => h.run pins s σ H Q I (k _ _ _ q)⟩
theorem _root_.L2.PT.imp {e : Expr} {t t' : TT} (h : PT X e t) (k : ∀ σ H Q, t' σ H Q → t σ H Q) : PT X e t' := ⟨fun pins s σ H Q I q => h.run pins s σ H Q I (k _ _ _ q)⟩
theorem _root_.L2.PW.imp {e : Expr} {t t' : TT} (h : PW X e t) (k : ∀ σ H Q, t' σ H Q → t σ H Q) : PW X e t' := ⟨fun wh pins s σ H Q I q => h.run wh pins s σ H Q I (k _ _ _ q)⟩
theorem _root_.L2.PA.imp {e : List Expr} {t t' : TA} (h : PA X e t) (k : ∀ σ H Q, t' σ H Q → t σ H Q) : PA X e t' := ⟨fun pos pins s σ H Q I q => h.run pos pins s σ H Q I (k _ _ _ q)⟩

variable {a b c : Expr} {ca cb cc : E} {pos : Pos}
theorem me_bin {op : Operator} {o : Bop} (hop : OpR X (binaryOp op) fun x y H Q => ∃ dx dy M ι, HM X.K H ι M ∧ DV X.K H ι dx x ∧ DV X.K H ι dy y ∧ PostE T X.K W [] H ι (binM o dx dy M) Q)
    (hx : ∀ dx dy M e M', binM o dx dy M ≠ some (.exc e M')) (ha : PE X a (tE T X.K W F ca)) (hb : PE X b (tE T X.K W F cb)) : PE X (.BinOp a op b pos) (tE T X.K W F (.bin o ca cb)) := by
  refine (pe_op hop ha hb).imp fun τ H Q ⟨σ, M, ι, hs, hm, h⟩ => ?_
  rw [ev] at h
  refine ⟨σ, M, ι, hs, hm, PostE.bind h fun x M1 v H1 ι1 e1 m1 d1 h1 => ?_⟩
  refine ⟨σ, M1, ι1, hs.ex e1, m1, PostE.bind h1 fun y M2 v2 H2 ι2 e2 m2 d2 h2 => ?_⟩
  refine ⟨x, y, M2, ι2, m2, d1.ex e2, d2, ?_⟩
  cases q : binM o x y M2 with
  | none => rw [q] at h2; exact h2.elim
  | some r =>
    cases r with
    | exc e M' => exact absurd q (hx _ _ _ _ _)
    | ok d M' => rw [q] at h2; exact h2
def rCmp (K : PySem.W.Frag) (o : Cop) : R2 := fun x y H Q => ∃ dx dy M ι k, HM K H ι M ∧ DV K H ι dx x ∧ DV K H ι dy y ∧ cmpM o dx dy M = some k ∧ Q (.bl k) H
theorem me_cmp {op : CmpOp} {o : Cop} (hop : OpR X (compareOp op) (rCmp X.K o)) (ha : PE X a (tE T X.K W F ca)) (hb : PE X b (tE T X.K W F cb)) (hm : behindInMarks op b = false) :
    PE X (.Compare a [op] [b] pos) (tE T X.K W F (.cmp o ca cb)) := by
  refine (pe_cmpR hop ha hb hm).imp fun τ H Q ⟨σ, M, ι, hs, hm, h⟩ => ?_
  rw [ev] at h
  refine ⟨σ, M, ι, hs, hm, PostE.bind h fun x M1 v H1 ι1 e1 m1 d1 h1 => ?_⟩
  refine ⟨σ, M1, ι1, hs.ex e1, m1, PostE.bind h1 fun y M2 v2 H2 ι2 e2 m2 d2 h2 => ?_⟩
  cases q : cmpM o x y M2 with
  | none => rw [q] at h2; exact h2.elim
  | some k =>
    rw [q] at h2
    exact ⟨x, y, M2, ι2, k, m2, d1.ex e2, d2, q, h2 _ _ _ Ext.refl m2 (.bl k)⟩
theorem mt_cmp {op : CmpOp} {o : Cop} (hop : OpR X (compareOp op) (rCmp X.K o)) (ha : PE X a (tE T X.K W F ca)) (hb : PE X b (tE T X.K W F cb)) (hm : behindInMarks op b = false) :
    PT X (.Compare a [op] [b] pos) (tT T X.K W F (.cmp o ca cb)) := by
  refine (pt_cmpR hop ha hb hm).imp fun τ H Q ⟨σ, M, ι, hs, hm, h⟩ => ?_
  simp only [evT, ev] at h
  have h' : PostB T X.K W τ H ι (bnd (ev F ca σ M) fun x M1 => bnd (ev F cb σ M1) fun y M2 => match cmpM o x y M2 with
    | some k => ok k M2
    | none => none) Q := by
    refine Eq.mp (congrArg (fun r => PostB T X.K W τ H ι r Q) ?_) h
    cases ev F ca σ M with
    | none => rfl
    | some r =>
      cases r with
      | exc e M' => rfl
      | ok x M1 =>
        simp only [bnd]
        cases ev F cb σ M1 with
        | none => rfl
        | some r =>
          cases r with
          | exc e M' => rfl
          | ok y M2 =>
            simp only
            cases q : cmpM o x y M2 with
            | none => rfl
            | some k => rfl
  refine ⟨σ, M, ι, hs, hm, PostE.bindB h' fun x M1 v H1 ι1 e1 m1 d1 h1 => ?_⟩
  refine ⟨σ, M1, ι1, hs.ex e1, m1, PostE.bindB h1 fun y M2 v2 H2 ι2 e2 m2 d2 h2 => ?_⟩
  cases q : cmpM o x y M2 with
  | none => rw [q] at h2; exact h2.elim
  | some k =>
    rw [q] at h2
    exact ⟨x, y, M2, ι2, k, m2, d1.ex e2, d2, q, k, rfl, h2 _ _ Ext.refl m2⟩
theorem me_var {i : Nat} {x : Str} (k : Cok X G T F W N sc) (hi : N[i]? = some x) (hv : Vis X.env.scope x) (hd : (x == ("__debug__" : Str)) = false) (hc : (x == ("__classdict__" : Str)) = false) : PE X (.Name x pos) (tE T X.K W F (.var i)) := by
  refine (pe_var (i := i) (by rw [k.hN]; exact hi) hv hd hc).imp fun τ H Q ⟨σ, M, ι, hs, hm, h⟩ => ?_
  unfold ev at h
  split at h
  · rename_i d e
    obtain ⟨v, e1, d1⟩ := hs.get e
    exact ⟨v, e1, h _ _ _ Ext.refl hm d1⟩
  · exact h.elim
theorem me_lit {e : Expr} {v : V} {d : D} (he : PE X e (tC v)) (hd : ∀ H ι, DV X.K H ι d v) : PE X e (tE T X.K W F (.lit d)) :=
  he.imp fun τ H Q ⟨σ, M, ι, hs, hm, h⟩ => by
    rw [ev] at h
    exact h _ _ _ Ext.refl hm (hd H ι)
/-- a test that goes by the value -/
theorem mt_val {e : Expr} {ce : E} (he : PE X e (tE T X.K W F ce)) (hp : ∀ whole, isTrue e X.env whole = (do let v ← whole; standAt e.pos; holding [v] (truthy v)))
    (hc : ∀ σ M, evT F ce σ M = bnd (ev F ce σ M) fun x M1 => match x with | .bl k => ok k M1 | _ => none) : PT X e (tT T X.K W F ce) := by
  refine (pt_val he hp).imp fun τ H Q ⟨σ, M, ι, hs, hm, h⟩ => ?_
  rw [hc] at h
  refine ⟨σ, M, ι, hs, hm, PostE.bindB h fun x M1 v H1 ι1 e1 m1 d1 h1 => ?_⟩
  cases d1 with
  | bl k => exact ⟨k, rfl, h1 _ _ Ext.refl m1⟩
  | _ => exact h1.elim
theorem mt_not (ha : PT X a (tT T X.K W F ca)) : PT X (.UnaryOp .Not a pos) (tT T X.K W F (.notE ca)) := by
  refine (pt_not ha).imp fun τ H Q ⟨σ, M, ι, hs, hm, h⟩ => ?_
  rw [evT] at h
  exact ⟨σ, M, ι, hs, hm, PostB.bind h fun k M1 H1 ι1 e1 m1 h1 => h1 _ _ Ext.refl m1⟩
theorem me_not (ha : PE X a (tE T X.K W F ca)) (hc : ∀ σ M, evT F ca σ M = bnd (ev F ca σ M) fun x M1 => match x with | .bl k => ok k M1 | _ => none) : PE X (.UnaryOp .Not a pos) (tE T X.K W F (.notE ca)) := by
  refine (pe_not ha).imp fun τ H Q ⟨σ, M, ι, hs, hm, h⟩ => ?_
  rw [ev, hc] at h
  refine ⟨σ, M, ι, hs, hm, ?_⟩
  cases q : ev F ca σ M with
  | none => rw [q] at h; exact h.elim
  | some r =>
    rw [q] at h
    cases r with
    | exc e M' => exact h
    | ok x M1 =>
      intro v H1 ι1 e1 m1 d1
      cases d1 with
      | bl k => exact ⟨k, rfl, h (.bl (!k)) H1 ι1 e1 m1 (.bl _)⟩
      | _ => exact h.elim
theorem mw_and1 (ha : PT X a (tT T X.K W F ca)) : PW X (.BoolOp .And [a] pos) (tT T X.K W F ca) := pw_and1 ha
theorem mw_or1 (ha : PT X a (tT T X.K W F ca)) : PW X (.BoolOp .Or [a] pos) (tT T X.K W F ca) := pw_or1 ha
theorem mw_and {rest : List Expr} (ha : PT X a (tT T X.K W F ca)) (hb : PW X (.BoolOp .And (b :: rest) pos) (tT T X.K W F cb)) : PW X (.BoolOp .And (a :: b :: rest) pos) (tT T X.K W F (.andE ca cb)) := by
  refine (pw_and ha hb).imp fun τ H Q ⟨σ, M, ι, hs, hm, h⟩ => ?_
  rw [evT] at h
  refine ⟨σ, M, ι, hs, hm, PostB.bind h fun k M1 H1 ι1 e1 m1 h1 => ?_⟩
  cases k with
  | true => exact ⟨σ, M1, ι1, hs.ex e1, m1, h1⟩
  | false => exact h1 _ _ Ext.refl m1
theorem mw_or {rest : List Expr} (ha : PT X a (tT T X.K W F ca)) (hb : PW X (.BoolOp .Or (b :: rest) pos) (tT T X.K W F cb)) : PW X (.BoolOp .Or (a :: b :: rest) pos) (tT T X.K W F (.orE ca cb)) := by
  refine (pw_or ha hb).imp fun τ H Q ⟨σ, M, ι, hs, hm, h⟩ => ?_
  rw [evT] at h
  refine ⟨σ, M, ι, hs, hm, PostB.bind h fun k M1 H1 ι1 e1 m1 h1 => ?_⟩
  cases k with
  | false => exact ⟨σ, M1, ι1, hs.ex e1, m1, h1⟩
  | true => exact h1 _ _ Ext.refl m1
theorem tru_of {K : PySem.W.Frag} {H : Hp} {ι : List Addr} {M : Hm} (m : HM K H ι M) {x : D} {v : V} {k : Bool} (d : DV K H ι x v) (e : truM M x = some k) : TruV K v H k := by
  cases d with
  | non => cases e; rfl
  | bl b => cases e; rfl
  | int i => cases e; rfl
  | str x =>
    simp only [truM] at e
    split at e
    · rename_i hl
      cases e
      refine ⟨by rw [sizeLine_eq]; simpa [Str.length] using hl, ?_⟩
      cases x with
      | nil => rfl
      | cons c r => simp [Str.length, bne]; omega
    · cases e
  | tup h r =>
    cases e
    refine .inr (.inl ⟨_, h, ?_⟩)
    cases r <;> rfl
  | rol h =>
    rename_i is
    cases e
    refine .inl ⟨_, h.sql, ?_⟩
    cases is <;> rfl
  | ref h =>
    obtain ⟨o, em, om⟩ := m.at h
    simp only [truM, em] at e
    cases o with
    | lst ds =>
      obtain ⟨vs, e1, r⟩ := om
      cases e
      refine .inl ⟨vs, SqL.of e1, ?_⟩
      cases r <;> rfl
    | dct ds =>
      obtain ⟨vs, e1, r⟩ := om
      cases e
      refine .inr (.inr ⟨vs, e1, ?_⟩)
      cases r <;> rfl
theorem me_and {rest : List Expr} (ha : PE X a (tE T X.K W F ca)) (hb : PE X (.BoolOp .And (b :: rest) pos) (tE T X.K W F cb)) : PE X (.BoolOp .And (a :: b :: rest) pos) (tE T X.K W F (.andE ca cb)) := by
  refine (pe_andT ha hb).imp fun τ H Q ⟨σ, M, ι, hs, hm, h⟩ => ?_
  rw [ev] at h
  refine ⟨σ, M, ι, hs, hm, PostE.bind h fun x M1 v H1 ι1 e1 m1 d1 h1 => ?_⟩
  cases q : truM M1 x with
  | none => rw [q] at h1; exact h1.elim
  | some k =>
    rw [q] at h1
    refine ⟨k, tru_of m1 d1 q, ?_⟩
    cases k with
    | true => exact ⟨σ, M1, ι1, hs.ex e1, m1, h1⟩
    | false => exact h1 _ _ _ Ext.refl m1 d1
theorem me_or {rest : List Expr} (ha : PE X a (tE T X.K W F ca)) (hb : PE X (.BoolOp .Or (b :: rest) pos) (tE T X.K W F cb)) : PE X (.BoolOp .Or (a :: b :: rest) pos) (tE T X.K W F (.orE ca cb)) := by
  refine (pe_orT ha hb).imp fun τ H Q ⟨σ, M, ι, hs, hm, h⟩ => ?_
  rw [ev] at h
  refine ⟨σ, M, ι, hs, hm, PostE.bind h fun x M1 v H1 ι1 e1 m1 d1 h1 => ?_⟩
  cases q : truM M1 x with
  | none => rw [q] at h1; exact h1.elim
  | some k =>
    rw [q] at h1
    refine ⟨k, tru_of m1 d1 q, ?_⟩
    cases k with
    | false => exact ⟨σ, M1, ι1, hs.ex e1, m1, h1⟩
    | true => exact h1 _ _ _ Ext.refl m1 d1
theorem me_ife (hc : PT X c (tT T X.K W F cc)) (ha : PE X a (tE T X.K W F ca)) (hb : PE X b (tE T X.K W F cb)) : PE X (.IfExp c a b pos) (tE T X.K W F (.ife cc ca cb)) := by
  refine (pe_ifExp hc ha hb).imp fun τ H Q ⟨σ, M, ι, hs, hm, h⟩ => ?_
  rw [ev] at h
  refine ⟨σ, M, ι, hs, hm, PostB.bindE h fun k M1 H1 ι1 e1 m1 h1 => ?_⟩
  cases k with
  | true => exact ⟨σ, M1, ι1, hs.ex e1, m1, h1⟩
  | false => exact ⟨σ, M1, ι1, hs.ex e1, m1, h1⟩
theorem me_isN {no : Bool} {j : Nat} {p : Pos} (ha : PE X a (tE T X.K W F ca)) : PE X (.Compare a [if no then .IsNot else .Is] [.Constant .none j p] pos) (tE T X.K W F (.isN ca no)) := by
  cases no with
  | false =>
    refine (pe_cmp (pc_isN ha)).imp fun τ H Q ⟨σ, M, ι, hs, hm, h⟩ => ?_
    rw [ev] at h
    refine ⟨σ, M, ι, hs, hm, PostE.bind h fun x M1 v H1 ι1 e1 m1 d1 h1 => ?_⟩
    have e : decide (v = .non) = (decide (x = .non) != false) := by cases d1 <;> rfl
    rw [e]
    exact h1 _ _ _ Ext.refl m1 (.bl _)
  | true =>
    refine (pe_cmp (pc_notN ha)).imp fun τ H Q ⟨σ, M, ι, hs, hm, h⟩ => ?_
    rw [ev] at h
    refine ⟨σ, M, ι, hs, hm, PostE.bind h fun x M1 v H1 ι1 e1 m1 d1 h1 => ?_⟩
    have e : (!decide (v = .non)) = (decide (x = .non) != true) := by cases d1 <;> rfl
    rw [e]
    exact h1 _ _ _ Ext.refl m1 (.bl _)
theorem me_neg (ha : PE X a (tE T X.K W F ca)) : PE X (.UnaryOp .USub a pos) (tE T X.K W F (.neg ca)) := by
  refine (pe_un un_neg ha).imp fun τ H Q ⟨σ, M, ι, hs, hm, h⟩ => ?_
  rw [ev] at h
  refine ⟨σ, M, ι, hs, hm, PostE.bind h fun x M1 v H1 ι1 e1 m1 d1 h1 => ?_⟩
  cases d1 with
  | int i => exact ⟨i, rfl, h1 _ _ _ Ext.refl m1 (.int _)⟩
  | _ => exact h1.elim
theorem ma_nil : PA X [] (tA T X.K W F .nil) := pa_nil.imp fun τ H Q ⟨σ, M, ι, hs, hm, h⟩ => by
  rw [evs] at h
  exact h _ _ _ Ext.refl hm .nil
theorem ma_cons {es : List Expr} {ces : Es} (ha : PE X a (tE T X.K W F ca)) (hr : PA X es (tA T X.K W F ces)) (hs : starEach (a :: es) X.env = (false, eval a X.env) :: starEach es X.env) : PA X (a :: es) (tA T X.K W F (.cons ca ces)) := by
  refine (pa_cons ha hr hs).imp fun τ H Q ⟨σ, M, ι, hs, hm, h⟩ => ?_
  rw [evs] at h
  refine ⟨σ, M, ι, hs, hm, PostE.bindA h fun x M1 v H1 ι1 e1 m1 d1 h1 => ?_⟩
  refine ⟨σ, M1, ι1, hs.ex e1, m1, PostA.bind h1 fun xs M2 vs H2 ι2 e2 m2 d2 h2 => ?_⟩
  exact h2 _ _ _ Ext.refl m2 (.cons (d1.ex e2) d2)
theorem me_tup {es : List Expr} {ces : Es} {j : Nat} (ha : PA X es (tA T X.K W F ces)) : PE X (.Tuple es j pos) (tE T X.K W F (.tup ces)) := by
  refine (pe_tup ha).imp fun τ H Q ⟨σ, M, ι, hs, hm, h⟩ => ?_
  rw [ev] at h
  refine ⟨σ, M, ι, hs, hm, PostA.bindE h fun xs M1 vs H1 ι1 e1 m1 d1 h1 => ?_⟩
  unfold newT at h1
  split at h1
  · rename_i hl
    refine ⟨by rw [← d1.len, sizeLine_eq]; exact hl, fun p hp => ?_⟩
    exact h1 _ _ _ (Ext.newT hp) (m1.newT hp) (.tup (SqT.of upd_same) (d1.ex (Ext.newT hp)))
  · exact h1.elim
end
end Mi

/-! Mi5: operators by values. -/
namespace Mi
open PySem PySem.Spec
    PyProof.Rows L2
def rBin (T : XT) (K : PySem.W.Frag) (W : WX) (o : Bop) : R2 := fun x y H Q => ∃ dx dy M ι, HM K H ι M ∧ DV K H ι dx x ∧ DV K H ι dy y ∧ PostE T K W [] H ι (binM o dx dy M) Q
section
variable {X : Cx} {T : XT} {W : WX}
theorem ifo_post {K : PySem.W.Frag} {τ : St} {H : Hp} {ι : List Addr} {c : Bool} {r : R D} {Q : VK} (h : PostE T K W τ H ι (ifo c r) Q) : c = true ∧ PostE T K W τ H ι r Q := by
  unfold ifo at h
  cases c with
  | true => exact ⟨rfl, h⟩
  | false => exact h.elim
theorem str_app (a b : List Nat) : (⟨a.toArray⟩ : Str) ++ ⟨b.toArray⟩ = ⟨(a ++ b).toArray⟩ := by
  show Str.append _ _ = _
  unfold Str.append
  simp
theorem str_len (a : List Nat) : (⟨a.toArray⟩ : Str).length = a.length := by simp [Str.length]
theorem mo_add : OpR X (binaryOp .Add) (rBin T X.K W .add) := by
  intro pins s σ H x y v u Q I rx ry ⟨dx, dy, M, ι, hm, hx, hy, h⟩
  cases hx with
  | int i =>
    cases hy with
    | int j => exact op_add pins s σ H _ _ v u Q I rx ry ⟨i, j, rfl, rfl, h _ _ _ Ext.refl hm (.int _)⟩
    | _ => exact False.elim h
  | str a =>
    cases hy with
    | str b =>
      obtain ⟨hl, h⟩ := ifo_post h
      have hl := of_decide_eq_true hl
      refine op_add_str pins s σ H _ _ v u Q I rx ry ⟨_, _, rfl, rfl, by rw [str_len, str_len, sizeLine_eq]; exact hl, ?_⟩
      rw [str_app]
      exact h _ _ _ Ext.refl hm (.str _)
    | _ => exact False.elim h
  | tup h1 r1 =>
    cases hy with
    | tup h2 r2 =>
      obtain ⟨hl, h⟩ := ifo_post h
      have hl := of_decide_eq_true hl
      refine op_catA pins s σ H _ _ v u Q I rx ry ⟨_, _, _, _, rfl, rfl, h1, h2, by rw [← r1.len, ← r2.len, sizeLine_eq]; exact hl, fun e => ?_, fun _ e => ?_, fun _ _ p hp => ?_⟩
      · subst e
        cases r1
        exact h _ _ _ Ext.refl hm (.tup h2 r2)
      · subst e
        cases r2
        rw [List.append_nil] at h
        exact h _ _ _ Ext.refl hm (.tup h1 r1)
      · exact h _ _ _ (Ext.newT hp) (hm.newT hp) (.tup (SqT.of upd_same) ((r1.app r2).ex (Ext.newT hp)))
    | _ => exact False.elim h
  | ref e1 =>
    cases hy with
    | ref e2 =>
      obtain ⟨o1, m1, w1⟩ := hm.at e1
      obtain ⟨o2, m2, w2⟩ := hm.at e2
      simp only [binM, m1, m2] at h
      cases o1 with
      | lst d1 =>
        cases o2 with
        | lst d2 =>
          obtain ⟨hl, h⟩ := ifo_post h
          have hl := of_decide_eq_true hl
          obtain ⟨x1, a1, r1⟩ := w1
          obtain ⟨x2, a2, r2⟩ := w2
          refine op_cat pins s σ H _ _ v u Q I rx ry ⟨_, _, _, _, rfl, rfl, a1, a2, by rw [← r1.len, ← r2.len, sizeLine_eq]; exact hl, fun p hp => ?_⟩
          rw [← hm.len] at h
          have ex := Ext.newM (ι := ι) (o := .lst (x1 ++ x2)) hp
          exact h _ _ _ ex (hm.newM hp ⟨_, upd_same, (r1.app r2).ex ex⟩) (.ref (by simp))
        | _ => exact False.elim h
      | _ => exact False.elim h
    | _ => exact False.elim h
  | _ => exact False.elim h
theorem mo_sub : OpR X (binaryOp .Sub) (rBin T X.K W .sub) := by
  intro pins s σ H x y v u Q I rx ry ⟨dx, dy, M, ι, hm, hx, hy, h⟩
  cases hx with
  | int i =>
    cases hy with
    | int j => exact op_sub pins s σ H _ _ v u Q I rx ry ⟨i, j, rfl, rfl, h _ _ _ Ext.refl hm (.int _)⟩
    | _ => exact False.elim h
  | _ => exact False.elim h
theorem mo_fdiv : OpR X (binaryOp .FloorDiv) (rBin T X.K W .fdiv) := by
  intro pins s σ H x y v u Q I rx ry ⟨dx, dy, M, ι, hm, hx, hy, h⟩
  cases hx with
  | int i =>
    cases hy with
    | int j =>
      obtain ⟨hc, h⟩ := ifo_post h
      simp only [Bool.and_eq_true,
          decide_eq_true_eq] at hc
      exact op_fdivW pins s σ H _ _ v u Q I rx ry ⟨i, j, rfl, rfl, hc, h _ _ _ Ext.refl hm (.int _)⟩
    | _ => exact False.elim h
  | _ => exact False.elim h
theorem mo_mod : OpR X (binaryOp .Mod) (rBin T X.K W .mod) := by
  intro pins s σ H x y v u Q I rx ry ⟨dx, dy, M, ι, hm, hx, hy, h⟩
  cases hx with
  | int i =>
    cases hy with
    | int j =>
      obtain ⟨hc, h⟩ := ifo_post h
      exact op_mod pins s σ H _ _ v u Q I rx ry ⟨i, j, rfl, rfl, of_decide_eq_true hc, h _ _ _ Ext.refl hm (.int _)⟩
    | _ => exact False.elim h
  | _ => exact False.elim h
theorem mo_pow : OpR X (binaryOp .Pow) (rBin T X.K W .pow) := by
  intro pins s σ H x y v u Q I rx ry ⟨dx, dy, M, ι, hm, hx, hy, h⟩
  cases hx with
  | int i =>
    cases hy with
    | int j =>
      obtain ⟨hc, h⟩ := ifo_post h
      simp only [Bool.and_eq_true,
          decide_eq_true_eq] at hc
      exact op_pow pins s σ H _ _ v u Q I rx ry ⟨i, j, rfl, rfl, ⟨hc.1.1, hc.1.2, hc.2⟩, h _ _ _ Ext.refl hm (.int _)⟩
    | _ => exact False.elim h
  | _ => exact False.elim h
theorem mo_shl : OpR X (binaryOp .LShift) (rBin T X.K W .shl) := by
  intro pins s σ H x y v u Q I rx ry ⟨dx, dy, M, ι, hm, hx, hy, h⟩
  cases hx with
  | int i =>
    cases hy with
    | int j =>
      obtain ⟨hc, h⟩ := ifo_post h
      simp only [Bool.and_eq_true,
          decide_eq_true_eq] at hc
      exact op_shl pins s σ H _ _ v u Q I rx ry ⟨i, j, rfl, rfl, ⟨hc.1.1, hc.1.2, hc.2⟩, h _ _ _ Ext.refl hm (.int _)⟩
    | _ => exact False.elim h
  | _ => exact False.elim h
theorem mo_shr : OpR X (binaryOp .RShift) (rBin T X.K W .shr) := by
  intro pins s σ H x y v u Q I rx ry ⟨dx, dy, M, ι, hm, hx, hy, h⟩
  cases hx with
  | int i =>
    cases hy with
    | int j =>
      obtain ⟨hc, h⟩ := ifo_post h
      exact op_shr pins s σ H _ _ v u Q I rx ry ⟨i, j, rfl, rfl, of_decide_eq_true hc, h _ _ _ Ext.refl hm (.int _)⟩
    | _ => exact False.elim h
  | _ => exact False.elim h

/-! ### a text, a tuple so often -/
theorem tuple_mul_one (l : Addr) (items : Array Value) (n : Nat) (dd : Option Addr) (sl : Array (Option Value)) (x : Int) (u : Tok) (c0 : (decide (x < -(2 ^ 63)) || decide (x ≥ 2 ^ 63)) = false) (c1 : (items.isEmpty || x == 1) = true) :
    Meets (Builtin.«tuple.__mul__» ⟨[.ref l, .int x u], []⟩) (fun _ R s => s.heap.get? l = some { cls := .type "tuple", dict := dd, data := .seq items n, slots := sl } ∧ R (.ok (.ret (Value.ref l))) s) :=
  .of_wp fun prog
      w A R s h => by
    obtain ⟨hp, g,
        d, tk, os⟩ := s
    obtain ⟨hl, h⟩ := h
    have f1 := AutoSeq1.idx_int
    wp_walk using
        wpAny_loadPart' hl
    repeat (first
      | (refine wpAny_ite_false (decide_eq_false (by rw [c0]; exact
          Bool.false_ne_true)) ?_; wp_walk using wpAny_loadPart' hl)
      | (refine wpAny_ite_true (decide_eq_true (by rw [c1])) ?_; wp_walk using wpAny_loadPart' hl))
    exact ⟨_, rfl, h⟩
theorem tuple_mul_zero (l : Addr) (items : Array Value) (n : Nat) (dd : Option Addr) (sl : Array (Option Value)) (x : Int) (u : Tok) (c0 : (decide (x < -(2 ^ 63)) || decide (x ≥ 2 ^ 63)) = false) (c1 : (items.isEmpty || x == 1) = false) (c2 : (decide (x ≤ 0) || items.isEmpty) = true) :
    Meets (Builtin.«tuple.__mul__» ⟨[.ref l, .int x u], []⟩) (fun _ R s => s.heap.get?
        l = some { cls := .type "tuple", dict := dd, data := .seq items n, slots := sl } ∧
      R (.ok (.ret (Value.ref s.heap.objs.size))) { s with heap := s.heap.push { cls := Value.type "tuple", data := Data.seq #[] }, toks := s.toks }) :=
  .of_wp fun prog
      w A R s h => by
    obtain ⟨hp, g,
        d, tk, os⟩ := s
    obtain ⟨hl, h⟩ := h
    have f1 := AutoSeq1.idx_int
    wp_walk using
        wpAny_loadPart' hl
    repeat (first
      | (refine wpAny_ite_false (decide_eq_false (by rw [c0]; exact
          Bool.false_ne_true)) ?_; wp_walk using wpAny_loadPart' hl)
      | (refine wpAny_ite_false (decide_eq_false (by rw [c1]; exact
          Bool.false_ne_true)) ?_; wp_walk using wpAny_loadPart' hl)
      | (refine wpAny_ite_true (decide_eq_true (by rw [c2])) ?_; wp_walk using wpAny_loadPart' hl)
      | (refine wpAny_ite_false (decide_eq_false (Nat.not_lt.mpr (Nat.zero_le _))) ?_; wp_walk using wpAny_loadPart' hl))
    exact ⟨_, rfl, h⟩
theorem rep_one {α : Type} (xs : List α) : rep 1 xs = xs := by simp [rep]
theorem rep_neg {α : Type} (k : Int) (xs : List α) (h : k ≤ 0) : rep k xs = [] := by
  have e : k.toNat = 0 := by omega
  simp [rep, e]
theorem rep_nil {α : Type} (k : Int) : rep k ([] : List α) = [] := by simp [rep]
theorem op_rep_tup : OpR X (binaryOp .Mult) (fun x y H Q => ∃ l k xs, x = .ref l ∧ y = .int k ∧ SqT X.K H l xs ∧ (-(2 ^ 62) ≤ k ∧ k < 2 ^ 62) ∧ xs.length * k.toNat ≤ lim ∧
    (rep k xs = xs → Q (.ref l) H) ∧ ∀ p, H p = none → Q (.ref p) (upd H p (.tup (rep k xs)))) := by
  intro pins s σ H x
      y v u Q I rx ry h
  obtain ⟨l, k, xs, rfl, rfl, hT, ⟨h1, h2⟩, hz, q1, q⟩ := h
  cases rx
  obtain ⟨t, rfl⟩ := ry
  obtain ⟨its, r, ⟨⟨cls, dd, data, sl⟩,
      ho, hc, n, hd⟩, hs⟩ := I.tuple hT
  simp only at hc hd
  subst hc hd
  have hle : its.length =
      xs.length := r.length.symm
  have hz2 : xs.length * k.toNat ≤ 16777216 := hz
  have c0 : (decide (k < -(2 ^ 63)) ||
      decide (k ≥ 2 ^ 63)) = false := by
    rw [decide_eq_false (by omega), decide_eq_false (by omega)]
    rfl
  refine wpAny_binaryOp_repeat_ref (T := "tuple") (U := "int") (by decide) ⟨_, ho, rfl⟩ (fun s' => typeIs_int s' k t) noFill_tuple_mul F.fills_int_mul F.slot_int_rmul repeat_tuple F.slot_int_index.lookup ?_
  refine call_meets F.slot_int_rmul (typeIs_int s k t) F.entry_int_rmul (F.args_int_rmul_2 _ _) (int_rmul_tuple k t l its.toArray n dd sl) ⟨ho, rfl, ⟨_, ho, rfl⟩, ?_⟩
  by_cases e1 : (its.toArray.isEmpty || k == 1) = true
  · refine call_meets F.slot_tuple_mul ⟨_, ho, rfl⟩ F.entry_tuple_mul (F.args_tuple_mul_2 _ _) (tuple_mul_one l its.toArray n dd sl k t c0 e1) ⟨ho, ?_⟩
    refine ⟨.ref l, H, I.kept (t' := s.toks) fun b o e => e, rfl, q1 ?_⟩
    rcases Bool.or_eq_true_iff.mp e1 with e | e
    · have : xs = [] := List.eq_nil_of_length_eq_zero (by rw [← hle]; simpa using e)
      rw [this, rep_nil]
    · rw [beq_iff_eq.mp e, rep_one]
  · have c1 : (its.toArray.isEmpty || k == 1) = false := by simpa using e1
    have hi : its.toArray.isEmpty = false := (Bool.or_eq_false_iff.mp c1).1
    by_cases hk : k ≤ 0
    · refine call_meets F.slot_tuple_mul ⟨_, ho, rfl⟩ F.entry_tuple_mul (F.args_tuple_mul_2 _ _) (tuple_mul_zero l its.toArray n dd sl k t c0 c1 (by rw [decide_eq_true hk]; rfl)) ⟨ho, ?_⟩
      have q2 := q s.heap.objs.size (I.hok.fresh (Nat.le_refl _))
      rw [rep_neg k xs hk] at q2
      exact ⟨.ref s.heap.objs.size, _, I.laid (t' := s.toks) (o := .tup []) (fun b ob e => Heap.get?_push_of_some _ e) (Nat.le_refl _) ⟨Nat.zero_le _, [], .nil, IsTup.new _ _⟩, rfl, q2⟩
    · have c2 : (decide (k ≤ 0) || its.toArray.isEmpty) = false := by rw [hi, decide_eq_false hk]; rfl
      have hsz0 : its.toArray.size = xs.length
          := by rw [List.size_toArray, hle]
      have hmi : ((its.toArray.size : Nat) : Int) * k = ((xs.length * k.toNat : Nat) : Int) := by
        rw [hsz0, Int.natCast_mul, Int.toNat_of_nonneg (by omega)]
      have flen : (List.replicate k.toNat
          its).flatten.length ≤ sizeLine := by
        rw [PyProof.Rows.lm_len_rep_flat, hle, sizeLine_eq, Nat.mul_comm]
        exact hz
      have c4 : Builtin.Tuple.tupleTooMany
          (((its.toArray.size : Nat) : Int) * k) = false := by
        unfold
            Builtin.Tuple.tupleTooMany
        rw [sizeLine_eq, hmi]
        exact decide_eq_false
            (by omega)
      refine call_meets F.slot_tuple_mul ⟨_, ho, rfl⟩ F.entry_tuple_mul (F.args_tuple_mul_2 _ _) (tuple_mulW l its.toArray n dd sl k t c0 c1 c2 (by rw [hmi]; omega) c4 (by rw [size_rep, List.size_toArray]; exact flen)) ⟨ho, ?_⟩
      rw [size_rep]
      refine ⟨.ref s.heap.objs.size, _, I.laid (t' := s.toks) (o := .tup (rep k xs)) (fun b ob e => Heap.get?_push_of_some _ e) (Nat.le_refl _) ?_, rfl, q _ (I.hok.fresh (Nat.le_refl _))⟩
      refine ⟨?_, _, r.rep k.toNat, IsTup.new _ _⟩
      show (List.replicate k.toNat xs).flatten.length ≤ sizeLine
      rw [PyProof.Rows.lm_len_rep_flat, sizeLine_eq, Nat.mul_comm]
      exact hz
theorem fold_rep (z : List Nat) : ∀ (n : Nat) (acc : List Nat), (List.replicate n z.toArray).foldl (· ++ ·) acc.toArray = (acc ++ (List.replicate n z).flatten).toArray
  | 0, acc => by simp
  | n + 1, acc => by
    rw [List.replicate_succ, List.foldl_cons, List.append_toArray, fold_rep z n, List.replicate_succ, List.flatten_cons, List.append_assoc]
theorem op_rep_str : OpR X (binaryOp .Mult) (fun x y H Q => ∃ z k, x = .str ⟨(z : List Nat).toArray⟩ ∧ y = .int k ∧ (-(2 ^ 62) ≤ k ∧ k < 2 ^ 62) ∧ z.length * k.toNat ≤ lim ∧ Q (.str ⟨(rep k z).toArray⟩) H) := by
  intro pins s σ H x
      y v u Q I rx ry h
  obtain ⟨z, k, rfl, rfl, ⟨h1, h2⟩, hz, q⟩ := h
  obtain ⟨t, rfl⟩ := rx
  obtain ⟨t', rfl⟩ := ry
  have big : ¬ k < 1 → ((z.length * k.toNat : Nat) : Int) = (z.length : Int) * k := fun hk => by
    rw [Int.natCast_mul,
        Int.toNat_of_nonneg (by omega)]
  refine PySem.P.mul_str (by rw [decide_eq_false (by omega), decide_eq_false (by omega)]; rfl) (fun hk _ => ?_) (fun hk _ => ?_) ?_
  · rw [str_len]
    have hb := big hk
    intro hgt
    have h3 : (z.length : Int) * k ≤ 16777216 := by rw [← hb]; exact Int.ofNat_le.mpr hz
    have h4 : (2 ^ 63 - 1 : Int) / k < (z.length : Int) := hgt
    have h5 : (2 ^ 63 - 1 : Int) < (z.length : Int) * k := (Int.ediv_lt_iff_lt_mul (by omega : (0 : Int) < k)).mp h4
    omega
  · rw [str_len]
    have hz2 : z.length * k.toNat ≤ 16777216 := hz
    unfold PySem.Builtin.Str.tooLong
    rw [sizeLine_eq]
    exact decide_eq_false
        (by omega)
  · by_cases hk : k < 1
    · rw [if_pos hk]
      rw [rep_neg k z (by omega)] at q
      exact ⟨by decide, ⟨.str _, H, I.tok _, ⟨_, rfl⟩, q⟩⟩
    · rw [if_neg hk]
      by_cases e : (k == 1 || (⟨z.toArray⟩ : Str).length == 0) = true
      · rw [if_pos e]
        have er : rep k z = z := by
          rcases Bool.or_eq_true_iff.mp e with e | e
          · rw [beq_iff_eq.mp e, rep_one]
          · have : z = [] := List.eq_nil_of_length_eq_zero (by simpa [str_len] using e)
            rw [this, rep_nil]
        rw [er] at q
        exact ⟨.str _, H, I, ⟨_, rfl⟩, q⟩
      · rw [if_neg e]
        have ef : (List.replicate k.toNat z.toArray).foldl (· ++ ·) #[] = (rep k z).toArray := by
          have := fold_rep z k.toNat []
          rw [List.nil_append] at this
          exact this
        have hl : (rep k z).length ≤ lim := by
          show (List.replicate k.toNat z).flatten.length ≤ _
          rw [PyProof.Rows.lm_len_rep_flat, Nat.mul_comm]
          exact hz
        show (Made.str ⟨(List.replicate k.toNat z.toArray).foldl (· ++ ·) #[]⟩).post _ _
        rw [ef]
        exact ⟨by rw [str_len, sizeLine_eq]; exact hl, ⟨.str _, H, I.tok _, ⟨_, rfl⟩, q⟩⟩
theorem rep_len {α : Type} (k : Int) (xs : List α) : (rep k xs).length = xs.length * k.toNat := by
  show (List.replicate k.toNat xs).flatten.length = _
  rw [PyProof.Rows.lm_len_rep_flat, Nat.mul_comm]
theorem mo_mul : OpR X (binaryOp .Mult) (rBin T X.K W .mul) := by
  intro pins s σ H x y v u Q I rx ry ⟨dx, dy, M, ι, hm, hx, hy, h⟩
  cases hx with
  | int i =>
    cases hy with
    | int j =>
      obtain ⟨hc, h⟩ := ifo_post h
      simp only [decide_eq_true_eq] at hc
      exact op_mulW pins s σ H _ _ v u Q I rx ry ⟨i, j, rfl, rfl, hc, h _ _ _ Ext.refl hm (.int _)⟩
    | _ => exact False.elim h
  | str a =>
    cases hy with
    | int k =>
      obtain ⟨hc, h⟩ := ifo_post h
      simp only [Bool.and_eq_true,
          decide_eq_true_eq] at hc
      exact op_rep_str pins s σ H _ _ v u Q I rx ry ⟨a, k, rfl, rfl, hc.1, hc.2, h _ _ _ Ext.refl hm (.str _)⟩
    | _ => exact False.elim h
  | tup h1 r1 =>
    cases hy with
    | int k =>
      obtain ⟨hc, h⟩ := ifo_post h
      simp only [Bool.and_eq_true,
          decide_eq_true_eq] at hc
      refine op_rep_tup pins s σ H _ _ v u Q I rx ry ⟨_, k, _, rfl, rfl, h1, hc.1, by rw [← r1.len]; exact hc.2, fun e => ?_, fun p hp => ?_⟩
      · refine h _ _ _ Ext.refl hm (.tup h1 ?_)
        have := r1.reps k.toNat
        rw [show (List.replicate k.toNat _).flatten = rep k _ from rfl, show (List.replicate k.toNat _).flatten = rep k _ from rfl, e] at this
        exact this
      · exact h _ _ _ (Ext.newT hp) (hm.newT hp) (.tup (SqT.of upd_same) ((r1.reps k.toNat).ex (Ext.newT hp)))
    | _ => exact False.elim h
  | ref e1 =>
    cases hy with
    | int k =>
      obtain ⟨o1, m1, w1⟩ := hm.at e1
      simp only [binM, m1] at h
      cases o1 with
      | lst d1 =>
        obtain ⟨hc, h⟩ := ifo_post h
        simp only [Bool.and_eq_true,
            decide_eq_true_eq] at hc
        obtain ⟨x1, a1, r1⟩ := w1
        refine op_rep pins s σ H _ _ v u Q I rx ry ⟨_, k, _, rfl, rfl, a1, by omega, by omega, by rw [← r1.len, sizeLine_eq]; exact hc.2, fun p hp => ?_⟩
        rw [← hm.len] at h
        have ex := Ext.newM (ι := ι) (o := .lst (List.replicate k.toNat x1).flatten) hp
        exact h _ _ _ ex (hm.newM hp ⟨_, upd_same, (r1.reps k.toNat).ex ex⟩) (.ref (by simp))
      | _ => exact False.elim h
    | _ => exact False.elim h
  | _ => exact False.elim h
theorem mo_any (o : Bop) (op : Operator) (h : OpR X (binaryOp op) (rBin T X.K W o)) : OpR X (binaryOp op) (rBin T X.K W o) := h
theorem bin_noexc (o : Bop) (x y : D) (M : Hm) (e : Ex) (M' : Hm) : binM o x y M ≠ some (.exc e M') := by
  have i : ∀ (c : Bool) (d : D) (M1 : Hm), ifo c (ok d M1) ≠ some (.exc e M') := fun c d M1 h => by
    cases c <;> simp [ifo, ok] at h
  intro h
  unfold binM at h
  split at h <;> first
    | exact i _ _ _ h
    | (simp [ok] at h; done)
    | (cases h; done)
    | (split at h <;> first
        | exact i _ _ _ h
        | (cases h; done))
end
end Mi

/-! Mi6: data as a whole, comparisons, subscripts by values. -/
namespace Mi
open PySem PySem.Spec
    PyProof.Rows L2

/-! ### a value as data -/
section
variable {K : PySem.W.Frag} {H : Hp} {ι : List Addr} {M : Hm}
mutual
theorem dp_py : ∀ {d : D} {v : V}, DV K H ι d v → ∀ p, D.py d = some p → Dp K H v p
  | _, _, .non, p, e => by simp only [D.py] at e; cases e; exact .non
  | _, _, .bl b, p, e => by simp only [D.py] at e; cases e; exact .bl b
  | _, _, .int i, p, e => by simp only [D.py] at e; cases e; exact .int i
  | _, _, .str x, p, e => by simp only [D.py] at e; cases e; exact .str _
  | _, _, .tup h r, p, e => by
    simp only [D.py, Option.map_eq_some_iff] at e
    obtain ⟨ps, e1, e2⟩ := e
    subst e2
    exact .tup h (dp_pys r ps e1)
  | _, _, .ref _, p, e => by simp [D.py] at e
  | _, _, .rol _, p, e => by simp [D.py] at e
theorem dp_pys : ∀ {d : List D} {v : List V}, DVs K H ι d v → ∀ p, D.pys d = some p → DpAll K H v p
  | _, _, .nil, p, e => by simp only [D.pys] at e; cases e; exact .nil
  | _, _, .cons h r, p, e => by
    simp only [D.pys, Option.bind_eq_some_iff, Option.map_eq_some_iff] at e
    obtain ⟨q, e1, qs, e2, e3⟩ := e
    subst e3
    exact .cons (dp_py h q e1) (dp_pys r qs e2)
end
theorem mapM_cons {α β : Type} (f : α → Option β) (a : α) (r : List α) (ps : List β) (h : (a :: r).mapM f = some ps) : ∃ p qs, f a = some p ∧ r.mapM f = some qs ∧ ps = p :: qs := by
  rw [List.mapM_cons] at h
  simp only [Option.bind_eq_bind, Option.bind_eq_some_iff, Option.pure_def, Option.some.injEq] at h
  obtain ⟨p, e1, qs, e2, e3⟩ := h
  exact ⟨p, qs, e1, e2, e3.symm⟩
theorem dp_all {n : Nat} (ih : ∀ {d : D} {v : V}, DV K H ι d v → ∀ p, pyM M n d = some p → p.canLay0 = true → Dp K H v p) : ∀ {ds : List D} {vs : List V}, DVs K H ι ds vs → ∀ ps, ds.mapM (pyM M n) = some ps → PyData.canLayAll0 ps = true → DpAll K H vs ps
  | _, _, .nil, ps, e, _ => by
    simp at e
    subst e
    exact .nil
  | _, _, .cons h r, ps, e, c => by
    obtain ⟨p, qs, e1, e2, e3⟩ := mapM_cons _ _ _ _ e
    subst e3
    simp only [PyData.canLayAll0, Bool.and_eq_true] at c
    exact .cons (ih h p e1 c.1) (dp_all ih r qs e2 c.2)
theorem dp_of (m : HM K H ι M) : ∀ (n : Nat) {d : D} {v : V}, DV K H ι d v → ∀ p, pyM M n d = some p → p.canLay0 = true → Dp K H v p
  | 0, _, _, h, p, e, c => dp_py h p (by simpa only [pyM] using e)
  | n + 1, _, _, h, p, e, c => by
    cases h with
    | ref hi =>
      obtain ⟨o, em, om⟩ := m.at hi
      simp only [pyM, em] at e
      cases o with
      | lst ds =>
        obtain ⟨vs, e1, r⟩ := om
        simp only [Option.map_eq_some_iff] at e
        obtain ⟨ps, e2, e3⟩ := e
        subst e3
        exact .lst (SqL.of e1) (dp_all (fun h => dp_of m n h) r ps e2 (by simpa [PyData.canLay0] using c))
      | dct kvs =>
        simp only [Option.map_eq_some_iff] at e
        obtain ⟨ps, e2, e3⟩ := e
        subst e3
        simp [PyData.canLay0] at c
    | tup hq r =>
      simp only [pyM, Option.map_eq_some_iff] at e
      obtain ⟨ps, e2, e3⟩ := e
      subst e3
      exact .tup hq (dp_all (fun h => dp_of m n h) r ps e2 (by simpa [PyData.canLay0] using c))
    | rol h => simp [pyM, D.py] at e
    | non => exact dp_py (ι := ι) .non p (by simpa only [pyM] using e)
    | bl b => exact dp_py (ι := ι) (.bl b) p (by simpa only [pyM] using e)
    | int i => exact dp_py (ι := ι) (.int i) p (by simpa only [pyM] using e)
    | str x => exact dp_py (ι := ι) (.str x) p (by simpa only [pyM] using e)
theorem shaped_lay {p : PyData} (h : SeqAt.shaped p = true) : p.canLay0 = true := by
  unfold SeqAt.shaped at h
  exact (Bool.and_eq_true_iff.mp h).1
end

section
variable {X : Cx} {T : XT} {W : WX}
theorem peq_atom {K : PySem.W.Frag} {H : Hp} {ι : List Addr} {x y : D} {v u : V} (hx : DV K H ι x v) (hy : DV K H ι y u) (ax : x.atom = true) (ay : y.atom = true) : L2.eqV v u = D.peq x y ∧ flatV v = true ∧ flatV u = true := by
  have bs : ∀ a b : List Nat, ((⟨a.toArray⟩ : Str) == ⟨b.toArray⟩) = (a == b) := fun a b => by
    by_cases e : a = b
    · subst e; simp
    · rw [beq_eq_false_iff_ne.mpr e]
      refine beq_eq_false_iff_ne.mpr fun q => e ?_
      injection q with q
      simpa using congrArg Array.toList q
  cases hx <;> first
    | exact absurd ax Bool.false_ne_true
    | (cases hy <;> first
        | exact absurd ay Bool.false_ne_true
        | exact ⟨rfl, rfl, rfl⟩
        | exact ⟨bs _ _, rfl, rfl⟩)
/-- two of a kind, one of them empty -/
def EmpR (K : PySem.W.Frag) (H : Hp) (x y : V) (k : Bool) : Prop :=
  (∃ a b xs ys, x = .ref a ∧ y = .ref b ∧ SqT K H a xs ∧ SqT K H b ys ∧ (xs = [] ∨ ys = []) ∧ k = (xs.isEmpty && ys.isEmpty)) ∨
  ∃ a b xs ys, x = .ref a ∧ y = .ref b ∧ H a = some (.lst xs) ∧ H b = some (.lst ys) ∧ (xs = [] ∨ ys = []) ∧ k = (xs.isEmpty && ys.isEmpty)
theorem emp_len {α β γ δ : Type} {a : List α} {b : List β} {xs : List γ} {ys : List δ} (h1 : a.length = xs.length) (h2 : b.length = ys.length) (h : (a.isEmpty || b.isEmpty) = true) : (xs = [] ∨ ys = []) ∧ (a.isEmpty && b.isEmpty) = (xs.isEmpty && ys.isEmpty) := by
  cases a <;> cases b <;> cases xs <;> cases ys <;> simp_all
theorem eq_data {K : PySem.W.Frag} {H : Hp} {ι : List Addr} {M : Hm} (m : HM K H ι M) {x y : D} {v u : V} {k : Bool} (hx : DV K H ι x v) (hy : DV K H ι y u) (e : eqM M x y = some k) :
    (x.atom = true ∧ y.atom = true ∧ k = D.peq x y) ∨ (∃ p q, Dp K H v p ∧ Dp K H u q ∧ SeqAt.shaped p = true ∧ SeqAt.shaped q = true ∧ k = PyData.eqv p q) ∨ EmpR K H v u k := by
  unfold eqM at e
  split at e
  · rename_i h
    simp only
        [Bool.and_eq_true] at h
    cases e
    exact .inl ⟨h.1, h.2, rfl⟩
  · split at e
    · rename_i k' hk
      cases e
      unfold dataEq at hk
      simp only [Option.bind_eq_some_iff] at hk
      obtain ⟨p, e1, q, e2, e3⟩ := hk
      split at e3
      · rename_i h
        simp only
            [Bool.and_eq_true] at h
        cases e3
        exact .inr (.inl ⟨p, q, dp_of m 65 hx p e1 (shaped_lay h.1), dp_of m 65 hy q e2 (shaped_lay h.2), h.1, h.2, rfl⟩)
      · cases e3
    · refine .inr (.inr ?_)
      cases hx with
      | tup s1 r1 =>
        cases hy with
        | tup s2 r2 =>
          simp only [empM] at e
          split at e
          · rename_i h
            cases e
            obtain ⟨z1, z2⟩ := emp_len r1.len r2.len h
            exact .inl ⟨_, _, _, _, rfl, rfl, s1, s2, z1, z2⟩
          · cases e
        | _ => cases e
      | ref h1 =>
        cases hy with
        | ref h2 =>
          obtain ⟨o1, em1, om1⟩ := m.at h1
          obtain ⟨o2, em2, om2⟩ := m.at h2
          simp only [empM, em1, em2] at e
          cases o1 with
          | lst a =>
            cases o2 with
            | lst b =>
              obtain ⟨vs, q1, r1⟩ := om1
              obtain ⟨ws, q2, r2⟩ := om2
              simp only at e
              split at e
              · rename_i h
                cases e
                obtain ⟨z1, z2⟩ := emp_len r1.len r2.len h
                exact .inr ⟨_, _, _, _, rfl, rfl, q1, q2, z1, z2⟩
              · cases e
            | _ => cases e
          | _ => cases e
        | _ => cases e
      | _ => cases hy <;> cases e
theorem emp_eq {α β : Type} {xs : List α} {ys : List β} (he : xs = [] ∨ ys = []) : ((List.range (min xs.length ys.length)).all (fun _ => true) && xs.length == ys.length) = (xs.isEmpty && ys.isEmpty) := by
  rcases he with rfl | rfl
  · cases ys <;> simp
  · cases xs <;> simp
theorem emp_eq2 {α β : Type} {xs : List α} {ys : List β} (he : xs = [] ∨ ys = []) (hl : xs.length = ys.length) : (List.range xs.length).all (fun _ => true) = (xs.isEmpty && ys.isEmpty) := by
  rcases he with rfl | rfl
  · cases ys with
    | nil => rfl
    | cons _ _ => simp at hl
  · cases xs with
    | nil => rfl
    | cons _ _ => simp at hl
theorem emp_ne {α β : Type} {xs : List α} {ys : List β} (hl : ¬ xs.length = ys.length) : false = (xs.isEmpty && ys.isEmpty) := by
  cases xs <;> cases ys <;> simp_all
theorem op_eqE (hu : X.A.units + 64 < cLine) : OpR X (compareOp .Eq) (fun x y H Q => ∃ k, EmpR X.K H x y k ∧ Q (.bl k) H) := by
  intro pins s σ H x
      y v u Q I rx ry h
  obtain ⟨k, h, q⟩ := h
  rcases h with ⟨a, b, xs, ys, rfl, rfl, ha, hb, he, rfl⟩ | ⟨a, b, xs, ys, rfl, rfl, ha, hb, he, rfl⟩
  · cases rx
    cases ry
    obtain ⟨its, r1,
        p1, _⟩ := I.tuple ha
    obtain ⟨its2, r2,
        p2, _⟩ := I.tuple hb
    have l1 := r1.length
    have l2 := r2.length
    refine SeqAt.eq_tupleAt (e := fun _ => true) p1 p2 (by omega) (fun j h1 h2 => ?_) ⟨.bl _, H, I, rfl, ?_⟩
    · rw [List.size_toArray] at h1 h2
      rcases he with rfl | rfl
      · simp at l1; omega
      · simp at l2; omega
    · rw [List.size_toArray, List.size_toArray, ← l1, ← l2, emp_eq he]
      exact q
  · cases rx
    cases ry
    obtain ⟨z, its, n, r, hl, e⟩ := I.lstM ha
    obtain ⟨z2, its2, n2, r2, hl2, e2⟩ := I.lstM hb
    have p1 : s.heap.IsList a its.toArray := ⟨_, e, rfl, n, rfl⟩
    have p2 : s.heap.IsList b its2.toArray := ⟨_, e2, rfl, n2, rfl⟩
    by_cases hs : xs.length = ys.length
    · refine SeqAt.eq_listAt (e := fun _ => true) p1 p2 (by rw [List.size_toArray, List.size_toArray, ← hl, ← hl2, hs]) (by omega) (fun j h1 h2 => ?_) ⟨.bl _, H, I, rfl, ?_⟩
      · rw [List.size_toArray] at h1 h2
        rcases he with rfl | rfl
        · simp at hl; omega
        · simp at hl2; omega
      · rw [List.size_toArray, ← hl, emp_eq2 he hs]
        exact q
    · refine SeqAt.eq_list_lengthsAt p1 p2 (by simp [← hl, ← hl2, hs]) (by omega) ⟨.bl _, H, I, rfl, ?_⟩
      rw [emp_ne hs]
      exact q
theorem op_neE (hu : X.A.units + 64 < cLine) : OpR X (compareOp .NotEq) (fun x y H Q => ∃ k, EmpR X.K H x y k ∧ Q (.bl (!k)) H) := by
  intro pins s σ H x
      y v u Q I rx ry h
  obtain ⟨k, h, q⟩ := h
  rcases h with ⟨a, b, xs, ys, rfl, rfl, ha, hb, he, rfl⟩ | ⟨a, b, xs, ys, rfl, rfl, ha, hb, he, rfl⟩
  · cases rx
    cases ry
    obtain ⟨its, r1,
        p1, _⟩ := I.tuple ha
    obtain ⟨its2, r2,
        p2, _⟩ := I.tuple hb
    have l1 := r1.length
    have l2 := r2.length
    refine SeqAt.RcNeAt.tuples (e := fun _ => true) p1 p2 (by omega) (fun j h1 h2 => ?_) X.prog X.w X.xe _ ⟨.bl _, H, I, rfl, ?_⟩
    · rw [List.size_toArray] at h1 h2
      rcases he with rfl | rfl
      · simp at l1; omega
      · simp at l2; omega
    · rw [List.size_toArray, List.size_toArray, ← l1, ← l2, emp_eq he]
      exact q
  · cases rx
    cases ry
    obtain ⟨z, its, n, r, hl, e⟩ := I.lstM ha
    obtain ⟨z2, its2, n2, r2, hl2, e2⟩ := I.lstM hb
    have p1 : s.heap.IsList a its.toArray := ⟨_, e, rfl, n, rfl⟩
    have p2 : s.heap.IsList b its2.toArray := ⟨_, e2, rfl, n2, rfl⟩
    by_cases hs : xs.length = ys.length
    · refine SeqAt.RcNeAt.lists (e := fun _ => true) p1 p2 (by rw [List.size_toArray, List.size_toArray, ← hl, ← hl2, hs]) (by omega) (fun j h1 h2 => ?_) X.prog X.w X.xe _ ⟨.bl _, H, I, rfl, ?_⟩
      · rw [List.size_toArray] at h1 h2
        rcases he with rfl | rfl
        · simp at hl; omega
        · simp at hl2; omega
      · rw [List.size_toArray, ← hl, emp_eq2 he hs]
        exact q
    · refine SeqAt.RcNeAt.lists_lengths p1 p2 (by simp [← hl, ← hl2, hs]) (by omega) X.prog X.w X.xe _ ⟨.bl _, H, I, rfl, ?_⟩
      rw [← emp_ne hs] at q
      exact q
/-- == of values without parts -/
theorem op_eqV : OpR X (compareOp .Eq) (fun x y H Q => flatV x = true ∧ flatV y = true ∧ Q (.bl (L2.eqV x y)) H) := by
  intro pins s σ H x
      y v u Q I rx ry h
  obtain ⟨fx, fy, q⟩ := h
  have go : ∀ {a b : Value} {k : Bool}, SeqAt.RcAt X.A s a b k → k = L2.eqV x y → wpAny (model X.prog X.w) X.A (compareOp .Eq a b) (EP X pins σ Q) X.xe s := fun {a b k} hr e => hr X.prog X.w X.xe _ ⟨.bl k, H, I, rfl, by rw [e]; exact q⟩
  cases x with
  | non =>
    cases rx
    cases y with
    | non =>
      cases ry
      exact go (SeqAt.RcAt.none_none) rfl
    | bl b' =>
      cases ry
      exact go (SeqAt.RcAt.none_bool _) rfl
    | int i' =>
      obtain ⟨t', rfl⟩ := ry
      exact go (SeqAt.RcAt.none_int _ _) rfl
    | str z' =>
      obtain ⟨t', rfl⟩ := ry
      exact go (SeqAt.RcAt.none_str _ _) rfl
    | _ => exact absurd fy Bool.false_ne_true
  | bl b =>
    cases rx
    cases y with
    | non =>
      cases ry
      exact go (SeqAt.RcAt.bool_none _) rfl
    | bl b' =>
      cases ry
      exact go (SeqAt.RcAt.bool_bool _ _) rfl
    | int i' =>
      obtain ⟨t', rfl⟩ := ry
      exact go (SeqAt.RcAt.bool_int _ _ _) rfl
    | str z' =>
      obtain ⟨t', rfl⟩ := ry
      exact go (SeqAt.RcAt.bool_str _ _ _) rfl
    | _ => exact absurd fy Bool.false_ne_true
  | int i =>
    obtain ⟨t, rfl⟩ := rx
    cases y with
    | non =>
      cases ry
      exact go (SeqAt.RcAt.int_none _ _) rfl
    | bl b' =>
      cases ry
      exact go (SeqAt.RcAt.int_bool _ _ _) rfl
    | int i' =>
      obtain ⟨t', rfl⟩ := ry
      exact go (SeqAt.RcAt.int_int _ _ _ _) rfl
    | str z' =>
      obtain ⟨t', rfl⟩ := ry
      exact go (SeqAt.RcAt.int_str _ _ _ _) rfl
    | _ => exact absurd fy Bool.false_ne_true
  | str z =>
    obtain ⟨t, rfl⟩ := rx
    cases y with
    | non =>
      cases ry
      exact go (SeqAt.RcAt.str_none _ _) rfl
    | bl b' =>
      cases ry
      exact go (SeqAt.RcAt.str_bool _ _ _) rfl
    | int i' =>
      obtain ⟨t', rfl⟩ := ry
      exact go (SeqAt.RcAt.str_int _ _ _ _) rfl
    | str z' =>
      obtain ⟨t', rfl⟩ := ry
      exact go (SeqAt.RcAt.str_str _ _ _ _) rfl
    | _ => exact absurd fy Bool.false_ne_true
  | _ => exact absurd fx Bool.false_ne_true
theorem mc_eq (hu : X.A.units + 64 < cLine) : OpR X (compareOp .Eq) (rCmp X.K .eq) := by
  intro pins s σ H x y v u Q I rx ry ⟨dx, dy, M, ι, k, hm, hx, hy, e, h⟩
  rcases eq_data hm hx hy e with ⟨a1, a2, a3⟩ | ⟨p, q, h1, h2, s1, s2, a3⟩ | he
  · obtain ⟨b1, b2, b3⟩ := peq_atom hx hy a1 a2
    refine op_eqV pins s σ H x y v u Q I rx ry ⟨b2, b3, ?_⟩
    rw [b1, ← a3]
    exact h
  · subst a3
    exact op_eqD hu pins s σ H x y v u Q I rx ry ⟨p, q, h1, h2, s1, s2, h⟩
  · exact op_eqE hu pins s σ H x y v u Q I rx ry ⟨k, he, h⟩
theorem op_neV (hu : X.A.units + 64 < cLine) : OpR X (compareOp .NotEq) (fun x y H Q => flatV x = true ∧ flatV y = true ∧ Q (.bl (!L2.eqV x y)) H) := by
  intro pins s σ H x
      y v u Q I rx ry h
  obtain ⟨fx, fy, q⟩ := h
  have go : scal x y = true → L2.eqV x y = decide (x = y) → wpAny (model X.prog X.w) X.A (compareOp .NotEq v u) (EP X pins σ Q) X.xe s := fun h1 h2 => by
    rw [h2] at q
    exact op_ne pins s σ H x y v u Q I rx ry ⟨h1, q⟩
  cases x with
  | non => cases y with
    | non => exact go rfl rfl
    | bl b => exact go rfl (by simp [L2.eqV])
    | int b => exact go rfl (by simp [L2.eqV])
    | str b => exact go rfl (by simp [L2.eqV])
    | _ => exact absurd fy Bool.false_ne_true
  | bl a => cases y with
    | non => exact go rfl (by simp [L2.eqV])
    | bl b => exact go rfl dec_bl.symm
    | int b => exact op_neD hu pins s σ H _ _ v u Q I rx ry ⟨_, _, .bl a, .int b, rfl, rfl, q⟩
    | str b => exact go rfl (by simp [L2.eqV])
    | _ => exact absurd fy Bool.false_ne_true
  | int a => cases y with
    | non => exact go rfl (by simp [L2.eqV])
    | bl b => exact op_neD hu pins s σ H _ _ v u Q I rx ry ⟨_, _, .int a, .bl b, rfl, rfl, q⟩
    | int b => exact go rfl dec_int.symm
    | str b => exact go rfl (by simp [L2.eqV])
    | _ => exact absurd fy Bool.false_ne_true
  | str a => cases y with
    | non => exact go rfl (by simp [L2.eqV])
    | bl b => exact go rfl (by simp [L2.eqV])
    | int b => exact go rfl (by simp [L2.eqV])
    | str b => exact go rfl dec_str.symm
    | _ => exact absurd fy Bool.false_ne_true
  | _ => exact absurd fx Bool.false_ne_true
theorem mc_ne (hu : X.A.units + 64 < cLine) : OpR X (compareOp .NotEq) (rCmp X.K .ne) := by
  intro pins s σ H x y v u Q I rx ry ⟨dx, dy, M, ι, k, hm, hx, hy, e, h⟩
  simp only [cmpM, Option.map_eq_some_iff] at e
  obtain ⟨k', e, e2⟩ := e
  subst e2
  rcases eq_data hm hx hy e with ⟨a1, a2, a3⟩ | ⟨p, q, h1, h2, s1, s2, a3⟩ | he
  · obtain ⟨b1, b2, b3⟩ := peq_atom hx hy a1 a2
    refine op_neV hu pins s σ H x y v u Q I rx ry ⟨b2, b3, ?_⟩
    rw [b1, ← a3]
    exact h
  · subst a3
    exact op_neD hu pins s σ H x y v u Q I rx ry ⟨p, q, h1, h2, s1, s2, h⟩
  · exact op_neE hu pins s σ H x y v u Q I rx ry ⟨k', he, h⟩
theorem mc_le : OpR X (compareOp .LtE) (rCmp X.K .le) := by
  intro pins s σ H x y v u Q I rx ry ⟨dx, dy, M, ι, k, hm, hx, hy, e, h⟩
  cases hx with
  | int i => cases hy with
    | int j => cases e; exact op_le pins s σ H _ _ v u Q I rx ry ⟨i, j, rfl, rfl, h⟩
    | _ => cases e
  | _ => cases hy <;> cases e
theorem mc_gt : OpR X (compareOp .Gt) (rCmp X.K .gt) := by
  intro pins s σ H x y v u Q I rx ry ⟨dx, dy, M, ι, k, hm, hx, hy, e, h⟩
  cases hx with
  | int i => cases hy with
    | int j => cases e; exact op_gt pins s σ H _ _ v u Q I rx ry ⟨i, j, rfl, rfl, h⟩
    | _ => cases e
  | _ => cases hy <;> cases e
theorem mc_ge : OpR X (compareOp .GtE) (rCmp X.K .ge) := by
  intro pins s σ H x y v u Q I rx ry ⟨dx, dy, M, ι, k, hm, hx, hy, e, h⟩
  cases hx with
  | int i => cases hy with
    | int j => cases e; exact op_ge pins s σ H _ _ v u Q I rx ry ⟨i, j, rfl, rfl, h⟩
    | _ => cases e
  | _ => cases hy <;> cases e
theorem mc_lt (hu : X.A.units + 64 < cLine) : OpR X (compareOp .Lt) (rCmp X.K .lt) := by
  intro pins s σ H x y v u Q I rx ry ⟨dx, dy, M, ι, k, hm, hx, hy, e, h⟩
  cases hx with
  | int i => cases hy with
    | int j => cases e; exact op_lt pins s σ H _ _ v u Q I rx ry ⟨i, j, rfl, rfl, h⟩
    | _ => cases e
  | str i => cases hy with
    | str j => cases e; exact op_lt_str pins s σ H _ _ v u Q I rx ry ⟨_, _, rfl, rfl, h⟩
    | _ => cases e
  | ref h1 => cases hy with
    | ref h2 =>
      simp only [cmpM, ltData, Option.bind_eq_some_iff] at e
      obtain ⟨p, e1, q, e2, e3⟩ := e
      split at e3
      · rename_i ps
        split at e3
        · rename_i hh
          simp only [Bool.and_eq_true] at hh
          cases e3
          obtain ⟨as, r1⟩ := Dp.reads I _ _ _ (dp_of hm 65 (.ref h1) _ e1 (shaped_lay hh.1.1)) rx
          obtain ⟨bs, r2⟩ := Dp.reads I _ _ _ (dp_of hm 65 (.ref h2) _ e2 (shaped_lay hh.1.2)) ry
          exact PySem.W.lt_data r1 r2 hh.2 (fun z => by cases z) (SeqAt.room_of_shaped hh.1.1 hu) ⟨.bl _, H, I, rfl, h⟩
        · cases e3
      · cases e3
    | _ => cases e
  | _ => cases hy <;> cases e

/-! ### dicts by their pairs -/
section
variable {K : PySem.W.Frag} {H : Hp} {ι : List Addr}
theorem kd_inj {a b : D} {κ : Key} (ha : kd a = some κ) (hb : kd b = some κ) : a = b := by
  cases a <;> first
    | (cases ha; done)
    | (cases b <;> first
        | (cases hb; done)
        | (simp only [kd, Option.some.injEq] at ha hb
           rw [← hb] at ha
           first | (cases ha; rfl) | (cases ha; done) | (injection ha with ha; injection ha with ha; simp at ha; rw [ha])))
theorem kd_some {a : D} (h : a.key = true) : ∃ κ, kd a = some κ := by
  cases a <;> first | exact ⟨_, rfl⟩ | exact absurd h Bool.false_ne_true
theorem kd_kV {a : D} {κ : Key} {v : V} (h : kd a = some κ) (d : DV K H ι a v) : v = kV κ := by
  cases d <;> first | (cases h; rfl) | (cases h; done)
theorem KVs.len : ∀ {r : List (D × D)} {s : List (Key × V)}, KVs K H ι r s → r.length = s.length
  | _, _, .nil => rfl
  | _, _, .cons _ _ t => congrArg (· + 1) t.len
theorem KVs.val {k : D} {κ : Key} (hk : kd k = some κ) : ∀ {r : List (D × D)} {s : List (Key × V)}, KVs K H ι r s → (dget r k = none ∧ valV s κ = none) ∨ ∃ d v, dget r k = some d ∧ valV s κ = some v ∧ DV K H ι d v
  | _, _, .nil =>
      .inl ⟨rfl, rfl⟩
  | (k', d) :: r, (κ', v) :: s, .cons e h t => by
    unfold dget
    by_cases q : κ' = κ
    · subst q
      have e1 : k = k' := kd_inj hk e
      subst e1
      refine .inr ⟨d, v, ?_, valV_pos rfl, h⟩
      simp [List.lookup_cons]
    · have e1 : (k == k') = false := beq_eq_false_iff_ne.mpr fun z => by
        subst z
        rw [hk] at e
        exact q (Option.some.inj e).symm
      rw [valV_neg q]
      simp only [List.lookup_cons, e1]
      exact t.val hk
theorem KVs.has {k : D} {κ : Key} (hk : kd k = some κ) {r : List (D × D)} {s : List (Key × V)} (h : KVs K H ι r s) : dhas r k = (valV s κ).isSome := by
  unfold dhas
  rcases h.val hk with ⟨e1, e2⟩ | ⟨d, v, e1, e2, _⟩
  · unfold dget at e1; rw [e1, e2]; rfl
  · unfold dget at e1; rw [e1, e2]; rfl
theorem KVs.over {k d : D} {κ : Key} {v : V} (hk : kd k = some κ) (hd : DV K H ι d v) : ∀ {r : List (D × D)} {s : List (Key × V)}, KVs K H ι r s → KVs K H ι (r.map fun p => if p.1 = k then (p.1, d) else p) (s.map fun kv => if kv.1 = κ then (kv.1, v) else kv)
  | _, _, .nil => .nil
  | (k', d') :: r, (κ', v') :: s, .cons e h t => by
    rw [List.map_cons,
        List.map_cons]
    by_cases q : κ' = κ
    · subst q
      rw [if_pos (kd_inj e hk), if_pos rfl]
      exact .cons e hd (t.over hk hd)
    · have e1 : ¬ k' = k := fun z => by
        subst z
        rw [hk] at e
        exact q (Option.some.inj e).symm
      rw [if_neg e1, if_neg q]
      exact .cons e h (t.over hk hd)
theorem KVs.app : ∀ {r r' : List (D × D)} {s s' : List (Key × V)}, KVs K H ι r s → KVs K H ι r' s' → KVs K H ι (r ++ r') (s ++ s')
  | _, _, _, _, .nil, h => h
  | _, _, _, _, .cons e h t, q => .cons e h (t.app q)
theorem KVs.put {k d : D} {κ : Key} {v : V} (hk : kd k = some κ) (hd : DV K H ι d v) {r : List (D × D)} {s : List (Key × V)} (h : KVs K H ι r s) : KVs K H ι (dput r k d) (putK s κ v) := by
  unfold dput putK
  rw [valV_any, h.has hk]
  split
  · exact h.over hk hd
  · exact h.app (.cons hk hd .nil)
end
end
end Mi

/-! Mi7: in, subscripts, slices, built-in functions by values. -/
namespace Mi
open PySem PySem.Spec
    PyProof.Rows L2
section
variable {X : Cx} {T : XT} {W : WX} {F : Caller}
theorem atoms_flat {K : PySem.W.Frag} {H : Hp} {ι : List Addr} {x : D} {v : V} (hx : DV K H ι x v) (ax : x.atom = true) : ∀ {ds : List D} {vs : List V}, DVs K H ι ds vs → ds.all D.atom = true → vs.all flatV = true ∧ inV v vs = ds.any fun y => D.peq y x
  | _, _, .nil, _ => ⟨rfl, rfl⟩
  | _, _, .cons h r, a => by
    simp only [List.all_cons, Bool.and_eq_true] at a
    obtain ⟨p1, p2, p3⟩ := peq_atom h hx a.1 ax
    obtain ⟨q1, q2⟩ := atoms_flat hx ax r a.2
    unfold inV at q2 ⊢
    exact ⟨by rw [List.all_cons, p2, q1]; rfl, by rw [List.any_cons, List.any_cons, p1, q2]⟩
/-- what in tells, by the layer -/
theorem in_cases {K : PySem.W.Frag} {H : Hp} {ι : List Addr} {M : Hm} (m : HM K H ι M) {x y : D} {v u : V} {k : Bool} (hx : DV K H ι x v) (hy : DV K H ι y u) (e : isinM x y M = some k) :
    (∃ (c : Nat) (z : Str), v = .str ⟨#[c]⟩ ∧ u = .str z ∧ k = decide (c ∈ z.cps.toList)) ∨ (∃ p xs, u = .ref p ∧ (SqL K H p xs ∨ SqT K H p xs) ∧ flatV v = true ∧ xs.all flatV = true ∧ k = inV v xs) ∨
      ∃ a o, u = .ref a ∧ DGet H a v o ∧ k = o.isSome := by
  have seq : ∀ {ds : List D} {vs : List V} {p : Addr}, DVs K H ι ds vs → (SqL K H p vs ∨ SqT K H p vs) → u = .ref p → (if (x.atom && ds.all D.atom) = true then some (ds.any fun y => D.peq y x) else none) = some k →
      ∃ p xs, u = .ref p ∧ (SqL K H p xs ∨ SqT K H p xs) ∧ flatV v = true ∧ xs.all flatV = true ∧ k = inV v xs := fun {ds vs p} r h1 h2 h3 => by
    split at h3
    · rename_i h
      simp only
          [Bool.and_eq_true] at h
      cases h3
      obtain ⟨q1, q2⟩ := atoms_flat hx h.1 r h.2
      exact ⟨p, vs, h2, h1, (peq_atom hx hx h.1 h.1).2.1, q1, q2.symm⟩
    · cases h3
  cases hy with
  | str b =>
    cases hx with
    | str a =>
      match a, e with
      | [c], e =>
        cases e
        exact .inl ⟨c, _, rfl, rfl, by simp⟩
    | _ => cases e
  | tup h r => exact .inr (.inl (seq r (.inr h) rfl (by cases hx <;> exact e)))
  | @ref i0 a0 h =>
    obtain ⟨o, em, om⟩ := m.at h
    have e : (match M[i0]? with
      | some (.lst ds) => if x.atom && ds.all D.atom then some (ds.any fun y => D.peq y x) else none
      | some (.dct kvs) => if x.key then some (dhas kvs x) else none
      | _ => none) = some k := by cases hx <;> exact e
    rw [em] at e
    cases o with
    | lst ds =>
      obtain ⟨vs, e1, r⟩ := om
      exact .inr (.inl (seq r (.inl (SqL.of e1)) rfl e))
    | dct kvs =>
      obtain ⟨ws, e1, r⟩ := om
      simp only at e
      split at e
      · rename_i hk
        cases e
        obtain ⟨κ, hκ⟩ := kd_some hk
        refine .inr (.inr ⟨_, valV ws κ, rfl, ?_, r.has hκ⟩)
        rw [kd_kV hκ hx]
        exact DGet.k e1
      · cases e
  | _ => cases hx <;> cases e
theorem mc_in (hu : X.A.units + 64 < cLine) : OpR X (compareOp .In) (rCmp X.K .isin) := by
  intro pins s σ H x y v u Q I rx ry ⟨dx, dy, M, ι, k, hm, hx, hy, e, h⟩
  rcases in_cases hm hx hy e with ⟨c, z, e1, e2, e3⟩ | ⟨p, xs, e1, e2, e3, e4, e5⟩ | ⟨a, o, e1, e2, e3⟩
  · subst e1 e2 e3
    exact op_in_sign pins s σ H _ _ v u Q I rx ry ⟨c, z, rfl, rfl, h⟩
  · subst e1 e5
    exact op_in_seq pins s σ H _ _ v u Q I rx ry ⟨p, xs, rfl, e2, e3, e4, h⟩
  · subst e1 e3
    obtain rfl : u =
        Value.ref a := ry
    exact d_in (by omega) I e2 rx fun s3 I3 => ⟨.bl _, H, I3, rfl, h⟩
theorem mc_notin (hu : X.A.units + 64 < cLine) : OpR X (compareOp .NotIn) (rCmp X.K .notin) := by
  intro pins s σ H x y v u Q I rx ry ⟨dx, dy, M, ι, k, hm, hx, hy, e, h⟩
  simp only [cmpM, Option.map_eq_some_iff] at e
  obtain ⟨k', e, e'⟩ := e
  subst e'
  rcases in_cases hm hx hy e with ⟨c, z, e1, e2, e3⟩ | ⟨p, xs, e1, e2, e3, e4, e5⟩ | ⟨a, o, e1, e2, e3⟩
  · subst e1 e2 e3
    exact op_notIn_sign pins s σ H _ _ v u Q I rx ry ⟨c, z, rfl, rfl, h⟩
  · subst e1 e5
    exact op_notIn_seq pins s σ H _ _ v u Q I rx ry ⟨p, xs, rfl, e2, e3, e4, h⟩
  · subst e1 e3
    obtain rfl : u =
        Value.ref a := ry
    exact d_notIn (by omega) I e2 rx fun s3 I3 => ⟨.bl _, H, I3, rfl, h⟩

/-! ### a[i] -/
def rIdx (K : PySem.W.Frag) : R2 := fun x y H Q => ∃ dx dy M ι d, HM K H ι M ∧ DV K H ι dx x ∧ DV K H ι dy y ∧ idxM dx dy M = some d ∧ ∀ v, DV K H ι d v → Q v H
theorem rol_rel {K : PySem.W.Frag} {H : Hp} {ι : List Addr} : ∀ is : List Int, DVs K H ι (is.map D.int) (is.map V.int)
  | [] => .nil
  | i :: r => .cons (.int i) (rol_rel r)
theorem at_rel {K : PySem.W.Frag} {H : Hp} {ι : List Addr} {ds : List D} {vs : List V} (r : DVs K H ι ds vs) {i : Int} {d : D} (e : atI ds i = some d) : ∃ v, atI vs i = some v ∧ DV K H ι d v := by
  unfold atI at e ⊢
  rw [r.len] at e
  simp only [Option.bind_eq_some_iff] at e
  obtain ⟨j, e1, e2⟩ := e
  obtain ⟨v, e3, h⟩ := r.get e2
  exact ⟨v, by rw [e1]; exact e3, h⟩
theorem mi_ix (hu : X.A.units + 1 < cLine) : IxR X (rIdx X.K) := by
  intro value slice pins s σ H x y v u Q I rx ry ⟨dx, dy, M, ι, d, hm, hx, hy, e, h⟩ hs
  cases hx with
  | tup h1 r =>
    cases hy with
    | int i =>
      obtain ⟨w, e1, h2⟩ := at_rel r (show atI _ i = some d from e)
      exact ix_tup value slice pins s σ H _ _ v u Q I rx ry ⟨_, _, i, w, rfl, rfl, h1, e1, h _ h2⟩ hs
    | _ => cases e
  | rol hr =>
    cases hy with
    | int i =>
      obtain ⟨w, e1, h2⟩ := at_rel (rol_rel _) (show atI _ i = some d from e)
      exact ix_list value slice pins s σ H _ _ v u Q I rx ry ⟨_, _, i, w, rfl, rfl, hr.sql, e1, h _ h2⟩ hs
    | _ => cases e
  | str z =>
    cases hy with
    | int i =>
      simp only [idxM] at e
      split at e
      · rename_i hl
        simp only [Option.map_eq_some_iff] at e
        obtain ⟨c, e1, e2⟩ := e
        subst e2
        exact ix_str value slice pins s σ H _ _ v u Q I rx ry ⟨_, i, c, rfl, rfl, by rw [str_len, sizeLine_eq]; exact hl, e1, h _ (.str [c])⟩ hs
      · cases e
    | _ => cases e
  | @ref i0 a0 h1 =>
    obtain ⟨o, em, om⟩ := hm.at h1
    simp only [idxM, em] at e
    cases o with
    | lst ds =>
      obtain ⟨vs, e1, r⟩ := om
      cases hy with
      | int i =>
        obtain ⟨w, e2, h2⟩ := at_rel r (show atI _ i = some d from e)
        exact ix_list value slice pins s σ H _ _ v u Q I rx ry ⟨_, _, i, w, rfl, rfl, SqL.of e1, e2, h _ h2⟩ hs
      | _ => cases e
    | dct kvs =>
      obtain ⟨ws, e1, r⟩ := om
      simp only at e
      split at e
      · rename_i hk
        obtain ⟨κ, hκ⟩ := kd_some hk
        rcases r.val hκ with ⟨z1, z2⟩ | ⟨d', w, z1, z2, z3⟩
        · rw [z1] at e; cases e
        · rw [z1] at e
          cases e
          have g : DGet H a0 y (some w) := by
            rw [kd_kV hκ hy, ← z2]
            exact DGet.k e1
          obtain rfl : v = Value.ref a0 := rx
          exact tail_any (dict_typeIs I g) slot_dict_getitem.lookup (d_getItem hu I g ry fun w' s3 I3 rw' => ⟨w, H, I3, rw', h _ z3⟩) hs
      · cases e
  | _ => cases e

/-! ### slices -/
def rSlc (T : XT) (K : PySem.W.Frag) (W : WX) : V → Option Int → Option Int → Hp → VK → Prop := fun x lo hi H Q => ∃ dx M ι, HM K H ι M ∧ DV K H ι dx x ∧ PostE T K W [] H ι (slcM dx lo hi M) Q
theorem cut_str (z : List Nat) (lo hi : Option Int) : cutS ⟨z.toArray⟩ lo hi = ⟨(cut z lo hi).toArray⟩ := by
  unfold cutS cut
  simp [Str.length]
theorem cut_all {α : Type} (xs : List α) (lo hi : Option Int) (h : HT.sIx xs.length 0 lo = 0 ∧ HT.sIx xs.length xs.length hi = xs.length) : cut xs lo hi = xs := by
  unfold cut
  rw [h.1, h.2]
  simp
theorem mi_slc : SlR X (rSlc T X.K W) := by
  intro pins s σ H x v vl vu lo hi sl Q I rx hs pl pu ⟨dx, M, ι, hm, hx, h⟩
  cases hx with
  | tup h1 r =>
    refine sl_tupA pins s σ H _ v vl vu lo hi sl Q I rx hs pl pu ⟨_, _, rfl, h1, fun e => ?_, fun _ p hp => ?_⟩
    · refine h _ _ _ Ext.refl hm ?_
      rw [cut_all _ lo hi (by rw [r.len]; exact e)]
      exact .tup h1 r
    · exact h _ _ _ (Ext.newT hp) (hm.newT hp) (.tup (SqT.of upd_same) ((r.cut lo hi).ex (Ext.newT hp)))
  | str z =>
    have h : PostE T X.K W [] H ι (if z.length ≤ lim then ok (.str (cut z lo hi)) M else none) Q := h
    split at h
    · rename_i hl
      refine sl_str pins s σ H _ v vl vu lo hi sl Q I rx hs pl pu ⟨_, rfl, by rw [str_len, sizeLine_eq]; exact hl, ?_⟩
      rw [cut_str]
      exact h _ _ _ Ext.refl hm (.str _)
    · exact h.elim
  | @rol a0 is hr =>
    have h : PostE T X.K W [] H ι (ok (.ref M.length) (M ++ [.lst (cut (is.map .int) lo hi)])) Q := h
    rw [← hm.len] at h
    refine sl_list pins s σ H _ v vl vu lo hi sl Q I rx hs pl pu ⟨_, _, rfl, hr.sql, fun p hp => ?_⟩
    have ex := Ext.newM (ι := ι) (o := .lst (cutV (is.map V.int) lo hi)) hp
    exact h _ _ _ ex (hm.newM hp ⟨_, upd_same, ((rol_rel is).cut lo hi).ex ex⟩) (.ref (by simp))
  | ref h1 =>
    obtain ⟨o, em, om⟩ := hm.at h1
    simp only [slcM, em] at h
    rw [← hm.len] at h
    cases o with
    | lst ds =>
      obtain ⟨vs, e1, r⟩ := om
      refine sl_list pins s σ H _ v vl vu lo hi sl Q I rx hs pl pu ⟨_, _, rfl, SqL.of e1, fun p hp => ?_⟩
      have ex := Ext.newM (ι := ι) (o := .lst (cutV vs lo hi)) hp
      exact h _ _ _ ex (hm.newM hp ⟨_, upd_same, (r.cut lo hi).ex ex⟩) (.ref (by simp))
    | dct kvs => exact h.elim
  | _ => exact False.elim h

/-! ### built-in functions of one value -/
def rBlt (T : XT) (K : PySem.W.Frag) (W : WX) (b : Blt) : List V → Hp → VK → Prop := fun vs H Q => ∃ dx x M ι, vs = [x] ∧ HM K H ι M ∧ DV K H ι dx x ∧ PostE T K W [] H ι (bltM b dx M) Q
/-- .. of a list that stands apart -/
def rBlL (T : XT) (K : PySem.W.Frag) (W : WX) (b : Blt) : List V → Hp → VK → Prop := fun vs H Q => ∃ ds a ws M ι, vs = [.ref a] ∧ HM K H ι M ∧ SqL K H a ws ∧ DVs K H ι ds ws ∧ PostE T K W [] H ι (bltL b ds M) Q
theorem ints_rel {K : PySem.W.Frag} {H : Hp} {ι : List Addr} : ∀ {ds : List D} {vs : List V} {is : List Int}, DVs K H ι ds vs → allInts ds = some is → vs = is.map V.int
  | _, _, is, .nil, e => by simp only [allInts] at e; cases e; rfl
  | _, _, is, .cons h r, e => by
    cases h with
    | int i =>
      simp only [allInts, Option.map_eq_some_iff] at e
      obtain ⟨js, e1, e2⟩ := e
      subst e2
      rw [ints_rel r e1]
      rfl
    | _ => simp [allInts] at e
theorem bls_rel {K : PySem.W.Frag} {H : Hp} {ι : List Addr} : ∀ {ds : List D} {vs : List V} {is : List Bool}, DVs K H ι ds vs → allBls ds = some is → vs = is.map V.bl
  | _, _, is, .nil, e => by simp only [allBls] at e; cases e; rfl
  | _, _, is, .cons h r, e => by
    cases h with
    | bl i =>
      simp only [allBls, Option.map_eq_some_iff] at e
      obtain ⟨js, e1, e2⟩ := e
      subst e2
      rw [bls_rel r e1]
      rfl
    | _ => simp [allBls] at e
theorem strs_rel {K : PySem.W.Frag} {H : Hp} {ι : List Addr} : ∀ {ds : List D} {vs : List V} {is : List (List Nat)}, DVs K H ι ds vs → allStrs ds = some is → vs = (is.map fun x => (⟨x.toArray⟩ : Str)).map V.str
  | _, _, is, .nil, e => by simp only [allStrs] at e; cases e; rfl
  | _, _, is, .cons h r, e => by
    cases h with
    | str i =>
      simp only [allStrs, Option.map_eq_some_iff] at e
      obtain ⟨js, e1, e2⟩ := e
      subst e2
      rw [strs_rel r e1]
      rfl
    | _ => simp [allStrs] at e
theorem maxI_of : ∀ (ns : List Int) (m : Int), m ∈ ns → (∀ y, y ∈ ns → y ≤ m) → maxI ns = m
  | [x], m, h, _ => by rw [List.mem_singleton.mp h]; rfl
  | x :: y :: r, m, h, hy => by
    have ih : ∀ m, m ∈ y :: r → (∀ z, z ∈ y :: r → z ≤ m) → maxI (y :: r) = m := maxI_of (y :: r)
    have mem : ∀ l : List Int, l ≠ [] → maxI l ∈ l ∧ ∀ z ∈ l, z ≤ maxI l := fun l => by
      induction l with
      | nil => intro h; exact absurd rfl h
      | cons a t iht =>
        intro _
        cases t with
        | nil => exact ⟨List.mem_singleton.mpr rfl, fun z hz => by rw [List.mem_singleton.mp hz]; exact Int.le_refl _⟩
        | cons b t =>
          obtain ⟨i1, i2⟩ := iht (List.cons_ne_nil _ _)
          show (if maxI (b :: t) > a then maxI (b :: t) else a) ∈ _ ∧ ∀ z ∈ _, z ≤ (if maxI (b :: t) > a then maxI (b :: t) else a)
          split
          · exact ⟨List.mem_cons_of_mem _ i1, fun z hz => (List.mem_cons.mp hz).elim (fun e => by rw [e]; omega) (i2 z)⟩
          · exact ⟨List.mem_cons_self, fun z hz => (List.mem_cons.mp hz).elim (fun e => by rw [e]; omega) (fun e => by have := i2 z e; omega)⟩
    obtain ⟨i1, i2⟩ := mem (x :: y :: r) (List.cons_ne_nil _ _)
    have := hy _ i1
    have := i2 m h
    omega
theorem minI_of : ∀ (ns : List Int) (m : Int), m ∈ ns → (∀ y, y ∈ ns → m ≤ y) → minI ns = m
  | ns, m, h, hy => by
    have mem : ∀ l : List Int, l ≠ [] → minI l ∈ l ∧ ∀ z ∈ l, minI l ≤ z := fun l => by
      induction l with
      | nil => intro h; exact absurd rfl h
      | cons a t iht =>
        intro _
        cases t with
        | nil => exact ⟨List.mem_singleton.mpr rfl, fun z hz => by rw [List.mem_singleton.mp hz]; exact Int.le_refl _⟩
        | cons b t =>
          obtain ⟨i1, i2⟩ := iht (List.cons_ne_nil _ _)
          show (if minI (b :: t) < a then minI (b :: t) else a) ∈ _ ∧ ∀ z ∈ _, (if minI (b :: t) < a then minI (b :: t) else a) ≤ z
          split
          · exact ⟨List.mem_cons_of_mem _ i1, fun z hz => (List.mem_cons.mp hz).elim (fun e => by rw [e]; omega) (i2 z)⟩
          · exact ⟨List.mem_cons_self, fun z hz => (List.mem_cons.mp hz).elim (fun e => by rw [e]; omega) (fun e => by have := i2 z e; omega)⟩
    obtain ⟨i1, i2⟩ := mem ns (by intro e; rw [e] at h; cases h)
    have := hy _ i1
    have := i2 m h
    omega
end
end Mi

/-! Mi8: built-in functions by values; repr. -/
namespace Mi
open PySem PySem.Spec
    PyProof.Rows L2
section
variable {X : Cx} {T : XT} {W : WX} {F : Caller}
theorem reads_append {h : Heap} : ∀ {us ws : List Value} {ds es : List PyData} {as bs : List Addr}, ReadsAll h us ds as → ReadsAll h ws es bs → ReadsAll h (us ++ ws) (ds ++ es) (as ++ bs)
  | _, _, _, _, _, _, .nil, q => q
  | _, _, _, _, _, _, .cons a r, q => by
    rw [List.append_assoc]
    exact .cons a (reads_append r q)

/-! ### a value as data, dicts too -/
section
variable {pins : List (Addr × Obj)} {τ : St} {H : Hp} {s : Shared} {ι : List Addr} {M : Hm}
theorem no_sys (I : Inv X pins τ H s) (hs : ∃ m, X.base.Ns sysModules m) {a : Addr} {o : HO} (e : H a = some o) : a ≠ sysModules := by
  obtain ⟨m, o', es, ep, h1, _⟩ := hs
  intro z
  subst z
  rw [(I.bs _ _ h1).2] at e
  cases e
theorem no_sysL (I : Inv X pins τ H s) (hs : ∃ m, X.base.Ns sysModules m) {a : Addr} {vs : List V} (e : SqR X.K H a vs) : a ≠ sysModules := by
  obtain ⟨its, _, ⟨o2, n, g, c, d, dt⟩, _⟩ := I.list e.sql
  obtain ⟨m, o', es, ep, h1, h2, _⟩ := hs
  intro z
  subst z
  rw [(I.bs _ _ h1).1] at g
  cases g
  rw [dt] at h2
  cases h2
theorem rd_all (n : Nat) (ih : ∀ {d : D} {v : V} {u : Value}, DV X.K H ι d v → RelV v u → ∀ p, pyM M n d = some p → ∃ as, Reads s.heap u p as ∧ sysModules ∉ as) :
    ∀ {ds : List D} {vs : List V} {us : List Value}, DVs X.K H ι ds vs → Vals vs us → ∀ ps, ds.mapM (pyM M n) = some ps → ∃ as, ReadsAll s.heap us ps as ∧ sysModules ∉ as
  | _, _, _, .nil, .nil, ps, e => by
    simp at e
    subst e
    exact ⟨[], .nil, by simp⟩
  | _, _, _, .cons h r, .cons h' r', ps, e => by
    obtain ⟨p, qs, e1, e2, e3⟩ := mapM_cons _ _ _ _ e
    subst e3
    obtain ⟨as, a1, a2⟩ := ih h h' p e1
    obtain ⟨bs, b1, b2⟩ := rd_all n ih r r' qs e2
    exact ⟨as ++ bs, .cons a1 b1, fun z => (List.mem_append.mp z).elim a2 b2⟩
mutual
theorem rd_py (I : Inv X pins τ H s) : ∀ {d : D} {v : V} {u : Value}, DV X.K H ι d v → RelV v u → ∀ p, D.py d = some p → ∃ as, Reads s.heap u p as ∧ sysModules ∉ as
  | _, _, _, .non, r, p, e => by simp only [D.py] at e; cases e; cases r; exact ⟨[], .none, by simp⟩
  | _, _, _, .bl b, r, p, e => by simp only [D.py] at e; cases e; cases r; exact ⟨[], .bool b, by simp⟩
  | _, _, _, .int i, r, p, e => by simp only [D.py] at e; cases e; obtain ⟨t, rfl⟩ := r; exact ⟨[], .int i t, by simp⟩
  | _, _, _, .str x, r, p, e => by simp only [D.py] at e; cases e; obtain ⟨t, rfl⟩ := r; exact ⟨[], .str _ t, by simp⟩
  | _, _, _, .tup h q, r, p, e => by
    simp only [D.py, Option.map_eq_some_iff] at e
    obtain ⟨ps, e1, e2⟩ := e
    subst e2
    cases r
    obtain ⟨its, rv, ⟨o, ho, hc, n, hd⟩, _⟩ := I.tuple h
    obtain ⟨as, a1, a2⟩ := rd_pys I q rv ps e1
    exact ⟨as, .tuple ho hc hd a1, a2⟩
  | _, _, _, .ref _, r, p, e => by simp [D.py] at e
  | _, _, _, .rol _, r, p, e => by simp [D.py] at e
theorem rd_pys (I : Inv X pins τ H s) : ∀ {d : List D} {v : List V} {u : List Value}, DVs X.K H ι d v → Vals v u → ∀ p, D.pys d = some p → ∃ as, ReadsAll s.heap u p as ∧ sysModules ∉ as
  | _, _, _, .nil, .nil, p, e => by simp only [D.pys] at e; cases e; exact ⟨[], .nil, by simp⟩
  | _, _, _, .cons h q, .cons r r', p, e => by
    simp only [D.pys, Option.bind_eq_some_iff, Option.map_eq_some_iff] at e
    obtain ⟨p1, e1, qs, e2, e3⟩ := e
    subst e3
    obtain ⟨as, a1, a2⟩ := rd_py I h r p1 e1
    obtain ⟨bs, b1, b2⟩ := rd_pys I q r' qs e2
    exact ⟨as ++ bs, .cons a1 b1, fun z => (List.mem_append.mp z).elim a2 b2⟩
end
theorem kv_reads {n : Nat} (ih : ∀ {d : D} {v : V} {u : Value}, DV X.K H ι d v → RelV v u → ∀ p, pyM M n d = some p → ∃ as, Reads s.heap u p as ∧ sysModules ∉ as) {P : Program} {w : World} :
    ∀ {es : List DictEntry} {vs : List (Key × Value)} {t : List (Key × V)} {r : List (D × D)}, Pairs (mixKind P w) es vs → KV t vs → KVs X.K H ι r t →
      ∀ ps, r.mapM (fun kv => (pyM M n kv.1).bind fun p => (pyM M n kv.2).map fun q => (p, q)) = some ps →
      ∃ as bs, ReadsAll s.heap (es.map (·.key)) (ps.map (·.1)) as ∧ ReadsAll s.heap (es.map (·.val)) (ps.map (·.2)) bs ∧ sysModules ∉ as ∧ sysModules ∉ bs
  | _, _, _, _, .nil, .nil, .nil, ps, e => by
    simp at e
    subst e
    exact ⟨[], [], .nil, .nil, by simp, by simp⟩
  | _, _, (κ, v0) :: _, (k0, d0) :: _, .cons (e := en) hi hv hr, .cons hq r', .cons hk hd r, ps, e => by
    obtain ⟨p, qs, e1, e2, e3⟩ := mapM_cons _ _ _ _ e
    subst e3
    simp only [Option.bind_eq_some_iff, Option.map_eq_some_iff] at e1
    obtain ⟨pk, f1, pv, f2, f3⟩ := e1
    subst f3
    obtain ⟨c1, c2⟩ := hq
    obtain ⟨as, bs, a1, a2, a3, a4⟩ := kv_reads ih hr r' r qs e2
    have hkey : ∃ v, DV X.K H ι k0 v ∧ RelV v en.key := by
      have k1 : keyIs κ en.key = true := by rw [show κ = _ from c1]; exact hi
      cases k0 with
      | int i =>
        cases hk
        obtain ⟨t, et⟩ := Value.isInt_shape (show Value.isInt i en.key = true from k1)
        exact ⟨.int i, .int i, t, et⟩
      | str x =>
        cases hk
        obtain ⟨t, et⟩ := Value.isStrOf_shape (show Value.isStrOf _ en.key = true from k1)
        exact ⟨.str _, .str x, t, et⟩
      | _ => cases hk
    obtain ⟨v, dv, rv⟩ := hkey
    obtain ⟨x1, y1, z1⟩ := ih dv rv pk f1
    obtain ⟨x2, y2, z2⟩ := ih hd (show RelV v0 en.val from by rw [hv]; exact c2) pv f2
    exact ⟨x1 ++ as, x2 ++ bs, .cons y1 a1, .cons y2 a2, fun z => (List.mem_append.mp z).elim z1 a3, fun z => (List.mem_append.mp z).elim z2 a4⟩
theorem rd_of (I : Inv X pins τ H s) (hs : ∃ m, X.base.Ns sysModules m) (m : HM X.K H ι M) : ∀ (n : Nat) {d : D} {v : V} {u : Value}, DV X.K H ι d v → RelV v u → ∀ p, pyM M n d = some p → ∃ as, Reads s.heap u p as ∧ sysModules ∉ as
  | 0, _, _, _, h, r, p, e => rd_py I h r p (by simpa only [pyM] using e)
  | n + 1, _, _, _, h, r, p, e => by
    cases h with
    | ref hi =>
      obtain ⟨o, em, om⟩ := m.at hi
      simp only [pyM, em] at e
      cases r
      cases o with
      | lst ds =>
        obtain ⟨vs, e1, q⟩ := om
        simp only [Option.map_eq_some_iff] at e
        obtain ⟨ps, e2, e3⟩ := e
        subst e3
        obtain ⟨its, rv, ⟨o, n', ho, hc, _, hd⟩, _⟩ := I.list (SqL.of e1)
        obtain ⟨as, a1, a2⟩ := rd_all n (fun h => rd_of I hs m n h) q rv ps e2
        exact ⟨_, .list ho hc hd a1, fun z => (List.mem_cons.mp z).elim (fun z => no_sys I hs e1 z.symm) a2⟩
      | dct kvs =>
        obtain ⟨ws, e1, q⟩ := om
        simp only [Option.map_eq_some_iff] at e
        obtain ⟨ps, e2, e3⟩ := e
        subst e3
        obtain ⟨_, _, vs, rel, o, es, ep, ho, hx, hd, _, hp, _⟩ := I.hok _ _ e1
        obtain ⟨as, bs, a1, a2, a3, a4⟩ := kv_reads (fun h => rd_of I hs m n h) hp rel q ps e2
        refine ⟨_, .dict ho hx.1 hd a1 a2, fun z => ?_⟩
        rcases List.mem_append.mp z with z | z
        · exact (List.mem_cons.mp z).elim (fun z => no_sys I hs e1 z.symm) a3
        · exact a4 z
    | tup hq q =>
      simp only [pyM, Option.map_eq_some_iff] at e
      obtain ⟨ps, e2, e3⟩ := e
      subst e3
      cases r
      obtain ⟨its, rv, ⟨o, ho, hc, n', hd⟩, _⟩ := I.tuple hq
      obtain ⟨as, a1, a2⟩ := rd_all n (fun h => rd_of I hs m n h) q rv ps e2
      exact ⟨_, .tuple ho hc hd a1, a2⟩
    | rol h => simp [pyM, D.py] at e
    | non => exact rd_py (ι := ι) I .non r p (by simpa only [pyM] using e)
    | bl b => exact rd_py (ι := ι) I (.bl b) r p (by simpa only [pyM] using e)
    | int i => exact rd_py (ι := ι) I (.int i) r p (by simpa only [pyM] using e)
    | str x => exact rd_py (ι := ι) I (.str x) r p (by simpa only [pyM] using e)
end

theorem cb_repr (hu : X.A.units + 70 < cLine) (hg : X.A.guards = some []) (hs : ∃ m, X.base.Ns sysModules m) : CallR X (.builtin "repr") (rBlt T X.K W .repr) := by
  intro pins s σ H vs us Q I r ⟨dx, x, M, ι, e0, hm, hx, h⟩
  subst e0
  obtain ⟨u, rfl,
      rx⟩ := vals1 r
  simp only [bltM] at h
  cases q : reprM M dx with
  | none => rw [q] at h; exact h.elim
  | some t =>
    rw [q] at h
    unfold reprM at q
    simp only [Option.bind_eq_some_iff] at q
    obtain ⟨p, e1, e2⟩ := q
    split at e2
    · rename_i hc
      simp only [Bool.and_eq_true,
          decide_eq_true_eq] at hc
      cases e2
      obtain ⟨as, ra, hn⟩ := rd_of I hs hm 65 hx rx p e1
      have et : (⟨p.shown.cps.toList.toArray⟩ : Str) = p.shown := by
        cases hp : p.shown with
        | mk c => simp
      have h : Q (.str p.shown) H := by
        have := h _ _ _ Ext.refl hm (.str p.shown.cps.toList)
        rw [et] at this
        exact this
      have hz : p.shown.length ≤ sizeLine := by rw [sizeLine_eq]; exact hc.2
      cases hx with
      | non =>
        cases rx
        simp only [pyM, D.py] at e1
        cases e1
        exact PySem.P.repr_of_none ⟨.str _, H, I.tok _, ⟨_, rfl⟩, by simpa only [PyData.shown] using h⟩
      | bl b =>
        cases rx
        simp only [pyM, D.py] at e1
        cases e1
        exact PySem.P.repr_of_bool ⟨.str _, H, I.tok _, ⟨_, rfl⟩, by simpa only [PyData.shown] using h⟩
      | int i =>
        obtain ⟨t, rfl⟩ := rx
        simp only [pyM, D.py] at e1
        cases e1
        exact PySem.P.repr_of_int (by simpa [PyData.showable] using hc.1.1) ⟨.str _, H, I.tok _, ⟨_, rfl⟩, by simpa only [PyData.shown] using h⟩
      | str z =>
        obtain ⟨t, rfl⟩ := rx
        simp only [pyM, D.py] at e1
        cases e1
        simp only [PyData.shown] at h hz
        exact PySem.P.repr_of_str ⟨.str _, H, I.tok _, ⟨_, rfl⟩, h⟩ hz
      | tup a b =>
        cases rx
        exact repr_of_reads' ra hc.1.1 (fun _ => hn) hg (by omega) (fun _ _ e => e) (fun h' u tk hk => ⟨.str _, H, I.kept hk, ⟨_, rfl⟩, h⟩) hz
      | rol h => simp [pyM, D.py] at e1
      | ref a =>
        cases rx
        exact repr_of_reads' ra hc.1.1 (fun _ => hn) hg (by omega) (fun _ _ e => e) (fun h' u tk hk => ⟨.str _, H, I.kept hk, ⟨_, rfl⟩, h⟩) hz
    · cases e2

/-! ### of a list -/
theorem cl_len : CallR X (.builtin "len") (rBlL T X.K W .len) := by
  intro pins s σ H vs us Q I r ⟨ds, a, ws, M, ι, e0, hm, hl, q, h⟩
  subst e0
  refine call_len_seq pins s σ H _ us Q I r ⟨a, ws, rfl, .inl hl, ?_⟩
  rw [← q.len]
  exact h _ _ _ Ext.refl hm (.int _)
theorem cl_tuple : CallR X (.type "tuple") (rBlL T X.K W .tuple) := by
  intro pins s σ H vs us Q I r ⟨ds, a, ws, M, ι, e0, hm, hl, q, h⟩
  subst e0
  exact call_tuple_of pins s σ H _ us Q I r ⟨a, ws, rfl, .inl ⟨hl, fun p hp => h _ _ _ (Ext.newT hp) (hm.newT hp) (.tup (SqT.of upd_same) (q.ex (Ext.newT hp)))⟩⟩
theorem cl_list : CallR X (.type "list") (rBlL T X.K W .list) := by
  intro pins s σ H vs us Q I r ⟨ds, a, ws, M, ι, e0, hm, hl, q, h⟩
  subst e0
  refine call_list_of pins s σ H _ us Q I r ⟨a, ws, rfl, .inl hl, fun p hp => ?_⟩
  have ex := Ext.newM (ι := ι) (o := .lst ws) hp
  refine h _ _ _ ex (hm.newM hp ⟨_, upd_same, q.ex ex⟩) (.ref ?_)
  rw [← hm.len]
  simp
theorem cl_sum (hc : X.calm = true) : CallR X (.builtin "sum") (rBlL T X.K W .sum) := by
  intro pins s σ H vs us Q I r ⟨ds, a, ws, M, ι, e0, hm, hl, q, h⟩
  subst e0
  simp only [bltL] at h
  split at h
  · rename_i is e
    have := ints_rel q e
    subst this
    exact cr_sum hc pins s σ H _ us Q I r ⟨a, is, rfl, hl, h _ _ _ Ext.refl hm (.int _)⟩
  · exact h.elim
theorem cl_all (hc : X.calm = true) : CallR X (.builtin "all") (rBlL T X.K W .all) := by
  intro pins s σ H vs us Q I r ⟨ds, a, ws, M, ι, e0, hm, hl, q, h⟩
  subst e0
  simp only [bltL] at h
  split at h
  · rename_i is e
    have := bls_rel q e
    subst this
    exact cr_all hc pins s σ H _ us Q I r ⟨a, is, rfl, hl, h _ _ _ Ext.refl hm (.bl _)⟩
  · exact h.elim
theorem cl_any (hc : X.calm = true) : CallR X (.builtin "any") (rBlL T X.K W .any) := by
  intro pins s σ H vs us Q I r ⟨ds, a, ws, M, ι, e0, hm, hl, q, h⟩
  subst e0
  simp only [bltL] at h
  split at h
  · rename_i is e
    have := bls_rel q e
    subst this
    exact cr_any hc pins s σ H _ us Q I r ⟨a, is, rfl, hl, h _ _ _ Ext.refl hm (.bl _)⟩
  · exact h.elim
theorem cl_max (hc : X.calm = true) : CallR X (.builtin "max") (rBlL T X.K W .max) := by
  intro pins s σ H vs us Q I r ⟨ds, a, ws, M, ι, e0, hm, hl, q, h⟩
  subst e0
  simp only [bltL] at h
  split at h
  · rename_i i is e
    have := ints_rel q e
    subst this
    refine cr_max hc pins s σ H _ us Q I r ⟨a, _, rfl, hl, Nat.succ_pos _, fun m h1 h2 => ?_⟩
    rw [maxI_of _ m h1 h2] at h
    exact h _ _ _ Ext.refl hm (.int _)
  · exact h.elim
theorem cl_min (hc : X.calm = true) : CallR X (.builtin "min") (rBlL T X.K W .min) := by
  intro pins s σ H vs us Q I r ⟨ds, a, ws, M, ι, e0, hm, hl, q, h⟩
  subst e0
  simp only [bltL] at h
  split at h
  · rename_i i is e
    have := ints_rel q e
    subst this
    refine cr_min hc pins s σ H _ us Q I r ⟨a, _, rfl, hl, Nat.succ_pos _, fun m h1 h2 => ?_⟩
    rw [minI_of _ m h1 h2] at h
    exact h _ _ _ Ext.refl hm (.int _)
  · exact h.elim
/-- a list of the small heap -/
theorem cb_ref {f : Value} {b : Blt} (hl : CallR X f (rBlL T X.K W b)) (hb : b ≠ .repr) {pins : List (Addr × Obj)} {s : Shared} {σ : St} {H : Hp} {us : List Value} {Q : VK} {i0 : Nat} {a0 : Addr} {M : Hm} {ι : List Addr} (I : Inv X pins σ H s) (r : Vals [V.ref a0] us)
    (hm : HM X.K H ι M) (hi : ι[i0]? = some a0) (h : PostE T X.K W [] H ι (bltM b (.ref i0) M) Q) :
    wpAny (model X.prog X.w) X.A (call f us) (EP X pins σ Q) X.xe s ∨ ∃ kvs ws, M[i0]? = some (.dct kvs) ∧ H a0 = some (.dK ws) ∧ KVs X.K H ι kvs ws := by
  obtain ⟨o, em, om⟩ := hm.at hi
  cases o with
  | lst ds =>
    obtain ⟨vs, e1, q⟩ := om
    refine .inl (hl pins s σ H _ us Q I r ⟨ds, a0, vs, M, ι, rfl, hm, SqL.of e1, q, ?_⟩)
    cases b <;> first | exact absurd rfl hb | (simp only [bltM, em] at h; exact h)
  | dct kvs =>
    obtain ⟨ws, e1, q⟩ := om
    exact .inr ⟨kvs, ws, em, e1, q⟩
theorem ints_dv {K : PySem.W.Frag} {H : Hp} {ι : List Addr} : ∀ is : List Int, DVs K H ι (is.map D.int) (is.map V.int)
  | [] => .nil
  | i :: r => .cons (.int i) (ints_dv r)
theorem cb_rol {f : Value} {b : Blt} (hl : CallR X f (rBlL T X.K W b)) (hb : b ≠ .repr) (hb2 : b ≠ .int) {pins : List (Addr × Obj)} {s : Shared} {σ : St} {H : Hp} {us : List Value} {Q : VK} {is : List Int} {a0 : Addr} {M : Hm} {ι : List Addr} (I : Inv X pins σ H s) (r : Vals [V.ref a0] us)
    (hm : HM X.K H ι M) (hr : SqR X.K H a0 (is.map V.int)) (h : PostE T X.K W [] H ι (bltM b (.rol is) M) Q) : wpAny (model X.prog X.w) X.A (call f us) (EP X pins σ Q) X.xe s := by
  refine hl pins s σ H _ us Q I r ⟨_, a0, _, M, ι, rfl, hm, hr.sql, ints_dv is, ?_⟩
  cases b <;> first | exact absurd rfl hb | exact absurd rfl hb2 | exact h
theorem cb_plain {f : Value} {b : Blt} (hl : CallR X f (rBlL T X.K W b)) (hb : b = .sum ∨ b = .all ∨ b = .any ∨ b = .max ∨ b = .min) : CallR X f (rBlt T X.K W b) := by
  intro pins s σ H vs us Q I r ⟨dx, x, M, ι, e0, hm, hx, h⟩
  subst e0
  cases hx with
  | ref hi =>
    rcases cb_ref hl (by rcases hb with rfl | rfl | rfl | rfl | rfl <;> decide) I r hm hi h with g | ⟨kvs, ws, em, _, _⟩
    · exact g
    · rcases hb with rfl | rfl | rfl | rfl | rfl <;> (simp only [bltM, em] at h; exact h.elim)
  | rol hr => exact cb_rol hl (by rcases hb with rfl | rfl | rfl | rfl | rfl <;> decide) (by rcases hb with rfl | rfl | rfl | rfl | rfl <;> decide) I r hm hr h
  | _ => rcases hb with rfl | rfl | rfl | rfl | rfl <;> exact False.elim h
theorem cb_len : CallR X (.builtin "len") (rBlt T X.K W .len) := by
  intro pins s σ H vs us Q I r ⟨dx, x, M, ι, e0, hm, hx, h⟩
  subst e0
  cases hx with
  | ref hi =>
    rcases cb_ref cl_len (by decide) I r hm hi h with g | ⟨kvs, ws, em, e1, q⟩
    · exact g
    · simp only [bltM, em] at h
      refine call_lenD pins s σ H _ us Q I r ⟨_, ws, rfl, e1, ?_⟩
      rw [← q.len]
      exact h _ _ _ Ext.refl hm (.int _)
  | rol hr => exact cb_rol cl_len (by decide) (by decide) I r hm hr h
  | str z =>
    have h : PostE T X.K W [] H ι (if z.length ≤ lim then ok (.int z.length) M else none) Q := h
    split at h
    · rename_i hl
      refine call_len_str pins s σ H _ us Q I r ⟨_, rfl, by rw [str_len, sizeLine_eq]; exact hl, ?_⟩
      rw [str_len]
      exact h _ _ _ Ext.refl hm (.int _)
    · exact h.elim
  | tup h1 q =>
    refine call_len_seq pins s σ H _ us Q I r ⟨_, _, rfl, .inr h1, ?_⟩
    rw [← q.len]
    exact h _ _ _ Ext.refl hm (.int _)
  | _ => exact False.elim h
theorem cb_tuple : CallR X (.type "tuple") (rBlt T X.K W .tuple) := by
  intro pins s σ H vs us Q I r ⟨dx, x, M, ι, e0, hm, hx, h⟩
  subst e0
  cases hx with
  | ref hi =>
    rcases cb_ref cl_tuple (by decide) I r hm hi h with g | ⟨kvs, ws, em, e1, q⟩
    · exact g
    · simp only [bltM, em] at h
      exact h.elim
  | rol hr => exact cb_rol cl_tuple (by decide) (by decide) I r hm hr h
  | tup h1 q => exact call_tuple_of pins s σ H _ us Q I r ⟨_, _, rfl, .inr ⟨h1, h _ _ _ Ext.refl hm (.tup h1 q)⟩⟩
  | _ => exact False.elim h
theorem keys_rel {K : PySem.W.Frag} {H : Hp} {ι : List Addr} : ∀ {r : List (D × D)} {t : List (Key × V)}, KVs K H ι r t → DVs K H ι (r.map (·.1)) (t.map fun kv => kV kv.1)
  | _, _, .nil => .nil
  | (k, _) :: _, _, .cons hk _ r => by
    refine .cons ?_ (keys_rel r)
    cases k with
    | int i => cases hk; exact .int i
    | str x => cases hk; exact .str x
    | _ => cases hk
theorem cb_list (hc : X.calm = true) : CallR X (.type "list") (rBlt T X.K W .list) := by
  intro pins s σ H vs us Q I r ⟨dx, x, M, ι, e0, hm, hx, h⟩
  subst e0
  cases hx with
  | ref hi =>
    rcases cb_ref cl_list (by decide) I r hm hi h with g | ⟨kvs, ws, em, e1, q⟩
    · exact g
    · simp only [bltM, em] at h
      refine call_listD hc pins s σ H _ us Q I r ⟨_, ws, rfl, .inl e1, fun p hp => ?_⟩
      have ex := Ext.newM (ι := ι) (o := .lst (ws.map fun kv => kV kv.1)) hp
      refine h _ _ _ ex (hm.newM hp ⟨_, upd_same, (keys_rel q).ex ex⟩) (.ref ?_)
      rw [← hm.len]
      simp
  | rol hr => exact cb_rol cl_list (by decide) (by decide) I r hm hr h
  | @tup a0 ws ds0 h1 q =>
    refine call_list_of pins s σ H _ us Q I r ⟨_, _, rfl, .inr h1, fun p hp => ?_⟩
    have ex := Ext.newM (ι := ι) (o := .lst ws) hp
    refine h _ _ _ ex (hm.newM hp ⟨_, upd_same, q.ex ex⟩) (.ref ?_)
    rw [← hm.len]
    simp
  | _ => exact False.elim h
theorem cb_int : CallR X (.type "int") (rBlt T X.K W .int) := by
  intro pins s σ H vs us Q I r ⟨dx, x, M, ι, e0, hm, hx, h⟩
  subst e0
  cases hx with
  | int i => exact call_int1 pins s σ H _ us Q I r (.inl ⟨i, rfl, h _ _ _ Ext.refl hm (.int _)⟩)
  | bl k => exact call_int1 pins s σ H _ us Q I r (.inr ⟨k, rfl, h _ _ _ Ext.refl hm (.int _)⟩)
  | ref hi =>
    obtain ⟨o, em, om⟩ := hm.at hi
    simp only [bltM, em] at h
    cases o <;> exact h.elim
  | rol hr => exact False.elim h
  | _ => exact False.elim h
/-! ### sorted -/
theorem sort_reads {X : Cx} {pins : List (Addr × Obj)} {s : Shared} {σ : St} {H : Hp} {M : Hm} {ι : List Addr} (I : Inv X pins σ H s) (hm : HM X.K H ι M) : ∀ {ds : List D} {ws : List V} {us : List Value} {ps : List PyData}, DVs X.K H ι ds ws → Vals ws us → ds.mapM (pyM M 62) = some ps → (∀ p ∈ ps, SeqAt.shaped p = true) →
    PySem.W.EachIs (fun u (b : D × PyData) => ∃ v, RelV v u ∧ DV X.K H ι b.1 v) us (ds.zip ps) ∧ PySem.W.EachIs (fun u (b : D × PyData) => ∃ as, Reads s.heap u b.2 as) us (ds.zip ps) ∧ (ds.zip ps).map (·.2) = ps ∧ (ds.zip ps).length = ds.length
  | [], _, _, ps, .nil, r, e, _ => by
    cases r
    cases e
    exact ⟨.nil, .nil, rfl, rfl⟩
  | d :: ds, _, _, ps, .cons h q, r, e, hs => by
    cases r with
    | cons r1 r2 =>
      rw [List.mapM_cons] at e
      obtain ⟨p, e1, e⟩ := Option.bind_eq_some_iff.mp e
      obtain ⟨qs, e2, e⟩ := Option.bind_eq_some_iff.mp e
      cases e
      obtain ⟨g1, g2, g3, g4⟩ := sort_reads I hm q r2 e2 fun p hp => hs p (List.mem_cons_of_mem _ hp)
      obtain ⟨as, r3⟩ := Dp.reads I _ _ _ (dp_of hm 62 h p e1 (shaped_lay (hs p List.mem_cons_self))) r1
      exact ⟨.cons ⟨_, r1, h⟩ g1, .cons ⟨as, r3⟩ g2, by simp only [List.zip_cons_cons, List.map_cons, g3], by simp only [List.zip_cons_cons, List.length_cons, g4]⟩
theorem sort_back {K : PySem.W.Frag} {H : Hp} {ι : List Addr} : ∀ {us : List Value} {bs : List (D × PyData)}, PySem.W.EachIs (fun u (b : D × PyData) => ∃ v, RelV v u ∧ DV K H ι b.1 v) us bs → ∃ ws, Vals ws us ∧ DVs K H ι (bs.map (·.1)) ws
  | _, _, .nil => ⟨[], .nil, .nil⟩
  | _, _, .cons ⟨v, h1, h2⟩ t => by
    obtain ⟨ws, g1, g2⟩ := sort_back t
    exact ⟨v :: ws, .cons h1 g1, .cons h2 g2⟩
theorem sortOk_parts {ps : List PyData} (h : sortOk ps = true) : (∀ p ∈ ps, SeqAt.shaped p = true ∧ p.depth ≤ 60) ∧ PySem.W.AllAlike ps ∧ PySem.W.Sortable ps := by
  unfold sortOk at h
  simp only [Bool.and_eq_true, List.all_eq_true, Bool.or_eq_true, decide_eq_true_eq] at h
  obtain ⟨⟨h1, h2⟩, h3⟩ := h
  refine ⟨h1, fun d hd d' hd' => h2 d hd d' hd', ?_⟩
  rcases h3 with h3 | h3
  · refine .inl fun d hd => ?_
    have := h3 d hd
    split at this
    · exact ⟨_, _, rfl⟩
    · cases this
  · refine .inr fun d hd => ?_
    have := h3 d hd
    split at this
    · cases this
    · cases this
    · rename_i z1 z2
      exact ⟨fun z => z1 z, fun xs z => z2 xs z⟩
theorem cl_sorted (hu : X.A.units + 64 < cLine) : CallR X (.builtin "sorted") (rBlL T X.K W .sorted) := by
  intro pins s σ H vs us Q I r ⟨ds, a, ws, M, ι, e0, hm, hl, q, h⟩
  subst e0
  simp only [bltL] at h
  split at h
  · rename_i ps e
    split at h
    · rename_i hok
      obtain ⟨hok, hL⟩ := hok
      obtain ⟨k1, k2, k3⟩ := sortOk_parts hok
      obtain ⟨its, rv, hil, hz⟩ := I.list hl
      rw [Vals.ref1 r]
      obtain ⟨g1, g2, g3, g4⟩ := sort_reads I hm q rv e fun p hp => (k1 p hp).1
      refine PySem.W.sorted_data (bs := ds.zip ps) (enc := fun b => b.2) (R := fun u (b : D × PyData) => ∃ v, RelV v u ∧ DV X.K H ι b.1 v) hil.isList g1 g2 (by rw [g3]; exact k2) (by rw [g3]; exact k3) (by rw [g4, sizeLine_eq]; exact hL) (fun b hb => ?_) fun out ho eo => ?_
      · have := (k1 b.2 (by rw [← g3]; exact List.mem_map.mpr ⟨b, hb, rfl⟩)).2
        omega
      · obtain ⟨ep, he'⟩ := PyProof.Rows.sortedAll_at s.heap its out.toArray
        obtain ⟨ws', v1, d1⟩ := sort_back eo
        have hp : H (s.heap.objs.size + 1) = none := I.hok.fresh (Nat.le_succ _)
        have ex := Ext.newM (ι := ι) (o := .lst ws') hp
        have hlen : ws'.length ≤ sizeLine := by rw [v1.length, ho, g4, sizeLine_eq]; exact hL
        refine ⟨.ref _, upd H (s.heap.objs.size + 1) (.lst ws'), I.laid (t' := s.toks) (fun _ _ => PyProof.Rows.sortedAll_old) (Nat.le_succ _) ⟨hlen, out, ep, v1, he'⟩, rfl, ?_⟩
        refine h _ _ _ ex (hm.newM hp ⟨_, upd_same, d1.ex ex⟩) (.ref ?_)
        rw [← hm.len]
        simp
    · exact h.elim
  · exact h.elim
theorem cb_sorted (hu : X.A.units + 64 < cLine) : CallR X (.builtin "sorted") (rBlt T X.K W .sorted) := by
  intro pins s σ H vs us Q I r ⟨dx, x, M, ι, e0, hm, hx, h⟩
  subst e0
  cases hx with
  | ref hi =>
    rcases cb_ref (cl_sorted hu) (by decide) I r hm hi h with g | ⟨kvs, ws, em, _, _⟩
    · exact g
    · simp only [bltM, em] at h
      exact h.elim
  | rol hr => exact cb_rol (cl_sorted hu) (by decide) (by decide) I r hm hr h
  | _ => exact False.elim h
end
end Mi

/-! Mi9: calls, displays, subscripts as terms. -/
namespace Mi
open PySem PySem.Spec
    PyProof.Rows L2
section
variable {X : Cx} {G : Gn} {T : XT} {F : Caller} {W : WX} {N : List Str} {sc : List (Str × NameKind)} {a b c e : Expr} {es : List Expr} {ca cb cc : E} {ces : Es} {pos p p2 p3 apos : Pos}
def starless : Expr → Bool
  | .Starred .. => false
  | _ => true
theorem star_cons {env : Env} (h : starless e = true) : starEach (e :: es) env = (false, eval e env) :: starEach es env := by
  cases e <;> first | rfl | cases h
theorem star_any {env : Env} : ∀ {es : List Expr}, es.all starless = true → (backTo pos (starEach es env)).any (·.1) = false
  | [], _ => rfl
  | e :: r, h => by
    simp only [List.all_cons,
        Bool.and_eq_true] at h
    rw [star_cons h.1]
    have ih := star_any (env := env) h.2
    unfold backTo at ih ⊢
    rw [List.map_cons, List.any_cons, ih]
    rfl
theorem star_all {env : Env} : ∀ {es : List Expr}, es.all starless = true → (backTo pos (starEach es env)).all (fun x => !x.1) = true
  | [], _ => rfl
  | e :: r, h => by
    simp only [List.all_cons,
        Bool.and_eq_true] at h
    rw [star_cons h.1]
    have ih := star_all (env := env) h.2
    unfold backTo at ih ⊢
    rw [List.map_cons, List.all_cons, ih]
    rfl
/-- a def runs -/
theorem run_G {pins : List (Addr × Obj)} {τ : St} {H : Hp} {s : Shared} {Q : VK} {us : List Value} {vs : List V} {k : Nat} {f : Addr} {fd : FuncData} {ps : List Str} {sp : Sp} {E : XK} (Fn : FnG X.prog X.w X.K X.mg X.base k f fd ps sp) (hr : Room k X.A) (hg : X.A.guards = some [])
    (hb : Binds X.K fd ps []) (hx : PassesAt (CX X.prog X.w) X τ E) (I : Inv X pins τ H s) (r : Vals vs us) (h : sp vs H Q E) : wpAny (model X.prog X.w) X.A (call (.ref f) us) (EP X pins τ Q) X.xe s := by
  have n : us.length = ps.length := r.length ▸ Fn.len _ _ _ _ h
  have bt := hb s us I.kIn (by rw [List.append_nil]; exact n)
  rw [List.append_nil] at bt
  have run := Fn.run X.A X.stack s H ⟨us, []⟩ us vs Q E hr hg I.env0 bt r h
  refine wpAny_call (codeAny_mono run fun z s2 hz => ?_)
  match z, hz with
  | .error e, hz => exact hx pins H s e s2 I hz
  | .ok (.ret u), hz => exact I.after hz
theorem me_call {x : Str} {f : Nat} (k : Cok X G T F W N sc) (hx : sc.lookup x = some .globalImplicit) (hf : G.fns.lookup x = some f) (hd : (x == ("__debug__" : Str)) = false) (hst : (e :: es).all starless = true) (ha : PA X (e :: es) (tA T X.K W F ces)) :
    PE X (.Call (.Name x p) (e :: es) [] pos) (tE T X.K W F (.call f ces)) := by
  obtain ⟨fa, fd, ps, j, mg, kp, bi, rm, Fn⟩ := k.fns x f hf
  simp only [List.all_cons, Bool.and_eq_true] at hst
  refine ⟨fun pins s τ H Q I ⟨σ, M, ι, hs, hm, h⟩ => ?_⟩
  refine wpAny_Call_Name_kw (ld_glob I (k.glo x hx) mg ?_ hd)
  refine PySem.W.callWith_K (h₀ := X.base) I.ok.mod.kin kp (thn (ha.run pos pins s τ H (fun vs H1 => spG T X.K F (G.nps.getD f 0) f vs H1 Q (WE W τ)) I ?_) fun us s1 ⟨vs, H1, I1, r, q⟩ => ⟨I1.kIn, ?_⟩) (star_cons hst.1) (star_any hst.2)
  · rw [ev] at h
    refine ⟨σ, M, ι, hs, hm, PostA.bindE h fun xs M1 vs H1 ι1 e1 m1 d1 h1 => ⟨xs, M1, ι1, m1, d1, k.ar _ _ M1 fun z => ?_, h1⟩⟩
    rw [z] at h1
    exact h1
  · exact run_G Fn rm k.grd bi (passAt k.tk τ) I1 r q
theorem me_call0 {x : Str} {f : Nat} (k : Cok X G T F W N sc) (hx : sc.lookup x = some .globalImplicit) (hf : G.fns.lookup x = some f) (hd : (x == ("__debug__" : Str)) = false) :
    PE X (.Call (.Name x p) [] [] pos) (tE T X.K W F (.call f .nil)) := by
  obtain ⟨fa, fd, ps, j, mg, kp, bi, rm, Fn⟩ := k.fns x f hf
  refine ⟨fun pins s τ H Q I ⟨σ, M, ι, hs, hm, h⟩ => ?_⟩
  refine wpAny_Call_Name_kw (ld_glob I (k.glo x hx) mg ?_ hd)
  refine PySem.W.callWith_K0 I.kIn kp (run_G (E := WE W τ) (vs := []) Fn rm k.grd bi (passAt k.tk τ) I .nil ⟨[], M, ι, hm, .nil, k.ar _ _ M fun z => ?_, ?_⟩)
  · simp only [ev, evs, bnd, ok, z] at h
    exact h
  · simp only [ev, evs, bnd, ok] at h
    exact h
theorem PostE.free {W' : WX} {τ τ' : St} {H : Hp} {ι : List Addr} {r : R D} {Q : VK} {K : PySem.W.Frag} (hx : ∀ e M', r ≠ some (.exc e M')) (h : PostE T K W τ H ι r Q) : PostE T K W' τ' H ι r Q := by
  match r, h, hx with
  | some (.ok d M'), h, _ => exact h
  | some (.exc y M'), _, hx => exact absurd rfl (hx y M')
theorem ok_noexc {α : Type} {d : α} {M M' : Hm} {e : Ex} : ok d M ≠ some (.exc e M') := fun z => by cases z
theorem ifo_noexc {c : Bool} {d : D} {M M' : Hm} {e : Ex} : ifo c (ok d M) ≠ some (.exc e M') := fun z => by cases c <;> cases z
theorem bltL_noexc {b : Blt} {ds : List D} {M M' : Hm} {e : Ex} : bltL b ds M ≠ some (.exc e M') := fun h => by
  unfold bltL at h
  split at h <;> first | (cases h; done) | (split at h <;> first | (cases h; done) | (split at h <;> cases h))
theorem blt_noexc {b : Blt} {x : D} {M M' : Hm} {e : Ex} : bltM b x M ≠ some (.exc e M') := fun h => by
  unfold bltM at h
  split at h <;> first
    | (cases h; done)
    | exact bltL_noexc h
    | (split at h <;> first
        | (cases h; done)
        | exact bltL_noexc h
        | (split at h <;> cases h))
theorem slc_noexc {x : D} {lo hi : Option Int} {M M' : Hm} {e : Ex} : slcM x lo hi M ≠ some (.exc e M') := fun h => by
  unfold slcM at h
  split at h <;> first | (cases h; done) | (split at h <;> cases h)
/-- a built-in function, a type, of one value -/
theorem me_bltB {x : Str} {id : String} {bl : Blt} (hc : CallR X (.builtin id) (rBlt T X.K W bl)) (k : Cok X G T F W N sc) (hx : sc.lookup x = some .globalImplicit) (hm : X.mg x = none) (hv : bootBuiltins x = some (.builtin id)) (hn : x ≠ "__name__") (hd : (x == ("__debug__" : Str)) = false)
    (hst : starless a = true) (ha : PE X a (tE T X.K W F ca)) (hca : ∀ σ M, ev F (.blt bl ca) σ M = bnd (ev F ca σ M) fun x M1 => bltM bl x M1) : PE X (.Call (.Name x p) [a] [] pos) (tE T X.K W F (.blt bl ca)) := by
  refine (pe_callB hc (k.glo x hx) hm hv (pa_cons ha pa_nil (star_cons hst)) hn hd (star_cons hst) rfl).imp fun τ H Q ⟨σ, M, ι, hs, hm, h⟩ => ?_
  rw [hca] at h
  refine ⟨σ, M, ι, hs, hm, PostE.bind h fun x M1 v H1 ι1 e1 m1 d1 h1 => ?_⟩
  exact ⟨x, v, M1, ι1, rfl, m1, d1, h1.free fun _ _ => blt_noexc⟩
theorem me_bltT {x : Str} {id : String} {bl : Blt} (hc : CallR X (.type id) (rBlt T X.K W bl)) (k : Cok X G T F W N sc) (hx : sc.lookup x = some .globalImplicit) (hm : X.mg x = none) (hv : bootBuiltins x = some (.type id)) (hn : x ≠ "__name__") (hd : (x == ("__debug__" : Str)) = false)
    (hst : starless a = true) (ha : PE X a (tE T X.K W F ca)) (hca : ∀ σ M, ev F (.blt bl ca) σ M = bnd (ev F ca σ M) fun x M1 => bltM bl x M1) : PE X (.Call (.Name x p) [a] [] pos) (tE T X.K W F (.blt bl ca)) := by
  refine (pe_callTy hc (k.glo x hx) hm hv (pa_cons ha pa_nil (star_cons hst)) hn hd (star_cons hst) rfl).imp fun τ H Q ⟨σ, M, ι, hs, hm, h⟩ => ?_
  rw [hca] at h
  refine ⟨σ, M, ι, hs, hm, PostE.bind h fun x M1 v H1 ι1 e1 m1 d1 h1 => ?_⟩
  exact ⟨x, v, M1, ι1, rfl, m1, d1, h1.free fun _ _ => blt_noexc⟩
/-- what the reading of a new list is -/
def tN (T : XT) (K : PySem.W.Frag) (W : WX) (f : Sl → Hm → R (List D)) : TE := fun τ H Q => ∃ σ M ι, SM K H ι σ τ ∧ HM K H ι M ∧
  Post T K W τ H ι (f σ M) fun ds M' H' ι' => ∀ a vs, H a = none → H' a = some (.lst vs) → a ∉ ι' → DVs K H' ι' ds vs → Q (.ref a) H'
theorem me_bltBN {x : Str} {id : String} {bl : Blt} {f : Sl → Hm → R (List D)} (hc : CallR X (.builtin id) (rBlL T X.K W bl)) (k : Cok X G T F W N sc) (hx : sc.lookup x = some .globalImplicit) (hm : X.mg x = none) (hv : bootBuiltins x = some (.builtin id)) (hn : x ≠ "__name__") (hd : (x == ("__debug__" : Str)) = false)
    (hst : starless a = true) (ha : PE X a (tN T X.K W f)) (hca : ∀ σ M, ev F (.blt bl ca) σ M = bnd (f σ M) fun x M1 => bltL bl x M1) : PE X (.Call (.Name x p) [a] [] pos) (tE T X.K W F (.blt bl ca)) := by
  refine (pe_callB hc (k.glo x hx) hm hv (pa_cons ha pa_nil (star_cons hst)) hn hd (star_cons hst) rfl).imp fun τ H Q ⟨σ, M, ι, hs, hm, h⟩ => ?_
  rw [hca] at h
  refine ⟨σ, M, ι, hs, hm, ?_⟩
  match q : f σ M with
  | none => rw [q] at h; exact h.elim
  | some (.exc e M') => rw [q] at h; exact h
  | some (.ok ds M') =>
    rw [q] at h
    intro H' ι' e1 m1 a vs h0 h1 h2 h3
    exact ⟨ds, a, vs, M', ι', rfl, m1, SqL.of h1, h3, (PostE.ex h e1).free fun _ _ => bltL_noexc⟩
theorem me_bltTN {x : Str} {id : String} {bl : Blt} {f : Sl → Hm → R (List D)} (hc : CallR X (.type id) (rBlL T X.K W bl)) (k : Cok X G T F W N sc) (hx : sc.lookup x = some .globalImplicit) (hm : X.mg x = none) (hv : bootBuiltins x = some (.type id)) (hn : x ≠ "__name__") (hd : (x == ("__debug__" : Str)) = false)
    (hst : starless a = true) (ha : PE X a (tN T X.K W f)) (hca : ∀ σ M, ev F (.blt bl ca) σ M = bnd (f σ M) fun x M1 => bltL bl x M1) : PE X (.Call (.Name x p) [a] [] pos) (tE T X.K W F (.blt bl ca)) := by
  refine (pe_callTy hc (k.glo x hx) hm hv (pa_cons ha pa_nil (star_cons hst)) hn hd (star_cons hst) rfl).imp fun τ H Q ⟨σ, M, ι, hs, hm, h⟩ => ?_
  rw [hca] at h
  refine ⟨σ, M, ι, hs, hm, ?_⟩
  match q : f σ M with
  | none => rw [q] at h; exact h.elim
  | some (.exc e M') => rw [q] at h; exact h
  | some (.ok ds M') =>
    rw [q] at h
    intro H' ι' e1 m1 a vs h0 h1 h2 h3
    exact ⟨ds, a, vs, M', ι', rfl, m1, SqL.of h1, h3, (PostE.ex h e1).free fun _ _ => bltL_noexc⟩
/-- a new list that stands apart, taken in -/
theorem HM.take {K : PySem.W.Frag} {H : Hp} {ι : List Addr} {M : Hm} (m : HM K H ι M) {a : Addr} {vs : List V} {ds : List D} (h1 : H a = some (.lst vs)) (h2 : a ∉ ι) (h3 : DVs K H ι ds vs) : HM K H (ι ++ [a]) (M ++ [.lst ds]) := by
  have up : ∀ (i : Nat) x, ι[i]? = some x → (ι ++ [a])[i]? = some x := fun i x e => by
    rw [List.getElem?_append_left (List.getElem?_eq_some_iff.mp e).1]
    exact e
  have old : ∀ {i : Nat} {b : Addr} {q : MO}, (ι ++ [a])[i]? = some b → (M ++ [MO.lst ds])[i]? = some q → (ι[i]? = some b ∧ M[i]? = some q) ∨ (i = ι.length ∧ b = a ∧ q = .lst ds) := fun {i b q} e em => by
    by_cases hi : i < ι.length
    · rw [List.getElem?_append_left hi] at e
      rw [List.getElem?_append_left (by rw [← m.len]; exact hi)] at em
      exact .inl ⟨e, em⟩
    · have hi2 : i = ι.length := by
        have := (List.getElem?_eq_some_iff.mp e).1
        rw [List.length_append, List.length_singleton] at this
        omega
      subst hi2
      rw [List.getElem?_append_right (Nat.le_refl _), Nat.sub_self] at e
      rw [m.len, List.getElem?_append_right (Nat.le_refl _), Nat.sub_self] at em
      cases e
      cases em
      exact .inr ⟨rfl, rfl, rfl⟩
  have ne : ∀ {i : Nat} {b : Addr}, ι[i]? = some b → b ≠ a := fun e z => h2 (z ▸ List.mem_of_getElem? e)
  refine ⟨by rw [List.length_append, List.length_append, m.len]; rfl, fun i j b o1 o2 e1 e2 m1 m2 r1 r2 => ?_, fun i b q e em => ?_⟩
  · rcases old e1 m1 with ⟨x1, y1⟩ | ⟨x1, y1, z1⟩
    · rcases old e2 m2 with ⟨x2, y2⟩ | ⟨x2, y2, z2⟩
      · exact m.nd i j b o1 o2 x1 x2 y1 y2 r1 r2
      · exact absurd y2 (ne x1)
    · rcases old e2 m2 with ⟨x2, y2⟩ | ⟨x2, y2, z2⟩
      · exact absurd y1 (ne x2)
      · rw [x1, x2]
  · rcases old e em with ⟨x1, y1⟩ | ⟨x1, y1, z1⟩
    · exact (m.ob i b q x1 y1).to (fun _ _ e _ => e) up fun _ => rfl
    · subst y1 z1
      exact ⟨vs, h1, h3.to (fun _ _ e _ => e) up⟩
theorem Ext.take {H H' : Hp} {ι ι' : List Addr} (e : Ext H ι H' ι') {a : Addr} (h0 : H a = none) : Ext H ι H' (ι' ++ [a]) := by
  obtain ⟨t, et⟩ := e.pre
  refine ⟨⟨t ++ [a], by rw [et, List.append_assoc]⟩, fun x h1 h2 => ?_, e.frm, e.stay⟩
  rcases List.mem_append.mp h1 with h | h
  · exact e.new x h h2
  · rw [List.mem_singleton.mp h]
    exact h0
theorem me_new {f : Sl → Hm → R (List D)} (ha : PE X a (tN T X.K W f)) (hca : ∀ σ M, ev F ca σ M = bnd (f σ M) fun ds M1 => ok (.ref M1.length) (M1 ++ [.lst ds])) : PE X a (tE T X.K W F ca) := by
  refine ha.imp fun τ H Q ⟨σ, M, ι, hs, hm, h⟩ => ⟨σ, M, ι, hs, hm, ?_⟩
  rw [hca] at h
  match q : f σ M with
  | none => rw [q] at h; exact h.elim
  | some (.exc e M') => rw [q] at h; exact h
  | some (.ok ds M') =>
    rw [q] at h
    intro H' ι' e1 m1 a vs h0 h1 h2 h3
    exact h (.ref a) H' (ι' ++ [a]) (e1.take h0) (m1.take h1 h2 h3) (.ref (by rw [← m1.len]; simp))
/-! ### two arguments -/
theorem me_bl2 {x : Str} {bl : Blt} (hbl : bl = .max ∧ x = "max" ∨ bl = .min ∧ x = "min") (k : Cok X G T F W N sc) (hx : sc.lookup x = some .globalImplicit) (hm : X.mg x = none) (hst : starless a = true) (hst2 : starless b = true) (ha : PE X a (tE T X.K W F ca)) (hb : PE X b (tE T X.K W F cb)) :
    PE X (.Call (.Name x p) [a, b] [] pos) (tE T X.K W F (.bl2 bl ca cb)) := by
  have sa : starEach [a, b] X.env = (false, eval a X.env) :: starEach [b] X.env := star_cons hst
  have sb : starEach [b] X.env = (false, eval b X.env) :: starEach [] X.env := star_cons hst2
  have an : (backTo pos (starEach [b] X.env)).any (·.1) = false := by rw [sb]; rfl
  rcases hbl with ⟨rfl, rfl⟩ | ⟨rfl, rfl⟩
  · refine (pe_callB (call_max2 k.calm) (k.glo _ hx) hm (by decide +kernel) (pa_cons ha (pa_cons hb pa_nil sb) sa) (by decide) (by decide) sa an).imp fun τ H Q ⟨σ, M, ι, hs, hm, h⟩ => ?_
    rw [ev] at h
    refine ⟨σ, M, ι, hs, hm, PostE.bind h fun x M1 v H1 ι1 e1 m1 d1 h1 => ?_⟩
    refine ⟨σ, M1, ι1, hs.ex e1, m1, PostE.bind h1 fun y M2 u H2 ι2 e2 m2 d2 h2 => ?_⟩
    cases d1 with
    | int i =>
      cases d2 with
      | int j => exact ⟨i, j, rfl, h2 _ _ _ Ext.refl m2 (.int _)⟩
      | _ => exact False.elim h2
    | _ => exact False.elim h2
  · refine (pe_callB (call_min2 k.calm) (k.glo _ hx) hm (by decide +kernel) (pa_cons ha (pa_cons hb pa_nil sb) sa) (by decide) (by decide) sa an).imp fun τ H Q ⟨σ, M, ι, hs, hm, h⟩ => ?_
    rw [ev] at h
    refine ⟨σ, M, ι, hs, hm, PostE.bind h fun x M1 v H1 ι1 e1 m1 d1 h1 => ?_⟩
    refine ⟨σ, M1, ι1, hs.ex e1, m1, PostE.bind h1 fun y M2 u H2 ι2 e2 m2 d2 h2 => ?_⟩
    cases d1 with
    | int i =>
      cases d2 with
      | int j => exact ⟨i, j, rfl, h2 _ _ _ Ext.refl m2 (.int _)⟩
      | _ => exact False.elim h2
    | _ => exact False.elim h2
/-! ### displays, subscripts -/
theorem me_lst (ha : PA X es (tA T X.K W F ces)) : PE X (.List es pos) (tE T X.K W F (.lst ces)) := by
  refine (pe_lst ha).imp fun τ H Q ⟨σ, M, ι, hs, hm, h⟩ => ?_
  rw [ev] at h
  refine ⟨σ, M, ι, hs, hm, PostA.bindE h fun xs M1 vs H1 ι1 e1 m1 d1 h1 => ?_⟩
  unfold newL at h1
  split at h1
  · rename_i hl
    refine ⟨by rw [← d1.len, sizeLine_eq]; exact hl, fun p hp => ?_⟩
    have ex := Ext.newM (ι := ι1) (o := .lst vs) hp
    exact h1 _ _ _ ex (m1.newM hp ⟨_, upd_same, d1.ex ex⟩) (.ref (by rw [← m1.len]; simp))
  · exact h1.elim
theorem me_idx (k : Cok X G T F W N sc) (ha : PE X a (tE T X.K W F ca)) (hb : PE X b (tE T X.K W F cb)) (hp : PlainIx b) : PE X (.Subscript a b pos) (tE T X.K W F (.idx ca cb)) := by
  have hu := k.units
  refine (pe_ix (mi_ix (by omega)) ha hb hp).imp fun τ H Q ⟨σ, M, ι, hs, hm, h⟩ => ?_
  rw [ev] at h
  refine ⟨σ, M, ι, hs, hm, PostE.bind h fun x M1 v H1 ι1 e1 m1 d1 h1 => ?_⟩
  refine ⟨σ, M1, ι1, hs.ex e1, m1, PostE.bind h1 fun y M2 u H2 ι2 e2 m2 d2 h2 => ?_⟩
  cases q : idxM x y M2 with
  | none => rw [q] at h2; exact h2.elim
  | some d =>
    rw [q] at h2
    exact ⟨x, y, M2, ι2, d, m2, d1.ex e2, d2, q, fun w hw => h2 _ _ _ Ext.refl m2 hw⟩
def tO (T : XT) (K : PySem.W.Frag) (W : WX) (F : Caller) (c : Eo) : TO := fun τ H Q => ∃ σ M ι, SM K H ι σ τ ∧ HM K H ι M ∧ Post T K W τ H ι (evo F c σ M) fun o _ H' _ => Q o H'
theorem mo_none : PO X none (tO T X.K W F .no) := by
  have h := po_none (X := X)
  refine ⟨fun pins s τ H Q I ⟨σ, M, ι, hs, hm, q⟩ => h.run pins s τ H Q I ?_⟩
  rw [evo] at q
  exact q _ _ Ext.refl hm
theorem Post.bindE {α : Type} {K : PySem.W.Frag} {τ : St} {H : Hp} {ι : List Addr} {x : R D} {f : D → Hm → R α} {g : α → Hm → Hp → List Addr → Prop} {Q' : VK} (h : Post T K W τ H ι (bnd x f) g)
    (k : ∀ d M1 v H1 ι1, Ext H ι H1 ι1 → HM K H1 ι1 M1 → DV K H1 ι1 d v → Post T K W τ H1 ι1 (f d M1) g → Q' v H1) : PostE T K W τ H ι x Q' :=
  PostE.of (fun H ι r => Post T K W τ H ι r g) (fun _ _ h => h) id (fun _ _ _ e h => h.ex e) h k
theorem PostE.bindO {α : Type} {K : PySem.W.Frag} {τ : St} {H : Hp} {ι : List Addr} {x : R α} {f : α → Hm → R D} {g : α → Hm → Hp → List Addr → Prop} {Q' : VK} (h : PostE T K W τ H ι (bnd x f) Q')
    (k : ∀ d M1 H1 ι1, Ext H ι H1 ι1 → HM K H1 ι1 M1 → PostE T K W τ H1 ι1 (f d M1) Q' → g d M1 H1 ι1) : Post T K W τ H ι x g := by
  match x, h with
  | some (.ok d M'), h => exact fun H' ι' e m => k d M' H' ι' e m (PostE.ex h e)
  | some (.exc y M'), h => exact h
theorem mo_some (ha : PE X a (tE T X.K W F ca)) : PO X (some a) (tO T X.K W F (.so ca)) := by
  have h := po_some ha
  refine ⟨fun pins s τ H Q I ⟨σ, M, ι, hs, hm, q⟩ => h.run pins s τ H Q I ?_⟩
  rw [evo] at q
  refine ⟨σ, M, ι, hs, hm, Post.bindE q fun x M1 v H1 ι1 e1 m1 d1 h1 => ?_⟩
  cases d1 with
  | int i =>
    simp only at h1
    split at h1
    · exact ⟨i, rfl, h1 _ _ Ext.refl m1⟩
    · exact h1.elim
  | _ => exact False.elim h1
theorem me_slc {lo hi : Option Expr} {cl ch : Eo} (ha : PE X a (tE T X.K W F ca)) (hl : PO X lo (tO T X.K W F cl)) (hh : PO X hi (tO T X.K W F ch)) : PE X (.Subscript a (.Slice lo hi none p2) pos) (tE T X.K W F (.slc ca cl ch)) := by
  refine (pe_slice (mi_slc (T := T) (W := W)) ha hl hh).imp fun τ H Q ⟨σ, M, ι, hs, hm, h⟩ => ?_
  rw [ev] at h
  refine ⟨σ, M, ι, hs, hm, PostE.bind h fun x M1 v H1 ι1 e1 m1 d1 h1 => ?_⟩
  refine ⟨σ, M1, ι1, hs.ex e1, m1, PostE.bindO h1 fun l M2 H2 ι2 e2 m2 h2 => ?_⟩
  refine ⟨σ, M2, ι2, (hs.ex e1).ex e2, m2, PostE.bindO h2 fun u M3 H3 ι3 e3 m3 h3 => ?_⟩
  exact ⟨x, M3, ι3, m3, (d1.ex e2).ex e3, h3.free fun _ _ => slc_noexc⟩
/-! ### isinstance -/
def Ty.nm : Ty → String
  | .int => "int"
  | .bool => "bool"
  | .str => "str"
  | .tuple => "tuple"
  | .list => "list"
  | .dict => "dict"
def Ty.x : Ty → Str
  | .int => "int"
  | .bool => "bool"
  | .str => "str"
  | .tuple => "tuple"
  | .list => "list"
  | .dict => "dict"
theorem isi_rel {K : PySem.W.Frag} {H : Hp} {ι : List Addr} {M : Hm} (m : HM K H ι M) {x : D} {v : V} {t : Ty} {k : Bool} (h : DV K H ι x v) (e : isiM x t M = some k) : ∃ ty, TyX K H v ty ∧ PySem.W.kitOne K ty (.type t.nm) = some k := by
  have fin : ∀ {n : String} {b : Bool}, kitB n t.nm = some b → TyX K H v (.type n) → b = k → ∃ ty, TyX K H v ty ∧ PySem.W.kitOne K ty (.type t.nm) = some k := fun q z e => ⟨_, z, by rw [← e]; exact kit_ty q⟩
  cases h with
  | non => cases e; cases t <;> exact fin (n := "NoneType") (b := false) (by decide +kernel) (.base .non) rfl
  | bl b => cases e; cases t <;> first | exact fin (n := "bool") (b := true) (by decide +kernel) (.base (.bl b)) rfl | exact fin (n := "bool") (b := false) (by decide +kernel) (.base (.bl b)) rfl
  | int b => cases e; cases t <;> first | exact fin (n := "int") (b := true) (by decide +kernel) (.base (.int b)) rfl | exact fin (n := "int") (b := false) (by decide +kernel) (.base (.int b)) rfl
  | str b => cases e; cases t <;> first | exact fin (n := "str") (b := true) (by decide +kernel) (.base (.str _)) rfl | exact fin (n := "str") (b := false) (by decide +kernel) (.base (.str _)) rfl
  | @tup a0 vs ds h1 r =>
    have z : TyX K H (.ref a0) (.type "tuple") := by
      rcases h1 with (h1 | ⟨o, h1⟩) | ⟨o, its, n, h1, h2, _⟩
      · exact .base (.tup h1)
      · exact .fTuple h1
      · exact .kTuple h1 h2
    cases e
    cases t <;> first | exact fin (n := "tuple") (b := true) (by decide +kernel) z rfl | exact fin (n := "tuple") (b := false) (by decide +kernel) z rfl
  | rol hr => cases e
  | ref hi =>
    obtain ⟨o, em, om⟩ := m.at hi
    simp only [isiM, em] at e
    cases o with
    | lst ds =>
      obtain ⟨vs, e1, r⟩ := om
      cases e
      cases t <;> first | exact fin (n := "list") (b := true) (by decide +kernel) (.base (.lst e1)) rfl | exact fin (n := "list") (b := false) (by decide +kernel) (.base (.lst e1)) rfl
    | dct ds =>
      obtain ⟨vs, e1, r⟩ := om
      cases e
      cases t <;> first | exact fin (n := "dict") (b := true) (by decide +kernel) (.base (.dK e1)) rfl | exact fin (n := "dict") (b := false) (by decide +kernel) (.base (.dK e1)) rfl
theorem me_isi {t : Ty} (k : Cok X G T F W N sc) (hx : sc.lookup ("isinstance" : Str) = some .globalImplicit) (hm : X.mg ("isinstance" : Str) = none) (hy : sc.lookup t.x = some .globalImplicit) (hmy : X.mg t.x = none) (hst : starless a = true) (ha : PE X a (tE T X.K W F ca)) :
    PE X (.Call (.Name "isinstance" p) [a, .Name t.x p2] [] pos) (tE T X.K W F (.isi ca [t])) := by
  have sa : starEach [a, .Name t.x p2] X.env = (false, eval a X.env) :: starEach [.Name t.x p2] X.env := star_cons hst
  have hb : PE X (.Name t.x p2) (tC (.ty t.nm)) := by
    have g := k.glo _ hy
    cases t <;> exact pe_bltn g hmy (by decide +kernel) rfl
  refine (pe_callB call_isi (k.glo _ hx) hm PyProof.Rows.boot_isinstance (pa_cons ha (pa_cons hb pa_nil rfl) sa) (by decide) (by decide) sa rfl).imp fun τ H Q ⟨σ, M, ι, hs, hm, h⟩ => ?_
  rw [ev] at h
  refine ⟨σ, M, ι, hs, hm, PostE.bind h fun x M1 v H1 ι1 e1 m1 d1 h1 => ?_⟩
  cases q : isiM x t M1 with
  | none => simp only [List.mapM_cons, q] at h1; exact h1.elim
  | some b =>
    simp [q] at h1
    obtain ⟨ty, z1, z2⟩ := isi_rel m1 d1 q
    exact ⟨v, .ty t.nm, ty, _, b, rfl, .ty _, z1, z2, h1 _ _ _ Ext.refl m1 (.bl _)⟩
/-! ### methods -/
def noCall : Expr → Bool
  | .Call .. => false
  | _ => true
theorem attr_base {o : Expr} {nm : Str} {env : Env} {w : Sem Value} (h : noCall o = true) : attributeBase o nm env w = w := by
  cases o <;> first | rfl | cases h
theorem join_tx (x : List Nat) : ∀ ts : List (List Nat), Txt.join ⟨x.toArray⟩ (ts.map fun z => (⟨z.toArray⟩ : Str)) = ⟨(joinS x ts).toArray⟩ := by
  intro ts
  rw [TL.join_eq]
  induction ts with
  | nil => rfl
  | cons a r ih =>
    cases r with
    | nil => rfl
    | cons b r =>
      rw [show joinS x (a :: b :: r) = a ++ x ++ joinS x (b :: r) from rfl]
      show (⟨a.toArray⟩ : Str) ++ ⟨x.toArray⟩ ++ Str.join ⟨x.toArray⟩ ((b :: r).map fun z => (⟨z.toArray⟩ : Str)) = _
      rw [ih]
      show (⟨a.toArray ++ x.toArray ++ (joinS x (b :: r)).toArray⟩ : Str) = _
      simp
theorem join_sum (ts : List (List Nat)) : ((ts.map fun z => (⟨z.toArray⟩ : Str)).map (·.length)).sum = (ts.map List.length).sum := by
  rw [List.map_map]
  rfl
theorem joinL_ok {K : PySem.W.Frag} {τ : St} {H : Hp} {ι : List Addr} {sep : List Nat} {ds : List D} {M : Hm} {Q : VK} {vs : List V} (r : DVs K H ι ds vs) (m : HM K H ι M) (h : PostE T K W τ H ι (joinL sep ds M) Q) :
    ∃ ys : List Str, vs = ys.map V.str ∧ (ys.map (·.length)).sum + ys.length * (⟨sep.toArray⟩ : Str).length ≤ 16777216 ∧ Q (.str (Txt.join ⟨sep.toArray⟩ ys)) H := by
  unfold joinL at h
  split at h
  · rename_i ts e
    unfold ifo at h
    split at h
    · rename_i hl
      have hl := of_decide_eq_true hl
      refine ⟨_, strs_rel r e, ?_, ?_⟩
      · rw [join_sum, List.length_map]
        exact hl
      · rw [join_tx]
        exact h _ _ _ Ext.refl m (.str _)
    · exact h.elim
  · exact h.elim
theorem me_joinN {f : Sl → Hm → R (List D)} (ha : PE X a (tE T X.K W F ca)) (hb : PE X b (tN T X.K W f)) (hst : starless b = true) (hbase : noCall a = true) (hline : (apos.endLine == pos.line) = true)
    (hca : ∀ σ M, ev F (.join ca cb) σ M = bnd (ev F ca σ M) fun x M1 => strK x fun sep => bnd (f σ M1) fun ds M3 => joinL sep ds M3) :
    PE X (.Call (.Attribute a "join" apos) [b] [] pos) (tE T X.K W F (.join ca cb)) := by
  refine (pe_join ha hb (star_cons hst) (attr_base hbase) hline).imp fun τ H Q ⟨σ, M, ι, hs, hm, h⟩ => ?_
  rw [hca] at h
  refine ⟨σ, M, ι, hs, hm, PostE.bind h fun x M1 v H1 ι1 e1 m1 d1 h1 => ?_⟩
  cases d1 with
  | str sep =>
    refine ⟨⟨_, rfl⟩, σ, M1, ι1, hs.ex e1, m1, PostE.bindO h1 fun ds M2 H2 ι2 e2 m2 h2 a vs z1 z2 z3 z4 => ?_⟩
    obtain ⟨ys, y1, y2, y3⟩ := joinL_ok z4 m2 h2
    exact ⟨_, a, ys, rfl, rfl, .inl (y1 ▸ SqL.of z2), y2, y3⟩
  | _ => exact False.elim h1
theorem me_join (ha : PE X a (tE T X.K W F ca)) (hb : PE X b (tE T X.K W F cb)) (hst : starless b = true) (hbase : noCall a = true) (hline : (apos.endLine == pos.line) = true)
    (hca : ∀ σ M, ev F (.join ca cb) σ M = bnd (ev F ca σ M) fun x M1 => strK x fun sep => bnd (ev F cb σ M1) fun y M2 => joinM sep y M2) :
    PE X (.Call (.Attribute a "join" apos) [b] [] pos) (tE T X.K W F (.join ca cb)) := by
  refine (pe_join ha hb (star_cons hst) (attr_base hbase) hline).imp fun τ H Q ⟨σ, M, ι, hs, hm, h⟩ => ?_
  rw [hca] at h
  refine ⟨σ, M, ι, hs, hm, PostE.bind h fun x M1 v H1 ι1 e1 m1 d1 h1 => ?_⟩
  cases d1 with
  | str sep =>
    refine ⟨⟨_, rfl⟩, σ, M1, ι1, hs.ex e1, m1, PostE.bind h1 fun y M2 u H2 ι2 e2 m2 d2 h2 => ?_⟩
    unfold joinM at h2
    split at h2
    · rename_i ds e
      cases d2 with
      | tup q r =>
        cases e
        obtain ⟨ys, y1, y2, y3⟩ := joinL_ok r m2 h2
        exact ⟨_, _, ys, rfl, rfl, .inr (y1 ▸ q), y2, y3⟩
      | rol hr =>
        cases e
        obtain ⟨ys, y1, y2, y3⟩ := joinL_ok (rol_rel _) m2 h2
        exact ⟨_, _, ys, rfl, rfl, .inl (y1 ▸ hr.sql), y2, y3⟩
      | ref hi =>
        obtain ⟨o, em, om⟩ := m2.at hi
        simp only [seqM, em] at e
        cases o with
        | lst ds =>
          obtain ⟨vs, q, r⟩ := om
          cases e
          obtain ⟨ys, y1, y2, y3⟩ := joinL_ok r m2 h2
          exact ⟨_, _, ys, rfl, rfl, .inl (y1 ▸ SqL.of q), y2, y3⟩
        | dct ds => cases e
      | _ => cases e
    · exact h2.elim
  | _ => exact False.elim h1
theorem me_app (ha : PE X a (tE T X.K W F ca)) (hb : PE X b (tE T X.K W F cb)) (hst : starless b = true) (hbase : noCall a = true) (hline : (apos.endLine == pos.line) = true) :
    PE X (.Call (.Attribute a "append" apos) [b] [] pos) (tE T X.K W F (.app ca cb)) := by
  have sb : starEach [b] X.env = (false, eval b X.env) :: starEach [] X.env := star_cons hst
  refine (pe_bm (T := "list") PySem.F.plainAttrs_list PySem.F.slot_list_append PySem.F.type_list_append mt_append ha (pa_cons hb pa_nil sb) (attr_base hbase) (by rw [sb]; rfl) hline sb rfl).imp fun τ H Q ⟨σ, M, ι, hs, hm, h⟩ => ?_
  rw [ev] at h
  refine ⟨σ, M, ι, hs, hm, PostE.bind h fun x M1 v H1 ι1 e1 m1 d1 h1 => ?_⟩
  split at h1
  · rename_i hl
    cases d1 with
    | @ref i a0 hi =>
      obtain ⟨o, em, om⟩ := m1.at hi
      simp only [isLst, em] at hl
      cases o with
      | lst ds =>
        obtain ⟨vs, q, r⟩ := om
        refine ⟨.inl ⟨rfl, vs, SqL.of q⟩, σ, M1, ι1, hs.ex e1, m1, PostE.bind h1 fun y M2 u H2 ι2 e2 m2 d2 h2 => ?_⟩
        obtain ⟨o2, em2, om2⟩ := m2.at (e2.get hi)
        simp only [appM, em2] at h2
        cases o2 with
        | lst ds2 =>
          obtain ⟨vs2, q2, r2⟩ := om2
          simp only [ifo] at h2
          split at h2
          · rename_i hz
            have hz := of_decide_eq_true hz
            refine ⟨a0, vs2, u, rfl, rfl, q2, by rw [← r2.len, sizeLine_eq]; exact hz, ?_⟩
            have mu : Mut (H2 a0) := by rw [q2]; trivial
            have ex := Ext.put (o := .lst (vs2 ++ [u])) (List.mem_of_getElem? (e2.get hi)) mu
            exact h2 _ _ _ ex (m2.put (e2.get hi) mu em2 rfl ⟨_, upd_same, (r2.app (.cons d2 .nil)).ex ex⟩) .non
          · exact h2.elim
        | dct ds2 => exact h2.elim
      | _ => cases hl
    | _ => cases hl
  · exact h1.elim
theorem me_get (k : Cok X G T F W N sc) (ha : PE X a (tE T X.K W F ca)) (hb : PE X b (tE T X.K W F cb)) (hc : PE X c (tE T X.K W F cc)) (hst : starless b = true) (hst2 : starless c = true) (hbase : noCall a = true) (hline : (apos.endLine == pos.line) = true) :
    PE X (.Call (.Attribute a "get" apos) [b, c] [] pos) (tE T X.K W F (.get ca cb cc)) := by
  have hu := k.units
  have sb : starEach [b, c] X.env = (false, eval b X.env) :: starEach [c] X.env := star_cons hst
  have sc' : starEach [c] X.env = (false, eval c X.env) :: starEach [] X.env := star_cons hst2
  refine (pe_dget2 (by omega) ha hb hc ⟨attr_base hbase, by rw [sb, sc']; rfl, hline, by rw [sb, sc']; rfl⟩).imp fun τ H Q ⟨σ, M, ι, hs, hm, h⟩ => ?_
  rw [ev] at h
  refine ⟨σ, M, ι, hs, hm, PostE.bind h fun x M1 v H1 ι1 e1 m1 d1 h1 => ?_⟩
  split at h1
  · rename_i hl
    cases d1 with
    | @ref i a0 hi =>
      obtain ⟨o, em, om⟩ := m1.at hi
      simp only [isDct, em] at hl
      cases o with
      | dct ds =>
        obtain ⟨vs, q, r⟩ := om
        refine ⟨a0, rfl, .inl ⟨vs, .inl q⟩, σ, M1, ι1, hs.ex e1, m1, PostE.bind h1 fun y M2 u H2 ι2 e2 m2 d2 h2 => ?_⟩
        refine ⟨σ, M2, ι2, (hs.ex e1).ex e2, m2, PostE.bind h2 fun z M3 u3 H3 ι3 e3 m3 d3 h3 => ?_⟩
        obtain ⟨o2, em2, om2⟩ := m3.at (e3.get (e2.get hi))
        simp only [getM, dctM, em2] at h3
        cases o2 with
        | dct kvs =>
          obtain ⟨ws, q2, r2⟩ := om2
          simp only [ifo] at h3
          split at h3
          · rename_i hk
            obtain ⟨κ, hκ⟩ := kd_some hk
            refine ⟨valV ws κ, ?_, ?_⟩
            · rw [kd_kV hκ (d2.ex e3)]
              exact DGet.k q2
            · rcases r2.val hκ with ⟨z1, z2⟩ | ⟨d', w, z1, z2, z3⟩
              · rw [z1] at h3
                rw [z2]
                exact h3 _ _ _ Ext.refl m3 d3
              · rw [z1] at h3
                rw [z2]
                exact h3 _ _ _ Ext.refl m3 z3
          · exact h3.elim
        | lst ds2 => exact h3.elim
      | _ => cases hl
    | _ => cases hl
  · exact h1.elim
/-! ### a < b < c -/
theorem me_chn {op oq : CmpOp} {o q : Cop} (hop : OpR X (compareOp op) (rCmp X.K o)) (hoq : OpR X (compareOp oq) (rCmp X.K q)) (ha : PE X a (tE T X.K W F ca)) (hb : PE X b (tE T X.K W F cb)) (hc : PE X c (tE T X.K W F cc)) (hm : lastMarks [op, oq] [b, c] = false) :
    PE X (.Compare a [op, oq] [b, c] pos) (tE T X.K W F (.chn o q ca cb cc)) := by
  refine (pe_chain hop hoq ha hb hc hm).imp fun τ H Q ⟨σ, M, ι, hs, hm, h⟩ => ?_
  rw [ev] at h
  refine ⟨σ, M, ι, hs, hm, PostE.bind h fun x M1 v H1 ι1 e1 m1 d1 h1 => ?_⟩
  refine ⟨σ, M1, ι1, hs.ex e1, m1, PostE.bind h1 fun y M2 u H2 ι2 e2 m2 d2 h2 => ?_⟩
  cases z : cmpM o x y M2 with
  | none => rw [z] at h2; exact h2.elim
  | some k =>
    rw [z] at h2
    refine ⟨x, y, M2, ι2, k, m2, d1.ex e2, d2, z, k, rfl, ?_⟩
    cases k with
    | false => exact h2 _ _ _ Ext.refl m2 (.bl _)
    | true =>
      refine ⟨σ, M2, ι2, (hs.ex e1).ex e2, m2, PostE.bind h2 fun w M3 t H3 ι3 e3 m3 d3 h3 => ?_⟩
      cases z2 : cmpM q y w M3 with
      | none => rw [z2] at h3; exact h3.elim
      | some k =>
        rw [z2] at h3
        exact ⟨y, w, M3, ι3, k, m3, d2.ex e3, d3, z2, h3 _ _ _ Ext.refl m3 (.bl _)⟩
theorem mt_chn {op oq : CmpOp} {o q : Cop} (hop : OpR X (compareOp op) (rCmp X.K o)) (hoq : OpR X (compareOp oq) (rCmp X.K q)) (ha : PE X a (tE T X.K W F ca)) (hb : PE X b (tE T X.K W F cb)) (hc : PE X c (tE T X.K W F cc)) (hm : lastMarks [op, oq] [b, c] = false) :
    PT X (.Compare a [op, oq] [b, c] pos) (tT T X.K W F (.chn o q ca cb cc)) := by
  refine (pt_chain hop hoq ha hb hc hm).imp fun τ H Q ⟨σ, M, ι, hs, hm, h⟩ => ?_
  simp only [evT, ev] at h
  have as : ∀ (r : R Bool), (bnd (bnd r fun k M => ok (D.bl k) M) fun x M1 => match x with | .bl k => ok k M1 | _ => none) = r := fun r => by
    match r with
    | none => rfl
    | some (.ok a M) => rfl
    | some (.exc e M) => rfl
  have h' : PostB T X.K W τ H ι (bnd (ev F ca σ M) fun x M1 => bnd (ev F cb σ M1) fun y M2 => match cmpM o x y M2 with
    | some true => bnd (ev F cc σ M2) fun z M3 => match cmpM q y z M3 with
      | some k => ok k M3
      | none => none
    | some false => ok false M2
    | none => none) Q := by
    refine Eq.mp (congrArg (fun r => PostB T X.K W τ H ι r Q) ?_) h
    match z1 : ev F ca σ M with
    | none => rfl
    | some (.exc e M') => rfl
    | some (.ok x M1) =>
      simp only [bnd]
      match z2 : ev F cb σ M1 with
      | none => rfl
      | some (.exc e M') => rfl
      | some (.ok y M2) =>
        simp only
        match z3 : cmpM o x y M2 with
        | none => rfl
        | some false => rfl
        | some true =>
          simp only
          match z4 : ev F cc σ M2 with
          | none => rfl
          | some (.exc e M') => rfl
          | some (.ok z M3) =>
            simp only
            match z5 : cmpM q y z M3 with
            | none => rfl
            | some k => rfl
  refine ⟨σ, M, ι, hs, hm, PostE.bindB h' fun x M1 v H1 ι1 e1 m1 d1 h1 => ?_⟩
  refine ⟨σ, M1, ι1, hs.ex e1, m1, PostE.bindB h1 fun y M2 u H2 ι2 e2 m2 d2 h2 => ?_⟩
  cases z : cmpM o x y M2 with
  | none => rw [z] at h2; exact h2.elim
  | some k =>
    rw [z] at h2
    refine ⟨x, y, M2, ι2, k, m2, d1.ex e2, d2, z, k, rfl, ?_⟩
    cases k with
    | false => exact ⟨false, rfl, h2 _ _ Ext.refl m2⟩
    | true =>
      refine ⟨σ, M2, ι2, (hs.ex e1).ex e2, m2, PostE.bindB h2 fun w M3 t H3 ι3 e3 m3 d3 h3 => ?_⟩
      cases z2 : cmpM q y w M3 with
      | none => rw [z2] at h3; exact h3.elim
      | some k =>
        rw [z2] at h3
        exact ⟨y, w, M3, ι3, k, m3, d2.ex e3, d3, z2, k, rfl, h3 _ _ Ext.refl m3⟩
end
end Mi

/-! Mi9b: a row from its end. -/
namespace Mi
open PySem PySem.Spec
    PyProof.Rows L2
section
variable {prog : Program} {w : World} {A :
    Around} {E : Value → Shared → Prop} {s : Shared}
theorem back_adjust (n : Nat) : Builtin.Slice.sliceAdjust none none (-1) (n : Int) = ((n : Int) - 1, -1) := by
  unfold
      Builtin.Slice.sliceAdjust
  simp
theorem back_places (n : Nat) : Builtin.Slice.slicePlaces ((n : Int) - 1) (-1) (-1) = n := by
  unfold
      Builtin.Slice.slicePlaces
  have h : ¬ ((-1 : Int) > 0) := by omega
  simp only [h, if_false, show (- -1 : Int) = 1 from rfl, Int.ediv_one]
  split <;> omega
theorem back_pick (xs : Array Value) : ((List.range xs.size).filterMap fun (m : Nat) => xs[(((xs.size : Int) - 1) + (m : Int) * (-1)).toNat]?).toArray = xs.toList.reverse.toArray := by
  have two : ∀ f g : Nat → Option Value, (∀ m, m < xs.size → f m = g m) → (List.range xs.size).filterMap f = (List.range xs.size).filterMap g := fun f g h => by
    have one : ∀ f : Nat → Option Value, (List.range xs.size).filterMap f = ((List.range xs.size).map f).filterMap id := fun f => by rw [List.filterMap_map]; rfl
    rw [one f, one g, List.map_congr_left fun m hm => h m (List.mem_range.mp hm)]
  rw [← PySem.W.krv_all xs, ← List.filterMap_reverse, ← PySem.W.krv_range, List.filterMap_map]
  refine congrArg List.toArray (two _ _ fun m hm => ?_)
  show xs[(((xs.size : Int) - 1) + (m : Int) * (-1)).toNat]? = xs[xs.size - 1 - m]?
  congr 1
  omega
theorem back_applied {sl : Addr} {vs : Value} {n : Nat} {Q : Int × Int × Nat → Shared → Prop} (hs : s.heap.IsSliceOf sl .none .none vs) (ps : IsPart vs (some (-1))) (h : Q ((n : Int) - 1, -1, n) s) :
    wpAny (model prog w) A (Builtin.Slice.sliceApplied
        (.ref sl) (pure (n : Int))) Q E s := by
  obtain ⟨o, e1, e2, e3⟩ := id hs
  unfold Builtin.Slice.sliceApplied
      Builtin.Slice.sliceFields
  refine wpAny_bind (wpAny_bind (wpAny_field e1 e3 (x := .none) rfl ?_))
  refine wpAny_bind (wpAny_field e1 e3 (x := .none) rfl (wpAny_bind (wpAny_field e1 e3 (x := vs) rfl (wpAny_pure ?_))))
  refine wpAny_bind (HT.slicePart_ ps ?_)
  show wpAny _ _ (if ((-1 : Int) == 0) = true then _ else _) _ _ s
  rw [if_neg (by decide)]
  refine wpAny_bind (HT.slicePart_ .none (wpAny_bind (HT.slicePart_ .none (wpAny_bind (wpAny_pure ?_)))))
  show wpAny _ _ (match Builtin.Slice.sliceAdjust none none (-1) (n : Int) with | (lo, hi) => pure (lo, (-1 : Int), Builtin.Slice.slicePlaces lo hi (-1))) _ _ s
  rw [back_adjust n]
  show wpAny _ _ (pure (((n : Int) - 1), (-1 : Int), Builtin.Slice.slicePlaces ((n : Int) - 1) (-1) (-1))) _ _ s
  rw [back_places]
  exact wpAny_pure h
theorem tuple_back {t sl : Addr} {xs : Array Value} {vs : Value} {Q : Value → Shared → Prop} (ht : IsTup s.heap t xs) (hs : s.heap.IsSliceOf sl .none .none vs) (ps : IsPart vs (some (-1)))
    (h : Q (.ref s.heap.objs.size) { s with heap := s.heap.push { cls := .type "tuple", data := .seq xs.toList.reverse.toArray } }) (hz : xs.size ≤ sizeLine) : wpAny (model prog w) A (getItem (.ref t) (.ref sl)) Q E s := by
  have fits : sizeOk (.seq xs.toList.reverse.toArray) := by
    show xs.toList.reverse.toArray.size ≤ sizeLine
    simpa using hz
  obtain ⟨o, e1, e2, e3⟩ := id hs
  have ty : s.TypeIs (.ref sl) "slice" := ⟨o, e1, e2⟩
  unfold getItem
  refine wpAny_holding ?_
  refine wpAny_bind (wpAny_sequenceKey
      ht.typeIs (by decide) ?_)
  refine wpAny_bind (wpAny_callSpecial?_slot (name := Str.ofString "__getitem__") ht.typeIs slot_tuple_getitem ?_)
  refine wpAny_call_entry slot_tuple_getitem ht.typeIs entry_tuple_getitem ?_ (args_tuple_getitem _ _)
  show wpAny _ _ (Builtin.Tuple.tupleItemsOf
      (.ref t) >>= _) _ _ s
  refine wpAny_bind (tupleItemsOf_ ht (wpAny_bind (wpAny_typeOf ty ?_)))
  rw [if_pos (by decide)]
  refine wpAny_bind (back_applied hs ps ?_)
  show wpAny _ _ (if ((((xs.size : Int) - 1) == 0) && ((-1 : Int) == 1) && (xs.size == xs.size)) = true then _ else _) _ _ s
  rw [if_neg (by simp), back_pick]
  have made : ∀ {R : Value → Shared → Prop}, R (.ref s.heap.objs.size) { s with heap := s.heap.push { cls := .type "tuple", data := .seq xs.toList.reverse.toArray } } → wpAny (model prog w) A.in1 (Builtin.Tuple.tupleExact xs.toList.reverse.toArray) R E s := fun hR => wpAny_newObj_type hR fits
  exact wpAny_bind (made (wpAny_pure ⟨_, rfl, wpAny_pure h⟩))
end
section
variable {X : Cx} {T : XT} {F : Caller} {W : WX} {a : Expr} {ca : E} {pos p1 p2 p3 : Pos} {k : Nat}
theorem me_rev (ha : PE X a (tE T X.K W F ca)) : PE X (.Subscript a (.Slice none none (some (.UnaryOp .USub (.Constant (.int 1) k p1) p2)) p3) pos) (tE T X.K W F (.rev ca)) := by
  refine ⟨fun pins s τ H Q I ⟨σ, M, ι, hs, hm, h⟩ => ?_⟩
  rw [ev] at h
  have back : PO X (some (.UnaryOp .USub (.Constant (.int 1) k p1) p2)) (tPart (tUn (rU fun i => .int (-i)) (tC (.int 1)))) := po_some (pe_un un_neg pe_int)
  refine Subscript_ (thn (ha.run pins s τ H (fun v H1 => ∃ d M1 ι1, HM X.K H1 ι1 M1 ∧ DV X.K H1 ι1 d v ∧ PostE T X.K W τ H1 ι1 (revM d M1) Q) I ⟨σ, M, ι, hs, hm, PostE.bind h fun d M1 v H1 ι1 e1 m1 d1 h1 => ⟨d, M1, ι1, m1, d1, h1⟩⟩) fun u s1 ⟨v, H1, I1, r1, d, M1, ι1, m1, d1, h1⟩ => ?_)
  refine wpAny_Slice (thn (po_none.run pins s1 τ H1 (fun o H2 => o = none ∧ H2 = H1) I1 ⟨rfl, rfl⟩) fun vl s2 ⟨l, H2, I2, pl, el, eh⟩ => ?_)
  subst el eh
  refine thn (po_none.run pins s2 τ H2 (fun o H3 => o = none ∧ H3 = H2) I2 ⟨rfl, rfl⟩) fun vu s3 ⟨l, H3, I3, pu, el, eh⟩ => ?_
  subst el eh
  refine thn (back.run pins s3 τ H3 (fun o H4 => o = some (-1) ∧ H4 = H3) I3 ⟨1, rfl, -1, rfl, rfl, rfl⟩) fun vs s4 ⟨l, H4, I4, ps, el, eh⟩ => ?_
  subst el eh
  cases pl
  cases pu
  have J : Inv X pins τ H4 { s4 with heap := s4.heap.push { cls := .type "slice", data := .fields #[.none, .none, vs] } } := I4.kept (t' := s4.toks) fun b ob q => Heap.get?_push_of_some _ q
  show wpAny (model X.prog X.w) X.A (subscriptTail a (.Slice none none (some (.UnaryOp .USub (.Constant (.int 1) k p1) p2)) p3) u (.ref s4.heap.objs.size)) (EP X pins τ Q) X.xe { s4 with heap := s4.heap.push { cls := .type "slice", data := .fields #[.none, .none, vs] } }
  have lst : ∀ {a0 : Addr} {ws : List V}, u = .ref a0 → SqL X.K H4 a0 ws → (∀ p, H4 p = none → Q (.ref p) (upd H4 p (.lst ws.reverse))) →
      wpAny (model X.prog X.w) X.A (subscriptTail a (.Slice none none (some (.UnaryOp .USub (.Constant (.int 1) k p1) p2)) p3) u (.ref s4.heap.objs.size)) (EP X pins τ Q) X.xe { s4 with heap := s4.heap.push { cls := .type "slice", data := .fields #[.none, .none, vs] } } := fun {a0 ws} eu q hq => by
    subst eu
    obtain ⟨its, r, ht, hz⟩ := J.list q
    have hl := r.length
    refine tail_any (ops := [.ref a0, .ref s4.heap.objs.size]) ht.isList.typeIs PySem.slot_list_getitem.lookup (wpAny_getItem_list_slice ht.isList (Heap.IsSliceOf.new _ _ _ vs) .none .none ps (by decide) ?_ (by rw [List.size_toArray]; omega)) (by with_unfolding_all rfl)
    rw [PySem.W.krv_pick]
    refine ⟨.ref _, _, J.laid (t' := s4.toks) (o := .lst ws.reverse) (fun b ob q => Heap.get?_push_of_some _ q) (Nat.le_refl _) ?_, rfl, hq _ (J.hok.fresh (Nat.le_refl _))⟩
    exact ⟨by rw [List.length_reverse]; exact hz,
        _, 0, r.reverse, Heap.get?_push_size _ rfl⟩
  cases d1 with
  | @tup a0 ws ds q r =>
    cases r1
    obtain ⟨its, rv, ht, hz⟩ := J.tuple q
    have hl := rv.length
    refine tail_any (ops := [.ref a0, .ref s4.heap.objs.size]) ht.typeIs slot_tuple_getitem.lookup (tuple_back ht (Heap.IsSliceOf.new _ _ _ vs) ps ?_ (by rw [List.size_toArray]; omega)) (by with_unfolding_all rfl)
    have np : H4 (s4.heap.push { cls := .type "slice", data := .fields #[.none, .none, vs] }).objs.size = none := J.hok.fresh (Nat.le_refl _)
    refine ⟨.ref _, _, J.laid (t' := s4.toks) (o := .tup ws.reverse) (fun b ob q => Heap.get?_push_of_some _ q) (Nat.le_refl _) ⟨by rw [List.length_reverse]; exact hz, _, rv.reverse, IsTup.new _ _⟩, rfl, ?_⟩
    exact h1 _ _ _ (Ext.newT np) (m1.newT np) (.tup (SqT.of upd_same) (r.rev.ex (Ext.newT np)))
  | @rol a0 is hr =>
    refine lst r1 hr.sql fun p hp => ?_
    have ex := Ext.newM (ι := ι1) (o := .lst (is.map V.int).reverse) hp
    exact h1 _ _ _ ex (m1.newM hp ⟨_, upd_same, ((rol_rel is).rev).ex ex⟩) (.ref (by rw [← m1.len]; simp))
  | ref hi =>
    obtain ⟨o, em, om⟩ := m1.at hi
    simp only [revM, em] at h1
    cases o with
    | lst ds =>
      obtain ⟨ws, q, r⟩ := om
      refine lst r1 (SqL.of q) fun p hp => ?_
      have ex := Ext.newM (ι := ι1) (o := .lst ws.reverse) hp
      exact h1 _ _ _ ex (m1.newM hp ⟨_, upd_same, (r.rev).ex ex⟩) (.ref (by rw [← m1.len]; simp))
    | dct ds => exact h1.elim
  | _ => exact False.elim h1
end
end Mi

/-! Mi9c: is True, dict displays, extend. -/
namespace Mi
open PySem PySem.Spec
    PyProof.Rows L2
section
variable {X : Cx} {G : Gn} {T : XT} {F : Caller} {W : WX} {N : List Str} {sc : List (Str × NameKind)} {a b c e : Expr} {es : List Expr} {ca cb cc : E} {ces : Es} {pos p p2 p3 apos : Pos}
def isOp (no : Bool) : CmpOp := if no then .IsNot else .Is
theorem me_isB {no k : Bool} {j : Nat} {p : Pos} (ha : PE X a (tE T X.K W F ca)) : PE X (.Compare a [if no then .IsNot else .Is] [.Constant (.bool k) j p] pos) (tE T X.K W F (.isB ca k no)) := by
  cases no with
  | false =>
    refine (pe_cmpR op_isBl ha pe_bl rfl).imp fun τ H Q ⟨σ, M, ι, hs, hm, h⟩ => ?_
    rw [ev] at h
    refine ⟨σ, M, ι, hs, hm, PostE.bind h fun x M1 v H1 ι1 e1 m1 d1 h1 => ?_⟩
    cases d1 with
    | bl i =>
      refine ⟨i, k, rfl, rfl, ?_⟩
      have := h1 _ _ _ Ext.refl m1 (.bl _)
      simpa using this
    | _ => exact h1.elim
  | true =>
    refine (pe_cmpR op_notBl ha pe_bl rfl).imp fun τ H Q ⟨σ, M, ι, hs, hm, h⟩ => ?_
    rw [ev] at h
    refine ⟨σ, M, ι, hs, hm, PostE.bind h fun x M1 v H1 ι1 e1 m1 d1 h1 => ?_⟩
    cases d1 with
    | bl i =>
      refine ⟨i, k, rfl, rfl, ?_⟩
      have := h1 _ _ _ Ext.refl m1 (.bl _)
      simpa using this
    | _ => exact h1.elim
theorem mt_isB {no k : Bool} {j : Nat} {p : Pos} (ha : PE X a (tE T X.K W F ca)) : PT X (.Compare a [if no then .IsNot else .Is] [.Constant (.bool k) j p] pos) (tT T X.K W F (.isB ca k no)) := by
  have as : ∀ (r : R D) (f : Bool → Bool), (bnd (bnd r fun x M => match x with | .bl i => ok (D.bl (f i)) M | _ => none) fun x M1 => match x with | .bl k => ok k M1 | _ => none) = bnd r fun x M => match x with | .bl i => ok (f i) M | _ => none := fun r f => by
    match r with
    | none => rfl
    | some (.ok a M) => cases a <;> rfl
    | some (.exc e M) => rfl
  cases no with
  | false =>
    refine (pt_cmpR op_isBl ha pe_bl rfl).imp fun τ H Q ⟨σ, M, ι, hs, hm, h⟩ => ?_
    simp only [evT, ev] at h
    refine ⟨σ, M, ι, hs, hm, PostE.bindB (Eq.mp (congrArg (fun r => PostB T X.K W τ H ι r Q) (as _ fun i => decide (i = k) != false)) h) fun x M1 v H1 ι1 e1 m1 d1 h1 => ?_⟩
    cases d1 with
    | bl i => exact ⟨i, k, rfl, rfl, _, rfl, by have := h1 _ _ Ext.refl m1; simpa using this⟩
    | _ => exact h1.elim
  | true =>
    refine (pt_cmpR op_notBl ha pe_bl rfl).imp fun τ H Q ⟨σ, M, ι, hs, hm, h⟩ => ?_
    simp only [evT, ev] at h
    refine ⟨σ, M, ι, hs, hm, PostE.bindB (Eq.mp (congrArg (fun r => PostB T X.K W τ H ι r Q) (as _ fun i => decide (i = k) != true)) h) fun x M1 v H1 ι1 e1 m1 d1 h1 => ?_⟩
    cases d1 with
    | bl i => exact ⟨i, k, rfl, rfl, _, rfl, by have := h1 _ _ Ext.refl m1; simpa using this⟩
    | _ => exact h1.elim
/-! ### dict displays -/
section
variable {K : PySem.W.Frag} {H : Hp} {ι : List Addr}
theorem HM.ups {M : Hm} (h : HM K H ι M) {p : Addr} {o : HO} (hp : p ∉ ι) (hm : Mut (H p)) : HM K (upd H p o) ι M :=
  ⟨h.len, h.nd, fun i a q e em => (h.ob i a q e em).to (stay_put hm) (fun _ _ e => e) fun hr => upd_ne fun z => hp (z ▸ List.mem_of_getElem? e)⟩
theorem HM.takeO {M : Hm} (m : HM K H ι M) {a : Addr} {q : MO} (h2 : a ∉ ι) (ho : OM K H (ι ++ [a]) q a) : HM K H (ι ++ [a]) (M ++ [q]) := by
  have up : ∀ (i : Nat) x, ι[i]? = some x → (ι ++ [a])[i]? = some x := fun i x e => by
    rw [List.getElem?_append_left (List.getElem?_eq_some_iff.mp e).1]
    exact e
  have old : ∀ {i : Nat} {b : Addr} {q' : MO}, (ι ++ [a])[i]? = some b → (M ++ [q])[i]? = some q' → (ι[i]? = some b ∧ M[i]? = some q') ∨ (i = ι.length ∧ b = a ∧ q' = q) := fun {i b q'} e em => by
    by_cases hi : i < ι.length
    · rw [List.getElem?_append_left hi] at e
      rw [List.getElem?_append_left (by rw [← m.len]; exact hi)] at em
      exact .inl ⟨e, em⟩
    · have hi2 : i = ι.length := by
        have := (List.getElem?_eq_some_iff.mp e).1
        rw [List.length_append, List.length_singleton] at this
        omega
      subst hi2
      rw [List.getElem?_append_right (Nat.le_refl _), Nat.sub_self] at e
      rw [m.len, List.getElem?_append_right (Nat.le_refl _), Nat.sub_self] at em
      cases e
      cases em
      exact .inr ⟨rfl, rfl, rfl⟩
  have ne : ∀ {i : Nat} {b : Addr}, ι[i]? = some b → b ≠ a := fun e z => h2 (z ▸ List.mem_of_getElem? e)
  refine ⟨by rw [List.length_append, List.length_append, m.len]; rfl, fun i j b o1 o2 e1 e2 m1 m2 r1 r2 => ?_, fun i b q' e em => ?_⟩
  · rcases old e1 m1 with ⟨x1, y1⟩ | ⟨x1, y1, z1⟩
    · rcases old e2 m2 with ⟨x2, y2⟩ | ⟨x2, y2, z2⟩
      · exact m.nd i j b o1 o2 x1 x2 y1 y2 r1 r2
      · exact absurd y2 (ne x1)
    · rcases old e2 m2 with ⟨x2, y2⟩ | ⟨x2, y2, z2⟩
      · exact absurd y1 (ne x2)
      · rw [x1, x2]
  · rcases old e em with ⟨x1, y1⟩ | ⟨x1, y1, z1⟩
    · exact (m.ob i b q' x1 y1).to (fun _ _ e _ => e) up fun _ => rfl
    · subst y1 z1
      exact ho
theorem KVs.merge : ∀ {more : List (D × D)} {ms : List (Key × V)} {r : List (D × D)} {s : List (Key × V)}, KVs K H ι more ms → KVs K H ι r s → KVs K H ι (dmerge r more) (mergeK s ms)
  | _, _, _, _, .nil, h => h
  | (k, x) :: more, (κ, v) :: ms, r, s, .cons e d t, h => by
    have := KVs.merge t (h.put e d)
    exact this
def pairV : List V → List (V × V)
  | k :: v :: r => (k, v) :: pairV r
  | _ => []
theorem pairs_rel : ∀ {ds : List D} {vs : List V} {kvs : List (D × D)}, DVs K H ι ds vs → pairsD ds = some kvs → ∃ ws : List (Key × V), KVs K H ι kvs ws ∧ pairV vs = ws.map (fun kv => (kV kv.1, kv.2))
  | _, _, kvs, .nil, h => by cases h; exact ⟨[], .nil, rfl⟩
  | _, _, kvs, .cons _ .nil, h => by cases h
  | k :: d :: ds, _, kvs, .cons (v := u) hk (.cons (v := v) hd r), h => by
    simp only [pairsD] at h
    split at h
    · rename_i q
      simp only
          [Option.map_eq_some_iff] at h
      obtain ⟨kvs', h1, rfl⟩ := h
      obtain ⟨ws, w1, w2⟩ := pairs_rel r h1
      obtain ⟨κ, hκ⟩ := kd_some q
      refine ⟨(κ, v) :: ws, .cons hκ hd w1, ?_⟩
      show (u, v) :: pairV _ = (kV κ, v) :: _
      rw [w2, kd_kV hκ hk]
    · cases h
end
def prs (T : XT) (K : PySem.W.Frag) (W : WX) (F : Caller) : Es → List (TE × TE)
  | .cons k (.cons v r) => (tE T K W F k, tE T K W F v) :: prs T K W F r
  | _ => []
def evenE : Es → Bool
  | .nil => true
  | .cons _ (.cons _ r) => evenE r
  | _ => false
theorem bnd_bnd {α β γ : Type} (x : R α) (f : α → Hm → R β) (g : β → Hm → R γ) : bnd (bnd x f) g = bnd x fun a M => bnd (f a M) g := by
  match x with
  | none => rfl
  | some (.ok a M) => rfl
  | some (.exc e M) => rfl
theorem dct_pairs {K : PySem.W.Frag} : ∀ {c : Es} {τ : St} {σ : Sl} {H : Hp} {ι : List Addr} {M : Hm} {Q : List (V × V) → Hp → Prop}, evenE c = true → SM K H ι σ τ → HM K H ι M → PostA T K W τ H ι (evs F c σ M) (fun vs H' => Q (pairV vs) H') → tPairs (prs T K W F c) τ H Q
  | .nil, τ, σ, H, ι, M, Q, _, hs, hm, h => by
    rw [evs] at h
    exact h [] _ _ Ext.refl hm .nil
  | .cons _ .nil, _, _, _, _, _, _, q, _, _, _ => by cases q
  | .cons k (.cons v r), τ, σ, H, ι, M, Q, q, hs, hm, h => by
    simp only [evs, bnd_bnd] at h
    refine ⟨σ, M, ι, hs, hm, PostE.bindA h fun x M1 u H1 ι1 e1 m1 d1 h1 => ?_⟩
    refine ⟨σ, M1, ι1, hs.ex e1, m1, PostE.bindA h1 fun y M2 w H2 ι2 e2 m2 d2 h2 => ?_⟩
    refine dct_pairs (c := r) (by simpa [evenE] using q) ((hs.ex e1).ex e2) m2 ?_
    refine PostA.bind h2 fun xs M3 vs H3 ι3 e3 m3 d3 h3 => ?_
    exact h3 (u :: w :: vs) _ _ Ext.refl m3 (.cons ((d1.ex e2).ex e3) (.cons (d2.ex e3) d3))
theorem me_dct0 : PE X (.Dict [] [] pos) (tE T X.K W F (.dct .nil)) := by
  refine pe_dnewK.imp fun τ H Q ⟨σ, M, ι, hs, hm, h⟩ p hp => ?_
  rw [ev, evs] at h
  have ex := Ext.newM (ι := ι) (o := .dK []) hp
  exact h _ _ _ ex (hm.newM hp ⟨_, upd_same, .nil⟩) (.ref (by rw [← hm.len]; simp))
theorem me_dct {keys : List (Option Expr)} {values : List Expr} {c : Es} (hv : evenE c = true) (ha : PPs X pos keys values (prs T X.K W F c)) (hall : keys.all (·.isSome) = true) (hl : keys.length = values.length) (h0 : keys ≠ []) (h15 : keys.length ≤ 15) :
    PE X (.Dict keys values pos) (tE T X.K W F (.dct c)) := by
  refine (pe_disp ha hall hl h0 h15).imp fun τ H Q ⟨σ, M, ι, hs, hm, h⟩ p hp => ?_
  have pn : p ∉ ι := fun z => by
    obtain ⟨i, hi⟩ := List.getElem?_of_mem z
    obtain ⟨o, em, om⟩ := hm.at hi
    obtain ⟨u, hu⟩ := om.there
    rw [hp] at hu
    cases hu
  have ex := Ext.newT (ι := ι) (o := .dK []) hp
  refine dct_pairs hv (hs.ex ex) (hm.newT hp) ?_
  rw [ev] at h
  match q : evs F c σ M with
  | none => rw [q] at h; exact h.elim
  | some (.exc y M') =>
    rw [q] at h
    exact fun cls dx H' ι' e m t => h cls dx H' ι' (ex.trans e) m t
  | some (.ok xs M1) =>
    rw [q] at h
    intro vs H2 ι2 e2 m2 d2
    have hp2 : H2 p = some (.dK []) := e2.frm p _ upd_same pn
    have pn2 : p ∉ ι2 := fun z => by
      have := e2.new p z pn
      rw [upd_same] at this
      cases this
    refine ⟨hp2, ?_⟩
    simp only [bnd, dctD] at h
    split at h
    · rename_i kvs hk
      split at h
      · rename_i h15
        obtain ⟨ws, w1, w2⟩ := pairs_rel d2 hk
        refine ⟨ws, w2, by rw [← w1.len]; exact h15, ?_⟩
        have mu : Mut (H2 p) := by rw [hp2]; trivial
        have g : ∀ (i : Nat) x, ι2[i]? = some x → (ι2 ++ [p])[i]? = some x := fun i x e => by
          rw [List.getElem?_append_left (List.getElem?_eq_some_iff.mp e).1]
          exact e
        have et := ex.trans e2
        refine h (.ref p) (upd H2 p (.dK (mergeK [] ws))) (ι2 ++ [p]) ?_ ((m2.ups pn2 mu).takeO pn2 ⟨_, upd_same, KVs.merge (w1.to (stay_put mu) g) .nil⟩) (.ref (by rw [← m2.len]; simp))
        obtain ⟨t, te⟩ := et.pre
        refine ⟨⟨t ++ [p], by rw [te, List.append_assoc]⟩, fun x h1 h2 => ?_, fun x o e hx => ?_, fun x o e hx => ?_⟩
        · rcases List.mem_append.mp h1 with h | h
          · exact et.new x h h2
          · rw [List.mem_singleton.mp h]; exact hp
        · rw [upd_ne (ne_of_none e hp)]; exact et.frm x o e hx
        · rw [upd_ne (ne_of_none e hp)]; exact et.stay x o e hx
      · exact h.elim
    · exact h.elim
/-! ### extend -/
theorem me_ext (ha : PE X a (tE T X.K W F ca)) (hb : PE X b (tE T X.K W F cb)) (hst : starless b = true) (hbase : noCall a = true) (hline : (apos.endLine == pos.line) = true) :
    PE X (.Call (.Attribute a "extend" apos) [b] [] pos) (tE T X.K W F (.ext ca cb)) := by
  have sb : starEach [b] X.env = (false, eval b X.env) :: starEach [] X.env := star_cons hst
  refine (pe_bm (T := "list") PySem.F.plainAttrs_list PySem.F.slot_list_extend PySem.F.type_list_extend mt_extend ha (pa_cons hb pa_nil sb) (attr_base hbase) (by rw [sb]; rfl) hline sb rfl).imp fun τ H Q ⟨σ, M, ι, hs, hm, h⟩ => ?_
  rw [ev] at h
  refine ⟨σ, M, ι, hs, hm, PostE.bind h fun x M1 v H1 ι1 e1 m1 d1 h1 => ?_⟩
  split at h1
  · rename_i hl
    cases d1 with
    | @ref i a0 hi =>
      obtain ⟨o, em, om⟩ := m1.at hi
      simp only [isLst, em] at hl
      cases o with
      | lst ds =>
        obtain ⟨vs, q, r⟩ := om
        refine ⟨.inl ⟨rfl, vs, SqL.of q⟩, σ, M1, ι1, hs.ex e1, m1, PostE.bind h1 fun y M2 u H2 ι2 e2 m2 d2 h2 => ?_⟩
        obtain ⟨o2, em2, om2⟩ := m2.at (e2.get hi)
        simp only [extM, em2] at h2
        cases o2 with
        | lst ds2 =>
          obtain ⟨vs2, q2, r2⟩ := om2
          cases d2 with
          | @ref j b0 hj =>
            obtain ⟨o3, em3, om3⟩ := m2.at hj
            simp only [lstM, em3] at h2
            cases o3 with
            | lst ds3 =>
              obtain ⟨vs3, q3, r3⟩ := om3
              simp only [ifo] at h2
              split at h2
              · rename_i hz
                have hz := of_decide_eq_true hz
                refine ⟨a0, b0, vs2, vs3, rfl, rfl, q2, q3, by rw [← r2.len, ← r3.len, sizeLine_eq]; exact hz, ?_⟩
                have mu : Mut (H2 a0) := by rw [q2]; trivial
                have ex := Ext.put (o := .lst (vs2 ++ vs3)) (List.mem_of_getElem? (e2.get hi)) mu
                exact h2 _ _ _ ex (m2.put (e2.get hi) mu em2 rfl ⟨_, upd_same, (r2.app r3).ex ex⟩) .non
              · exact h2.elim
            | dct ds3 => exact h2.elim
          | _ => exact h2.elim
        | dct ds2 => exact h2.elim
      | _ => cases hl
    | _ => cases hl
  · exact h1.elim
end
end Mi

/-! Mi9d: a, *b = a tuple. -/
namespace Mi
open PySem PySem.Spec
    PyProof.Rows L2
section
variable {prog : Program} {w : World} {A :
    Around} {E : Value → Shared → Prop} {s : Shared}
theorem walks_from1 (hh : A.handled = none) (I ax : Addr) (hne : ax ≠ I) (u0 : Value) (us : List Value) :
    WalksS prog w A I [I, ax] [I] (fun a b => b = a) us.length (fun i v => us[i]? = some v) (fun i s => s.heap.IsTupleIter I ax (i + 1) ∧ s.heap.IsTuple ax (u0 :: us).toArray) := by
  have W := (Walks.tuple (prog := prog) (w := w) hh I ax hne (u0 :: us).toArray).toS
  refine ⟨W.sub, W.grefl, W.gtrans, fun i s h' tk st hk hf => W.frame (i + 1) s h' tk st hk hf, fun i s Q E hi st hQ => ?_, fun s Q E st hQ => ?_, fun i s Q E st hQ => W.self (i + 1) s Q E st hQ⟩
  · exact W.item (i + 1) s Q E (by simp; omega) st fun v s' hv st' m => hQ v s' (by simpa using hv) st' m
  · exact W.done s Q E (by simpa using st) hQ
theorem unpack_star1 {t : Addr} {u0 : Value} {us : List Value} {Q : List Value → Shared → Prop} (hh : A.handled = none) (ht : IsTup s.heap t (u0 :: us).toArray) (hz : us.length ≤ sizeLine)
    (hQ : ∀ (h' : Heap) (tk : Tok), (∀ b o, s.heap.get? b = some o → h'.get? b = some o) → Q [u0, .ref h'.objs.size] { s with heap := h'.push { cls := .type "list", data := .seq us.toArray }, toks := tk }) :
    wpAny (model prog w) A (unpackItems (.ref t) 2 (some 1)) Q E s := by
  have hlt : t ≠ s.heap.objs.size := by obtain ⟨oq, hoq, _⟩ := ht; exact Nat.ne_of_lt (Heap.lt_size hoq)
  unfold unpackItems
  refine wpAny_bind ?_
  unfold notIterableAtAll
  refine wpAny_bind (wpAny_specialOf
      ht.typeIs slot_tuple_iter.lookup ?_)
  refine wpAny_pure ?_
  simp only [Bool.false_eq_true,
      if_false]
  refine wpAny_bind (wpAny_holding
      (iter_tuple ht ?_))
  refine wpAny_bind (wpAny_holding (draw_tuple hlt 1 0 _ _ ⟨_, Heap.get?_push_size _ rfl, rfl, rfl⟩ (ht.push _) (by simp) fun h₁ hit₁ hs₁ => ?_))
  have e1 : List.take 1 (List.drop 0 (u0 :: us).toArray.toList) = [u0] := rfl
  rw [e1]
  rw [if_neg (by simp)]
  have k1 : ∀ b o, s.heap.get? b = some o → h₁.get? b = some o := fun b o e => hs₁.extBut b o (Nat.ne_of_lt (Heap.lt_size e)) (Heap.get?_push_of_some _ e)
  have sz1 : s.heap.objs.size < h₁.objs.size := by obtain ⟨o, ho, _⟩ := hit₁; exact Heap.lt_size ho
  have ht1 : IsTup h₁ t (u0 :: us).toArray := by
    obtain ⟨o, ho, rest⟩ := ht
    exact ⟨o, k1 t o ho, rest⟩
  refine wpAny_bind (wpAny_holding (wpAny_collect_iter (T := "tuple_iterator") (.inr (.inr (.inr rfl))) (walks_from1 (A := A.in1) (show A.in1.handled = none from hh) s.heap.objs.size t hlt u0 us) (fun i s' st => ?_) ⟨hit₁, ht1⟩ (fun b hb => ?_) (by simp) (fun s' acc m hi => ?_) hz))
  · obtain ⟨⟨o, ho, hc, _⟩, _⟩ := st
    exact ⟨o, ho, hc⟩
  · simp only [List.mem_cons, List.not_mem_nil, or_false] at hb
    rcases hb with rfl | rfl
    · exact sz1
    · obtain ⟨o, ho, _⟩ := ht1; exact Heap.lt_size ho
  · have ea : acc.toList = us := by
      refine List.ext_getElem?
          fun j => ?_
      by_cases hj : j < acc.size
      · have h1 : acc[j]? = some acc[j] := by simp [hj]
        have h2 := hi.2 j _ h1
        rw [h2, Array.getElem?_toList, h1]
      · rw [List.getElem?_eq_none (by simpa using hj), List.getElem?_eq_none (by have := hi.1; omega)]
    rw [ea]
    rw [if_neg (by simp)]
    have e2 : us.take (us.length - (2 - 1 - 1)) = us := by simp
    have e3 : us.drop (us.length - (2 - 1 - 1)) = [] := by simp
    simp only [e2, e3]
    refine wpAny_bind
        (wpAny_newList ?_ hz)
    refine wpAny_pure ?_
    obtain ⟨hp, g, dr, tk, os⟩ := s'
    obtain ⟨m1, m2, m3, m4, m5⟩ := m
    simp only at m1 m2 m3 m4 m5
    subst m2 m3 m4
    exact hQ hp tk fun b o e => m1 b o (by simp; exact Nat.ne_of_lt (Heap.lt_size e)) (k1 b o e)
end
def gStar (K : PySem.W.Frag) (i j : Nat) : TG := fun v σ H Q => ∃ a x0 xs, v = .ref a ∧ SqT K H a (x0 :: xs) ∧ ∀ p, H p = none → Q ((σ.set i (some x0)).set j (some (.ref p))) (upd H p (.lst xs))
theorem pg_star {X : Cx} {i j k : Nat} {x y : Str} {px py ps pos : Pos} (hc : X.calm = true) (hN : X.N.Nodup) (hi : X.N[i]? = some x) (hj : X.N[j]? = some y) (hx : Loc X.env.scope x) (hy : Loc X.env.scope y)
    (fx : X.fn x = true ∨ X.env.scope.names.lookup x = some .local) (fy : X.fn y = true ∨ X.env.scope.names.lookup y = some .local) : PG X (.Tuple [.Name x px, .Starred (.Name y py) ps] k pos) (gStar X.K i j) := by
  refine ⟨fun pins s σ
      H v u Q I r hw => ?_⟩
  obtain ⟨a, x0, xs, e1, hq, hw⟩ := hw
  subst e1
  cases r
  obtain ⟨its, rv, ht,
      hz⟩ := I.tuple hq
  cases rv with
  | @cons _ u0 _ us r0 rr =>
    have hz' : xs.length ≤ sizeLine := by have := rr.length; simp only [List.length_cons] at hz; omega
    rw [assign_Tuple]
    refine wpAny_bind
        (wpAny_standAt ?_)
    show wpAny _ _ (unpack (.ref a) [(false, assign (.Name x px) X.env), (true, assign (.Name y py) X.env)]) _ _ _
    unfold unpack
    refine wpAny_bind (wpAny_holding (unpack_star1 (I.ok.hd hc) ht (by rw [← rr.length]; exact hz') fun h' tk hk => ?_))
    have I1 : Inv X pins σ H { s with
        heap := h', toks := tk } := I.kept hk
    have I2 := I1.lnew (t' := tk) rr hz'
    have nw := I1.fresh
    have g := pgs_cons (X := X) (pg_name (pos := px) hN hi hx fx) (pgs_cons (pg_name (pos := py) hN hj hy fy) pgs_nil)
    exact g.run pins _ σ _ [x0, .ref h'.objs.size] [u0, .ref h'.objs.size] Q I2 (.cons r0 (.cons rfl .nil)) ⟨x0, _, rfl, _, _, rfl, rfl, hw _ nw⟩
theorem PostE.mono {T : XT} {K : PySem.W.Frag} {W : WX} {τ : St} {H : Hp} {ι : List Addr} {r : R D} {Q Q' : VK} (h : PostE T K W τ H ι r Q) (k : ∀ x H, Q x H → Q' x H) : PostE T K W τ H ι r Q' := by
  match r, h with
  | some (.ok d M'), h => exact fun v H' ι' e m d => k _ _ (h v H' ι' e m d)
  | some (.exc y M'), h => exact h
/-! ### dicts of the module -/
section
variable {X : Cx}
theorem or_inKD : OpR X (compareOp .In) (fun x y H Q => ∃ p z v, x = .str z ∧ y = .ref p ∧ KDct X.K X.w p z v ∧ (p == sysModules) = false ∧ Q (.bl true) H) := by
  intro pins s σ H x
      y v u Q I rx ry h
  obtain ⟨p, z, r, rfl, rfl, ⟨es, n, u0, hl, hk, e, ru⟩, low, q⟩ := h
  obtain rfl : u = Value.ref p := ry
  obtain ⟨t, rfl⟩ := rx
  have hm := PySem.W.mapOf_K (prog
      := X.prog) (w := X.w) I.kIn hl hk
  refine wpAny_in_of (strKind_is X.prog X.w z t) low hm ?_
  rw [PySem.W.find_K hl e]
  exact ⟨.bl true, H, I.tok _, rfl, q⟩
theorem or_ninKD : OpR X (compareOp .NotIn) (fun x y H Q => ∃ p z v, x = .str z ∧ y = .ref p ∧ KDct X.K X.w p z v ∧ (p == sysModules) = false ∧ Q (.bl false) H) := by
  intro pins s σ H x
      y v u Q I rx ry h
  obtain ⟨p, z, r, rfl, rfl, ⟨es, n, u0, hl, hk, e, ru⟩, low, q⟩ := h
  obtain rfl : u = Value.ref p := ry
  obtain ⟨t, rfl⟩ := rx
  have hm := PySem.W.mapOf_K (prog
      := X.prog) (w := X.w) I.kIn hl hk
  refine wpAny_notIn_of (strKind_is X.prog X.w z t) low hm ?_
  rw [PySem.W.find_K hl e]
  exact ⟨.bl false, H, I.tok _, rfl, q⟩
end
section
variable {X : Cx} {G : Gn} {T : XT} {F : Caller} {W : WX} {N : List Str} {sc : List (Str × NameKind)} {a : Expr} {ca : E} {pos p : Pos} {x : Str} {c : List (List Nat × D)}
theorem me_kix (k : Cok X G T F W N sc) (hx : sc.lookup x = some .globalImplicit) (hc : G.dcs.lookup x = some c) (hd : (x == ("__debug__" : Str)) = false) (ha : PE X a (tE T X.K W F ca)) (hp : PlainIx a) : PE X (.Subscript (.Name x p) a pos) (tE T X.K W F (.kix c ca)) := by
  obtain ⟨q, h1, h2, h3⟩ := k.dcs x c hc
  refine (pe_ix ix_kdict (pe_glob (v := .ref q) (k.glo x hx) h1 rfl hd) ha hp).imp fun τ H Q ⟨σ, M, ι, hs, hm, h⟩ => ?_
  rw [ev] at h
  refine ⟨σ, M, ι, hs, hm, PostE.bind h fun y M1 v H1 ι1 e1 m1 d1 g1 => ?_⟩
  cases d1 with
  | str z =>
    cases e : kixM c (.str z) with
    | none => rw [e] at g1; exact g1.elim
    | some d =>
      rw [e] at g1
      obtain ⟨v0, kd, dv⟩ := h3 z d e
      exact ⟨q, _, v0, rfl, rfl, kd, g1 _ _ _ Ext.refl m1 (dv _ _)⟩
  | _ => exact g1.elim
theorem me_kin {no : Bool} (k : Cok X G T F W N sc) (hx : sc.lookup x = some .globalImplicit) (hc : G.dcs.lookup x = some c) (hd : (x == ("__debug__" : Str)) = false) (ha : PE X a (tE T X.K W F ca)) : PE X (.Compare a [if no then .NotIn else .In] [.Name x p] pos) (tE T X.K W F (.kin c ca no)) := by
  obtain ⟨q, h1, h2, h3⟩ := k.dcs x c hc
  have hb := pe_glob (X := X) (pos := p) (v := .ref q) (k.glo x hx) h1 rfl hd
  cases no with
  | false =>
    refine (pe_cmpR or_inKD ha hb rfl).imp fun τ H Q ⟨σ, M, ι, hs, hm, h⟩ => ?_
    rw [ev] at h
    refine ⟨σ, M, ι, hs, hm, PostE.bind h fun y M1 v H1 ι1 e1 m1 d1 g1 => ?_⟩
    cases d1 with
    | str z =>
      cases e : kixM c (.str z) with
      | none => rw [e] at g1; exact g1.elim
      | some d =>
        rw [e] at g1
        obtain ⟨v0, kd, dv⟩ := h3 z d e
        exact ⟨q, _, v0, rfl, rfl, kd, h2, g1 _ _ _ Ext.refl m1 (.bl _)⟩
    | _ => exact g1.elim
  | true =>
    refine (pe_cmpR or_ninKD ha hb rfl).imp fun τ H Q ⟨σ, M, ι, hs, hm, h⟩ => ?_
    rw [ev] at h
    refine ⟨σ, M, ι, hs, hm, PostE.bind h fun y M1 v H1 ι1 e1 m1 d1 g1 => ?_⟩
    cases d1 with
    | str z =>
      cases e : kixM c (.str z) with
      | none => rw [e] at g1; exact g1.elim
      | some d =>
        rw [e] at g1
        obtain ⟨v0, kd, dv⟩ := h3 z d e
        exact ⟨q, _, v0, rfl, rfl, kd, h2, g1 _ _ _ Ext.refl m1 (.bl _)⟩
    | _ => exact g1.elim
theorem mt_kin {no : Bool} (k : Cok X G T F W N sc) (hx : sc.lookup x = some .globalImplicit) (hc : G.dcs.lookup x = some c) (hd : (x == ("__debug__" : Str)) = false) (ha : PE X a (tE T X.K W F ca)) : PT X (.Compare a [if no then .NotIn else .In] [.Name x p] pos) (tT T X.K W F (.kin c ca no)) := by
  obtain ⟨q, h1, h2, h3⟩ := k.dcs x c hc
  have hb := pe_glob (X := X) (pos := p) (v := .ref q) (k.glo x hx) h1 rfl hd
  have as : ∀ (r : R D), (bnd (bnd r fun x M => match kixM c x with | some _ => ok (D.bl (!no)) M | none => none) fun x M1 => match x with | .bl k => ok k M1 | _ => none) = bnd r fun x M => match kixM c x with | some _ => ok (!no) M | none => none := fun r => by
    match r with
    | none => rfl
    | some (.ok a M) =>
      show bnd (match kixM c a with | some _ => ok (D.bl (!no)) M | none => none) _ = _
      cases e : kixM c a with
      | none => simp only [bnd, e]
      | some d => simp only [bnd, e, ok]
    | some (.exc e M) => rfl
  have main : ∀ {τ : St} {H : Hp} {Q : Bool → Hp → Prop}, tT T X.K W F (.kin c ca no) τ H Q → tE T X.K W F ca τ H fun x H1 => ∃ z v, x = .str z ∧ KDct X.K X.w q z v ∧ Q (!no) H1 := fun {τ H Q} ⟨σ, M, ι, hs, hm, h⟩ => by
    simp only [evT, ev] at h
    refine ⟨σ, M, ι, hs, hm, PostE.bindB (Eq.mp (congrArg (fun r => PostB T X.K W τ H ι r Q) (as _)) h) fun y M1 v H1 ι1 e1 m1 d1 g1 => ?_⟩
    cases d1 with
    | str z =>
      cases e : kixM c (.str z) with
      | none => rw [e] at g1; exact g1.elim
      | some d =>
        rw [e] at g1
        obtain ⟨v0, kd, dv⟩ := h3 z d e
        exact ⟨_, v0, rfl, kd, g1 _ _ Ext.refl m1⟩
    | _ => exact g1.elim
  cases no with
  | false =>
    refine (pt_cmpR or_inKD ha hb rfl).imp fun τ H Q h => ?_
    obtain ⟨σ, M, ι, hs, hm, g⟩ := main h
    refine ⟨σ, M, ι, hs, hm, g.mono fun x H1 ⟨z, v, e, kd, hq⟩ => ?_⟩
    subst e
    exact ⟨q, z, v, rfl, rfl, kd, h2, _, rfl, hq⟩
  | true =>
    refine (pt_cmpR or_ninKD ha hb rfl).imp fun τ H Q h => ?_
    obtain ⟨σ, M, ι, hs, hm, g⟩ := main h
    refine ⟨σ, M, ι, hs, hm, g.mono fun x H1 ⟨z, v, e, kd, hq⟩ => ?_⟩
    subst e
    exact ⟨q, z, v, rfl, rfl, kd, h2, _, rfl, hq⟩
end
/-! ### isinstance of several -/
section
variable {X : Cx} {G : Gn} {T : XT} {F : Caller} {W : WX} {N : List Str} {sc : List (Str × NameKind)} {a b c e : Expr} {es : List Expr} {ca cb cc : E} {ces : Es} {pos p p2 p3 apos : Pos}
theorem isi_rel2 {K : PySem.W.Frag} {H : Hp} {ι : List Addr} {M : Hm} (m : HM K H ι M) {x : D} {v : V} {t0 : Ty} {k0 : Bool} (h : DV K H ι x v) (e0 : isiM x t0 M = some k0) : ∃ ty, TyX K H v ty ∧ ∀ t k, isiM x t M = some k → PySem.W.kitOne K ty (.type t.nm) = some k := by
  have fin : ∀ {n : String}, TyX K H v (.type n) → (∀ t k, isiM x t M = some k → kitB n t.nm = some k) → ∃ ty, TyX K H v ty ∧ ∀ t k, isiM x t M = some k → PySem.W.kitOne K ty (.type t.nm) = some k := fun z q => ⟨_, z, fun t k e => kit_ty (q t k e)⟩
  cases h with
  | non => exact fin (n := "NoneType") (.base .non) fun t k e => by cases e; cases t <;> decide +kernel
  | bl b => exact fin (n := "bool") (.base (.bl b)) fun t k e => by cases e; cases t <;> decide +kernel
  | int b => exact fin (n := "int") (.base (.int b)) fun t k e => by cases e; cases t <;> decide +kernel
  | str b => exact fin (n := "str") (.base (.str _)) fun t k e => by cases e; cases t <;> decide +kernel
  | @tup a0 vs ds h1 r =>
    have z : TyX K H (.ref a0) (.type "tuple") := by
      rcases h1 with (h1 | ⟨o, h1⟩) | ⟨o, its, n, h1, h2, _⟩
      · exact .base (.tup h1)
      · exact .fTuple h1
      · exact .kTuple h1 h2
    exact fin z fun t k e => by cases e; cases t <;> decide +kernel
  | rol hr => cases e0
  | ref hi =>
    obtain ⟨o, em, om⟩ := m.at hi
    cases o with
    | lst ds =>
      obtain ⟨vs, e1, r⟩ := om
      exact fin (n := "list") (.base (.lst e1)) fun t k e => by simp only [isiM, em] at e; cases e; cases t <;> decide +kernel
    | dct ds =>
      obtain ⟨vs, e1, r⟩ := om
      exact fin (n := "dict") (.base (.dK e1)) fun t k e => by simp only [isiM, em] at e; cases e; cases t <;> decide +kernel
theorem kitAny_of {K : PySem.W.Frag} {ty : Value} {f : Ty → Option Bool} (h : ∀ t k, f t = some k → PySem.W.kitOne K ty (.type t.nm) = some k) : ∀ {ts : List Ty} {bs : List Bool}, ts.mapM f = some bs → PySem.W.kitAny K ty (ts.map fun t => Value.type t.nm) = some (bs.any id)
  | [], bs, e => by simp at e; subst e; rfl
  | t :: ts, bs, e => by
    rw [List.mapM_cons] at e
    simp only [Option.bind_eq_bind, Option.bind_eq_some_iff, Option.pure_def, Option.some.injEq] at e
    obtain ⟨b, e1, bs', e2, rfl⟩ := e
    simp only [List.map_cons, PySem.W.kitAny, h t b e1, List.any_cons, id]
    cases b with
    | true => rfl
    | false => simpa using kitAny_of h e2
def tyNms (ps : List (Ty × Pos)) : List Expr := ps.map fun q => .Name q.1.x q.2
theorem pa_tys (k : Cok X G T F W N sc) : ∀ {ps : List (Ty × Pos)}, (∀ q ∈ ps, sc.lookup q.1.x = some .globalImplicit ∧ X.mg q.1.x = none) → PA X (tyNms ps) (fun _ H Q => Q (ps.map fun q => V.ty q.1.nm) H)
  | [], _ => pa_nil
  | (t, q) :: ps, h => by
    have h0 := h (t, q) (by simp)
    have hb : PE X (.Name t.x q) (tC (.ty t.nm)) := by
      have g := k.glo _ h0.1
      have hm := h0.2
      cases t <;> exact pe_bltn g hm (by decide +kernel) rfl
    exact pa_cons hb (pa_tys k fun z hz => h z (List.mem_cons_of_mem _ hz)) rfl
theorem paired_tys : ∀ ps : List (Ty × Pos), Paired ClsV (ps.map fun q => V.ty q.1.nm) ((ps.map (·.1)).map fun t => Value.type t.nm)
  | [] => .nil
  | q :: ps => .cons (.ty _) (paired_tys ps)
theorem me_isiT {ps : List (Ty × Pos)} {j : Nat} (hl : ps.length ≤ 10) (h1 : ps ≠ []) (k : Cok X G T F W N sc) (hx : sc.lookup ("isinstance" : Str) = some .globalImplicit) (hm : X.mg ("isinstance" : Str) = none) (hy : ∀ q ∈ ps, sc.lookup q.1.x = some .globalImplicit ∧ X.mg q.1.x = none) (hst : starless a = true) (ha : PE X a (tE T X.K W F ca)) :
    PE X (.Call (.Name "isinstance" p) [a, .Tuple (tyNms ps) j p2] [] pos) (tE T X.K W F (.isi ca (ps.map (·.1)))) := by
  have sa : starEach [a, .Tuple (tyNms ps) j p2] X.env = (false, eval a X.env) :: starEach [.Tuple (tyNms ps) j p2] X.env := star_cons hst
  have hb := pe_tup (pos := p2) (x1 := j) (pa_tys k hy)
  refine (pe_callB call_isiT (k.glo _ hx) hm PyProof.Rows.boot_isinstance (pa_cons ha (pa_cons hb pa_nil rfl) sa) (by decide) (by decide) sa rfl).imp fun τ H Q ⟨σ, M, ι, hs, hm, h⟩ => ?_
  rw [ev] at h
  refine ⟨σ, M, ι, hs, hm, PostE.bind h fun x M1 v H1 ι1 e1 m1 d1 h1' => ?_⟩
  refine ⟨by rw [List.length_map, sizeLine_eq]; omega, fun q hq => ?_⟩
  cases eb : (ps.map (·.1)).mapM fun t => isiM x t M1 with
  | none => simp only [eb] at h1'; exact h1'.elim
  | some bs =>
    simp only [eb] at h1'
    have ex := Ext.newT (ι := ι1) (o := .tup (ps.map fun q => V.ty q.1.nm)) hq
    obtain ⟨⟨t0, p0⟩, r, rfl⟩ : ∃ q r, ps = q :: r := by
      cases ps with
      | nil => exact absurd rfl h1
      | cons q r => exact ⟨q, r, rfl⟩
    have eb' := eb
    rw [List.map_cons, List.mapM_cons] at eb'
    simp only [Option.bind_eq_bind, Option.bind_eq_some_iff, Option.pure_def, Option.some.injEq] at eb'
    obtain ⟨b0, eb0, _⟩ := eb'
    obtain ⟨ty, z1, z2⟩ := isi_rel2 (m1.newT hq) (d1.ex ex) eb0
    exact ⟨v, q, _, ty, _, _, rfl, upd_same, paired_tys _, z1, kitAny_of z2 eb, h1' _ _ _ ex (m1.newT hq) (.bl _)⟩
end
end Mi

/-! Mi10: what a cut leaves; walks; comprehensions. -/
namespace Mi
open PySem PySem.Spec
    PyProof.Rows L2

theorem mem_dd {a : Nat} : ∀ {l : List Nat}, a ∈ dd l ↔ a ∈ l
  | [] => Iff.rfl
  | b :: r => by
    rw [dd, List.mem_cons, List.mem_filter, mem_dd (l := r), List.mem_cons]
    by_cases h : a = b
    · simp [h]
    · simp [h]
theorem nodup_dd : ∀ l : List Nat, (dd l).Nodup
  | [] => List.nodup_nil
  | b :: r => by
    rw [dd]
    refine List.nodup_cons.mpr ⟨fun h => ?_, (nodup_dd r).filter _⟩
    have := (List.mem_filter.mp h).2
    simp at this
mutual
theorem refs_ge {n i : Nat} : ∀ {d : D}, i ∈ D.refs n d → n ≤ i
  | .ref j, h => by
    simp only [D.refs] at h
    split at h
    · cases h
    · simp at h; omega
  | .tup ds, h => refss_ge (by simpa only [D.refs] using h)
  | .non, h => by simp [D.refs] at h
  | .bl _, h => by simp [D.refs] at h
  | .rol _, h => by simp [D.refs] at h
  | .int _, h => by simp [D.refs] at h
  | .str _, h => by simp [D.refs] at h
theorem refss_ge {n i : Nat} : ∀ {ds : List D}, i ∈ D.refss n ds → n ≤ i
  | [], h => by simp [D.refss] at h
  | d :: ds, h => by
    simp only [D.refss, List.mem_append] at h
    rcases h with h | h
    · exact refs_ge h
    · exact refss_ge h
end
theorem slRefs_ge {n i : Nat} : ∀ {σ : Sl}, i ∈ slRefs n σ → n ≤ i
  | [], h => by simp [slRefs] at h
  | none :: r, h => slRefs_ge (by simpa only [slRefs] using h)
  | some d :: r, h => by
    simp only [slRefs, List.mem_append] at h
    rcases h with h | h
    · exact refs_ge h
    · exact slRefs_ge h
section
variable {K : PySem.W.Frag} {H H0 : Hp} {ι ι0 ι' : List Addr} {M M0 : Hm}
mutual
theorem DV.lowE {n : Nat} (g : ∀ i, i < n → ι'[i]? = ι[i]?) : ∀ {d : D} {v : V}, DV K H ι d v → D.low n d = true → DV K H ι' d v
  | _, _, .non, _ => .non
  | _, _, .bl b, _ => .bl b
  | _, _, .rol h, _ => .rol h
  | _, _, .int b, _ => .int b
  | _, _, .str b, _ => .str b
  | _, _, .tup h r, e => .tup h (DVs.lowE g r (by simpa only [D.low] using e))
  | _, _, .ref h, e => .ref (by rw [g _ (by simpa [D.low] using e)]; exact h)
theorem DVs.lowE {n : Nat} (g : ∀ i, i < n → ι'[i]? = ι[i]?) : ∀ {d : List D} {v : List V}, DVs K H ι d v → D.lows n d = true → DVs K H ι' d v
  | _, _, .nil, _ => .nil
  | _, _, .cons h r, e => by
    simp only [D.lows, Bool.and_eq_true] at e
    exact .cons (DV.lowE g h e.1) (DVs.lowE g r e.2)
end
theorem KVs.lowE {n : Nat} (g : ∀ i, i < n → ι'[i]? = ι[i]?) : ∀ {d : List (D × D)} {v : List (Key × V)}, KVs K H ι d v → (d.all fun p => D.low n p.1 && D.low n p.2) = true → KVs K H ι' d v
  | _, _, .nil, _ => .nil
  | _, _, .cons hk h r, e => by
    simp only [List.all_cons, Bool.and_eq_true] at e
    exact .cons hk (h.lowE g e.1.2) (KVs.lowE g r (by simpa only [List.all_eq_true, Bool.and_eq_true] using e.2))
theorem OM.lowE {n : Nat} (g : ∀ i, i < n → ι'[i]? = ι[i]?) {o : MO} {a : Addr} (h : OM K H ι o a) (e : o.low n = true) : OM K H ι' o a := by
  cases o with
  | lst ds => obtain ⟨vs, q, r⟩ := h; exact ⟨vs, q, r.lowE g e⟩
  | dct ds => obtain ⟨vs, q, r⟩ := h; exact ⟨vs, q, r.lowE g e⟩
mutual
theorem DV.isLow : ∀ {d : D} {v : V}, DV K H ι d v → D.low ι.length d = true
  | _, _, .non => rfl
  | _, _, .bl b => rfl
  | _, _, .rol _ => rfl
  | _, _, .int b => rfl
  | _, _, .str b => rfl
  | _, _, .tup h r => by simp only [D.low]; exact DVs.isLow r
  | _, _, .ref h => by simp only [D.low]; exact decide_eq_true (List.getElem?_eq_some_iff.mp h).1
theorem DVs.isLow : ∀ {d : List D} {v : List V}, DVs K H ι d v → D.lows ι.length d = true
  | _, _, .nil => rfl
  | _, _, .cons h r => by simp only [D.lows, Bool.and_eq_true]; exact ⟨DV.isLow h, DVs.isLow r⟩
end
theorem KVs.isLow : ∀ {d : List (D × D)} {v : List (Key × V)}, KVs K H ι d v → (d.all fun p => D.low ι.length p.1 && D.low ι.length p.2) = true
  | _, _, .nil => rfl
  | (k, _) :: _, _, .cons hk h r => by
    rw [List.all_cons, KVs.isLow r, h.isLow]
    cases k <;> first | rfl | cases hk
theorem OM.isLow {o : MO} {a : Addr} (h : OM K H ι o a) : o.low ι.length = true := by
  cases o with
  | lst ds => obtain ⟨vs, q, r⟩ := h; exact r.isLow
  | dct ds => obtain ⟨vs, q, r⟩ := h; exact r.isLow
mutual
theorem DV.renE {n : Nat} {rs : List Nat} (g : ∀ i, i < n ∨ i ∈ rs → ι'[place n rs i]? = ι[i]?) : ∀ {d : D} {v : V}, DV K H ι d v → (∀ i ∈ d.refs n, i ∈ rs) → DV K H ι' (d.ren (place n rs)) v
  | _, _, .non, _ => .non
  | _, _, .bl b, _ => .bl b
  | _, _, .rol h, _ => .rol h
  | _, _, .int b, _ => .int b
  | _, _, .str b, _ => .str b
  | _, _, .tup h r, e => .tup h (DVs.renE g r (by simpa only [D.refs] using e))
  | _, _, .ref (i := i) h, e => by
    refine .ref ?_
    rw [g i ?_]
    · exact h
    · by_cases hi : i < n
      · exact .inl hi
      · exact .inr (e i (by simp only [D.refs, if_neg hi]; exact List.mem_singleton.mpr rfl))
theorem DVs.renE {n : Nat} {rs : List Nat} (g : ∀ i, i < n ∨ i ∈ rs → ι'[place n rs i]? = ι[i]?) : ∀ {d : List D} {v : List V}, DVs K H ι d v → (∀ i ∈ D.refss n d, i ∈ rs) → DVs K H ι' (D.rens (place n rs) d) v
  | _, _, .nil, _ => .nil
  | _, _, .cons h r, e => .cons (DV.renE g h fun i hi => e i (by simp only [D.refss, List.mem_append]; exact .inl hi)) (DVs.renE g r fun i hi => e i (by simp only [D.refss, List.mem_append]; exact .inr hi))
end
theorem SM.renE {n : Nat} {rs : List Nat} (g : ∀ i, i < n ∨ i ∈ rs → ι'[place n rs i]? = ι[i]?) : ∀ {σ : Sl} {τ : St}, SM K H ι σ τ → (∀ i ∈ slRefs n σ, i ∈ rs) → SM K H ι' (slRen (place n rs) σ) τ
  | _, _, .nil, _ => .nil
  | _, _, .non r, e => .non (SM.renE g r (by simpa only [slRefs] using e))
  | _, _, .som h r, e => .som (h.renE g fun i hi => e i (by simp only [slRefs, List.mem_append]; exact .inl hi)) (SM.renE g r fun i hi => e i (by simp only [slRefs, List.mem_append]; exact .inr hi))
theorem pick_len {α : Type} {l : List α} : ∀ {rs : List Nat}, (∀ i ∈ rs, i < l.length) → (rs.filterMap fun i => l[i]?).length = rs.length
  | [], _ => rfl
  | i :: r, h => by
    have hi := h i List.mem_cons_self
    rw [List.filterMap_cons, List.getElem?_eq_getElem hi]
    simp only [List.length_cons]
    rw [pick_len fun j hj => h j (List.mem_cons_of_mem _ hj)]
theorem pick_at {α : Type} {l : List α} : ∀ {rs : List Nat} (_ : ∀ i ∈ rs, i < l.length) (j : Nat), (rs.filterMap fun i => l[i]?)[j]? = rs[j]?.bind fun i => l[i]?
  | [], _, j => by simp
  | i :: r, h, j => by
    have hi := h i List.mem_cons_self
    rw [List.filterMap_cons, List.getElem?_eq_getElem hi]
    cases j with
    | zero => simp [List.getElem?_eq_getElem hi]
    | succ j =>
      simp only
          [List.getElem?_cons_succ]
      exact pick_at (fun j hj => h j (List.mem_cons_of_mem _ hj)) j
theorem idx_of {rs : List Nat} {i : Nat} (h : i ∈ rs) : rs[rs.idxOf i]? = some i := by
  have hl := List.idxOf_lt_length_iff.mpr h
  rw [List.getElem?_eq_getElem hl]
  simp
/-- the cut heap stands as the heap does -/
theorem cut_ok (m0 : HM K H0 ι0 M0) (x : Ext H0 ι0 H ι) (m : HM K H ι M) {rs : List Nat} (hc : cuts M0 M rs = true) (nd : rs.Nodup) (ge : ∀ i ∈ rs, M0.length ≤ i) :
    ∃ ι', Ext H0 ι0 H ι' ∧ HM K H ι' (M.take M0.length ++ pick M rs) ∧ ∀ i, i < M0.length ∨ i ∈ rs → ι'[place M0.length rs i]? = ι[i]? := by
  unfold cuts at hc
  simp only [Bool.and_eq_true, List.all_eq_true] at hc
  obtain ⟨hk, hr⟩ := hc
  have lt : ∀ i ∈ rs, i < M.length := fun i hi => by
    have := hr i hi
    cases e : M[i]? with
    | none => rw [e] at this; cases this
    | some o => exact (List.getElem?_eq_some_iff.mp e).1
  have ltι : ∀ i ∈ rs, i < ι.length := fun i hi => by rw [m.len]; exact lt i hi
  unfold kept at hk
  simp only [Bool.and_eq_true, List.all_eq_true, decide_eq_true_eq, List.mem_range] at hk
  obtain ⟨hn, hk⟩ := hk
  obtain ⟨t, et⟩ := x.pre
  have nι : ι0.length = M0.length := m0.len
  have hnι : M0.length ≤ ι.length := by rw [m.len]; exact hn
  -- places
  have at1 : ∀ i, i < M0.length → (ι.take M0.length ++ rs.filterMap fun i => ι[i]?)[i]? = ι[i]? := fun i hi => by
    rw [List.getElem?_append_left (by rw [List.length_take]; omega), List.getElem?_take_of_lt hi]
  have at2 : ∀ j, (ι.take M0.length ++ rs.filterMap fun i => ι[i]?)[M0.length + j]? = rs[j]?.bind fun i => ι[i]? := fun j => by
    rw [List.getElem?_append_right (by rw [List.length_take]; omega), List.length_take, Nat.min_eq_left hnι, Nat.add_sub_cancel_left]
    exact pick_at ltι j
  have mt1 : ∀ i, i < M0.length → (M.take M0.length ++ pick M rs)[i]? = M[i]? := fun i hi => by
    rw [List.getElem?_append_left (by rw [List.length_take]; omega), List.getElem?_take_of_lt hi]
  have mt2 : ∀ j, (M.take M0.length ++ pick M rs)[M0.length + j]? = rs[j]?.bind fun i => M[i]? := fun j => by
    rw [List.getElem?_append_right (by rw [List.length_take]; omega), List.length_take, Nat.min_eq_left hn, Nat.add_sub_cancel_left]
    exact pick_at lt j
  have back : ∀ {i : Nat} {a : Addr} {o : MO}, (ι.take M0.length ++ rs.filterMap fun i => ι[i]?)[i]? = some a → (M.take M0.length ++ pick M rs)[i]? = some o →
      ∃ i0, ι[i0]? = some a ∧ M[i0]? = some o ∧ (i < M0.length ∧ i0 = i ∨ ∃ j, i = M0.length + j ∧ rs[j]? = some i0) := fun {i a o} e em => by
    by_cases hi : i < M0.length
    · rw [at1 i hi] at e
      rw [mt1 i hi] at em
      exact ⟨i, e, em, .inl ⟨hi, rfl⟩⟩
    · obtain ⟨j, rfl⟩ : ∃ j, i = M0.length + j := ⟨i - M0.length, by omega⟩
      rw [at2] at e
      rw [mt2] at em
      cases q : rs[j]? with
      | none => rw [q]
          at e; cases e
      | some i0 =>
        rw [q] at e em
        exact ⟨i0, e, em, .inr ⟨j, rfl, q⟩⟩
  have low : ∀ {i : Nat} {o : MO}, M[i]? = some o → (i < M0.length ∨ i ∈ rs) → o.low M0.length = true := fun {i o} em h => by
    rcases h with h | h
    · have := hk i h
      rw [List.getElem?_eq_getElem h, em] at this
      simp only [Bool.or_eq_true, decide_eq_true_eq] at this
      rcases this with e | e
      · have h0 : ι0[i]? = some ι0[i] := List.getElem?_eq_getElem (by rw [nι]; exact h)
        have q := (m0.ob i _ _ h0 (List.getElem?_eq_getElem h)).isLow
        rw [← e, ← nι]
        exact q
      · exact e
    · have := hr i h
      rw [em] at this
      exact this
  refine ⟨ι.take M0.length ++ rs.filterMap fun i => ι[i]?, ⟨⟨rs.filterMap fun i => ι[i]?, ?_⟩, fun a h1 h2 => ?_, x.frm, x.stay⟩, ⟨?_, fun i j a o1 o2 e1 e2 q1 q2 r1 r2 => ?_, fun i a o e em => ?_⟩, fun i h => ?_⟩
  · rw [et, ← nι, List.take_left]
  · rcases List.mem_append.mp h1 with h | h
    · exact x.new a (List.mem_of_mem_take h) h2
    · obtain ⟨i, hi, e⟩ := List.mem_filterMap.mp h
      exact x.new a (List.mem_of_getElem? e) h2
  · rw [List.length_append, List.length_append, List.length_take, List.length_take, pick_len ltι]
    unfold pick
    rw [pick_len lt, m.len]
  · obtain ⟨i0, x1, y1, z1⟩ := back e1 q1
    obtain ⟨j0, x2, y2, z2⟩ := back e2 q2
    have := m.nd i0 j0 a o1 o2 x1 x2 y1 y2 r1 r2
    subst this
    rcases z1 with ⟨h1, rfl⟩ | ⟨j1, rfl, w1⟩
    · rcases z2 with ⟨h2, rfl⟩ | ⟨j2, rfl, w2⟩
      · rfl
      · have := ge _ (List.mem_of_getElem? w2)
        omega
    · rcases z2 with ⟨h2, rfl⟩ | ⟨j2, rfl, w2⟩
      · have := ge _ (List.mem_of_getElem? w1)
        omega
      · obtain ⟨l1, g1⟩ := List.getElem?_eq_some_iff.mp w1
        rw [(List.getElem?_inj l1 nd).mp (w1.trans w2.symm)]
  · obtain ⟨i0, x1, y1, z1⟩ := back e em
    refine (m.ob i0 a o x1 y1).lowE at1 (low y1 ?_)
    rcases z1 with ⟨h1, rfl⟩ | ⟨j1, rfl, w1⟩
    · exact .inl h1
    · exact .inr (List.mem_of_getElem? w1)
  · unfold place
    split
    · rename_i hi
      exact at1 i hi
    · rename_i hi
      rcases h with h | h
      · exact absurd h hi
      · rw [at2, idx_of h]
        rfl
theorem leaveS_ok (m0 : HM K H0 ι0 M0) (x : Ext H0 ι0 H ι) (m : HM K H ι M) {σ : Sl} {τ : St} (s : SM K H ι σ τ) :
    ∃ ι', Ext H0 ι0 H ι' ∧ HM K H ι' (leaveS M0 σ M).2 ∧ SM K H ι' (leaveS M0 σ M).1 τ := by
  unfold leaveS
  split
  · exact ⟨ι, x, m, s⟩
  · simp only
    split
    · rename_i hc
      obtain ⟨ι', x', m', g⟩ := cut_ok m0 x m hc (nodup_dd _) fun i hi => slRefs_ge (mem_dd.mp hi)
      exact ⟨ι', x', m', s.renE g fun i hi => mem_dd.mpr hi⟩
    · exact ⟨ι, x, m, s⟩
theorem leave_ok (m0 : HM K H0 ι0 M0) (x : Ext H0 ι0 H ι) (m : HM K H ι M) {d : D} {v : V} (s : DV K H ι d v) :
    ∃ d' M' ι', leave M0 d M = ok d' M' ∧ Ext H0 ι0 H ι' ∧ HM K H ι' M' ∧ DV K H ι' d' v := by
  unfold leave
  split
  · exact ⟨d, M, ι, rfl, x, m, s⟩
  · simp only
    split
    · rename_i hc
      obtain ⟨ι', x', m', g⟩ := cut_ok m0 x m hc (nodup_dd _) fun i hi => refs_ge (mem_dd.mp hi)
      exact ⟨_, _, ι', rfl, x', m', s.renE g fun i hi => mem_dd.mpr hi⟩
    · exact ⟨d, M, ι, rfl, x, m, s⟩
end

/-! ### walks -/
/-- an iterator gives the walk's items -/
def WkR (K : PySem.W.Frag) (J : It) (w : Wk) (H0 : Hp) (ι0 : List Addr) : Prop := ∀ i H ι M, Ext H0 ι0 H ι → HM K H ι M → w.ok M = true →
  (∀ d, w.its[i]? = some d → J.go i H ∧ ∀ x H', J.yld i H x H' → Ext H ι H' ι ∧ HM K H' ι M ∧ DV K H' ι d x) ∧ (w.its.length ≤ i → J.stop i H)
section
variable {X : Cx} {G : Gn} {T : XT} {F : Caller} {W : WX} {N : List Str} {sc : List (Str × NameKind)} {a b c e tg : Expr} {es : List Expr} {ca cb cc : E} {ces : Es} {pos p p2 p3 apos : Pos} {K : PySem.W.Frag} {H H0 : Hp} {ι ι0 : List Addr} {M : Hm}
def tW (T : XT) (K : PySem.W.Frag) (W : WX) (F : Caller) (c : Sr) : TI := fun τ H R => ∃ σ M ι, SM K H ι σ τ ∧ HM K H ι M ∧ Post T K W τ H ι (evW F c σ M) fun w _ H' ι' => ∀ J, WkR K J w H' ι' → R J H'
theorem wk_tup {x : Addr} {ds : List D} {vs : List V} (h : SqT K H0 x vs) (r : DVs K H0 ι0 ds vs) : WkR K (Itt K x) ⟨ds, []⟩ H0 ι0 := fun i H ι M ex m _ => by
  have h' : SqT K H x vs := sqt_to ex.stay h
  refine ⟨fun d e => ?_, fun e => ⟨vs, h', by rw [← r.len]; exact e⟩⟩
  obtain ⟨v, e1, h1⟩ := (r.ex ex).get e
  refine ⟨⟨vs, v, h', e1⟩, fun y H' ⟨q1, q2⟩ => ?_⟩
  subst q1
  have q := q2 vs h'
  rw [e1] at q
  cases q
  exact ⟨Ext.refl, m, h1⟩
theorem wk_rol {x : Addr} {is : List Int} (h : SqR K H0 x (is.map V.int)) : WkR K (Itl K x) ⟨is.map .int, []⟩ H0 ι0 := fun i H ι M ex m _ => by
  have h' : SqL K H x (is.map V.int) := (sqr_to ex.stay h).sql
  have r := rol_rel (K := K) (H := H) (ι := ι) is
  refine ⟨fun d e => ?_, fun e => ⟨_, h', by rw [← r.len]; exact e⟩⟩
  obtain ⟨v, e1, h1⟩ := r.get e
  refine ⟨⟨_, v, h', e1⟩, fun y H' ⟨q1, q2⟩ => ?_⟩
  subst q1
  have q := q2 _ h'
  rw [e1] at q
  cases q
  exact ⟨Ext.refl, m, h1⟩
/-- the guarded list, as it stands -/
theorem grd_at {i0 : Nat} {x : Addr} {ds : List D} (hi : ι0[i0]? = some x) (ex : Ext H0 ι0 H ι) (m : HM K H ι M) (hg : decide (M[i0]? = some (.lst ds)) = true) : ∃ vs, SqL K H x vs ∧ DVs K H ι ds vs := by
  obtain ⟨vs, q, r⟩ := m.ob i0 x _ (ex.get hi) (of_decide_eq_true hg)
  exact ⟨vs, SqL.of q, r⟩
theorem ok_one {its : List D} {g : Nat × MO} {M : Hm} (h : Wk.ok ⟨its, [g]⟩ M = true) : decide (M[g.1]? = some g.2) = true := by simpa [Wk.ok] using h
theorem wk_lst {i0 : Nat} {x : Addr} {ds : List D} (hi : ι0[i0]? = some x) : WkR K (Itl K x) ⟨ds, [(i0, .lst ds)]⟩ H0 ι0 := fun i H ι M ex m hg => by
  obtain ⟨vs, h', r⟩ := grd_at hi ex m (ok_one hg)
  refine ⟨fun d e => ?_, fun e => ⟨vs, h', by rw [← r.len]; exact e⟩⟩
  obtain ⟨v, e1, h1⟩ := r.get e
  refine ⟨⟨vs, v, h', e1⟩, fun y H' ⟨q1, q2⟩ => ?_⟩
  subst q1
  have q := q2 vs h'
  rw [e1] at q
  cases q
  exact ⟨Ext.refl, m, h1⟩
theorem wk_str (x : List Nat) : WkR K (Its ⟨x.toArray⟩) ⟨x.map fun c => .str [c], []⟩ H0 ι0 := fun i H ι M ex m _ => by
  refine ⟨fun d e => ?_, fun e => by simpa [Its] using e⟩
  rw [List.getElem?_map] at e
  cases q : x[i]? with
  | none => rw [q]
      at e; cases e
  | some c =>
    rw [q] at e
    cases e
    refine ⟨by simpa [Its] using (List.getElem?_eq_some_iff.mp q).1, fun y H' ⟨q1, c', q2, q3⟩ => ?_⟩
    subst q1 q3
    have q2 : x[i]? = some c' := by simpa using q2
    rw [q] at q2
    cases q2
    exact ⟨Ext.refl, m, .str [c]⟩
theorem wk_rng (lo hi : Int) : WkR K (Itr lo (hi - lo).toNat) ⟨rngD lo hi, []⟩ H0 ι0 := fun i H ι M ex m _ => by
  unfold rngD
  refine ⟨fun d e => ?_, fun e => by simpa [Itr] using e⟩
  rw [List.getElem?_map] at e
  cases q : (List.range (hi - lo).toNat)[i]? with
  | none => rw [q]
      at e; cases e
  | some c =>
    rw [q] at e
    cases e
    have hl := (List.getElem?_eq_some_iff.mp q).1
    rw [List.getElem?_range (by simpa using hl)] at q
    cases q
    refine ⟨by simpa [Itr] using hl, fun y H' ⟨q1, q2⟩ => ?_⟩
    subst q1 q2
    exact ⟨Ext.refl, m, .int _⟩
theorem enum_at : ∀ {ds : List D} {n i : Nat} {d : D}, (enumD n ds)[i]? = some d → ∃ d0, ds[i]? = some d0 ∧ d = .tup [.int ((n + i : Nat) : Int), d0]
  | [], _, _, _, e => by simp [enumD] at e
  | d0 :: r, n, 0, d, e => by
    simp only [enumD, List.getElem?_cons_zero, Option.some.injEq] at e
    exact ⟨d0, rfl, e.symm⟩
  | d0 :: r, n, i + 1, d, e => by
    simp only [enumD, List.getElem?_cons_succ] at e
    obtain ⟨d1, e1, e2⟩ := enum_at e
    refine ⟨d1, by simpa using e1, ?_⟩
    rw [e2]
    congr 4
    omega
theorem enum_len : ∀ (ds : List D) (n : Nat), (enumD n ds).length = ds.length
  | [], _ => rfl
  | d :: r, n => congrArg (· + 1) (enum_len r (n + 1))
theorem wk_enum {x : Addr} {ds : List D} {g : List (Nat × MO)} (hg : ∀ H ι M, Ext H0 ι0 H ι → HM K H ι M → Wk.ok ⟨enumD 0 ds, g⟩ M = true → ∃ vs, SqL K H x vs ∧ DVs K H ι ds vs) : WkR K (Ite K x) ⟨enumD 0 ds, g⟩ H0 ι0 := fun i H ι M ex m ho => by
  obtain ⟨vs, h', r⟩ := hg H ι M ex m ho
  refine ⟨fun d e => ?_, fun e => ⟨vs, h', by rw [← r.len, ← enum_len ds 0]; exact e⟩⟩
  obtain ⟨d0, e0, rfl⟩ := enum_at e
  obtain ⟨v, e1, h1⟩ := r.get e0
  refine ⟨⟨vs, v, h', e1⟩, fun y H' ⟨t, u, q1, q2, q3, q4⟩ => ?_⟩
  have q := q4 vs h'
  rw [e1] at q
  cases q
  subst q1 q3
  rw [Nat.zero_add]
  exact ⟨Ext.newT q2, m.newT q2, .tup (SqT.of upd_same) (.cons (.int _) (.cons (h1.ex (Ext.newT q2)) .nil))⟩

theorem zip_at : ∀ {xs ys : List D} {i : Nat} {d : D}, (zipD xs ys)[i]? = some d → ∃ a b, xs[i]? = some a ∧ ys[i]? = some b ∧ d = .tup [a, b]
  | [], _, _, _, e => by simp [zipD] at e
  | _ :: _, [], _, _, e => by simp [zipD] at e
  | a :: r, b :: s, 0, d, e => by
    simp only [zipD, List.getElem?_cons_zero, Option.some.injEq] at e
    exact ⟨a, b, rfl, rfl, e.symm⟩
  | a :: r, b :: s, i + 1, d, e => by
    simp only [zipD, List.getElem?_cons_succ] at e
    obtain ⟨x, y, h1, h2, h3⟩ := zip_at e
    exact ⟨x, y, by simpa using h1, by simpa using h2, h3⟩
theorem zip_len : ∀ (xs ys : List D), (zipD xs ys).length = min xs.length ys.length
  | [], ys => by simp [zipD]
  | _ :: _, [] => by simp [zipD]
  | a :: r, b :: s => by simp only [zipD, List.length_cons, zip_len r s]; omega
theorem zip_end {xs ys : List D} {vs ws : List V} {i : Nat} (h1 : xs.length = vs.length) (h2 : ys.length = ws.length) (e : (zipD xs ys).length ≤ i) : vs.length ≤ i ∨ ws.length ≤ i := by
  rw [zip_len] at e
  omega
theorem wk_zipL {x y : Addr} {xs ys : List D} {g : List (Nat × MO)} (hg : ∀ H ι M, Ext H0 ι0 H ι → HM K H ι M → Wk.ok ⟨zipD xs ys, g⟩ M = true → ∃ vs ws, SqL K H x vs ∧ DVs K H ι xs vs ∧ SqL K H y ws ∧ DVs K H ι ys ws) : WkR K (Itz K x y) ⟨zipD xs ys, g⟩ H0 ι0 := fun i H ι M ex m ho => by
  obtain ⟨vs, ws, a1, r1, a2, r2⟩ := hg H ι M ex m ho
  refine ⟨fun d e => ?_, fun e => ⟨vs, ws, a1, a2, zip_end r1.len r2.len e⟩⟩
  obtain ⟨a, b, ea, eb, rfl⟩ := zip_at e
  obtain ⟨v, e1, h1⟩ := r1.get ea
  obtain ⟨u, e2, h2⟩ := r2.get eb
  refine ⟨⟨vs, ws, v, u, a1, a2, e1, e2⟩, fun z H' ⟨t, p, q, q1, q2, q3, q4, q5⟩ => ?_⟩
  have z1 := q4 vs a1
  have z2 := q5 ws a2
  rw [e1] at z1
  rw [e2] at z2
  cases z1
  cases z2
  subst q1 q3
  exact ⟨Ext.newT q2, m.newT q2, .tup (SqT.of upd_same) (.cons (h1.ex (Ext.newT q2)) (.cons (h2.ex (Ext.newT q2)) .nil))⟩
theorem wk_zipT {x y : Addr} {xs ys : List D} {vs ws : List V} (s1 : SqT K H0 x vs) (d1 : DVs K H0 ι0 xs vs) (s2 : SqT K H0 y ws) (d2 : DVs K H0 ι0 ys ws) : WkR K (RZ.ItzT K x y) ⟨zipD xs ys, []⟩ H0 ι0 := fun i H ι M ex m ho => by
  have a1 := sqt_to ex.stay s1
  have a2 := sqt_to ex.stay s2
  have r1 := d1.ex ex
  have r2 := d2.ex ex
  refine ⟨fun d e => ?_, fun e => ⟨vs, ws, a1, a2, zip_end r1.len r2.len e⟩⟩
  obtain ⟨a, b, ea, eb, rfl⟩ := zip_at e
  obtain ⟨v, e1, h1⟩ := r1.get ea
  obtain ⟨u, e2, h2⟩ := r2.get eb
  refine ⟨⟨vs, ws, v, u, a1, a2, e1, e2⟩, fun z H' ⟨t, p, q, q1, q2, q3, q4, q5⟩ => ?_⟩
  have z1 := q4 vs a1
  have z2 := q5 ws a2
  rw [e1] at z1
  rw [e2] at z2
  cases z1
  cases z2
  subst q1 q3
  exact ⟨Ext.newT q2, m.newT q2, .tup (SqT.of upd_same) (.cons (h1.ex (Ext.newT q2)) (.cons (h2.ex (Ext.newT q2)) .nil))⟩
/-! ### what a for or a comprehension goes over -/
theorem Post.bindP {α β : Type} {τ : St} {x : R α} {f : α → Hm → R β} {g : α → Hm → Hp → List Addr → Prop} {q : β → Hm → Hp → List Addr → Prop} (h : Post T K W τ H ι (bnd x f) q)
    (k : ∀ d M1 H1 ι1, Ext H ι H1 ι1 → HM K H1 ι1 M1 → Post T K W τ H1 ι1 (f d M1) q → g d M1 H1 ι1) : Post T K W τ H ι x g := by
  match x, h with
  | some (.ok d M'), h => exact fun H' ι' e m => k d M' H' ι' e m (Post.ex h e)
  | some (.exc y M'), h => exact h
theorem Post.bindA {α : Type} {τ : St} {x : R (List D)} {f : List D → Hm → R α} {g : α → Hm → Hp → List Addr → Prop} {Q' : List V → Hp → Prop} (h : Post T K W τ H ι (bnd x f) g)
    (k : ∀ d M1 v H1 ι1, Ext H ι H1 ι1 → HM K H1 ι1 M1 → DVs K H1 ι1 d v → Post T K W τ H1 ι1 (f d M1) g → Q' v H1) : PostA T K W τ H ι x Q' :=
  PostA.of (fun H ι r => Post T K W τ H ι r g) (fun _ _ h => h) id (fun _ _ _ e h => h.ex e) h k
theorem Post.bindB {α : Type} {τ : St} {x : R Bool} {f : Bool → Hm → R α} {g : α → Hm → Hp → List Addr → Prop} {Q' : Bool → Hp → Prop} (h : Post T K W τ H ι (bnd x f) g)
    (k : ∀ d M1 H1 ι1, Ext H ι H1 ι1 → HM K H1 ι1 M1 → Post T K W τ H1 ι1 (f d M1) g → Q' d H1) : PostB T K W τ H ι x Q' :=
  PostB.of (fun H ι r => Post T K W τ H ι r g) (fun _ _ h => h) id (fun _ _ _ e h => h.ex e) h k
theorem mi_seq (ha : PE X a (tE T X.K W F ca)) : PI X tg a (tW T X.K W F (.seq ca)) := by
  refine ⟨fun pins s τ H R I ⟨σ, M, ι, hs, hm, h⟩ => ?_⟩
  rw [evW] at h
  refine thn (ha.run pins s τ H (fun v H1 => ∃ d M1 ι1, HM X.K H1 ι1 M1 ∧ DV X.K H1 ι1 d v ∧ ∃ w, seqW M1 d = some w ∧ ∀ J, WkR X.K J w H1 ι1 → R J H1) I ⟨σ, M, ι, hs, hm, Post.bindE h fun x M1 v H1 ι1 e1 m1 d1 h1 => ?_⟩) fun u s1 ⟨v, H1, I1, r1, d, M1, ι1, m1, d1, w, hw, hR⟩ => ?_
  · cases q : seqW M1 x with
    | none => rw [q] at h1; exact h1.elim
    | some w => rw [q] at h1; exact ⟨x, M1, ι1, m1, d1, w, q, h1 _ _ Ext.refl m1⟩
  · have lst : ∀ {a0 : Addr} {vs : List V}, u = .ref a0 → SqL X.K H1 a0 vs → R (Itl X.K a0) H1 → wpAny (model X.prog X.w) X.A (pyIter u) (PIE X pins τ tg R) X.xe s1 := fun {a0 vs} eu q r => by
      subst eu
      obtain ⟨its, rv, pl, hz⟩ := I1.list q
      exact wpAny_pyIter_list pl.isList (pi_one (tk := s1.toks) I1 _ (turn_list a0 _) ⟨_, Heap.get?_push_size _ rfl, rfl, rfl⟩ r)
    cases d1 with
    | tup q r =>
      cases hw
      cases r1
      obtain ⟨its, rv, pl, hz⟩ := I1.tuple q
      exact wpAny_pyIter_tuple (show s1.heap.IsTuple _ its.toArray from pl) (pi_one (tk := s1.toks) I1 _ (turn_tuple _ _) ⟨_, Heap.get?_push_size _ rfl, rfl, rfl⟩ (hR _ (wk_tup q r)))
    | str x =>
      cases hw
      obtain ⟨t, rfl⟩ := r1
      cases hb : (⟨x.toArray⟩ : Str).cps.all (· < 128)
      · exact wpAny_pyIter_wide hb (pi_one (tk := s1.toks) I1 _ (turn_str _ _ t "str_iterator" (.inr rfl)) ⟨_, Heap.get?_push_size _ rfl, rfl, rfl⟩ (hR _ (wk_str x)))
      · exact wpAny_pyIter_ascii hb (pi_one (tk := s1.toks) I1 _ (turn_str _ _ t "str_ascii_iterator" (.inl rfl)) ⟨_, Heap.get?_push_size _ rfl, rfl, rfl⟩ (hR _ (wk_str x)))
    | rol hr =>
      cases hw
      exact lst r1 hr.sql (hR _ (wk_rol hr))
    | ref hi =>
      obtain ⟨o, em, om⟩ := m1.at hi
      simp only [seqW, em] at hw
      cases o with
      | lst ds =>
        obtain ⟨vs, q, r⟩ := om
        cases hw
        exact lst r1 (SqL.of q) (hR _ (wk_lst hi))
      | dct ds => cases hw
    | _ => cases hw
theorem mi_rng2 (k : Cok X G T F W N sc) (hx : sc.lookup ("range" : Str) = some .globalImplicit) (hm : X.mg ("range" : Str) = none) (hst : starless a = true) (hst2 : starless b = true) (ha : PE X a (tE T X.K W F ca)) (hb : PE X b (tE T X.K W F cb)) :
    PI X tg (.Call (.Name "range" p) [a, b] [] pos) (tW T X.K W F (.rng ca cb)) := by
  have sa : starEach [a, b] X.env = (false, eval a X.env) :: starEach [b] X.env := star_cons hst
  have sb : starEach [b] X.env = (false, eval b X.env) :: starEach [] X.env := star_cons hst2
  have h := pi_range2 (tg := tg) (p := p) (pos := pos) (k.glo _ hx) hm (pa_cons ha (pa_cons hb pa_nil sb) sa) (by rw [sa, sb]; rfl) (by rw [sb]; rfl)
  refine ⟨fun pins s τ H R I ⟨σ, M, ι, hs, hm, q⟩ => h.run pins s τ H R I ?_⟩
  rw [evW] at q
  refine ⟨σ, M, ι, hs, hm, Post.bindE q fun x M1 v H1 ι1 e1 m1 d1 h1 => ?_⟩
  refine ⟨σ, M1, ι1, hs.ex e1, m1, Post.bindE h1 fun y M2 u H2 ι2 e2 m2 d2 h2 => ?_⟩
  cases d1 with
  | int i =>
    cases d2 with
    | int j =>
      simp only at h2
      split at h2
      · rename_i hl
        exact ⟨i, j, rfl, hl, h2 _ _ Ext.refl m2 _ (wk_rng i j)⟩
      · exact h2.elim
    | _ => exact False.elim h2
  | _ => exact False.elim h2
theorem mi_rng1 (k : Cok X G T F W N sc) (hx : sc.lookup ("range" : Str) = some .globalImplicit) (hm : X.mg ("range" : Str) = none) (hst : starless b = true) (hb : PE X b (tE T X.K W F cb)) :
    PI X tg (.Call (.Name "range" p) [b] [] pos) (tW T X.K W F (.rng (.lit (.int 0)) cb)) := by
  have sb : starEach [b] X.env = (false, eval b X.env) :: starEach [] X.env := star_cons hst
  have h := pi_range1 (tg := tg) (p := p) (pos := pos) (k.glo _ hx) hm (pa_cons hb pa_nil sb) (by rw [sb]; rfl)
  refine ⟨fun pins s τ H R I ⟨σ, M, ι, hs, hm, q⟩ => h.run pins s τ H R I ?_⟩
  simp only [evW, ev, bnd, ok] at q
  refine ⟨σ, M, ι, hs, hm, Post.bindE q fun y M2 u H2 ι2 e2 m2 d2 h2 => ?_⟩
  cases d2 with
  | int j =>
    simp only at h2
    split at h2
    · rename_i hl
      have hw := wk_rng (K := X.K) (H0 := H2) (ι0 := ι2) 0 j
      rw [Int.sub_zero] at hw
      exact ⟨j, rfl, hl.2.2.1, hl.2.2.2, h2 _ _ Ext.refl m2 _ hw⟩
    · exact h2.elim
  | _ => exact False.elim h2
theorem mi_enum {elts : List Expr} {kk : Nat} {tpos : Pos} (k : Cok X G T F W N sc) (hx : sc.lookup ("enumerate" : Str) = some .globalImplicit) (hm : X.mg ("enumerate" : Str) = none) (hst : starless b = true) (hb : PE X b (tE T X.K W F cb)) :
    PI X (.Tuple elts kk tpos) (.Call (.Name "enumerate" p) [b] [] pos) (tW T X.K W F (.enum cb)) := by
  have sb : starEach [b] X.env = (false, eval b X.env) :: starEach [] X.env := star_cons hst
  have h := pi_enum (elts := elts) (kk := kk) (tpos := tpos) (p := p) (pos := pos) (k.glo _ hx) hm (pa_cons hb pa_nil sb) (by rw [sb]; rfl)
  refine ⟨fun pins s τ H R I ⟨σ, M, ι, hs, hm, q⟩ => h.run pins s τ H R I ?_⟩
  rw [evW] at q
  refine ⟨σ, M, ι, hs, hm, Post.bindE q fun y M2 u H2 ι2 e2 m2 d2 h2 => ?_⟩
  cases d2 with
  | rol hr => exact ⟨_, _, rfl, hr.sql, h2 _ _ Ext.refl m2 _ (wk_enum fun H ι M ex m _ => ⟨_, (sqr_to ex.stay hr).sql, rol_rel _⟩)⟩
  | @ref i a hi =>
    obtain ⟨o, em, om⟩ := m2.at hi
    simp only [em] at h2
    cases o with
    | lst ds =>
      obtain ⟨vs, q, r⟩ := om
      exact ⟨a, vs, rfl, SqL.of q, h2 _ _ Ext.refl m2 _ (wk_enum fun H ι M ex m hg => grd_at hi ex m (ok_one hg))⟩
    | dct ds => exact h2.elim
  | _ => exact False.elim h2

theorem mi_zip {elts : List Expr} {kk : Nat} {tpos : Pos} {a2 : Expr} {ca2 : E} (k : Cok X G T F W N sc) (hx : sc.lookup ("zip" : Str) = some .globalImplicit) (hm : X.mg ("zip" : Str) = none) (hst : starless a = true) (hst2 : starless a2 = true) (ha : PE X a (tE T X.K W F ca)) (ha2 : PE X a2 (tE T X.K W F ca2)) :
    PI X (.Tuple elts kk tpos) (.Call (.Name "zip" p) [a, a2] [] pos) (tW T X.K W F (.zip ca ca2)) := by
  have sb : starEach [a, a2] X.env = (false, eval a X.env) :: starEach [a2] X.env := star_cons hst
  have sb2 : starEach [a2] X.env = (false, eval a2 X.env) :: starEach [] X.env := star_cons hst2
  have h := RZ.pi_zipA (elts := elts) (kk := kk) (tpos := tpos) (p := p) (pos := pos) (k.glo _ hx) hm (pa_cons ha (pa_cons ha2 pa_nil sb2) sb) sb (by rw [sb2]; rfl)
  refine ⟨fun pins s τ H R I ⟨σ, M, ι, hs, hm, q⟩ => h.run pins s τ H R I ?_⟩
  rw [evW] at q
  refine ⟨σ, M, ι, hs, hm, Post.bindE q fun y M2 u H2 ι2 e2 m2 d2 h2 => ?_⟩
  refine ⟨σ, M2, ι2, hs.ex e2, m2, Post.bindE h2 fun z M3 u3 H3 ι3 e3 m3 d3 h3 => ?_⟩
  have d2' := d2.ex e3
  cases d2' with
  | @tup a0 vs xs s1 r1 =>
    cases d3 with
    | @tup b0 ws ys s2 r2 => exact ⟨a0, b0, vs, ws, rfl, .inr ⟨s1, s2, h3 _ _ Ext.refl m3 _ (wk_zipT s1 r1 s2 r2)⟩⟩
    | _ => exact h3.elim
  | @ref i a0 hi =>
    cases d3 with
    | @ref j b0 hj =>
      obtain ⟨o1, em1, om1⟩ := m3.at hi
      obtain ⟨o2, em2, om2⟩ := m3.at hj
      cases o1 with
      | lst xs =>
        cases o2 with
        | lst ys =>
          simp only [zipW, em1, em2] at h3
          obtain ⟨vs, q1, r1⟩ := om1
          obtain ⟨ws, q2, r2⟩ := om2
          refine ⟨a0, b0, vs, ws, rfl, .inl ⟨SqL.of q1, SqL.of q2, h3 _ _ Ext.refl m3 _ (wk_zipL fun H ι M ex m hg => ?_)⟩⟩
          simp only [Wk.ok, List.all_cons, List.all_nil, Bool.and_true, Bool.and_eq_true] at hg
          obtain ⟨vs', a1, a2⟩ := grd_at hi ex m hg.1
          obtain ⟨ws', b1, b2⟩ := grd_at hj ex m hg.2
          exact ⟨vs', ws', a1, a2, b1, b2⟩
        | dct ys => simp only [zipW, em1, em2] at h3; exact h3.elim
      | dct xs => simp only [zipW, em1] at h3; exact h3.elim
    | _ => exact h3.elim
  | _ => cases d3 <;> exact h3.elim

/-! ### targets -/
def tgIx : Tg → List Nat
  | .nm i => [i]
  | .tp is => is
def gNms : List Nat → TGs
  | [] => gNil
  | i :: r => gCons (gName i) (gNms r)
def gTg (K : PySem.W.Frag) : Tg → TG
  | .nm i => gName i
  | .tp is => gTup K is.length (gNms is)
def setAll (σ : Sl) (ps : List (Nat × D)) : Sl := ps.foldl (fun s p => s.set p.1 (some p.2)) σ
theorem gNms_ok {Q : St → Hp → Prop} : ∀ {is : List Nat} {ds : List D} {vs : List V} {σ : Sl} {τ : St}, DVs K H ι ds vs → is.length = ds.length → SM K H ι σ τ →
    ∃ τ1, SM K H ι (setAll σ (is.zip ds)) τ1 ∧ (∀ j, j ∉ is → τ1[j]? = τ[j]?) ∧ τ1.length = τ.length ∧ (Q τ1 H → gNms is vs τ H Q)
  | [], [], _, σ, τ, .nil, _, s => ⟨τ, s, fun _ _ => rfl, rfl, fun q => ⟨rfl, q⟩⟩
  | i :: is, d :: ds, v :: vs, σ, τ, .cons h r, e, s => by
    obtain ⟨τ1, s1, f1, l1, k1⟩ := gNms_ok (Q := Q) (is := is) r (by simpa using e) (SM.set h i s)
    refine ⟨τ1, s1, fun j hj => ?_, by rw [l1, List.length_set], fun q => ⟨v, vs, rfl, k1 q⟩⟩
    rw [f1 j fun z => hj (List.mem_cons_of_mem _ z), List.getElem?_set_ne]
    intro z
    exact hj (z ▸ List.mem_cons_self)
theorem gTg_ok {tg : Tg} {d : D} {v : V} {σ σ1 : Sl} {τ : St} {Q : St → Hp → Prop} (h : DV K H ι d v) (e : setTg tg d σ = some σ1) (s : SM K H ι σ τ) :
    ∃ τ1, SM K H ι σ1 τ1 ∧ (∀ j, j ∉ tgIx tg → τ1[j]? = τ[j]?) ∧ τ1.length = τ.length ∧ (Q τ1 H → gTg K tg v τ H Q) := by
  cases tg with
  | nm i =>
    cases e
    refine ⟨_, SM.set h i s, fun j hj => List.getElem?_set_ne fun z => hj (List.mem_singleton.mpr z.symm), List.length_set, id⟩
  | tp is =>
    cases h with
    | tup q r =>
      simp only [setTg] at e
      split at e
      · rename_i hl
        cases e
        obtain ⟨τ1, s1, f1, l1, k1⟩ := gNms_ok (Q := Q) r hl s
        exact ⟨τ1, s1, f1, l1, fun z => ⟨_, _, rfl, q, by rw [← r.len, hl], k1 z⟩⟩
      · cases e
    | _ => cases e
/-- the block's own slots, forgotten ahead of the store -/
theorem setAll_none {v : Nat} : ∀ {ps : List (Nat × D)} {σ : Sl}, v ∈ ps.map (·.1) → setAll (σ.set v none) ps = setAll σ ps
  | (i, d) :: r, σ, h => by
    show setAll ((σ.set v none).set i (some d)) r = setAll (σ.set i (some d)) r
    by_cases hv : v = i
    · subst hv
      rw [List.set_set]
    · rw [List.set_comm _ _ hv]
      refine setAll_none ?_
      simp only [List.map_cons, List.mem_cons] at h
      exact h.resolve_left hv
def wipeS (σ : Sl) : List Nat → Sl
  | [] => σ
  | v :: vs => (wipeS σ vs).set v none
theorem SM.wipe {σ : Sl} {τ : St} (s : SM K H ι σ τ) : ∀ vs : List Nat, SM K H ι (wipeS σ vs) (L2.wipe τ vs)
  | [] => s
  | v :: vs => SM.wipe1 v (SM.wipe s vs)
theorem setAll_wipe {ps : List (Nat × D)} {σ : Sl} : ∀ {vs : List Nat}, (∀ v ∈ vs, v ∈ ps.map (·.1)) → setAll (wipeS σ vs) ps = setAll σ ps
  | [], _ => rfl
  | v :: vs, h => by
    rw [wipeS, setAll_none (h v List.mem_cons_self)]
    exact setAll_wipe fun w hw => h w (List.mem_cons_of_mem _ hw)
theorem setTg_wipe {tg : Tg} {d : D} {σ : Sl} : setTg tg d (wipeS σ (tgIx tg)) = setTg tg d σ := by
  cases tg with
  | nm i => show some (setAll (wipeS σ [i]) [(i, d)]) = some (setAll σ [(i, d)]); rw [setAll_wipe]; simp
  | tp is =>
    cases d with
    | tup ds =>
      simp only [setTg]
      split
      · rename_i hl
        show some (setAll (wipeS σ is) (is.zip ds)) = some (setAll σ (is.zip ds))
        rw [setAll_wipe]
        intro v hv
        rw [List.map_fst_zip (by omega)]
        exact hv
      · rfl
    | _ => rfl
theorem wipe_eq {τ τ1 : St} {vs : List Nat} (hl : τ1.length = τ.length) (h : ∀ j, j ∉ vs → τ1[j]? = τ[j]?) : L2.wipe τ1 vs = L2.wipe τ vs := by
  have at1 : ∀ (vs : List Nat) (t : St) (j : Nat), (L2.wipe t vs)[j]? = if j ∈ vs ∧ j < t.length then some none else t[j]? := fun vs => by
    induction vs with
    | nil => intro t j; simp [L2.wipe]
    | cons v r ih =>
      intro t j
      rw [L2.wipe, List.getElem?_set, L2.wipe_length, ih]
      by_cases e : v = j
      · subst e
        simp only [if_true, List.mem_cons, true_or, true_and]
        split
        · rfl
        · rename_i hj
          exact (List.getElem?_eq_none (by omega)).symm
      · rw [if_neg e]
        simp only [List.mem_cons, show ¬ j = v from fun z => e z.symm, false_or]
  refine List.ext_getElem?
      fun j => ?_
  rw [at1, at1, hl]
  split
  · rfl
  · rename_i hn
    by_cases hj : j ∈ vs
    · have : ¬ j < τ.length := fun z => hn ⟨hj, z⟩
      rw [List.getElem?_eq_none (by omega), List.getElem?_eq_none (by omega)]
    · exact h j hj
end

/-! ### list comprehensions -/
section
variable {X : Cx} {G : Gn} {T : XT} {F : Caller} {W : WX} {N : List Str} {sc : List (Str × NameKind)} {elt tgE iter : Expr} {ifs : List Expr} {scope : Scope} {own : List (Str × Nat)} {ce : E} {cs : Es} {sr : Sr} {tg : Tg} {pos : Pos}
/-- all tests of a clause -/
def tTs (T : XT) (K : PySem.W.Frag) (W : WX) (F : Caller) (c : Es) : TT := fun τ H Q => ∃ σ M ι, SM K H ι σ τ ∧ HM K H ι M ∧ PostB T K W τ H ι (evA F c σ M) Q
theorem _root_.L2.PTs.imp {e : List Expr} {t t' : TT} (h : PTs X e t) (k : ∀ σ H Q, t' σ H Q → t σ H Q) : PTs X e t' := ⟨fun pins s σ H Q I q => h.run pins s σ H Q I (k _ _ _ q)⟩
theorem mts_nil : PTs X [] (tTs T X.K W F .nil) := pts_nil.imp fun τ H Q ⟨σ, M, ι, hs, hm, h⟩ => by
  rw [evA] at h
  exact h _ _ Ext.refl hm
theorem mts_one {c : Expr} {cc : E} (hc : PT X c (tT T X.K W F cc)) : PTs X [c] (tTs T X.K W F (.cons cc .nil)) := (pts_one hc).imp fun τ H Q ⟨σ, M, ι, hs, hm, h⟩ => by
  rw [evA] at h
  refine ⟨σ, M, ι, hs, hm, PostB.bind h fun k M1 H1 ι1 e1 m1 h1 => ?_⟩
  cases k with
  | true => simp only [if_true, evA] at h1; exact h1 _ _ Ext.refl m1
  | false => exact h1 _ _ Ext.refl m1
abbrev WF : WX := fun _ _ _ _ => False
theorem wipe_wipe (τ : St) (vs : List Nat) : L2.wipe (L2.wipe τ vs) vs = L2.wipe τ vs := wipe_eq (L2.wipe_length τ vs) fun j hj => wipe_out hj
theorem compL_noexc {tst : Sl → Hm → R Bool} {el : Sl → Hm → R D} {w : Wk} {σ : Sl} {e : Ex} {M' : Hm} : ∀ {ds : List D} {M : Hm}, compL tg tst el w σ ds M ≠ some (.exc e M')
  | [], M, h => by
    rw [compL] at h
    split at h <;> cases h
  | d :: r, M, h => by
    rw [compL] at h
    split at h
    · split at h
      · cases h
      · split at h
        · split at h
          · split at h
            · split at h <;> cases h
            · cases h
          · cases h
        · exact compL_noexc h
        · cases h
    · cases h
theorem off_ext {K : PySem.W.Frag} {H H' : Hp} {ι ι' : List Addr} {D : Addr} {o : HO} (x : Ext H ι H' ι') (hD : H D = some o) (ho : D ∉ ι) : H' D = some o ∧ D ∉ ι' :=
  ⟨x.frm D o hD ho, fun z => by rw [x.new D z ho] at hD; cases hD⟩
/-- what stands apart, written -/
theorem HM.off {K : PySem.W.Frag} {H : Hp} {ι : List Addr} {M : Hm} (m : HM K H ι M) {D : Addr} {o : HO} (hD : Mut (H D)) (ho : D ∉ ι) : HM K (upd H D o) ι M :=
  ⟨m.len, m.nd, fun i a q e em => (m.ob i a q e em).to (stay_put hD) (fun _ _ e => e) fun _ => upd_ne fun z => ho (z ▸ List.mem_of_getElem? e)⟩
theorem Ext.off {H H1 : Hp} {ι ι1 : List Addr} (x : Ext H1 ι1 H ι) {D : Addr} {o : HO} (h1 : H1 D = none) : Ext H1 ι1 (upd H D o) ι :=
  ⟨x.pre, x.new, fun a u e h => by rw [upd_ne (ne_of_none e h1)]; exact x.frm a u e h, fun a u e h => by rw [upd_ne (ne_of_none e h1)]; exact x.stay a u e h⟩
theorem HM.notin {K : PySem.W.Frag} {H : Hp} {ι : List Addr} {M : Hm} (m : HM K H ι M) {D : Addr} (h : H D = none) : D ∉ ι := fun z => by
  obtain ⟨i, hi⟩ := List.getElem?_of_mem z
  obtain ⟨o, em, om⟩ := m.at hi
  obtain ⟨u, hu⟩ := om.there
  rw [hu] at h
  cases h
theorem read_comp {K : PySem.W.Frag} {tt : TT} {te : TE} {tst : Sl → Hm → R Bool} {el : Sl → Hm → R D} (htt : ∀ σ τ H Q M ι, SM K H ι σ τ → HM K H ι M → PostB T K WF τ H ι (tst σ M) Q → tt τ H Q) (hte : ∀ σ τ H Q M ι, SM K H ι σ τ → HM K H ι M → PostE T K WF τ H ι (el σ M) Q → te τ H Q)
    {τ : St} {H : Hp} {Q : VK} (h : tN T K W (fun σ M => bnd (evW F sr σ M) fun w M1 => compW tg tst el w σ M1) τ H Q) : tLc (tW T K W F sr) (gTg K tg) tt te (tgIx tg) τ H Q := by
  obtain ⟨σ, M, ι, hs, hm, h⟩ := h
  refine ⟨σ, M, ι, hs, hm, Post.bindP h fun w M1 H1 ι1 e1 m1 h1 J hJ D hD => ?_⟩
  have hs1 := hs.ex e1
  unfold compW at h1
  split at h1
  · rename_i hl
    match q : compL tg tst el w σ w.its M1 with
    | none => rw [q] at h1; exact h1.elim
    | some (.exc e M') => exact absurd q compL_noexc
    | some (.ok ds Mf) =>
      rw [q] at h1
      have h0 : H D = none := by
        cases z : H D with
        | none => rfl
        | some o =>
          by_cases hi : D ∈ ι
          · exact absurd (e1.mem hi) (m1.notin hD)
          · rw [e1.frm D o z hi] at hD
            cases hD
      refine ⟨fun i m H' => ∃ ι' M' acc es ys, m = w.its.length - i ∧ i ≤ w.its.length ∧ Ext H1 ι1 H' ι' ∧ HM K H' ι' M' ∧ H' D = some (.lst acc) ∧ D ∉ ι' ∧ DVs K H' ι' es acc ∧ acc.length ≤ i ∧
        compL tg tst el w σ (w.its.drop i) M' = some (.ok ys Mf) ∧ ds = es ++ ys,
        ⟨_, ι1, M1, [], [], ds, rfl, Nat.zero_le _, Ext.newT hD, m1.newT hD, upd_same, m1.notin hD, .nil, Nat.le_refl _, q, rfl⟩, ?_⟩
      rintro i m H' ⟨ι', M', acc, es, ys, rfl, hi, x, m', hacc, hoff, rel, hal, qc, hds⟩
      by_cases hlt : i < w.its.length
      · refine .inr ?_
        rw [List.drop_eq_getElem_cons hlt] at qc
        rw [compL] at qc
        split at qc
        · rename_i hok
          obtain ⟨go, gy⟩ := (hJ i H' ι' M' x m' hok).1 _ (List.getElem?_eq_getElem hlt)
          refine ⟨go, fun H2 => ∃ ι' M' acc es ys, i + 1 ≤ w.its.length ∧ Ext H1 ι1 H2 ι' ∧ HM K H2 ι' M' ∧ H2 D = some (.lst acc) ∧ D ∉ ι' ∧ DVs K H2 ι' es acc ∧ acc.length ≤ i + 1 ∧
            compL tg tst el w σ (w.its.drop (i + 1)) M' = some (.ok ys Mf) ∧ ds = es ++ ys, fun H2 ⟨a, b, c, d, e, f⟩ => ⟨w.its.length - (i + 1), by omega, a, b, c, d, e, rfl, f⟩, fun y H2 hy => ?_⟩
          obtain ⟨x2, m2, dv⟩ := gy y H2 hy
          obtain ⟨ha2, ho2⟩ := off_ext (K := K) x2 hacc hoff
          have rel2 := rel.ex x2
          split at qc
          · cases qc
          · rename_i σ1 hσ
            rw [← setTg_wipe] at hσ
            obtain ⟨τ1, s1, f1, l1, k1⟩ := gTg_ok (Q := fun σ2 H3 => L2.wipe σ2 (tgIx tg) = L2.wipe τ (tgIx tg) ∧ tt σ2 H3 fun b H4 => if b = true then te σ2 H4 fun y H5 => ∃ acc, H5 D = some (.lst acc) ∧ acc.length < sizeLine ∧
              (fun H2 => ∃ ι' M' acc es ys, i + 1 ≤ w.its.length ∧ Ext H1 ι1 H2 ι' ∧ HM K H2 ι' M' ∧ H2 D = some (.lst acc) ∧ D ∉ ι' ∧ DVs K H2 ι' es acc ∧ acc.length ≤ i + 1 ∧
                compL tg tst el w σ (w.its.drop (i + 1)) M' = some (.ok ys Mf) ∧ ds = es ++ ys) (upd H5 D (.lst (acc ++ [y]))) else
              (fun H2 => ∃ ι' M' acc es ys, i + 1 ≤ w.its.length ∧ Ext H1 ι1 H2 ι' ∧ HM K H2 ι' M' ∧ H2 D = some (.lst acc) ∧ D ∉ ι' ∧ DVs K H2 ι' es acc ∧ acc.length ≤ i + 1 ∧
                compL tg tst el w σ (w.its.drop (i + 1)) M' = some (.ok ys Mf) ∧ ds = es ++ ys) H4) dv hσ ((hs1.ex (x.trans x2)).wipe (tgIx tg))
            refine k1 ⟨?_, ?_⟩
            · have := wipe_eq (vs := tgIx tg) l1 f1
              rw [this, wipe_wipe]
            · refine htt σ1 τ1 H2 _ M' ι' s1 m2 ?_
              match qt : tst σ1 M' with
              | none => rw [qt] at qc; cases qc
              | some (.exc e M2) => rw [qt] at qc; cases qc
              | some (.ok false M2) =>
                rw [qt] at qc
                intro H3 ι3 x3 m3
                obtain ⟨ha3, ho3⟩ := off_ext (K := K) x3 ha2 ho2
                rw [if_neg
                    Bool.false_ne_true]
                exact ⟨ι3, M2, acc, es, ys, hlt, (x.trans x2).trans x3, m3, ha3, ho3, rel2.ex x3, by omega, qc, hds⟩
              | some (.ok true M2) =>
                rw [qt] at qc
                intro H3 ι3 x3 m3
                obtain ⟨ha3, ho3⟩ := off_ext (K := K) x3 ha2 ho2
                rw [if_pos rfl]
                refine hte σ1 τ1 H3 _ M2 ι3 (s1.ex x3) m3 ?_
                simp only at qc
                match qe : el σ1 M2 with
                | none => rw [qe] at qc; cases qc
                | some (.exc e M2) => rw [qe] at qc; cases qc
                | some (.ok d M3) =>
                  rw [qe] at qc
                  simp only at qc
                  intro v H4 ι4 x4 m4 d4
                  obtain ⟨ha4, ho4⟩ := off_ext (K := K) x4 ha3 ho3
                  obtain ⟨d', M5, ι5, ql, x5, m5, d5⟩ := leave_ok m2 (x3.trans x4) m4 d4
                  rw [ql] at qc
                  simp only [ok] at qc
                  match qr : compL tg tst el w σ (w.its.drop (i + 1)) M5 with
                  | none => rw [qr] at qc; cases qc
                  | some (.exc e M2) => rw [qr] at qc; cases qc
                  | some (.ok ys' M6) =>
                    rw [qr] at qc
                    cases qc
                    obtain ⟨_, ho5⟩ := off_ext (K := K) x5 ha2 ho2
                    have mu : Mut (H4 D) := by rw [ha4]; trivial
                    refine ⟨acc, ha4, by have hz : lim = 16777216 := rfl; rw [sizeLine_eq]; omega, ι5, M5, acc ++ [v], es ++ [d'], ys', hlt, ((x.trans x2).trans x5).off hD, m5.off mu ho5, upd_same, ho5, ?_, ?_, qr, by rw [hds, List.append_assoc]; rfl⟩
                    · have st := stay_put (o := .lst (acc ++ [v])) mu
                      exact ((rel2.ex x5).app (.cons d5 .nil)).to st fun _ _ e => e
                    · rw [List.length_append,
                        List.length_singleton]
                      omega
        · cases qc
      · have e : i = w.its.length := by omega
        subst e
        rw [List.drop_length, compL] at qc
        split at qc
        · rename_i hok
          cases qc
          refine .inl ⟨(hJ _ H' ι' _ x m' hok).2 (Nat.le_refl _), ?_⟩
          rw [List.append_nil] at hds
          subst hds
          exact h1 H' ι' x m' D acc h0 hacc hoff rel
        · cases qc
  · exact h1.elim
end
end Mi

/-! Mi11: comprehensions as terms, statements. -/
namespace Mi
open PySem PySem.Spec
    PyProof.Rows L2
section
variable {X : Cx} {G : Gn} {T : XT} {F : Caller} {W : WX} {N : List Str} {sc : List (Str × NameKind)} {elt tgE iter : Expr} {ifs : List Expr} {scope : Scope} {own : List (Str × Nat)} {ce : E} {cs : Es} {sr : Sr} {tg : Tg} {pos : Pos}
theorem relS_keep {env : Env} {x : Str} {k : NameKind} (hk : k ≠ .free) (h : scope.names.lookup x = some k) (cl : List (Str × Addr)) (C : Addr) : (compEnvC scope cl C env).scope.names.lookup x = some k := lookup_relS_keep (sc := env.scope) hk h
theorem relS_free : ∀ {l : List (Str × NameKind)} {sc : Scope} {x : Str}, l.lookup x = some .free →
    (l.map fun (n, k) => if (k == NameKind.free && sc.kind == .function && sc.names.lookup n == some .cell) then (n, NameKind.cell) else (n, k)).lookup x = some .cell ∨ (l.map fun (n, k) => if (k == NameKind.free && sc.kind == .function && sc.names.lookup n == some .cell) then (n, NameKind.cell) else (n, k)).lookup x = some .free
  | (n, k0) :: r, sc, x, h => by
    have ih := @relS_free r sc x
    show List.lookup x ((if (k0 == NameKind.free && sc.kind == .function && sc.names.lookup n == some .cell) = true then (n, NameKind.cell) else (n, k0)) :: (r.map _)) = _ ∨ List.lookup x ((if (k0 == NameKind.free && sc.kind == .function && sc.names.lookup n == some .cell) = true then (n, NameKind.cell) else (n, k0)) :: (r.map _)) = _
    cases hx : x == n with
    | true =>
      simp only
          [List.lookup_cons, hx] at h
      cases h
      split
      · exact .inl (by simp only [List.lookup_cons, hx])
      · exact .inr (by simp only [List.lookup_cons, hx])
    | false =>
      simp only
          [List.lookup_cons, hx] at h
      split
      · simp only [List.lookup_cons, hx]; exact ih h
      · simp only [List.lookup_cons, hx]; exact ih h
theorem Cok.blk (k : Cok X G T F W N sc) (hk : scope.kind = .function) (s : Shared) (H : Hp) (C : Addr) (cl : List (Str × Addr)) (fp : List Addr) : Cok (X.blk s H scope (compEnvC scope cl C X.env) fp) G T F WF N scope.names where
  hN := k.hN
  nd := k.nd
  calm := k.calm
  loc := fun x h => by
    have q := relS_keep (env := X.env) (k := .local) (by decide) h cl C
    exact ⟨.inl q, .inr q⟩
  cel := fun x h => by
    have q := relS_keep (env := X.env) (k := .cell) (by decide) h cl C
    refine ⟨.inr q, .inl ?_⟩
    show (scope.names.lookup x == some .cell) = true
    rw [h]
    rfl
  fre := fun x h => by
    rcases relS_free (sc := X.env.scope) h with q | q
    · exact .inr (.inl q)
    · exact .inr (.inr q)
  glo := fun x h => relS_keep (env := X.env) (k := .globalImplicit) (by decide) h cl C
  fns := k.fns
  cns := k.cns
  dcs := k.dcs
  bls := k.bls
  room := k.room
  grd := k.grd
  tk := fun u s' ⟨a, B, sI, pins, σ, H, cls, d, e, I, nb, up, sky, na, os, ag, w⟩ => w.elim
  sys := k.sys
  fk := hk
  cap := fun x h => by
    rcases h with h | h
    · exact .inl (relS_keep (env := X.env) (k := .cell) (by decide) h cl C)
    · exact relS_free (sc := X.env.scope) h
  ker := fun x h => relS_keep (env := X.env) (k := .local) (by decide) h cl C
  ar := k.ar
/-- a comprehension: a new list -/
theorem me_comp (k : Cok X G T F W N sc) (hi : PI X tgE iter (tW T X.K W F sr)) (ok : BlkOk X.N X.env.scope scope own) (hv : own.map (·.2) = tgIx tg)
    (hg : ∀ (s : Shared) (H : Hp) (C : Addr) (cl : List (Str × Addr)) (fp : List Addr), PG (X.blk s H scope (compEnvC scope cl C X.env) fp) tgE (gTg X.K tg))
    (ht : ∀ (s : Shared) (H : Hp) (C : Addr) (cl : List (Str × Addr)) (fp : List Addr), PTs (X.blk s H scope (compEnvC scope cl C X.env) fp) ifs (tTs T X.K WF F cs))
    (he : ∀ (s : Shared) (H : Hp) (C : Addr) (cl : List (Str × Addr)) (fp : List Addr), PE (X.blk s H scope (compEnvC scope cl C X.env) fp) elt (tE T X.K WF F ce)) (hs : ∀ x, foldedSetIterable iter X.env x = pure x) :
    PE X (.ListComp elt [⟨tgE, iter, ifs, 0⟩] scope pos) (tN T X.K W fun σ M => bnd (evW F sr σ M) fun w M1 => compW tg (fun σ1 M2 => evA F cs σ1 M2) (fun σ1 M2 => ev F ce σ1 M2) w σ M1) := by
  refine (pe_lc k.calm (by rw [k.hN]; exact k.nd) hi ok hg ht he hs).imp fun τ H Q h => ?_
  rw [hv]
  exact read_comp (fun σ τ H Q M ι a b c => ⟨σ, M, ι, a, b, c⟩) (fun σ τ H Q M ι a b c => ⟨σ, M, ι, a, b, c⟩) h
theorem pgs_nms (k : Cok X G T F W N sc) : ∀ {es : List Expr} {is : List Nat}, (∀ e ∈ es, ∃ x p, e = Expr.Name x p) → es.length = is.length → (∀ (j : Nat) (e : Expr) (x : Str) (p : Pos) (i : Nat), es[j]? = some e → e = Expr.Name x p → is[j]? = some i → N[i]? = some x ∧ (sc.lookup x = some .local ∨ sc.lookup x = some .cell)) →
    PGs X es (gNms is) ∧ (assignEach es X.env).length = es.length ∧ (assignEach es X.env).findIdx? (·.1) = none
  | [], [], _, _, _ => ⟨pgs_nil, rfl, rfl⟩
  | e :: es, i :: is, hn, hl, h => by
    obtain ⟨x, p, rfl⟩ := hn e List.mem_cons_self
    obtain ⟨q1, q2, q3⟩ := pgs_nms k (es := es) (is := is) (fun e he => hn e (List.mem_cons_of_mem _ he)) (by simpa using hl) fun j e x p i a b c => h (j + 1) e x p i a b c
    obtain ⟨h1, h2⟩ := h 0 _ x p i rfl rfl rfl
    have z : Loc X.env.scope x ∧ (X.fn x = true ∨ X.env.scope.names.lookup x = some .local) := h2.elim (k.loc x) (k.cel x)
    refine ⟨pgs_cons (pg_name (by rw [k.hN]; exact k.nd) (by rw [k.hN]; exact h1) z.1 z.2) q1 rfl, ?_, ?_⟩
    · show (assignEach es X.env).length + 1 = _
      rw [q2]
      rfl
    · show List.findIdx? (·.1) ((false, assign (.Name x p) X.env) :: assignEach es X.env) = none
      rw [List.findIdx?_cons, q3]
      rfl
theorem mg_name {x : Str} {i : Nat} (k : Cok X G T F W N sc) (hi : N[i]? = some x) (h : sc.lookup x = some .local ∨ sc.lookup x = some .cell) : PG X (.Name x pos) (gTg X.K (.nm i)) := by
  have z : Loc X.env.scope x ∧ (X.fn x = true ∨ X.env.scope.names.lookup x = some .local) := h.elim (k.loc x) (k.cel x)
  exact pg_name (by rw [k.hN]; exact k.nd) (by rw [k.hN]; exact hi) z.1 z.2
theorem mg_tup {es : List Expr} {is : List Nat} {kk : Nat} (k : Cok X G T F W N sc) (hn : ∀ e ∈ es, ∃ x p, e = Expr.Name x p) (hl : es.length = is.length) (h : ∀ (j : Nat) (e : Expr) (x : Str) (p : Pos) (i : Nat), es[j]? = some e → e = Expr.Name x p → is[j]? = some i → N[i]? = some x ∧ (sc.lookup x = some .local ∨ sc.lookup x = some .cell)) :
    PG X (.Tuple es kk pos) (gTg X.K (.tp is)) := by
  obtain ⟨q1, q2, q3⟩ := pgs_nms k hn hl h
  exact pg_tup k.calm q1 (by rw [q2, hl]) q3
end

/-! ### statements -/
def PostS (T : XT) (K : PySem.W.Frag) (W : WX) (H : Hp) (ι : List Addr) (r : RS) (D : Ends) : Prop :=
  match r with
  | some (.nx σ M) => ∀ τ' H' ι', Ext H ι H' ι' → HM K H' ι' M → SM K H' ι' σ τ' → D.nx τ' H'
  | some (.rt d M) => ∀ v H' ι', Ext H ι H' ι' → HM K H' ι' M → DV K H' ι' d v → D.rt v H'
  | some (.bk σ M) => ∀ τ' H' ι', Ext H ι H' ι' → HM K H' ι' M → SM K H' ι' σ τ' → D.bk τ' H'
  | some (.ct σ M) => ∀ τ' H' ι', Ext H ι H' ι' → HM K H' ι' M → SM K H' ι' σ τ' → D.ct τ' H'
  | some (.exc x σ M) => ∀ cls dx τ' H' ι', Ext H ι H' ι' → HM K H' ι' M → SM K H' ι' σ τ' → T x cls dx H' ι' → W cls dx τ' H'
  | none => False
def tS (T : XT) (K : PySem.W.Frag) (W : WX) (F : Caller) (c : S) : TS := fun D τ H => ∃ σ M ι, SM K H ι σ τ ∧ HM K H ι M ∧ PostS T K W H ι (ex F c σ M) D
section
variable {X : Cx} {G : Gn} {T : XT} {F : Caller} {W : WX} {N : List Str} {sc : List (Str × NameKind)} {K : PySem.W.Frag} {H H1 : Hp} {ι ι1 : List Addr} {D : Ends} {σ : Sl} {τ : St} {e a b c : Expr} {ce ca cb cc : E} {s s1 s2 : S} {st : Stmt} {sts rest : List Stmt} {pos p p2 p3 : Pos}
theorem PostS.ex {r : RS} (h : PostS T K W H ι r D) (x : Ext H ι H1 ι1) : PostS T K W H1 ι1 r D := by
  match r, h with
  | some (.nx σ M), h => exact fun τ' H' ι' e => h τ' H' ι' (x.trans e)
  | some (.rt σ M), h => exact fun τ' H' ι' e => h τ' H' ι' (x.trans e)
  | some (.bk σ M), h => exact fun τ' H' ι' e => h τ' H' ι' (x.trans e)
  | some (.ct σ M), h => exact fun τ' H' ι' e => h τ' H' ι' (x.trans e)
  | some (.exc y σ M), h => exact fun cls dx τ' H' ι' e => h cls dx τ' H' ι' (x.trans e)
theorem PostE.bindS {x : R Mi.D} {f : Mi.D → Hm → RS} {Q : VK} (s : SM K H ι σ τ) (h : PostS T K W H ι (bndS x σ f) D) (k : ∀ d M1 v H1 ι1, Ext H ι H1 ι1 → HM K H1 ι1 M1 → DV K H1 ι1 d v → PostS T K W H1 ι1 (f d M1) D → Q v H1) : PostE T K W τ H ι x Q := by
  match x, h with
  | some (.ok d M), h => exact fun v H' ι' e m dv => k d M v H' ι' e m dv (PostS.ex h e)
  | some (.exc y M), h => exact fun cls dx H' ι' e m t => h cls dx τ H' ι' e m (s.ex e) t
theorem PostB.bindS {x : R Bool} {f : Bool → Hm → RS} {Q : Bool → Hp → Prop} (s : SM K H ι σ τ) (h : PostS T K W H ι (bndS x σ f) D) (k : ∀ d M1 H1 ι1, Ext H ι H1 ι1 → HM K H1 ι1 M1 → PostS T K W H1 ι1 (f d M1) D → Q d H1) : PostB T K W τ H ι x Q := by
  match x, h with
  | some (.ok d M), h => exact fun H' ι' e m => k d M H' ι' e m (PostS.ex h e)
  | some (.exc y M), h => exact fun cls dx H' ι' e m t => h cls dx τ H' ι' e m (s.ex e) t
theorem Post.bindS {α : Type} {x : R α} {f : α → Hm → RS} {q : α → Hm → Hp → List Addr → Prop} (s : SM K H ι σ τ) (h : PostS T K W H ι (bndS x σ f) D) (k : ∀ d M1 H1 ι1, Ext H ι H1 ι1 → HM K H1 ι1 M1 → PostS T K W H1 ι1 (f d M1) D → q d M1 H1 ι1) : Post T K W τ H ι x q := by
  match x, h with
  | some (.ok d M), h => exact fun H' ι' e m => k d M H' ι' e m (PostS.ex h e)
  | some (.exc y M), h => exact fun cls dx H' ι' e m t => h cls dx τ H' ι' e m (s.ex e) t
theorem _root_.L2.PS.imp {t t' : TS} (h : PS X st t) (k : ∀ D σ H, t' D σ H → t D σ H) : PS X st t' := ⟨fun pins s σ H D I q => h.run pins s σ H D I (k _ _ _ q)⟩
theorem _root_.L2.PSs.imp {t t' : TS} (h : PSs X sts t) (k : ∀ D σ H, t' D σ H → t D σ H) : PSs X sts t' := ⟨fun pins s σ H D I q => h.run pins s σ H D I (k _ _ _ q)⟩
theorem mss_nil : PSs X [] (tS T X.K W F .pas) := pss_nil.imp fun D τ H ⟨σ, M, ι, hs, hm, h⟩ => h _ _ _ Ext.refl hm hs
theorem mss_one (h : PS X st (tS T X.K W F s)) : PSs X [st] (tS T X.K W F s) := pss_one h
theorem mss_cons (h1 : PS X st (tS T X.K W F s1)) (h2 : PSs X rest (tS T X.K W F s2)) : PSs X (st :: rest) (tS T X.K W F (.seq s1 s2)) := by
  refine (pss_cons h1 h2).imp fun D τ H ⟨σ, M, ι, hs, hm, h⟩ => ⟨σ, M, ι, hs, hm, ?_⟩
  rw [Mi.ex] at h
  match q : Mi.ex F s1 σ M with
  | none => rw [q] at h; exact h.elim
  | some (.nx σ1 M1) => rw [q] at h; exact fun τ' H' ι' e m s => ⟨σ1, M1, ι', s, m, PostS.ex h e⟩
  | some (.rt _ _) => rw [q] at h; exact h
  | some (.bk _ _) => rw [q] at h; exact h
  | some (.ct _ _) => rw [q] at h; exact h
  | some (.exc _ _ _) => rw [q] at h; exact h
theorem ms_pass : PS X (.Pass pos) (tS T X.K W F .pas) := ps_pass.imp fun D τ H ⟨σ, M, ι, hs, hm, h⟩ => h _ _ _ Ext.refl hm hs
theorem ms_break : PS X (.Break pos) (tS T X.K W F .brk) := ps_break.imp fun D τ H ⟨σ, M, ι, hs, hm, h⟩ => h _ _ _ Ext.refl hm hs
theorem ms_continue : PS X (.Continue pos) (tS T X.K W F .cnt) := ps_continue.imp fun D τ H ⟨σ, M, ι, hs, hm, h⟩ => h _ _ _ Ext.refl hm hs
theorem ms_doc {x : Str} {j : Nat} : PS X (.Expr (.Constant (.str x) j p) pos) (tS T X.K W F .pas) := ps_doc.imp fun D τ H ⟨σ, M, ι, hs, hm, h⟩ => h _ _ _ Ext.refl hm hs
theorem ms_ret (ha : PE X e (tE T X.K W F ce)) : PS X (.Return (some e) pos) (tS T X.K W F (.ret ce)) := (ps_ret ha).imp fun D τ H ⟨σ, M, ι, hs, hm, h⟩ => by
  rw [Mi.ex] at h
  exact ⟨σ, M, ι, hs, hm, PostE.bindS hs h fun d M1 v H1 ι1 e1 m1 d1 h1 => h1 _ _ _ Ext.refl m1 d1⟩
theorem ms_retN : PS X (.Return none pos) (tS T X.K W F .retN) := ps_retN.imp fun D τ H ⟨σ, M, ι, hs, hm, h⟩ => h _ _ _ Ext.refl hm .non
theorem ms_expr (ha : PE X e (tE T X.K W F ce)) (hs : swapsWith e none pos.line X.env = pure false) : PS X (.Expr e pos) (tS T X.K W F (.exp ce)) := (ps_expr ha hs).imp fun D τ H ⟨σ, M, ι, hs, hm, h⟩ => by
  rw [Mi.ex] at h
  exact ⟨σ, M, ι, hs, hm, PostE.bindS hs h fun d M1 v H1 ι1 e1 m1 d1 h1 => h1 _ _ _ Ext.refl m1 (hs.ex e1)⟩
theorem ms_if (hc : PT X c (tT T X.K W F cc)) (ha : PSs X sts (tS T X.K W F s1)) (hb : PSs X rest (tS T X.K W F s2)) : PS X (.If c sts rest pos) (tS T X.K W F (.ifS cc s1 s2)) := (ps_if hc ha hb).imp fun D τ H ⟨σ, M, ι, hs, hm, h⟩ => by
  rw [Mi.ex] at h
  refine ⟨σ, M, ι, hs, hm, PostB.bindS hs h fun k M1 H1 ι1 e1 m1 h1 => ?_⟩
  cases k with
  | true => exact ⟨σ, M1, ι1, hs.ex e1, m1, h1⟩
  | false => exact ⟨σ, M1, ι1, hs.ex e1, m1, h1⟩
theorem ms_set {x : Str} {i : Nat} (k : Cok X G T F W N sc) (hi : N[i]? = some x) (hx : sc.lookup x = some .local ∨ sc.lookup x = some .cell) (ha : PE X e (tE T X.K W F ce)) (hw : swapsWith e (some (.Name x p)) pos.line X.env = pure false) : PS X (.Assign [.Name x p] e pos) (tS T X.K W F (.set i ce)) := by
  have z : Loc X.env.scope x ∧ (X.fn x = true ∨ X.env.scope.names.lookup x = some .local) := hx.elim (k.loc x) (k.cel x)
  refine (ps_set (by rw [k.hN]; exact k.nd) (by rw [k.hN]; exact hi) z.1 ha hw z.2).imp fun D τ H ⟨σ, M, ι, hs, hm, h⟩ => ?_
  rw [Mi.ex] at h
  exact ⟨σ, M, ι, hs, hm, PostE.bindS hs h fun d M1 v H1 ι1 e1 m1 d1 h1 => h1 _ _ _ Ext.refl m1 ((hs.ex e1).set d1 i)⟩
theorem ms_setT {tgE : Expr} {is : List Nat} (hg : PG X tgE (gTg X.K (.tp is))) (ha : PE X e (tE T X.K W F ce)) (hs : swapsWithSole [tgE] e pos.line X.env = pure false) (hw : swappedStores [tgE] e X.env = pure none) (h1 : (assignEach [tgE] X.env).map (·.2) = [assign tgE X.env]) :
    PS X (.Assign [tgE] e pos) (tS T X.K W F (.setT is ce)) := by
  refine (ps_asg ha hg hs hw h1).imp fun D τ H ⟨σ, M, ι, hs, hm, h⟩ => ?_
  rw [Mi.ex] at h
  refine ⟨σ, M, ι, hs, hm, PostE.bindS hs h fun d M1 v H1 ι1 e1 m1 d1 h1 => ?_⟩
  cases q : setTg (.tp is) d σ with
  | none => rw [q] at h1; exact h1.elim
  | some σ1 =>
    rw [q] at h1
    obtain ⟨τ1, t1, _, _, t4⟩ := gTg_ok (Q := D.nx) d1 q (hs.ex e1)
    exact t4 (h1 _ _ _ Ext.refl m1 t1)
/-- a, *b = a tuple -/
theorem ms_setS {x y : Str} {i j kt : Nat} {px py ps pt : Pos} (k : Cok X G T F W N sc) (hi : N[i]? = some x) (hj : N[j]? = some y) (hx : sc.lookup x = some .local ∨ sc.lookup x = some .cell) (hy : sc.lookup y = some .local ∨ sc.lookup y = some .cell) (ha : PE X e (tE T X.K W F ce))
    (hs : swapsWithSole [.Tuple [.Name x px, .Starred (.Name y py) ps] kt pt] e pos.line X.env = pure false) (hw : swappedStores [.Tuple [.Name x px, .Starred (.Name y py) ps] kt pt] e X.env = pure none) :
    PS X (.Assign [.Tuple [.Name x px, .Starred (.Name y py) ps] kt pt] e pos) (tS T X.K W F (.setS i j ce)) := by
  have zx : Loc X.env.scope x ∧ (X.fn x = true ∨ X.env.scope.names.lookup x = some .local) := hx.elim (k.loc x) (k.cel x)
  have zy : Loc X.env.scope y ∧ (X.fn y = true ∨ X.env.scope.names.lookup y = some .local) := hy.elim (k.loc y) (k.cel y)
  refine (ps_asg ha (pg_star k.calm (by rw [k.hN]; exact k.nd) (by rw [k.hN]; exact hi) (by rw [k.hN]; exact hj) zx.1 zy.1 zx.2 zy.2) hs hw rfl).imp fun D τ H ⟨σ, M, ι, hs, hm, h⟩ => ?_
  rw [Mi.ex] at h
  refine ⟨σ, M, ι, hs, hm, PostE.bindS hs h fun d M1 v H1 ι1 e1 m1 d1 h1 => ?_⟩
  cases d1 with
  | @tup a0 vs ds s1 r1 =>
    cases r1 with
    | nil => exact h1.elim
    | @cons d0 ds0 v0 vs0 r0 r =>
      refine ⟨a0, v0, vs0, rfl, s1, fun p hp => ?_⟩
      have ex := Ext.newM (ι := ι1) (o := .lst vs0) hp
      refine h1 _ _ _ ex (m1.newM hp ⟨_, upd_same, r.ex ex⟩) ?_
      exact (((hs.ex e1).ex ex).set (r0.ex ex) i).set (.ref (by rw [← m1.len]; simp)) j
  | _ => exact h1.elim
/-- a, b = x, y stored from the right -/
theorem ms_setP {x y : Str} {i j kt k2 : Nat} {px py pt pt2 : Pos} (k : Cok X G T F W N sc) (hi : N[i]? = some x) (hj : N[j]? = some y) (hij : i ≠ j) (hx : sc.lookup x = some .local) (hy : sc.lookup y = some .local) (ha : PE X a (tE T X.K W F ca)) (hb : PE X b (tE T X.K W F cb))
    (hst : starless a = true) (hst2 : starless b = true) (hw : swappedStores [.Tuple [.Name x px, .Name y py] kt pt] (.Tuple [a, b] k2 pt2) X.env = pure (some [x, y])) :
    PS X (.Assign [.Tuple [.Name x px, .Name y py] kt pt] (.Tuple [a, b] k2 pt2) pos) (tS T X.K W F (.setP i j ca cb)) := by
  have sa : starEach [a, b] X.env = (false, eval a X.env) :: starEach [b] X.env := star_cons hst
  have sb : starEach [b] X.env = (false, eval b X.env) :: starEach [] X.env := star_cons hst2
  refine (ps_par k.calm (by rw [k.hN]; exact k.nd) (by rw [k.hN]; exact hi) (by rw [k.hN]; exact hj) hij (k.ker x hx) (k.ker y hy) (pa_cons ha (pa_cons hb pa_nil sb) sa) hw rfl).imp fun D τ H ⟨σ, M, ι, hs, hm, h⟩ => ?_
  rw [Mi.ex] at h
  refine ⟨σ, M, ι, hs, hm, PostE.bindS hs h fun d M1 v H1 ι1 e1 m1 d1 h1 => ?_⟩
  refine ⟨σ, M1, ι1, hs.ex e1, m1, PostE.bindS (hs.ex e1) h1 fun d2 M2 v2 H2 ι2 e2 m2 dv2 h2 => ?_⟩
  exact ⟨v, v2, rfl, h2 _ _ _ Ext.refl m2 ((((hs.ex e1).ex e2).set (d1.ex e2) i).set dv2 j)⟩
/-- name op= e, of ints -/
theorem ms_aug {x : Str} {i : Nat} {op : Operator} {o : Bop} (ho : op = .Add ∧ o = .add ∨ op = .Sub ∧ o = .sub) (k : Cok X G T F W N sc) (hi : N[i]? = some x) (hx : sc.lookup x = some .local ∨ sc.lookup x = some .cell) (ha : PE X e (tE T X.K W F ce)) :
    PS X (.AugAssign (.Name x p) op e pos) (tS T X.K W F (.aug i o ce)) := by
  have z : Loc X.env.scope x ∧ (X.fn x = true ∨ X.env.scope.names.lookup x = some .local) := hx.elim (k.loc x) (k.cel x)
  have nd : X.N.Nodup := by rw [k.hN]; exact k.nd
  have hi' : X.N[i]? = some x := by rw [k.hN]; exact hi
  rcases ho with ⟨rfl, rfl⟩ | ⟨rfl, rfl⟩
  · refine (ps_aug nd hi' z.1 ha ip_add z.2).imp fun D τ H ⟨σ, M, ι, hs, hm, h⟩ => ?_
    rw [Mi.ex] at h
    split at h
    · rename_i d q
      obtain ⟨v, q1, dv⟩ := hs.get q
      refine ⟨v, q1, σ, M, ι, hs, hm, PostE.bindS hs h fun d2 M1 w H1 ι1 e1 m1 d1 h1 => ?_⟩
      cases dv with
      | int i' =>
        cases d1 with
        | int j => exact ⟨i', j, rfl, rfl, h1 _ _ _ Ext.refl m1 ((hs.ex e1).set (.int _) i)⟩
        | _ => exact False.elim h1
      | _ => cases d1 <;> exact False.elim h1
    · exact h.elim
  · refine (ps_aug nd hi' z.1 ha ip_sub z.2).imp fun D τ H ⟨σ, M, ι, hs, hm, h⟩ => ?_
    rw [Mi.ex] at h
    split at h
    · rename_i d q
      obtain ⟨v, q1, dv⟩ := hs.get q
      refine ⟨v, q1, σ, M, ι, hs, hm, PostE.bindS hs h fun d2 M1 w H1 ι1 e1 m1 d1 h1 => ?_⟩
      cases dv with
      | int i' =>
        cases d1 with
        | int j => exact ⟨i', j, rfl, rfl, h1 _ _ _ Ext.refl m1 ((hs.ex e1).set (.int _) i)⟩
        | _ => exact False.elim h1
      | _ => cases d1 <;> exact False.elim h1
    · exact h.elim
/-- o[k] = v, by values -/
def rPut (K : PySem.W.Frag) : TSet := fun o i v H Q => ∃ dx dy dv M ι, HM K H ι M ∧ DV K H ι dx o ∧ DV K H ι dy i ∧ DV K H ι dv v ∧
  ∃ M', putM dx dy dv M = some M' ∧ ∀ H', Ext H ι H' ι → HM K H' ι M' → Q H'
theorem set_any (hu : X.A.units + 1 < cLine) : PSet X (rPut X.K) := by
  intro pins s σ H o i v ov iv u Q I ro ri rv ⟨dx, dy, dv, M, ι, hm, hx, hy, hv, M', e, q⟩
  cases hx with
  | @ref i0 a0 h1 =>
    obtain ⟨ob, em, om⟩ := hm.at h1
    simp only [putM, em] at e
    cases ob with
    | lst ds =>
      obtain ⟨vs, e1, r⟩ := om
      cases hy with
      | int n =>
        simp only at e
        split at e
        · rename_i j hj
          cases e
          have mu : Mut (H a0) := by rw [e1]; trivial
          have ex := Ext.put (o := .lst (vs.set j v)) (List.mem_of_getElem? h1) mu
          refine set_list pins s σ H _ _ v ov iv u Q I ro ri rv ⟨a0, vs, n, j, rfl, rfl, e1, by rw [← r.len]; exact hj, q _ ex ?_⟩
          exact hm.put h1 mu em rfl ⟨_, upd_same, (DVs.set hv j r).ex ex⟩
        · cases e
      | _ => cases e
    | dct kvs =>
      obtain ⟨ws, e1, r⟩ := om
      simp only at e
      split at e
      · rename_i hk
        simp only [Bool.and_eq_true, decide_eq_true_eq] at hk
        cases e
        obtain ⟨κ, hκ⟩ := kd_some hk.1
        obtain rfl : ov = Value.ref a0 := ro
        have mu : Mut (H a0) := by rw [e1]; trivial
        have ex := Ext.put (o := .dK (putK ws κ v)) (List.mem_of_getElem? h1) mu
        refine d_setItem hu I (H' := upd H a0 (.dK (putK ws κ v))) ?_ ri rv fun s3 I3 => ⟨_, I3, q _ ex ?_⟩
        · rw [kd_kV hκ hy]
          exact DPut.k e1 (by rw [← r.len, sizeLine_eq]; exact hk.2)
        · exact hm.put h1 mu em rfl ⟨_, upd_same, (r.put hκ hv).to ex.stay fun _ _ e => e⟩
      · cases e
  | _ => cases e
theorem ms_setI (k : Cok X G T F W N sc) (ha : PE X a (tE T X.K W F ca)) (hb : PE X b (tE T X.K W F cb)) (hc : PE X c (tE T X.K W F cc)) (hs : swapsWith c (some (.Subscript a b p)) pos.line X.env = pure false)
    (hg : ∀ v, assign (.Subscript a b p) X.env v = (do
      let ov ← holding [v] (eval a X.env)
      let iv ← holding [v, ov] (eval b X.env)
      standAt p
      holding [v, ov, iv]
          (setItem ov iv v)
      release [v, ov, iv] [])) (hw : swappedStores [.Subscript a b p] c X.env = pure none) : PS X (.Assign [.Subscript a b p] c pos) (tS T X.K W F (.setI ca cb cc)) := by
  have hu := k.units
  refine (ps_asg hc (pg_sub ha hb (set_any (by omega)) hg) hs hw rfl).imp fun D τ H ⟨σ, M, ι, hs, hm, h⟩ => ?_
  rw [Mi.ex] at h
  refine ⟨σ, M, ι, hs, hm, PostE.bindS hs h fun d M1 v H1 ι1 e1 m1 d1 h1 => ?_⟩
  have hs1 := hs.ex e1
  refine ⟨σ, M1, ι1, hs1, m1, PostE.bindS hs1 h1 fun x M2 xv H2 ι2 e2 m2 d2 h2 => ?_⟩
  have hs2 := hs1.ex e2
  refine ⟨σ, M2, ι2, hs2, m2, PostE.bindS hs2 h2 fun y M3 yv H3 ι3 e3 m3 d3 h3 => ?_⟩
  cases q : putM x y d M3 with
  | none => rw [q] at h3; exact h3.elim
  | some M' =>
    rw [q] at h3
    exact ⟨x, y, d, M3, ι3, m3, d2.ex e3, d3, (d1.ex e2).ex e3, M', q, fun H' ex m' => h3 _ _ _ ex m' ((hs2.ex e3).ex ex)⟩
/-! ### loops -/
def ForN (X : Cx) (T : XT) (W : WX) (F : Caller) (tg : Tg) (w : Wk) (s : S) (M1 : Hm) (H1 : Hp) (ι1 : List Addr) (D : Ends) (i : Nat) : L2.St → Hp → Prop := fun τ2 H2 => ∃ σ2 M2 ι2, i + 1 ≤ w.its.length ∧ Ext H1 ι1 H2 ι2 ∧ HM X.K H2 ι2 M2 ∧ SM X.K H2 ι2 σ2 τ2 ∧ PostS T X.K W H1 ι1 (forL tg w (fun σ1 M2 => Mi.ex F s σ1 M2) M1 (w.its.drop (i + 1)) σ2 M2) D
theorem ms_for {tgE iter : Expr} {tg : Tg} {sr : Sr} (k : Cok X G T F W N sc) (hp : PassesOwn (model X.prog X.w) X.A X.env X.xe) (hi : PI X tgE iter (tW T X.K W F sr)) (hg : PG X tgE (gTg X.K tg)) (hb : PSs X sts (tS T X.K W F s)) (hf : ∀ x, foldedSetIterable iter X.env x = pure x) :
    PS X (.For tgE iter sts [] pos) (tS T X.K W F (.forS tg sr s)) := by
  refine (ps_for hp k.calm hi hg hb hf).imp fun D τ H ⟨σ, M, ι, hs, hm, h⟩ => ?_
  rw [Mi.ex] at h
  refine ⟨σ, M, ι, hs, hm, Post.bindS hs h fun w M1 H1 ι1 e1 m1 h1 J hJ => ?_⟩
  refine ⟨fun i m τ' H' => ∃ σ' M' ι', m = w.its.length - i ∧ i ≤ w.its.length ∧ Ext H1 ι1 H' ι' ∧ HM X.K H' ι' M' ∧ SM X.K H' ι' σ' τ' ∧ PostS T X.K W H1 ι1 (forL tg w (fun σ1 M2 => Mi.ex F s σ1 M2) M1 (w.its.drop i) σ' M') D,
    ⟨_, σ, M1, ι1, rfl, Nat.zero_le _, Ext.refl, m1, hs.ex e1, h1⟩, ?_⟩
  rintro i m τ' H' ⟨σ', M', ι', rfl, hi, x, m', s', h'⟩
  by_cases hlt : i < w.its.length
  · refine .inr ?_
    rw [List.drop_eq_getElem_cons hlt, forL] at h'
    split at h'
    · rename_i hok
      obtain ⟨go, gy⟩ := (hJ i H' ι' M' x m' hok).1 _ (List.getElem?_eq_getElem hlt)
      refine ⟨go, ForN X T W F tg w s M1 H1 ι1 D i,
        fun τ2 H2 ⟨σ2, M2, ι2, h⟩ => ⟨w.its.length - (i + 1), by omega, σ2, M2, ι2, rfl, h⟩, fun y H2 hy => ?_⟩
      obtain ⟨x2, m2, dv⟩ := gy y H2 hy
      split at h'
      · exact h'.elim
      · rename_i σ1 hσ
        obtain ⟨τ1, t1, _, _, t4⟩ := gTg_ok (Q := fun τ2 H2 => tS T X.K W F s { D with nx := ForN X T W F tg w s M1 H1 ι1 D i, ct := ForN X T W F tg w s M1 H1 ι1 D i, bk := D.nx } τ2 H2) dv hσ (s'.ex x2)
        refine t4 ⟨σ1, M', ι', t1, m2, ?_⟩
        have x3 := x.trans x2
        match q : Mi.ex F s σ1 M' with
        | none => rw [q] at h'; exact h'.elim
        | some (.nx σ2 M2) =>
          rw [q] at h'
          intro τ3 H3 ι3 e3 m3 s3
          obtain ⟨ι4, x4, m4, s4⟩ := leaveS_ok m1 (x3.trans e3) m3 s3
          exact ⟨_, _, ι4, hlt, x4, m4, s4, h'⟩
        | some (.ct σ2 M2) =>
          rw [q] at h'
          intro τ3 H3 ι3 e3 m3 s3
          obtain ⟨ι4, x4, m4, s4⟩ := leaveS_ok m1 (x3.trans e3) m3 s3
          exact ⟨_, _, ι4, hlt, x4, m4, s4, h'⟩
        | some (.bk σ2 M2) => rw [q] at h'; exact fun τ3 H3 ι3 e3 m3 s3 => h' τ3 H3 ι3 (x3.trans e3) m3 s3
        | some (.rt d M2) => rw [q] at h'; exact fun v H3 ι3 e3 m3 d3 => h' v H3 ι3 (x3.trans e3) m3 d3
        | some (.exc y σ2 M2) => rw [q] at h'; exact fun cls dx τ3 H3 ι3 e3 m3 s3 t => h' cls dx τ3 H3 ι3 (x3.trans e3) m3 s3 t
    · exact h'.elim
  · have e : i = w.its.length := by omega
    subst e
    rw [List.drop_length, forL] at h'
    split at h'
    · rename_i hok
      exact .inl ⟨(hJ _ H' ι' M' x m' hok).2 (Nat.le_refl _), h' _ _ _ x m' s'⟩
    · exact h'.elim
def whileN (tst : Sl → Hm → R Bool) (body : Sl → Hm → RS) (M0 : Hm) : Nat → Sl → Hm → RS
  | 0, _, _ => none
  | n + 1, σ, M => match tst σ M with
    | some (.ok true M1) => match body σ M1 with
      | some (.nx σ2 M2) => whileN tst body M0 n (leaveS M0 σ2 M2).1 (leaveS M0 σ2 M2).2
      | some (.ct σ2 M2) => whileN tst body M0 n (leaveS M0 σ2 M2).1 (leaveS M0 σ2 M2).2
      | some (.bk σ2 M2) => some (.nx σ2 M2)
      | x => x
    | some (.ok false M1) => some (.nx σ M1)
    | some (.exc e M1) => some (.exc e σ M1)
    | none => none
theorem while_fuel (tst : Sl → Hm → R Bool) (body : Sl → Hm → RS) (M0 : Hm) : ∀ σ M r, whileL tst body M0 σ M = some r → ∃ n, whileN tst body M0 n σ M = some r := by
  refine whileL.partial_correctness tst body M0 (fun σ M r => ∃ n, whileN tst body M0 n σ M = some r) fun wl ih σ M r h => ?_
  split at h
  · rename_i M1 q1
    split at h
    · rename_i σ2 M2 q2
      obtain ⟨n, hn⟩ := ih _ _ _ h
      exact ⟨n + 1, by rw [whileN, q1]; simp only [q2]; exact hn⟩
    · rename_i σ2 M2 q2
      obtain ⟨n, hn⟩ := ih _ _ _ h
      exact ⟨n + 1, by rw [whileN, q1]; simp only [q2]; exact hn⟩
    · rename_i σ2 M2 q2
      exact ⟨1, by rw [whileN, q1]; simp only [q2]; exact h⟩
    · rename_i q2 q3 q4
      refine ⟨1, ?_⟩
      rw [whileN, q1]
      simp only
      rw [← h]
  · rename_i M1 q1
    exact ⟨1, by rw [whileN, q1]; exact h⟩
  · rename_i e M1 q1
    exact ⟨1, by rw [whileN, q1]; exact h⟩
  · cases h
theorem ms_while (hp : PassesOwn (model X.prog X.w) X.A X.env X.xe) (hc : PT X c (tT T X.K W F cc)) (hb : PSs X sts (tS T X.K W F s)) : PS X (.While c sts [] pos) (tS T X.K W F (.whl cc s)) := by
  refine (ps_while hp hc hb).imp fun D τ H ⟨σ, M, ι, hs, hm, h⟩ => ?_
  rw [Mi.ex] at h
  have hr : ∃ r, whileL (fun σ1 M1 => evT F cc σ1 M1) (fun σ1 M1 => Mi.ex F s σ1 M1) M σ M = some r := by
    match q : whileL (fun σ1 M1 => evT F cc σ1 M1) (fun σ1 M1 => Mi.ex F s σ1 M1) M σ M with
    | none => rw [q] at h; exact h.elim
    | some r => exact ⟨r, rfl⟩
  obtain ⟨r, hr⟩ := hr
  obtain ⟨n, hn⟩ := while_fuel _ _ _ _ _ _ hr
  rw [hr] at h
  refine ⟨fun m τ' H' => ∃ σ' M' ι', Ext H ι H' ι' ∧ HM X.K H' ι' M' ∧ SM X.K H' ι' σ' τ' ∧ whileN (fun σ1 M1 => evT F cc σ1 M1) (fun σ1 M1 => Mi.ex F s σ1 M1) M m σ' M' = some r, ⟨n, σ, M, ι, Ext.refl, hm, hs, hn⟩, ?_⟩
  rintro m τ' H' ⟨σ', M', ι', x, m', s', h'⟩
  cases m with
  | zero => cases h'
  | succ m =>
    rw [whileN] at h'
    refine ⟨σ', M', ι', s', m', ?_⟩
    match q : evT F cc σ' M' with
    | none => rw [q] at h'; cases h'
    | some (.exc e M1) =>
      rw [q] at h'
      cases h'
      exact fun cls dx H2 ι2 e2 m2 t => h cls dx τ' H2 ι2 (x.trans e2) m2 (s'.ex e2) t
    | some (.ok false M1) =>
      rw [q] at h'
      cases h'
      intro H2 ι2 e2 m2
      rw [if_neg
          Bool.false_ne_true]
      exact h _ _ _ (x.trans e2) m2 (s'.ex e2)
    | some (.ok true M1) =>
      rw [q] at h'
      simp only at h'
      intro H2 ι2 e2 m2
      rw [if_pos rfl]
      refine ⟨fun τ3 H3 => ∃ σ' M' ι', Ext H ι H3 ι' ∧ HM X.K H3 ι' M' ∧ SM X.K H3 ι' σ' τ3 ∧ whileN (fun σ1 M1 => evT F cc σ1 M1) (fun σ1 M1 => Mi.ex F s σ1 M1) M m σ' M' = some r, fun τ3 H3 h3 => ⟨m, Nat.lt_succ_self _, h3⟩, σ', M1, ι2, s'.ex e2, m2, ?_⟩
      have x2 := x.trans e2
      match q2 : Mi.ex F s σ' M1 with
      | none => rw [q2] at h'; cases h'
      | some (.nx σ2 M2) =>
        rw [q2] at h'
        intro τ3 H3 ι3 e3 m3 s3
        obtain ⟨ι4, x4, m4, s4⟩ := leaveS_ok hm (x2.trans e3) m3 s3
        exact ⟨_, _, ι4, x4, m4, s4, h'⟩
      | some (.ct σ2 M2) =>
        rw [q2] at h'
        intro τ3 H3 ι3 e3 m3 s3
        obtain ⟨ι4, x4, m4, s4⟩ := leaveS_ok hm (x2.trans e3) m3 s3
        exact ⟨_, _, ι4, x4, m4, s4, h'⟩
      | some (.bk σ2 M2) => rw [q2] at h'; cases h'; exact fun τ3 H3 ι3 e3 m3 s3 => h τ3 H3 ι3 (x2.trans e3) m3 s3
      | some (.rt d M2) => rw [q2] at h'; cases h'; exact fun v H3 ι3 e3 m3 d3 => h v H3 ι3 (x2.trans e3) m3 d3
      | some (.exc y σ2 M2) => rw [q2] at h'; cases h'; exact fun cls dx τ3 H3 ι3 e3 m3 s3 t => h cls dx τ3 H3 ι3 (x2.trans e3) m3 s3 t
end
end Mi

/-! Mi12: from the text to terms: a small translator and its proof. -/
namespace Mi
open PySem PySem.Spec
    PyProof.Rows L2
abbrev Kd := List (Str × NameKind)
abbrev Rec := Kd → Expr → Option (E × Bool)
def slot (N : List Str) (x : Str) : Option Nat := if N[N.idxOf x]? = some x then some (N.idxOf x) else none
theorem slot_ok {N : List Str} {x : Str} {i : Nat} (h : slot N x = some i) : N[i]? = some x := by
  unfold slot at h
  split at h
  · cases h; assumption
  · cases h
def isLc (sc : Kd) (x : Str) : Bool := match sc.lookup x with
  | some .local => true
  | some .cell => true
  | _ => false
theorem isLc_ok {sc : Kd} {x : Str} (h : isLc sc x = true) : sc.lookup x = some .local ∨ sc.lookup x = some .cell := by
  unfold isLc at h
  split at h
  · exact .inl (by assumption)
  · exact .inr (by assumption)
  · cases h
def isGl (sc : Kd) (x : Str) : Bool := match sc.lookup x with
  | some .globalImplicit => true
  | _ => false
theorem isGl_ok {sc : Kd} {x : Str} (h : isGl sc x = true) : sc.lookup x = some .globalImplicit := by
  unfold isGl at h
  split at h
  · assumption
  · cases h
def okNm (x : Str) : Bool := (x == ("__debug__" : Str)) == false && (x == ("__classdict__" : Str)) == false
def bopOf : Operator → Option Bop
  | .Add => some .add
  | .Sub => some .sub
  | .Mult => some .mul
  | .FloorDiv => some .fdiv
  | .Mod => some .mod
  | .Pow => some .pow
  | .LShift => some .shl
  | .RShift => some .shr
  | _ => none
def copOf : CmpOp → Option Cop
  | .Eq => some .eq
  | .NotEq => some .ne
  | .Lt => some .lt
  | .LtE => some .le
  | .Gt => some .gt
  | .GtE => some .ge
  | .In => some .isin
  | .NotIn => some .notin
  | _ => none
def tyOf (x : Str) : Option Ty := if x = "int" then some .int else if x = "bool" then some .bool else if x = "str" then some .str else if x = "tuple" then some .tuple else if x = "list" then some .list else if x = "dict" then some .dict else none
theorem tyOf_ok {x : Str} {t : Ty} (h : tyOf x = some t) : x = t.x := by
  unfold tyOf at h
  repeat (first | (cases h; done) | (split at h; · cases h; assumption))
def bltNm (x : Str) : Option Blt := if x = "len" then some .len else if x = "repr" then some .repr else if x = "tuple" then some .tuple else if x = "list" then some .list else if x = "sum" then some .sum else if x = "all" then some .all else
  if x = "any" then some .any else if x = "int" then some .int else if x = "max" then some .max else if x = "min" then some .min else if x = "sorted" then some .sorted else none
def noneC : Expr → Bool
  | .Constant .none _ _ => true
  | _ => false
def boolC : Expr → Bool
  | .Constant (.bool _) _ _ => true
  | _ => false
def boolV : Expr → Bool
  | .Constant (.bool k) _ _ => k
  | _ => false
def notComp : E → Bool
  | .comp .. => false
  | _ => true
def plainE : E → Bool
  | .andE .. => false
  | .orE .. => false
  | .notE _ => false
  | _ => true
def testable : Expr → Bool
  | .UnaryOp .Not _ _ => false
  | .BoolOp .. => false
  | .IfExp .. => false
  | .Compare .. => false
  | _ => true
def notSet : Expr → Bool
  | .Set .. => false
  | _ => true
def isSl : Expr → Bool
  | .Slice .. => true
  | _ => false
def trTgs (N : List Str) (sc : Kd) : List Expr → Option (List Nat)
  | [] => some []
  | .Name x _ :: r => if isLc sc x then (slot N x).bind fun i => (trTgs N sc r).map (i :: ·) else none
  | _ :: _ => none
def trTg (N : List Str) (sc : Kd) : Expr → Option Tg
  | .Name x _ => if isLc sc x then (slot N x).map .nm else none
  | .Tuple es _ _ => (trTgs N sc es).map .tp
  | _ => none
def tgNms : Expr → List Str
  | .Name x _ => [x]
  | .Tuple es _ _ => es.filterMap fun e => match e with | .Name x _ => some x | _ => none
  | _ => []
section
variable (G : Gn) (N : List Str) (rec : Rec)
def trEs (sc : Kd) : List Expr → Option Es
  | [] => some .nil
  | e :: r => if starless e then (rec sc e).bind fun p => (trEs sc r).map fun q => .cons p.1 q else none
def trTs (sc : Kd) : List Expr → Option Es
  | [] => some .nil
  | [e] => (rec sc e).bind fun p => if p.2 then some (.cons p.1 .nil) else none
  | _ => none
def trO (sc : Kd) : Option Expr → Option Eo
  | none => some .no
  | some e => (rec sc e).map fun p => .so p.1
def isTup : Expr → Bool
  | .Tuple .. => true
  | _ => false
def trSr (sc : Kd) (tg : Expr) (e : Expr) : Option Sr :=
  match e with
  | .Call (.Name x _) [b] [] _ =>
    if x = "range" then if isGl sc x && starless b then (rec sc b).map fun p => .rng (.lit (.int 0)) p.1 else none
    else if x = "enumerate" then if isGl sc x && starless b && isTup tg then (rec sc b).map fun p => .enum p.1 else none
    else (rec sc e).map fun p => .seq p.1
  | .Call (.Name x _) [a, b] [] _ =>
    if x = "range" then if isGl sc x && starless a && starless b then (rec sc a).bind fun p => (rec sc b).map fun q => .rng p.1 q.1 else none
    else if x = "zip" then if isGl sc x && starless a && starless b && isTup tg then (rec sc a).bind fun p => (rec sc b).map fun q => .zip p.1 q.1 else none
    else (rec sc e).map fun p => .seq p.1
  | e => (rec sc e).map fun p => .seq p.1
structure Cp where
  elt : E
  tg : Tg
  sr : Sr
  cs : Es
/-- is the name one that a block may take from around it -/
def fromOut (kd : Kd) (x : Str) : Bool := match kd.lookup x with
  | some .cell => true
  | some .free => true
  | _ => false
/-- may a block have this name of this kind -/
def nameOk (kd : Kd) (own : List (Str × Nat)) (x : Str) : NameKind → Bool
  | .free => fromOut kd x
  | .local => decide (x ∈ own.map Prod.fst ∨ x ∉ N)
  | .cell => decide (x ∈ own.map Prod.fst ∨ x ∉ N)
  | _ => true
def fnKind : ScopeKind → Bool
  | .function => true
  | _ => false
def blkK (kd : Kd) (scope : Scope) (own : List (Str × Nat)) : Bool :=
  fnKind scope.kind && own.all (fun p => decide (N[p.2]? = some p.1)) && scope.names.all fun (x, k) => decide (scope.names.lookup x = some k) && nameOk N kd own x k
def trComp (kd : Kd) : Expr → Option Cp
  | .ListComp elt [⟨tg, iter, ifs, 0⟩] scope _ => (trTg N scope.names tg).bind fun t => (trSr rec kd tg iter).bind fun s => (trTs rec scope.names ifs).bind fun c => (rec scope.names elt).bind fun p =>
    if blkK N kd scope ((tgNms tg).zip (tgIx t)) && decide (((tgNms tg).zip (tgIx t)).map (·.2) = tgIx t) && notSet iter then some ⟨p.1, t, s, c⟩ else none
  | _ => none
def trBool (k : BoolOp) (sc : Kd) (one : E × Bool → E × Bool → E × Bool) : List Expr → Option (E × Bool)
  | [] => none
  | [e] => rec sc e
  | e :: r => (rec sc e).bind fun p => (trBool k sc one r).map fun q => one p q
def andP (p q : E × Bool) : E × Bool := (.andE p.1 q.1, p.2 && q.2)
def orP (p q : E × Bool) : E × Bool := (.orE p.1 q.1, p.2 && q.2)
def trTys (kd : Kd) : List Expr → Option (List (Ty × Pos))
  | [] => some []
  | .Name y p :: r => if isGl kd y then (tyOf y).bind fun t => (trTys kd r).map ((t, p) :: ·) else none
  | _ :: _ => none
/-- a dict of the module, by its name -/
def dcOf (kd : Kd) : Expr → Option (List (List Nat × D))
  | .Name x _ => if isGl kd x && okNm x then G.dcs.lookup x else none
  | _ => none
def lineOk (a p : Pos) : Bool := a.endLine == p.line
def trCall (kd : Kd) (x : Str) (args : List Expr) : Option (E × Bool) :=
  if isGl kd x && okNm x then
    match G.fns.lookup x with
    | some f => (trEs rec kd args).map fun es => (.call f es, true)
    | none =>
      match args with
      | [a] => match bltNm x with
        | none => none
        | some bl => if starless a then match trComp N rec kd a with
            | some c => match bl with
              | .repr => none
              | .int => none
              | bl => some (.blt bl (.comp c.elt c.tg c.sr c.cs), true)
            | none => (rec kd a).bind fun p => if notComp p.1 then some (.blt bl p.1, true) else none
          else none
      | [a, b] =>
        if x = "isinstance" then match b with
          | .Name y _ => if isGl kd y && starless a then (tyOf y).bind fun t => (rec kd a).map fun p => (.isi p.1 [t], true) else none
          | .Tuple es _ _ => if starless a then (trTys kd es).bind fun ps => if decide (ps.length ≤ 10) && !ps.isEmpty then (rec kd a).map fun p => (.isi p.1 (ps.map (·.1)), true) else none else none
          | _ => none
        else if starless a && starless b then
          if x = "max" then (rec kd a).bind fun p => (rec kd b).map fun q => (.bl2 .max p.1 q.1, true)
          else if x = "min" then (rec kd a).bind fun p => (rec kd b).map fun q => (.bl2 .min p.1 q.1, true)
          else none
        else none
      | _ => none
  else none
def trPr (kd : Kd) : List (Option Expr) → List Expr → Option Es
  | [], [] => some .nil
  | some k :: ks, v :: vs => (rec kd k).bind fun p => (rec kd v).bind fun q => (trPr kd ks vs).map fun r => .cons p.1 (.cons q.1 r)
  | _, _ => none
def trMeth (kd : Kd) (o : Expr) (m : Str) (apos pos : Pos) (args : List Expr) : Option (E × Bool) :=
  if noCall o && lineOk apos pos && args.all starless then
    match args with
    | [b] =>
      if m = "join" then match trComp N rec kd b with
        | some c => (rec kd o).map fun p => (.join p.1 (.comp c.elt c.tg c.sr c.cs), true)
        | none => (rec kd o).bind fun p => (rec kd b).bind fun q => if notComp q.1 then some (.join p.1 q.1, true) else none
      else if m = "append" then (rec kd o).bind fun p => (rec kd b).map fun q => (.app p.1 q.1, true)
      else if m = "extend" then (rec kd o).bind fun p => (rec kd b).map fun q => (.ext p.1 q.1, true)
      else none
    | [b, c] => if m = "get" then (rec kd o).bind fun p => (rec kd b).bind fun q => (rec kd c).map fun r => (.get p.1 q.1 r.1, true) else none
    | _ => none
  else none
def stepE : Rec := fun kd e => match e with
  | .Constant .none _ _ => some (.lit .non, true)
  | .Constant (.bool b) _ _ => some (.lit (.bl b), true)
  | .Constant (.int i) _ _ => some (.lit (.int i), true)
  | .Constant (.str x) _ _ => some (.lit (.str x.cps.toList), true)
  | .Name x _ => if okNm x then match kd.lookup x with
    | some .local => (slot N x).map fun i => (.var i, true)
    | some .cell => (slot N x).map fun i => (.var i, true)
    | some .free => (slot N x).map fun i => (.var i, true)
    | some .globalImplicit => (G.cns.lookup x).map fun d => (.lit d, true)
    | _ => none
    else none
  | .BinOp a op b _ => (bopOf op).bind fun o => (rec kd a).bind fun p => (rec kd b).map fun q => (.bin o p.1 q.1, true)
  | .UnaryOp .Not a _ => (rec kd a).bind fun p => if p.2 && plainE p.1 then some (.notE p.1, true) else none
  | .UnaryOp .USub a _ => (rec kd a).map fun p => (.neg p.1, true)
  | .BoolOp .And es _ => trBool rec .And kd andP es
  | .BoolOp .Or es _ => trBool rec .Or kd orP es
  | .Compare a [op] [b] _ =>
    if noneC b then match op with
      | .Is => (rec kd a).map fun p => (.isN p.1 false, true)
      | .IsNot => (rec kd a).map fun p => (.isN p.1 true, true)
      | _ => if behindInMarks op b then none else (copOf op).bind fun o => (rec kd a).bind fun p => (rec kd b).map fun q => (.cmp o p.1 q.1, true)
    else if boolC b then match op with
      | .Is => (rec kd a).map fun p => (.isB p.1 (boolV b) false, true)
      | .IsNot => (rec kd a).map fun p => (.isB p.1 (boolV b) true, true)
      | _ => if behindInMarks op b then none else (copOf op).bind fun o => (rec kd a).bind fun p => (rec kd b).map fun q => (.cmp o p.1 q.1, true)
    else match dcOf G kd b with
      | some c => match op with
        | .In => (rec kd a).map fun p => (.kin c p.1 false, true)
        | .NotIn => (rec kd a).map fun p => (.kin c p.1 true, true)
        | _ => none
      | none => if behindInMarks op b then none else (copOf op).bind fun o => (rec kd a).bind fun p => (rec kd b).map fun q => (.cmp o p.1 q.1, true)
  | .Compare a [op, oq] [b, c] _ => if lastMarks [op, oq] [b, c] then none else (copOf op).bind fun o => (copOf oq).bind fun o' => (rec kd a).bind fun p => (rec kd b).bind fun q => (rec kd c).map fun r => (.chn o o' p.1 q.1 r.1, true)
  | .IfExp c a b _ => (rec kd c).bind fun r => if r.2 then (rec kd a).bind fun p => (rec kd b).map fun q => (.ife r.1 p.1 q.1, false) else none
  | .Tuple es _ _ => (trEs rec kd es).map fun l => (.tup l, true)
  | .List es _ => (trEs rec kd es).map fun l => (.lst l, true)
  | .Dict ks vs _ => if ks.length ≤ 15 then (trPr rec kd ks vs).map fun c => (.dct c, true) else none
  | .Subscript a (.Slice lo hi none _) _ => (rec kd a).bind fun p => (trO rec kd lo).bind fun l => (trO rec kd hi).map fun h => (.slc p.1 l h, true)
  | .Subscript a (.Slice none none (some (.UnaryOp .USub (.Constant (.int 1) _ _) _)) _) _ => (rec kd a).map fun p => (.rev p.1, true)
  | .Subscript a b _ => if isSl b then none else match dcOf G kd a with
    | some c => (rec kd b).map fun q => (.kix c q.1, true)
    | none => (rec kd a).bind fun p => (rec kd b).map fun q => (.idx p.1 q.1, true)
  | .ListComp .. => (trComp N rec kd e).map fun c => (.comp c.elt c.tg c.sr c.cs, true)
  | .Call (.Name x _) args [] _ => trCall G N rec kd x args
  | .Call (.Attribute o m apos) args [] pos => trMeth N rec kd o m apos pos args
  | _ => none
end
/-- what isn't served does nothing here -/
def nope : E := .bl2 .len (.lit .non) (.lit .non)
def orNope (r : Option (E × Bool)) : Option (E × Bool) := some (r.getD (nope, true))
def trE (G : Gn) (N : List Str) : Nat → Rec
  | 0 => fun _ _ => none
  | n + 1 => fun kd e => orNope (stepE G N (trE G N n) kd e)

section
variable {G : Gn} {N : List Str} {T : XT} {F : Caller} {rec : Rec}
def Good (G : Gn) (N : List Str) (T : XT) (F : Caller) (kd : Kd) (e : Expr) (p : E × Bool) : Prop := ∀ (X : Cx) (W : WX), Cok X G T F W N kd → PE X e (tE T X.K W F p.1) ∧ (p.2 = true → PT X e (tT T X.K W F p.1))
def RecOk (G : Gn) (N : List Str) (T : XT) (F : Caller) (rec : Rec) : Prop := ∀ kd e p, rec kd e = some p → Good G N T F kd e p
theorem evT_plain {c : E} (h : plainE c = true) : ∀ σ M, evT F c σ M = bnd (ev F c σ M) fun x M1 => match x with | .bl k => ok k M1 | _ => none := by
  intro σ M
  cases c <;> first | (simp [plainE] at h; done) | (simp only [evT]; done) | (simp only [evT]; rfl)
theorem trTgs_ok {X : Cx} {W : WX} {kd : Kd} (k : Cok X G T F W N kd) : ∀ {es : List Expr} {is : List Nat}, trTgs N kd es = some is → PGs X es (gNms is) ∧ (assignEach es X.env).length = is.length ∧ (assignEach es X.env).findIdx? (·.1) = none
  | [], is, h => by cases h; exact ⟨pgs_nil, rfl, rfl⟩
  | e :: r, is, h => by
    cases e with
    | Name x p =>
      simp only [trTgs] at h
      split at h
      · rename_i hl
        simp only [Option.bind_eq_some_iff, Option.map_eq_some_iff] at h
        obtain ⟨i, h1, js, h2, rfl⟩ := h
        obtain ⟨q1, q2, q3⟩ := trTgs_ok k h2
        have z : Loc X.env.scope x ∧ (X.fn x = true ∨ X.env.scope.names.lookup x = some .local) := (isLc_ok hl).elim (k.loc x) (k.cel x)
        refine ⟨pgs_cons (pg_name (by rw [k.hN]; exact k.nd) (by rw [k.hN]; exact slot_ok h1) z.1 z.2) q1 rfl, ?_, ?_⟩
        · show (assignEach r X.env).length + 1 = js.length + 1
          rw [q2]
        · show List.findIdx? (·.1) ((false, assign (.Name x p) X.env) :: assignEach r X.env) = none
          rw [List.findIdx?_cons, q3]
          rfl
      · cases h
    | _ => cases h
theorem trTg_ok {X : Cx} {W : WX} {kd : Kd} (k : Cok X G T F W N kd) {e : Expr} {t : Tg} (h : trTg N kd e = some t) : PG X e (gTg X.K t) := by
  cases e with
  | Name x p =>
    simp only [trTg] at h
    split at h
    · rename_i hl
      simp only
          [Option.map_eq_some_iff] at h
      obtain ⟨i, h1, rfl⟩ := h
      exact mg_name k (slot_ok h1) (isLc_ok hl)
    · cases h
  | Tuple es kk p =>
    simp only [trTg, Option.map_eq_some_iff] at h
    obtain ⟨is, h1, rfl⟩ := h
    obtain ⟨q1, q2, q3⟩ := trTgs_ok k h1
    exact pg_tup k.calm q1 q2 q3
  | _ => cases h
theorem trEs_ok (R : RecOk G N T F rec) {X : Cx} {W : WX} {kd : Kd} (k : Cok X G T F W N kd) : ∀ {es : List Expr} {c : Es}, trEs rec kd es = some c → PA X es (tA T X.K W F c) ∧ es.all starless = true
  | [], c, h => by cases h; exact ⟨ma_nil, rfl⟩
  | e :: r, c, h => by
    simp only [trEs] at h
    split at h
    · rename_i hs
      simp only [Option.bind_eq_some_iff, Option.map_eq_some_iff] at h
      obtain ⟨p, h1, q, h2, rfl⟩ := h
      obtain ⟨q1, q2⟩ := trEs_ok R k h2
      exact ⟨ma_cons (R _ _ _ h1 X W k).1 q1 (star_cons hs), by rw [List.all_cons, hs, q2]; rfl⟩
    · cases h
theorem trPr_ok (R : RecOk G N T F rec) {X : Cx} {W : WX} {kd : Kd} (k : Cok X G T F W N kd) (pos : Pos) : ∀ {ks : List (Option Expr)} {vs : List Expr} {c : Es}, trPr rec kd ks vs = some c → PPs X pos ks vs (prs T X.K W F c) ∧ evenE c = true ∧ ks.all (·.isSome) = true ∧ ks.length = vs.length ∧ (ks = [] → c = .nil)
  | [], [], c, h => by cases h; exact ⟨pps_nil, rfl, rfl, rfl, fun _ => rfl⟩
  | some a :: ks, b :: vs, c, h => by
    simp only [trPr, Option.bind_eq_some_iff, Option.map_eq_some_iff] at h
    obtain ⟨p, h1, q, h2, r, h3, rfl⟩ := h
    obtain ⟨q1, q2, q3, q4, _⟩ := trPr_ok R k pos h3
    exact ⟨pps_cons (R _ _ _ h1 X W k).1 (R _ _ _ h2 X W k).1 q1, q2, by simpa using q3, by rw [List.length_cons, List.length_cons, q4], fun z => by cases z⟩
  | none :: _, _, _, h => by cases h
  | some _ :: _, [], _, h => by cases h
  | [], _ :: _, _, h => by cases h
theorem trTs_ok (R : RecOk G N T F rec) {X : Cx} {W : WX} {kd : Kd} (k : Cok X G T F W N kd) {es : List Expr} {c : Es} (h : trTs rec kd es = some c) : PTs X es (tTs T X.K W F c) := by
  match es, h with
  | [], h => cases h; exact mts_nil
  | [e], h =>
    simp only [trTs, Option.bind_eq_some_iff] at h
    obtain ⟨p, h1, h2⟩ := h
    split at h2
    · rename_i hp
      cases h2
      exact mts_one ((R _ _ _ h1 X W k).2 hp)
    · cases h2
theorem trO_ok (R : RecOk G N T F rec) {X : Cx} {W : WX} {kd : Kd} (k : Cok X G T F W N kd) {e : Option Expr} {c : Eo} (h : trO rec kd e = some c) : PO X e (tO T X.K W F c) := by
  cases e with
  | none => cases h; exact mo_none
  | some e =>
    simp only [trO, Option.map_eq_some_iff] at h
    obtain ⟨p, h1, rfl⟩ := h
    exact mo_some (R _ _ _ h1 X W k).1
theorem bls_in {X : Cx} {W : WX} {kd : Kd} (k : Cok X G T F W N kd) {x : Str} (h : (["len", "repr", "tuple", "list", "sum", "all", "any", "int", "max", "min", "range", "enumerate", "zip", "isinstance", "bool", "str", "dict", "sorted"] : List Str).contains x = true) : X.mg x = none :=
  k.bls x (List.contains_iff_mem.mp h)
theorem trSr_ok (R : RecOk G N T F rec) {X : Cx} {W : WX} {kd : Kd} (k : Cok X G T F W N kd) {tg e : Expr} {c : Sr} (h : trSr rec kd tg e = some c) : PI X tg e (tW T X.K W F c) := by
  have one : ∀ {e : Expr}, (rec kd e).map (fun p => Sr.seq p.1) = some c → PI X tg e (tW T X.K W F c) := fun {e} h => by
    simp only
        [Option.map_eq_some_iff] at h
    obtain ⟨p, h1, rfl⟩ := h
    exact mi_seq (R _ _ _ h1 X W k).1
  unfold trSr at h
  split at h
  · split at h
    · rename_i hx
      subst hx
      split at h
      · rename_i hc
        simp only
            [Bool.and_eq_true] at hc
        simp only
            [Option.map_eq_some_iff] at h
        obtain ⟨p, h1, rfl⟩ := h
        exact mi_rng1 k (isGl_ok hc.1) (bls_in k (by decide +kernel)) hc.2 (R _ _ _ h1 X W k).1
      · cases h
    · split at h
      · rename_i hx
        subst hx
        split at h
        · rename_i hc
          simp only
              [Bool.and_eq_true] at hc
          simp only
              [Option.map_eq_some_iff] at h
          obtain ⟨p, h1, rfl⟩ := h
          cases tg with
          | Tuple es kk tp => exact mi_enum k (isGl_ok hc.1.1) (bls_in k (by decide +kernel)) hc.1.2 (R _ _ _ h1 X W k).1
          | _ => exact absurd hc.2 (by simp [isTup])
        · cases h
      · exact one h
  · split at h
    · rename_i hx
      subst hx
      split at h
      · rename_i hc
        simp only
            [Bool.and_eq_true] at hc
        simp only [Option.bind_eq_some_iff, Option.map_eq_some_iff] at h
        obtain ⟨p, h1, q, h2, rfl⟩ := h
        exact mi_rng2 k (isGl_ok hc.1.1) (bls_in k (by decide +kernel)) hc.1.2 hc.2 (R _ _ _ h1 X W k).1 (R _ _ _ h2 X W k).1
      · cases h
    · split at h
      · rename_i hx
        subst hx
        split at h
        · rename_i hc
          simp only
              [Bool.and_eq_true] at hc
          simp only [Option.bind_eq_some_iff, Option.map_eq_some_iff] at h
          obtain ⟨p, h1, q, h2, rfl⟩ := h
          cases tg with
          | Tuple es kk tp => exact mi_zip k (isGl_ok hc.1.1.1) (bls_in k (by decide +kernel)) hc.1.1.2 hc.1.2 (R _ _ _ h1 X W k).1 (R _ _ _ h2 X W k).1
          | _ => exact absurd hc.2 (by simp [isTup])
        · cases h
      · exact one h
  · exact one h
theorem blkK_ok {X : Cx} {W : WX} {kd : Kd} (k : Cok X G T F W N kd) {scope : Scope} {own : List (Str × Nat)} (h : blkK N kd scope own = true) : BlkOk X.N X.env.scope scope own := by
  unfold blkK at h
  rw [Bool.and_eq_true, Bool.and_eq_true] at h
  obtain ⟨⟨hk, ho⟩, hn⟩ := h
  have hN := k.hN
  have each : ∀ y ∈ scope.names, scope.names.lookup y.1 = some y.2 ∧ nameOk N kd own y.1 y.2 = true := fun y hy => by
    have z := List.all_eq_true.mp hn y hy
    rw [Bool.and_eq_true] at z
    exact ⟨of_decide_eq_true z.1, z.2⟩
  refine ⟨?_, fun y hy => (each y hy).1, fun p hp => by rw [hN]; exact of_decide_eq_true (List.all_eq_true.mp ho p hp), fun y hy e => ?_, fun y hy e => ?_⟩
  · revert hk
    cases scope.kind <;> intro hk <;> first | rfl | cases hk
  · have z := (each y hy).2
    rw [e] at z
    refine k.cap y.1 ?_
    unfold nameOk fromOut at z
    cases q : kd.lookup y.1 with
    | none => rw [q] at z; cases z
    | some t =>
      rw [q] at z
      cases t <;> first | exact .inl rfl | exact .inr rfl | cases z
  · have z := (each y hy).2
    rw [hN]
    rcases e with e | e <;> (rw [e] at z; exact of_decide_eq_true z)
def cpF (F : Caller) (c : Cp) : Sl → Hm → R (List D) := fun σ M => bnd (evW F c.sr σ M) fun w M1 => compW c.tg (fun σ1 M2 => evA F c.cs σ1 M2) (fun σ1 M2 => ev F c.elt σ1 M2) w σ M1
theorem trComp_ok (R : RecOk G N T F rec) {X : Cx} {W : WX} {kd : Kd} (k : Cok X G T F W N kd) {e : Expr} {c : Cp} (h : trComp N rec kd e = some c) : PE X e (tN T X.K W (cpF F c)) ∧ starless e = true := by
  unfold trComp at h
  split at h
  · rename_i elt tg iter ifs scope pos
    simp only [Option.bind_eq_some_iff] at h
    obtain ⟨t, h1, s, h2, cs, h3, p, h4, h5⟩ := h
    split at h5
    · rename_i hc
      cases h5
      simp only [Bool.and_eq_true,
          decide_eq_true_eq] at hc
      have bo := blkK_ok k hc.1.1
      refine ⟨me_comp k (trSr_ok R k h2) bo hc.1.2 (fun s H C cl fp => trTg_ok (k.blk bo.kind s H C cl fp) h1) (fun s H C cl fp => trTs_ok R (k.blk bo.kind s H C cl fp) h3) (fun s H C cl fp => (R _ _ _ h4 _ _ (k.blk bo.kind s H C cl fp)).1) fun x => ?_, rfl⟩
      have ns := hc.2
      cases iter <;> first | rfl | (simp [notSet] at ns; done)
    · cases h5
  · cases h
theorem and_bool (R : RecOk G N T F rec) {kd : Kd} {pos : Pos} : ∀ {es : List Expr} {p : E × Bool}, trBool rec .And kd andP es = some p → ∀ (X : Cx) (W : WX), Cok X G T F W N kd → PE X (.BoolOp .And es pos) (tE T X.K W F p.1) ∧ (p.2 = true → PW X (.BoolOp .And es pos) (tT T X.K W F p.1))
  | [], p, h => by cases h
  | [e], p, h => fun X W k => ⟨pe_one (R _ _ _ h X W k).1, fun z => mw_and1 ((R _ _ _ h X W k).2 z)⟩
  | e :: e2 :: r, p, h => fun X W k => by
    simp only [trBool, Option.bind_eq_some_iff, Option.map_eq_some_iff] at h
    obtain ⟨q, h1, q2, h2, rfl⟩ := h
    obtain ⟨g1, g2⟩ := R _ _ _ h1 X W k
    obtain ⟨i1, i2⟩ := and_bool R (pos := pos) (es := e2 :: r) h2 X W k
    refine ⟨me_and g1 i1, fun z => ?_⟩
    simp only [andP, Bool.and_eq_true] at z
    exact mw_and (g2 z.1) (i2 z.2)
theorem or_bool (R : RecOk G N T F rec) {kd : Kd} {pos : Pos} : ∀ {es : List Expr} {p : E × Bool}, trBool rec .Or kd orP es = some p → ∀ (X : Cx) (W : WX), Cok X G T F W N kd → PE X (.BoolOp .Or es pos) (tE T X.K W F p.1) ∧ (p.2 = true → PW X (.BoolOp .Or es pos) (tT T X.K W F p.1))
  | [], p, h => by cases h
  | [e], p, h => fun X W k => ⟨pe_one (R _ _ _ h X W k).1, fun z => mw_or1 ((R _ _ _ h X W k).2 z)⟩
  | e :: e2 :: r, p, h => fun X W k => by
    simp only [trBool, Option.bind_eq_some_iff, Option.map_eq_some_iff] at h
    obtain ⟨q, h1, q2, h2, rfl⟩ := h
    obtain ⟨g1, g2⟩ := R _ _ _ h1 X W k
    obtain ⟨i1, i2⟩ := or_bool R (pos := pos) (es := e2 :: r) h2 X W k
    refine ⟨me_or g1 i1, fun z => ?_⟩
    simp only [orP, Bool.and_eq_true] at z
    exact mw_or (g2 z.1) (i2 z.2)
theorem mt_isN {X : Cx} {W : WX} {a : Expr} {ca : E} {no : Bool} {j : Nat} {p pos : Pos} (ha : PE X a (tE T X.K W F ca)) : PT X (.Compare a [if no then .IsNot else .Is] [.Constant .none j p] pos) (tT T X.K W F (.isN ca no)) := by
  have as : ∀ (r : R D) (f : D → Bool), (bnd (bnd r fun x M => ok (D.bl (f x)) M) fun x M1 => match x with | .bl k => ok k M1 | _ => none) = bnd r fun x M => ok (f x) M := fun r f => by
    match r with
    | none => rfl
    | some (.ok a M) => rfl
    | some (.exc e M) => rfl
  cases no with
  | false =>
    refine (pt_cmpR op_isN ha pe_non rfl).imp fun τ H Q ⟨σ, M, ι, hs, hm, h⟩ => ?_
    simp only [evT, ev] at h
    refine ⟨σ, M, ι, hs, hm, PostE.bindB (Eq.mp (congrArg (fun r => PostB T X.K W τ H ι r Q) (as _ fun x => decide (x = .non) != false)) h) fun x M1 v H1 ι1 e1 m1 d1 h1 => ?_⟩
    have e : decide (v = .non) = (decide (x = .non) != false) := by cases d1 <;> rfl
    exact ⟨rfl, _, rfl, e ▸ h1 _ _ Ext.refl m1⟩
  | true =>
    refine (pt_cmpR op_notN ha pe_non rfl).imp fun τ H Q ⟨σ, M, ι, hs, hm, h⟩ => ?_
    simp only [evT, ev] at h
    refine ⟨σ, M, ι, hs, hm, PostE.bindB (Eq.mp (congrArg (fun r => PostB T X.K W τ H ι r Q) (as _ fun x => decide (x = .non) != true)) h) fun x M1 v H1 ι1 e1 m1 d1 h1 => ?_⟩
    have e : (!decide (v = .non)) = (decide (x = .non) != true) := by cases d1 <;> rfl
    exact ⟨rfl, _, rfl, e ▸ h1 _ _ Ext.refl m1⟩
set_option
    maxHeartbeats 2000000 in
/-- the built-in functions of one value -/
theorem blt_ok {X : Cx} {W : WX} {kd : Kd} (k : Cok X G T F W N kd) {x : Str} {bl : Blt} (h : bltNm x = some bl) (hx : kd.lookup x = some .globalImplicit) {a : Expr} {ca : E} {p pos : Pos} (hst : starless a = true) (ha : PE X a (tE T X.K W F ca)) (hn : notComp ca = true) :
    PE X (.Call (.Name x p) [a] [] pos) (tE T X.K W F (.blt bl ca)) := by
  have hca : ∀ σ M, ev F (.blt bl ca) σ M = bnd (ev F ca σ M) fun x M1 => bltM bl x M1 := fun σ M => by
    cases ca <;> first | (simp [notComp] at hn; done) | (simp only [ev]; done) | (rw [ev]; intros; simp_all)
  have hu := k.units
  unfold bltNm at h
  split at h
  · rename_i e; cases h; subst e; exact me_bltB cb_len k hx (bls_in k (by decide +kernel)) (by decide +kernel) (by decide) (by decide) hst ha hca
  split at h
  · rename_i e; cases h; subst e; exact me_bltB (cb_repr (by omega) k.grd k.sys) k hx (bls_in k (by decide +kernel)) (by decide +kernel) (by decide) (by decide) hst ha hca
  split at h
  · rename_i e; cases h; subst e; exact me_bltT cb_tuple k hx (bls_in k (by decide +kernel)) (by decide +kernel) (by decide) (by decide) hst ha hca
  split at h
  · rename_i e; cases h; subst e; exact me_bltT (cb_list k.calm) k hx (bls_in k (by decide +kernel)) (by decide +kernel) (by decide) (by decide) hst ha hca
  split at h
  · rename_i e; cases h; subst e; exact me_bltB (cb_plain (cl_sum k.calm) (by simp)) k hx (bls_in k (by decide +kernel)) (by decide +kernel) (by decide) (by decide) hst ha hca
  split at h
  · rename_i e; cases h; subst e; exact me_bltB (cb_plain (cl_all k.calm) (by simp)) k hx (bls_in k (by decide +kernel)) (by decide +kernel) (by decide) (by decide) hst ha hca
  split at h
  · rename_i e; cases h; subst e; exact me_bltB (cb_plain (cl_any k.calm) (by simp)) k hx (bls_in k (by decide +kernel)) (by decide +kernel) (by decide) (by decide) hst ha hca
  split at h
  · rename_i e; cases h; subst e; exact me_bltT cb_int k hx (bls_in k (by decide +kernel)) (by decide +kernel) (by decide) (by decide) hst ha hca
  split at h
  · rename_i e; cases h; subst e; exact me_bltB (cb_plain (cl_max k.calm) (by simp)) k hx (bls_in k (by decide +kernel)) (by decide +kernel) (by decide) (by decide) hst ha hca
  split at h
  · rename_i e; cases h; subst e; exact me_bltB (cb_plain (cl_min k.calm) (by simp)) k hx (bls_in k (by decide +kernel)) (by decide +kernel) (by decide) (by decide) hst ha hca
  split at h
  · rename_i e; cases h; subst e; exact me_bltB (cb_sorted (by omega)) k hx (bls_in k (by decide +kernel)) (by decide +kernel) (by decide) (by decide) hst ha hca
  cases h
set_option
    maxHeartbeats 2000000 in
theorem blN_ok {X : Cx} {W : WX} {kd : Kd} (k : Cok X G T F W N kd) {x : Str} {bl : Blt} (h : bltNm x = some bl) (hr : bl ≠ .repr) (hi : bl ≠ .int) (hx : kd.lookup x = some .globalImplicit) {a : Expr} {c : Cp} {p pos : Pos} (hst : starless a = true) (ha : PE X a (tN T X.K W (cpF F c))) :
    PE X (.Call (.Name x p) [a] [] pos) (tE T X.K W F (.blt bl (.comp c.elt c.tg c.sr c.cs))) := by
  have hca : ∀ σ M, ev F (.blt bl (.comp c.elt c.tg c.sr c.cs)) σ M = bnd (cpF F c σ M) fun x M1 => bltL bl x M1 := fun σ M => by
    rw [ev, cpF]
    match evW F c.sr σ M with
    | none => rfl
    | some (.ok a M) => rfl
    | some (.exc e M) => rfl
  unfold bltNm at h
  split at h
  · rename_i e; cases h; subst e; exact me_bltBN cl_len k hx (bls_in k (by decide +kernel)) (by decide +kernel) (by decide) (by decide) hst ha hca
  split at h
  · rename_i e; cases h; exact absurd rfl hr
  split at h
  · rename_i e; cases h; subst e; exact me_bltTN cl_tuple k hx (bls_in k (by decide +kernel)) (by decide +kernel) (by decide) (by decide) hst ha hca
  split at h
  · rename_i e; cases h; subst e; exact me_bltTN cl_list k hx (bls_in k (by decide +kernel)) (by decide +kernel) (by decide) (by decide) hst ha hca
  split at h
  · rename_i e; cases h; subst e; exact me_bltBN (cl_sum k.calm) k hx (bls_in k (by decide +kernel)) (by decide +kernel) (by decide) (by decide) hst ha hca
  split at h
  · rename_i e; cases h; subst e; exact me_bltBN (cl_all k.calm) k hx (bls_in k (by decide +kernel)) (by decide +kernel) (by decide) (by decide) hst ha hca
  split at h
  · rename_i e; cases h; subst e; exact me_bltBN (cl_any k.calm) k hx (bls_in k (by decide +kernel)) (by decide +kernel) (by decide) (by decide) hst ha hca
  split at h
  · rename_i e; cases h; exact absurd rfl hi
  split at h
  · rename_i e; cases h; subst e; exact me_bltBN (cl_max k.calm) k hx (bls_in k (by decide +kernel)) (by decide +kernel) (by decide) (by decide) hst ha hca
  split at h
  · rename_i e; cases h; subst e; exact me_bltBN (cl_min k.calm) k hx (bls_in k (by decide +kernel)) (by decide +kernel) (by decide) (by decide) hst ha hca
  split at h
  · rename_i e; cases h; subst e; have hu := k.units; exact me_bltBN (cl_sorted (by omega)) k hx (bls_in k (by decide +kernel)) (by decide +kernel) (by decide) (by decide) hst ha hca
  cases h
/-- what only a value is, as a test -/
theorem good_val {kd : Kd} {e : Expr} {c : E} (ht : testable e = true) (hp : plainE c = true) (h : ∀ (X : Cx) (W : WX), Cok X G T F W N kd → PE X e (tE T X.K W F c)) : Good G N T F kd e (c, true) := fun X W k =>
  ⟨h X W k, fun _ => mt_val (h X W k) (fun whole => by cases e <;> first | rfl | (simp [testable] at ht; done) | (rename_i op _ _; cases op <;> first | rfl | (simp [testable] at ht; done))) (evT_plain hp)⟩
theorem ty_in (t : Ty) : (["len", "repr", "tuple", "list", "sum", "all", "any", "int", "max", "min", "range", "enumerate", "zip", "isinstance", "bool", "str", "dict", "sorted"] : List Str).contains t.x = true := by cases t <;> decide +kernel
theorem trTys_ok {kd : Kd} : ∀ {es : List Expr} {ps : List (Ty × Pos)}, trTys kd es = some ps → es = tyNms ps ∧ ∀ q ∈ ps, kd.lookup q.1.x = some .globalImplicit
  | [], ps, h => by cases h; exact ⟨rfl, fun q hq => by cases hq⟩
  | e :: r, ps, h => by
    cases e with
    | Name y p =>
      simp only [trTys] at h
      split at h
      · rename_i hg
        simp only [Option.bind_eq_some_iff, Option.map_eq_some_iff] at h
        obtain ⟨t, h1, qs, h2, rfl⟩ := h
        obtain ⟨e1, e2⟩ := trTys_ok h2
        have e := tyOf_ok h1
        subst e
        refine ⟨by rw [e1]; rfl, fun q hq => ?_⟩
        rcases List.mem_cons.mp
            hq with rfl | hq
        · exact isGl_ok hg
        · exact e2 q hq
      · cases h
    | _ => cases h
theorem dcOf_ok {kd : Kd} {e : Expr} {c : List (List Nat × D)} (h : dcOf G kd e = some c) : ∃ x p, e = .Name x p ∧ kd.lookup x = some .globalImplicit ∧ (x == ("__debug__" : Str)) = false ∧ G.dcs.lookup x = some c := by
  cases e with
  | Name x p =>
    simp only [dcOf] at h
    split at h
    · rename_i hh
      simp only [Bool.and_eq_true, okNm, beq_iff_eq] at hh
      exact ⟨x, p, rfl, isGl_ok hh.1, hh.2.1, h⟩
    · cases h
  | _ => cases h
theorem trCall_ok (R : RecOk G N T F rec) {kd : Kd} {x : Str} {args : List Expr} {c : E × Bool} {p pos : Pos} (h : trCall G N rec kd x args = some c) : Good G N T F kd (.Call (.Name x p) args [] pos) c := by
  unfold trCall at h
  split at h
  · rename_i hg
    simp only [Bool.and_eq_true, okNm, beq_iff_eq] at hg
    have hx := isGl_ok hg.1
    have hd : (x == ("__debug__" : Str)) = false := hg.2.1
    split at h
    · rename_i f hf
      simp only
          [Option.map_eq_some_iff] at h
      obtain ⟨es, h1, rfl⟩ := h
      refine good_val rfl rfl fun X W k => ?_
      obtain ⟨q1, q2⟩ := trEs_ok R k h1
      match args, h1, q1, q2 with
      | [], h1, _, _ => cases h1; exact me_call0 k hx hf hd
      | a :: r, _, q1, q2 => exact me_call k hx hf hd q2 q1
    · split at h
      · split at h
        · cases h
        · rename_i a bl hb
          split at h
          · rename_i hs
            split at h
            · rename_i c' hc'
              split at h
              · cases h
              · cases h
              · rename_i n1 n2
                cases h
                exact good_val rfl rfl fun X W k => blN_ok k hb (fun z => n1 z) (fun z => n2 z) hx hs (trComp_ok R k hc').1
            · simp only [Option.bind_eq_some_iff] at h
              obtain ⟨q, h1, h2⟩ := h
              split at h2
              · rename_i hn
                cases h2
                exact good_val rfl rfl fun X W k => blt_ok k hb hx hs (R _ _ _ h1 X W k).1 hn
              · cases h2
          · cases h
      · split at h
        · rename_i e
          subst e
          split at h
          · split at h
            · rename_i hy
              simp only [Bool.and_eq_true] at hy
              simp only [Option.bind_eq_some_iff, Option.map_eq_some_iff] at h
              obtain ⟨t, h1, q, h2, rfl⟩ := h
              have e := tyOf_ok h1
              subst e
              refine good_val rfl rfl fun X W k => me_isi k hx (bls_in k (by decide +kernel)) (isGl_ok hy.1) (bls_in k (by cases t <;> decide +kernel)) hy.2 (R _ _ _ h2 X W k).1
            · cases h
          · split at h
            · rename_i hst
              simp only [Option.bind_eq_some_iff] at h
              obtain ⟨ps, h1, h2⟩ := h
              split at h2
              · rename_i hl
                simp only [Bool.and_eq_true, decide_eq_true_eq, Bool.not_eq_true'] at hl
                simp only [Option.map_eq_some_iff] at h2
                obtain ⟨q, h3, rfl⟩ := h2
                obtain ⟨e1, e2⟩ := trTys_ok h1
                subst e1
                exact good_val rfl rfl fun X W k => me_isiT hl.1 (by intro z; rw [z] at hl; simp at hl) k hx (bls_in k (by decide +kernel)) (fun q hq => ⟨e2 q hq, bls_in k (ty_in q.1)⟩) hst (R _ _ _ h3 X W k).1
              · cases h2
            · cases h
          · cases h
        · split at h
          · rename_i hs
            simp only [Bool.and_eq_true] at hs
            split at h
            · rename_i e
              subst e
              simp only [Option.bind_eq_some_iff, Option.map_eq_some_iff] at h
              obtain ⟨q, h1, q2, h2, rfl⟩ := h
              exact good_val rfl rfl fun X W k => me_bl2 (.inl ⟨rfl, rfl⟩) k hx (bls_in k (by decide +kernel)) hs.1 hs.2 (R _ _ _ h1 X W k).1 (R _ _ _ h2 X W k).1
            · split at h
              · rename_i e
                subst e
                simp only [Option.bind_eq_some_iff, Option.map_eq_some_iff] at h
                obtain ⟨q, h1, q2, h2, rfl⟩ := h
                exact good_val rfl rfl fun X W k => me_bl2 (.inr ⟨rfl, rfl⟩) k hx (bls_in k (by decide +kernel)) hs.1 hs.2 (R _ _ _ h1 X W k).1 (R _ _ _ h2 X W k).1
              · cases h
          · cases h
      · cases h
  · cases h
theorem trMeth_ok (R : RecOk G N T F rec) {kd : Kd} {o : Expr} {m : Str} {args : List Expr} {c : E × Bool} {apos pos : Pos} (h : trMeth N rec kd o m apos pos args = some c) : Good G N T F kd (.Call (.Attribute o m apos) args [] pos) c := by
  unfold trMeth at h
  split at h
  · rename_i hg
    simp only [Bool.and_eq_true, lineOk] at hg
    obtain ⟨⟨hb, hl⟩, hs⟩ := hg
    split at h
    · simp only [List.all_cons, Bool.and_eq_true] at hs
      split at h
      · rename_i e
        subst e
        split at h
        · rename_i c' hc'
          simp only
              [Option.map_eq_some_iff] at h
          obtain ⟨q, h1, rfl⟩ := h
          refine good_val rfl rfl fun X W k => me_joinN (R _ _ _ h1 X W k).1 (trComp_ok R k hc').1 hs.1 hb hl fun σ M => ?_
          rw [ev]
          refine congrArg (bnd _) (funext fun x => funext fun M' => congrArg (strK x) (funext fun sep => ?_))
          simp only [cpF]
          match evW F c'.sr σ M' with
          | none => rfl
          | some (.exc e M') => rfl
          | some (.ok w M') => rfl
        · simp only [Option.bind_eq_some_iff] at h
          obtain ⟨q, h1, q2, h2, h3⟩ := h
          split at h3
          · rename_i hn
            cases h3
            refine good_val rfl rfl fun X W k => me_join (R _ _ _ h1 X W k).1 (R _ _ _ h2 X W k).1 hs.1 hb hl fun σ M => ?_
            rw [ev]
            refine congrArg (bnd _) (funext fun x => funext fun M' => congrArg (strK x) (funext fun sep => ?_))
            generalize q2.1 = z2 at hn
            cases z2 <;> first | rfl | (simp [notComp] at hn; done)
          · cases h3
      · split at h
        · rename_i e
          subst e
          simp only [Option.bind_eq_some_iff, Option.map_eq_some_iff] at h
          obtain ⟨q, h1, q2, h2, rfl⟩ := h
          exact good_val rfl rfl fun X W k => me_app (R _ _ _ h1 X W k).1 (R _ _ _ h2 X W k).1 hs.1 hb hl
        · split at h
          · rename_i e
            subst e
            simp only [Option.bind_eq_some_iff, Option.map_eq_some_iff] at h
            obtain ⟨q, h1, q2, h2, rfl⟩ := h
            exact good_val rfl rfl fun X W k => me_ext (R _ _ _ h1 X W k).1 (R _ _ _ h2 X W k).1 hs.1 hb hl
          · cases h
    · simp only [List.all_cons, Bool.and_eq_true] at hs
      split at h
      · rename_i e
        subst e
        simp only [Option.bind_eq_some_iff, Option.map_eq_some_iff] at h
        obtain ⟨q, h1, q2, h2, q3, h3, rfl⟩ := h
        exact good_val rfl rfl fun X W k => me_get k (R _ _ _ h1 X W k).1 (R _ _ _ h2 X W k).1 (R _ _ _ h3 X W k).1 hs.1 hs.2.1 hb hl
      · cases h
    · cases h
  · cases h
end
end Mi

/-! Mi13: the translator: all terms; statements. -/
namespace Mi
open PySem PySem.Spec
    PyProof.Rows L2
section
variable {G : Gn} {N : List Str} {T : XT} {F : Caller} {rec : Rec}
theorem bop_ok {X : Cx} {W : WX} {op : Operator} {o : Bop} (h : bopOf op = some o) : OpR X (binaryOp op) (rBin T X.K W o) := by
  cases op <;> cases h
  · exact mo_add
  · exact mo_sub
  · exact mo_mul
  · exact mo_mod
  · exact mo_pow
  · exact mo_shl
  · exact mo_shr
  · exact mo_fdiv
theorem cop_ok {X : Cx} {op : CmpOp} {o : Cop} (hu : X.A.units + 64 < cLine) (h : copOf op = some o) : OpR X (compareOp op) (rCmp X.K o) := by
  cases op <;> cases h
  · exact mc_eq hu
  · exact mc_ne hu
  · exact mc_lt hu
  · exact mc_le
  · exact mc_gt
  · exact mc_ge
  · exact mc_in hu
  · exact mc_notin hu
theorem stepE_ok (R : RecOk G N T F rec) : RecOk G N T F (stepE G N rec) := by
  intro kd e p h
  unfold stepE at h
  split at h
  · cases h; exact good_val rfl rfl fun X W k => me_lit pe_non fun _ _ => .non
  · cases h; exact good_val rfl rfl fun X W k => me_lit pe_bl fun _ _ => .bl _
  · cases h; exact good_val rfl rfl fun X W k => me_lit pe_int fun _ _ => .int _
  · cases h
    rename_i x _ _
    exact good_val rfl rfl fun X W k => me_lit pe_str fun _ _ => by
      obtain ⟨⟨l⟩⟩ := x
      exact .str l
  · split at h
    · rename_i hd
      simp only [okNm, Bool.and_eq_true, beq_iff_eq] at hd
      split at h
      · rename_i q
        simp only
            [Option.map_eq_some_iff] at h
        obtain ⟨i, h1, rfl⟩ := h
        exact good_val rfl rfl fun X W k => me_var k (slot_ok h1) (Mi.Loc.vis (k.loc _ q).1) hd.1 hd.2
      · rename_i q
        simp only
            [Option.map_eq_some_iff] at h
        obtain ⟨i, h1, rfl⟩ := h
        exact good_val rfl rfl fun X W k => me_var k (slot_ok h1) (Mi.Loc.vis (k.cel _ q).1) hd.1 hd.2
      · rename_i q
        simp only
            [Option.map_eq_some_iff] at h
        obtain ⟨i, h1, rfl⟩ := h
        exact good_val rfl rfl fun X W k => me_var k (slot_ok h1) (k.fre _ q) hd.1 hd.2
      · rename_i q
        simp only
            [Option.map_eq_some_iff] at h
        obtain ⟨d, h1, rfl⟩ := h
        refine good_val rfl rfl fun X W k => ?_
        obtain ⟨u, v, q1, q2, q3⟩ := k.cns _ _ h1
        exact me_lit (pe_glob (k.glo _ q) q1 q2 hd.1) q3
      · cases h
    · cases h
  · simp only [Option.bind_eq_some_iff, Option.map_eq_some_iff] at h
    obtain ⟨o, h0, a, h1, b, h2, rfl⟩ := h
    exact good_val rfl rfl fun X W k => me_bin (bop_ok h0) (bin_noexc o) (R _ _ _ h1 X W k).1 (R _ _ _ h2 X W k).1
  · simp only [Option.bind_eq_some_iff] at h
    obtain ⟨a, h1, h2⟩ := h
    split at h2
    · rename_i hp
      simp only
          [Bool.and_eq_true] at hp
      cases h2
      exact fun X W k => ⟨me_not (R _ _ _ h1 X W k).1 (evT_plain (F := F) hp.2), fun _ => mt_not ((R _ _ _ h1 X W k).2 hp.1)⟩
    · cases h2
  · simp only [Option.map_eq_some_iff] at h
    obtain ⟨a, h1, rfl⟩ := h
    exact good_val rfl rfl fun X W k => me_neg (R _ _ _ h1 X W k).1
  · exact fun X W k => ⟨(and_bool R h X W k).1, fun z => ((and_bool R h X W k).2 z).pt⟩
  · exact fun X W k => ⟨(or_bool R h X W k).1, fun z => ((or_bool R h X W k).2 z).pt⟩
  · rename_i a op b pos
    have cmp : ∀ {p}, (if behindInMarks op b then none else (copOf op).bind fun o => (rec kd a).bind fun p => (rec kd b).map fun q => (E.cmp o p.1 q.1, true)) = some p → Good G N T F kd (.Compare a [op] [b] pos) p := fun {p} h => by
      split at h
      · cases h
      · rename_i hb
        simp only [Bool.not_eq_true] at hb
        simp only [Option.bind_eq_some_iff, Option.map_eq_some_iff] at h
        obtain ⟨o, h0, a', h1, b', h2, rfl⟩ := h
        refine fun X W k => ?_
        have hu := k.units
        exact ⟨me_cmp (cop_ok (by omega) h0) (R _ _ _ h1 X W k).1 (R _ _ _ h2 X W k).1 hb, fun _ => mt_cmp (cop_ok (by omega) h0) (R _ _ _ h1 X W k).1 (R _ _ _ h2 X W k).1 hb⟩
    split at h
    · rename_i hn
      have hb : ∃ j q, b = .Constant .none j q := by
        cases b with
        | Constant c j q => cases c <;> first | exact ⟨_, _, rfl⟩ | (simp [noneC] at hn; done)
        | _ => simp [noneC] at hn
      obtain ⟨j, q, rfl⟩ := hb
      split at h
      · simp only [Option.map_eq_some_iff] at h
        obtain ⟨a', h1, rfl⟩ := h
        exact fun X W k => ⟨me_isN (no := false) (R _ _ _ h1 X W k).1, fun _ => mt_isN (no := false) (R _ _ _ h1 X W k).1⟩
      · simp only [Option.map_eq_some_iff] at h
        obtain ⟨a', h1, rfl⟩ := h
        exact fun X W k => ⟨me_isN (no := true) (R _ _ _ h1 X W k).1, fun _ => mt_isN (no := true) (R _ _ _ h1 X W k).1⟩
      · exact cmp h
    · split at h
      · rename_i hn
        have hb : ∃ j q, b = .Constant (.bool (boolV b)) j q := by
          cases b with
          | Constant c j q => cases c <;> first | exact ⟨_, _, rfl⟩ | (simp [boolC] at hn; done)
          | _ => simp [boolC] at hn
        obtain ⟨j, q, hb⟩ := hb
        split at h
        · simp only [Option.map_eq_some_iff] at h
          obtain ⟨a', h1, rfl⟩ := h
          generalize boolV b = kb at hb ⊢
          subst hb
          exact fun X W k => ⟨me_isB (no := false) (R _ _ _ h1 X W k).1, fun _ => mt_isB (no := false) (R _ _ _ h1 X W k).1⟩
        · simp only [Option.map_eq_some_iff] at h
          obtain ⟨a', h1, rfl⟩ := h
          generalize boolV b = kb at hb ⊢
          subst hb
          exact fun X W k => ⟨me_isB (no := true) (R _ _ _ h1 X W k).1, fun _ => mt_isB (no := true) (R _ _ _ h1 X W k).1⟩
        · exact cmp h
      · split at h
        · rename_i c hc
          obtain ⟨x, q, rfl, hx, hd, hl⟩ := dcOf_ok hc
          split at h
          · simp only [Option.map_eq_some_iff] at h
            obtain ⟨a', h1, rfl⟩ := h
            exact fun X W k => ⟨me_kin (no := false) k hx hl hd (R _ _ _ h1 X W k).1, fun _ => mt_kin (no := false) k hx hl hd (R _ _ _ h1 X W k).1⟩
          · simp only [Option.map_eq_some_iff] at h
            obtain ⟨a', h1, rfl⟩ := h
            exact fun X W k => ⟨me_kin (no := true) k hx hl hd (R _ _ _ h1 X W k).1, fun _ => mt_kin (no := true) k hx hl hd (R _ _ _ h1 X W k).1⟩
          · cases h
        · exact cmp h
  · split at h
    · cases h
    · rename_i hb
      simp only [Bool.not_eq_true] at hb
      simp only [Option.bind_eq_some_iff, Option.map_eq_some_iff] at h
      obtain ⟨o, h0, o', h0', a, h1, b, h2, c, h3, rfl⟩ := h
      refine fun X W k => ?_
      have hu := k.units
      exact ⟨me_chn (cop_ok (by omega) h0) (cop_ok (by omega) h0') (R _ _ _ h1 X W k).1 (R _ _ _ h2 X W k).1 (R _ _ _ h3 X W k).1 hb, fun _ => mt_chn (cop_ok (by omega) h0) (cop_ok (by omega) h0') (R _ _ _ h1 X W k).1 (R _ _ _ h2 X W k).1 (R _ _ _ h3 X W k).1 hb⟩
  · simp only [Option.bind_eq_some_iff] at h
    obtain ⟨c, h1, h2⟩ := h
    split at h2
    · rename_i hc
      simp only [Option.bind_eq_some_iff, Option.map_eq_some_iff] at h2
      obtain ⟨a, h3, b, h4, rfl⟩ := h2
      exact fun X W k => ⟨me_ife ((R _ _ _ h1 X W k).2 hc) (R _ _ _ h3 X W k).1 (R _ _ _ h4 X W k).1, fun z => by cases z⟩
    · cases h2
  · simp only [Option.map_eq_some_iff] at h
    obtain ⟨es, h1, rfl⟩ := h
    exact good_val rfl rfl fun X W k => me_tup (trEs_ok R k h1).1
  · simp only [Option.map_eq_some_iff] at h
    obtain ⟨es, h1, rfl⟩ := h
    exact good_val rfl rfl fun X W k => me_lst (trEs_ok R k h1).1
  · rename_i ks vs pos
    split at h
    · rename_i h15
      simp only
          [Option.map_eq_some_iff] at h
      obtain ⟨c, h1, rfl⟩ := h
      refine good_val rfl rfl fun X W k => ?_
      obtain ⟨q1, q2, q3, q4, q5⟩ := trPr_ok R k pos h1
      match ks, vs, q4, q5 with
      | [], [], _, q5 => rw [q5 rfl]; exact me_dct0
      | a :: ks, vs, q4, _ => exact me_dct q2 q1 q3 q4 (by simp) h15
    · cases h
  · simp only [Option.bind_eq_some_iff, Option.map_eq_some_iff] at h
    obtain ⟨a, h1, lo, h2, hi, h3, rfl⟩ := h
    exact good_val rfl rfl fun X W k => me_slc (R _ _ _ h1 X W k).1 (trO_ok R k h2) (trO_ok R k h3)
  · simp only [Option.map_eq_some_iff] at h
    obtain ⟨a, h1, rfl⟩ := h
    exact good_val rfl rfl fun X W k => me_rev (R _ _ _ h1 X W k).1
  · rename_i a0 b pos0 hne hne2
    split at h
    · cases h
    · rename_i hs
      have pl : PlainIx b := fun o i => by
        cases b <;> first | rfl | (simp [isSl] at hs; done)
      split at h
      · rename_i c hc
        obtain ⟨x, q, rfl, hx, hd, hl⟩ := dcOf_ok hc
        simp only
            [Option.map_eq_some_iff] at h
        obtain ⟨b', h1, rfl⟩ := h
        exact good_val rfl rfl fun X W k => me_kix k hx hl hd (R _ _ _ h1 X W k).1 pl
      · simp only [Option.bind_eq_some_iff, Option.map_eq_some_iff] at h
        obtain ⟨a, h1, i, h2, rfl⟩ := h
        exact good_val rfl rfl fun X W k => me_idx k (R _ _ _ h1 X W k).1 (R _ _ _ h2 X W k).1 pl
  · simp only [Option.map_eq_some_iff] at h
    obtain ⟨c, h1, rfl⟩ := h
    refine good_val rfl rfl fun X W k => me_new (trComp_ok R k h1).1 fun σ M => ?_
    rw [ev, cpF]
    match evW F c.sr σ M with
    | none => rfl
    | some (.exc e M') => rfl
    | some (.ok w M') => rfl
  · exact trCall_ok R h
  · exact trMeth_ok R h
  · cases h
theorem ev_nope {σ : Sl} {M : Hm} : ev F nope σ M = none := by
  simp only [nope, ev, ok, bnd, bl2M]
theorem nope_ok {kd : Kd} {e : Expr} : Good G N T F kd e (nope, true) := fun X W k =>
  ⟨⟨fun _ _ _ _ _ _ ⟨_, _, _, _, _, h⟩ => by rw [ev_nope] at h; exact h.elim⟩, fun _ => ⟨fun _ _ _ _ _ _ ⟨_, _, _, _, _, h⟩ => by
    rw [evT_plain rfl, ev_nope] at h
    exact h.elim⟩⟩
theorem orNope_ok (R : RecOk G N T F rec) : RecOk G N T F (fun kd e => orNope (rec kd e)) := fun kd e p h => by
  simp only [orNope, Option.some.injEq] at h
  subst h
  cases q : rec kd e with
  | none => exact nope_ok
  | some p => exact R _ _ _ q
theorem trE_ok : ∀ n, RecOk G N T F (trE G N n)
  | 0 => fun _ _ _ h => by cases h
  | n + 1 => orNope_ok (stepE_ok (trE_ok n))

/-! ### statements -/
def compE : Expr → Bool
  | .ListComp .. => true
  | .SetComp .. => true
  | .DictComp .. => true
  | _ => false
def noTup : Expr → Bool
  | .Tuple .. => false
  | _ => true
/-- a comprehension stored on its own line -/
def swOk (x : Str) (p : Pos) : Expr → Bool
  | .ListComp _ _ scope pos => (p.line == pos.line) && !(scope.names.any fun (n, k) => n == x && (k == .local || k == .cell))
  | _ => false
theorem sw_false {e : Expr} (h : compE e = false) {tg : Option Expr} {l : Nat} {env : Env} : swapsWith e tg l env = pure false := by
  cases e <;> first | rfl | (simp [compE] at h; done)
theorem sws_none {tg e : Expr} (h : noTup e = true) {env : Env} : swappedStores [tg] e env = pure none := by
  cases e <;> first | (simp [noTup] at h; done) | (cases tg <;> rfl)
def parOk (kd : Kd) (x y : Str) (px py : Pos) (a b : Expr) : Bool :=
  (match kd.lookup x with | some .local => true | _ => false) && (match kd.lookup y with | some .local => true | _ => false) && decide (x ≠ y) && (py.line == px.line) && starless a && starless b && !([a, b].all (foldedForSure 8)) && !([a, b].all (constantsAlone 8))
def trSts (one : Stmt → Option S) : List Stmt → Option S
  | [] => some .pas
  | [s] => one s
  | s :: r => (one s).bind fun c => (trSts one r).map fun d => .seq c d
def stepS (N : List Str) (re : Rec) (one : Stmt → Option S) (kd : Kd) : Stmt → Option S
  | .Return none _ => some .retN
  | .Return (some e) _ => (re kd e).map fun p => .ret p.1
  | .Assign [.Name x p] e _ => if isLc kd x then (slot N x).bind fun i =>
      if compE e then (match kd.lookup x with
        | some .local => if swOk x p e then (trComp N re kd e).map fun c => .set i (.comp c.elt c.tg c.sr c.cs) else none
        | _ => none)
      else (re kd e).map fun q => .set i q.1
    else none
  | .Assign [.Tuple es _ _] e _ => if noTup e && !compE e then (match es with
      | [.Name x _, .Starred (.Name y _) _] => if isLc kd x && isLc kd y then (slot N x).bind fun i => (slot N y).bind fun j => (re kd e).map fun q => .setS i j q.1 else none
      | es => (trTgs N kd es).bind fun is => (re kd e).map fun q => .setT is q.1)
    else match es, e with
      | [.Name x px, .Name y py], .Tuple [a, b] _ _ => if parOk kd x y px py a b then (slot N x).bind fun i => (slot N y).bind fun j => (re kd a).bind fun p => (re kd b).map fun q => .setP i j p.1 q.1 else none
      | _, _ => none
  | .Assign [.Subscript a b _] e _ => if noTup e && !compE e && !isSl b then (re kd a).bind fun p => (re kd b).bind fun q => (re kd e).map fun r => .setI p.1 q.1 r.1 else none
  | .AugAssign (.Name x _) op e _ => if isLc kd x then (slot N x).bind fun i => match op with
      | .Add => (re kd e).map fun p => .aug i .add p.1
      | .Sub => (re kd e).map fun p => .aug i .sub p.1
      | _ => none
    else none
  | .Expr (.Constant (.str _) _ _) _ => some .pas
  | .Expr e _ => if compE e then none else (re kd e).map fun p => .exp p.1
  | .If c a b _ => (re kd c).bind fun p => if p.2 then (trSts one a).bind fun s => (trSts one b).map fun t => .ifS p.1 s t else none
  | .While c a [] _ => (re kd c).bind fun p => if p.2 then (trSts one a).map fun s => .whl p.1 s else none
  | .For tg it a [] _ => if notSet it then (trTg N kd tg).bind fun t => (trSr re kd tg it).bind fun r => (trSts one a).map fun s => .forS t r s else none
  | .Pass _ => some .pas
  | .Break _ => some .brk
  | .Continue _ => some .cnt
  | _ => none
def trS (N : List Str) (re : Rec) (kd : Kd) : Nat → Stmt → Option S
  | 0 => fun _ => none
  | n + 1 => fun st => some ((stepS N re (trS N re kd n) kd st).getD (.exp nope))
def GoodS (G : Gn) (N : List Str) (T : XT) (F : Caller) (kd : Kd) (st : Stmt) (c : S) : Prop := ∀ (X : Cx) (W : WX), Cok X G T F W N kd → PassesOwn (model X.prog X.w) X.A X.env X.xe → PS X st (tS T X.K W F c)
def OneOk (G : Gn) (N : List Str) (T : XT) (F : Caller) (kd : Kd) (one : Stmt → Option S) : Prop := ∀ st c, one st = some c → GoodS G N T F kd st c
theorem trSts_ok {kd : Kd} {one : Stmt → Option S} (R : OneOk G N T F kd one) {X : Cx} {W : WX} (k : Cok X G T F W N kd) (hp : PassesOwn (model X.prog X.w) X.A X.env X.xe) : ∀ {sts : List Stmt} {c : S}, trSts one sts = some c → PSs X sts (tS T X.K W F c)
  | [], c, h => by cases h; exact mss_nil
  | [s], c, h => mss_one (R s c h X W k hp)
  | s :: s2 :: r, c, h => by
    simp only [trSts, Option.bind_eq_some_iff, Option.map_eq_some_iff] at h
    obtain ⟨c1, h1, c2, h2, rfl⟩ := h
    exact mss_cons (R s c1 h1 X W k hp) (trSts_ok R k hp (sts := s2 :: r) h2)
/-- name = [..], on one line -/
theorem ms_setN {X : Cx} {W : WX} {kd : Kd} (R : RecOk G N T F rec) (k : Cok X G T F W N kd) {x : Str} {i : Nat} {e : Expr} {c : Cp} {p pos : Pos} (hi : N[i]? = some x) (hx : kd.lookup x = some .local) (hs : swOk x p e = true) (h : trComp N rec kd e = some c) :
    PS X (.Assign [.Name x p] e pos) (tS T X.K W F (.set i (.comp c.elt c.tg c.sr c.cs))) := by
  unfold trComp at h
  split at h
  · rename_i elt tg iter ifs scope pos2
    simp only [Option.bind_eq_some_iff] at h
    obtain ⟨t, h1, s, h2, cs, h3, q, h4, h5⟩ := h
    split at h5
    · rename_i hc
      cases h5
      simp only [Bool.and_eq_true,
          decide_eq_true_eq] at hc
      have bo := blkK_ok k hc.1.1
      simp only [swOk, Bool.and_eq_true, Bool.not_eq_true'] at hs
      refine (ps_setLc (te := tE T X.K WF F q.1) (tt := tTs T X.K WF F cs) (g := gTg X.K t) (wi := tW T X.K W F s) k.calm (by rw [k.hN]; exact k.nd) (by rw [k.hN]; exact hi) (k.ker x hx) (sw_true k.fk (k.ker x hx) hs.1 hs.2) (trSr_ok R k h2) bo (fun s H C cl fp => trTg_ok (k.blk bo.kind s H C cl fp) h1) (fun s H C cl fp => trTs_ok R (k.blk bo.kind s H C cl fp) h3)
        (fun s H C cl fp => (R _ _ _ h4 _ _ (k.blk bo.kind s H C cl fp)).1) fun x => ?_).imp fun D τ H ⟨σ, M, ι, hs, hm, h⟩ => ?_
      · have ns := hc.2
        cases iter <;> first | rfl | (simp [notSet] at ns; done)
      · rw [hc.1.2]
        refine read_comp (W := W) (F := F) (fun σ τ H Q M ι a b c => ⟨σ, M, ι, a, b, c⟩) (fun σ τ H Q M ι a b c => ⟨σ, M, ι, a, b, c⟩) ⟨σ, M, ι, hs, hm, ?_⟩
        have e : ev F (.comp q.1 t s cs) σ M = bnd (cpF F ⟨q.1, t, s, cs⟩ σ M) fun ds M1 => ok (.ref M1.length) (M1 ++ [.lst ds]) := by
          rw [ev, cpF]
          match evW F s σ M with
          | none => rfl
          | some (.exc e M') => rfl
          | some (.ok w M') => rfl
        rw [Mi.ex, e] at h
        show Post T X.K W τ H ι (cpF F ⟨q.1, t, s, cs⟩ σ M) _
        match z : cpF F ⟨q.1, t, s, cs⟩ σ M with
        | none => rw [z] at h; exact h.elim
        | some (.exc y M') => rw [z] at h; exact fun cls dx H' ι' e m t => h cls dx τ H' ι' e m (hs.ex e) t
        | some (.ok ds M') =>
          rw [z] at h
          intro H' ι' e1 m1 a vs h0 h1 h2 h3
          have e2 := e1.take h0
          exact h _ H' (ι' ++ [a]) e2 (m1.take h1 h2 h3) ((hs.ex e2).set (.ref (by rw [← m1.len]; simp)) i)
    · cases h5
  · cases h
theorem stepS_ok {kd : Kd} {one : Stmt → Option S} (RE : RecOk G N T F rec) (R : OneOk G N T F kd one) : OneOk G N T F kd (stepS N rec one kd) := by
  intro st c h X W k hp
  unfold stepS at h
  split at h
  · cases h; exact ms_retN
  · simp only [Option.map_eq_some_iff] at h
    obtain ⟨p, h1, rfl⟩ := h
    exact ms_ret (RE _ _ _ h1 X W k).1
  · split at h
    · rename_i hl
      simp only [Option.bind_eq_some_iff] at h
      obtain ⟨i, h1, h2⟩ := h
      split at h2
      · split at h2
        · rename_i hx
          split at h2
          · rename_i hs
            simp only [Option.map_eq_some_iff] at h2
            obtain ⟨c, h3, rfl⟩ := h2
            exact ms_setN RE k (slot_ok h1) hx hs h3
          · cases h2
        · cases h2
      · rename_i hc
        simp only [Bool.not_eq_true] at hc
        simp only [Option.map_eq_some_iff] at h2
        obtain ⟨q, h3, rfl⟩ := h2
        exact ms_set k (slot_ok h1) (isLc_ok hl) (RE _ _ _ h3 X W k).1 (sw_false hc)
    · cases h
  · rename_i es kk tp e pos
    split at h
    · rename_i hc
      simp only [Bool.and_eq_true, Bool.not_eq_true'] at hc
      split at h
      · rename_i x px y py sp
        split at h
        · rename_i hl
          simp only
              [Bool.and_eq_true] at hl
          simp only [Option.bind_eq_some_iff, Option.map_eq_some_iff] at h
          obtain ⟨i, h1, j, h2, q, h3, rfl⟩ := h
          exact ms_setS k (slot_ok h1) (slot_ok h2) (isLc_ok hl.1) (isLc_ok hl.2) (RE _ _ _ h3 X W k).1 (by unfold swapsWithSole; exact sw_false hc.2) (sws_none hc.1)
        · cases h
      simp only [Option.bind_eq_some_iff, Option.map_eq_some_iff] at h
      obtain ⟨is, h1, q, h2, rfl⟩ := h
      exact ms_setT (trTg_ok k (e := .Tuple es kk tp) (t := .tp is) (by simp only [trTg, h1]; rfl)) (RE _ _ _ h2 X W k).1 (by unfold swapsWithSole; exact sw_false hc.2) (sws_none hc.1) rfl
    · split at h
      · rename_i x px y py a b k2 pt2 hc
        split at h
        · rename_i hq
          simp only [Option.bind_eq_some_iff, Option.map_eq_some_iff] at h
          obtain ⟨i, h1, j, h2, p, h3, q, h4, rfl⟩ := h
          simp only [parOk, Bool.and_eq_true, decide_eq_true_eq, Bool.not_eq_true'] at hq
          obtain ⟨⟨⟨⟨⟨⟨⟨q1, q2⟩, q3⟩, q4⟩, q5⟩, q6⟩, q7⟩, q8⟩ := hq
          have z1 : kd.lookup x = some .local := by split at q1 <;> first | assumption | cases q1
          have z2 : kd.lookup y = some .local := by split at q2 <;> first | assumption | cases q2
          have hi := slot_ok h1
          have hj := slot_ok h2
          refine ms_setP k hi hj (fun z => q3 (by subst z; rw [hi] at hj; exact Option.some.inj hj)) z1 z2 (RE _ _ _ h3 X W k).1 (RE _ _ _ h4 X W k).1 q5 q6 ?_
          have kx : X.env.kindOf x = some .local := k.ker x z1
          have ky : X.env.kindOf y = some .local := k.ker y z2
          have bk : X.env.blockKind = .function := by unfold Env.blockKind; rw [k.fk]; rfl
          have n1 : (y == x) = false := by simpa using fun z => q3 z.symm
          have n2 : (x == y) = false := by simpa using q3
          have st : ([a, b].any fun | .Starred .. => true | _ => false) = false := by
            cases a <;> first | (simp [starless] at q5; done) | (cases b <;> first | rfl | (simp [starless] at q6; done))
          have ed : ([x, y] : List Str).eraseDups.length = 2 := by simp [List.eraseDups_cons, n1]
          have fm : ([Expr.Name x px, Expr.Name y py].filterMap fun e => match e with
            | .Name id pos => if (X.env.kindOf id == some .local && pos.line == px.line) = true then some id else none
            | _ => none) = [x, y] := by
            rw [List.filterMap_cons, List.filterMap_cons]
            simp only [kx, ky, q4]
            simp
          show (if (!(true || false) || false || X.env.blockKind != .function) = true then pure none else _) = _
          rw [if_neg (by rw [bk]; decide)]
          show (if ([a, b].any fun | .Starred .. => true | _ => false) = true then pure none else _) = _
          rw [st, if_neg Bool.false_ne_true]
          simp only [List.head?_cons, Option.map_some, Option.getD_some, List.filterMap_cons, List.filterMap_nil, Expr.pos, kx, ky, q4, beq_self_eq_true, Bool.and_self, if_true, ed, q7, q8, List.length_cons, List.length_nil, bne_self_eq_false, Bool.or_self, if_false, Bool.false_eq_true]
        · cases h
      · cases h
  · rename_i a b p e pos
    split at h
    · rename_i hc
      simp only [Bool.and_eq_true, Bool.not_eq_true'] at hc
      simp only [Option.bind_eq_some_iff, Option.map_eq_some_iff] at h
      obtain ⟨p1, h1, p2, h2, p3, h3, rfl⟩ := h
      exact ms_setI k (RE _ _ _ h1 X W k).1 (RE _ _ _ h2 X W k).1 (RE _ _ _ h3 X W k).1 (sw_false hc.1.2) (fun v => by cases b <;> first | rfl | exact absurd hc.2 (by simp [isSl])) (sws_none hc.1.1)
    · cases h
  · split at h
    · rename_i hl
      simp only [Option.bind_eq_some_iff] at h
      obtain ⟨i, h1, h2⟩ := h
      split at h2
      · simp only [Option.map_eq_some_iff] at h2
        obtain ⟨q, h3, rfl⟩ := h2
        exact ms_aug (.inl ⟨rfl, rfl⟩) k (slot_ok h1) (isLc_ok hl) (RE _ _ _ h3 X W k).1
      · simp only [Option.map_eq_some_iff] at h2
        obtain ⟨q, h3, rfl⟩ := h2
        exact ms_aug (.inr ⟨rfl, rfl⟩) k (slot_ok h1) (isLc_ok hl) (RE _ _ _ h3 X W k).1
      · cases h2
    · cases h
  · cases h; exact ms_doc
  · split at h
    · cases h
    · rename_i hc
      simp only [Bool.not_eq_true] at hc
      simp only
          [Option.map_eq_some_iff] at h
      obtain ⟨q, h3, rfl⟩ := h
      exact ms_expr (RE _ _ _ h3 X W k).1 (sw_false hc)
  · simp only [Option.bind_eq_some_iff] at h
    obtain ⟨p, h1, h2⟩ := h
    split at h2
    · rename_i hc
      simp only [Option.bind_eq_some_iff, Option.map_eq_some_iff] at h2
      obtain ⟨s, h3, t, h4, rfl⟩ := h2
      exact ms_if ((RE _ _ _ h1 X W k).2 hc) (trSts_ok R k hp h3) (trSts_ok R k hp h4)
    · cases h2
  · simp only [Option.bind_eq_some_iff] at h
    obtain ⟨p, h1, h2⟩ := h
    split at h2
    · rename_i hc
      simp only [Option.map_eq_some_iff] at h2
      obtain ⟨s, h3, rfl⟩ := h2
      exact ms_while hp ((RE _ _ _ h1 X W k).2 hc) (trSts_ok R k hp h3)
    · cases h2
  · split at h
    · rename_i it _ _ ns
      simp only [Option.bind_eq_some_iff, Option.map_eq_some_iff] at h
      obtain ⟨t, h1, r, h2, s, h3, rfl⟩ := h
      exact ms_for k hp (trSr_ok RE k h2) (trTg_ok k h1) (trSts_ok R k hp h3) fun x => by
        cases it <;> first | rfl | (simp [notSet] at ns; done)
    · cases h
  · cases h; exact ms_pass
  · cases h; exact ms_break
  · cases h; exact ms_continue
  · cases h
theorem ms_nope {X : Cx} {W : WX} {st : Stmt} : PS X st (tS T X.K W F (.exp nope)) := ⟨fun _ _ _ _ _ _ ⟨_, _, _, _, _, h⟩ => by rw [Mi.ex, ev_nope] at h; exact h.elim⟩
theorem trS_ok {kd : Kd} (RE : RecOk G N T F rec) : ∀ n, OneOk G N T F kd (trS N rec kd n)
  | 0 => fun _ _ h => by cases h
  | n + 1 => fun st c h => by
    simp only [trS, Option.some.injEq] at h
    subst h
    cases q : stepS N rec (trS N rec kd n) kd st with
    | none => exact fun X W k hp => ms_nope
    | some c => exact stepS_ok RE (trS_ok RE n) _ _ q
end
end Mi

/-! Mi14: defs of a text, by number of calls left; the law's own call. -/
namespace Mi
open PySem PySem.Spec
    PyProof.Rows L2
section
variable {P : Program} {w : World} {K :
    PySem.W.Frag} {mg : Str → Option Value} {base : Heap}
/-- a def keeps a promise that its body keeps, where nothing shows itself ahead of it -/
theorem fn_G {k : Nat} {f : Addr} {x : Str} {st : Stmt} {fd : FuncData} {N ps : List Str} {sp : Sp} (Fu : Fun K x x st f fd) (S : FnScope N ps (defScope st)) (len : ∀ vs H Q E, sp vs H Q E → vs.length = ps.length)
    (body : ∀ (cdv : Value) (A : Around) (outer : List Env) (s : Shared) (H : Hp) (vs : List V) (Q : VK) (E : XK), Room k (A.deeper (envOfC x (defScope st) s.heap.objs.size f cdv)) → A.guards = some [] → sp vs H Q E →
      ∃ t, PSs (cxOf (L2.CX P w) P w K mg base N x (defScope st) f cdv A outer s H E) (defBody st) t ∧ t ⟨fun _ H' => Q .non H', Q, fun _ _ => False, fun _ _ => False⟩ (L2.start N vs) H) : FnG P w K mg base (k + 1) f fd ps sp := by
  obtain ⟨⟨oc, od, kV, doc, pm, an, cdv, ct, osl, rfl, lk, hcd⟩, _⟩ := Fu
  refine ⟨len, fun A outer s H args us vs Q E room guard env0 binds vals promise => ?_⟩
  have inK : K.In s.heap := env0.mod.kin.keeps fun b o e => (env0.bs b o e).1
  have kinds : ∀ y ∈ ps.zip us, (defScope st).names.lookup y.1 = some .local ∨ ((defScope st).names.lookup y.1 = some .cell ∧ ((cellsFrom (s.heap.objs.size + 1) (defScope st).names []).lookup y.1).isSome = true) := by
    rintro ⟨n, v⟩ hy
    cases S.par n (List.of_mem_zip hy).1 with
    | inl q => exact .inl q
    | inr q => exact .inr ⟨q, PySem.W.cellsFrom_some _ _ _ (.inl q)⟩
  refine codeAny_call_function room.depth (inK _ _ lk) rfl S.co S.gen rfl (PySem.W.codeRec_of inK hcd) (binds _ _ _ _ (wpAny_newFunctionEnv_cells S.kind kinds fun env he s1 laid => ?_))
  subst he
  have nolim : s.heap.NoLimit := env0.mod.nolimit.keeps fun b o e => (env0.bs b o e).1
  refine ⟨nolim.keeps laid.toInCall.keep, codeAny_func ?_⟩
  obtain ⟨t, ht, hq⟩ := body cdv A outer s H vs Q E (room.deeper _) guard promise
  have I := inv_start (CX := L2.CX P w) (E := E) S room.hd env0 (len _ _ _ _ promise) vals laid
  refine wpAny_mono (ht.run [] s1 _ H _ I hq) (fun fl s2 hs => ?_) fun e s2 hs => hs
  match fl, hs with
  | .ret u, ⟨v, σ', H', J, rv, q⟩ => exact ⟨v, H', J.os, J.bare, J.base, J.hok, rv, q⟩
  | .next, ⟨σ', H', J, q⟩ => exact ⟨.non, H', J.os, J.bare, J.base, J.hok, rfl, q⟩
  | .brk, ⟨_, _, _, q⟩ => exact q.elim
  | .cont, ⟨_, _, _, q⟩ => exact q.elim
theorem FnG.mono {j k : Nat} {f : Addr} {fd : FuncData} {ps : List Str} {sp : Sp} (Fn : FnG P w K mg base j f fd ps sp) (h : j ≤ k) : FnG P w K mg base k f fd ps sp :=
  ⟨Fn.len, fun A outer s H args us vs Q E hr => Fn.run A outer s H args us vs Q E (hr.mono h)⟩

/-- a def of the text: its statement, its names by slot, how many are parameters -/
structure Row where
  x : Str
  st : Stmt
  N : List Str
  np : Nat
def scopeOk (r : Row) : Bool := (match (defScope r.st).kind with | .function => true | _ => false) && !(defScope r.st).isCoroutine && !(defScope r.st).isGenerator && decide r.N.Nodup && decide (r.np ≤ r.N.length) &&
  ((r.N.take r.np).all fun x => match (defScope r.st).names.lookup x with | some .local => true | some .cell => true | _ => false) && ((defScope r.st).names.all fun y => match y.2 with | .free => false | _ => true)
theorem scopeOk_ok {r : Row} (h : scopeOk r = true) : FnScope r.N (r.N.take r.np) (defScope r.st) := by
  unfold scopeOk at h
  simp only [Bool.and_eq_true, Bool.not_eq_true', decide_eq_true_eq, List.all_eq_true] at h
  obtain ⟨⟨⟨⟨⟨⟨h1, h2⟩, h3⟩,
      h4⟩, h5⟩, h6⟩, h7⟩ := h
  refine ⟨?_, h2, h3, h4, by rw [List.length_take, Nat.min_eq_left h5], fun x hx => ?_, fun y hy z => ?_⟩
  · split at h1
    · assumption
    · cases h1
  · have q := h6 x hx
    split at q
    · exact .inl (by assumption)
    · exact .inr (by assumption)
    · cases q
  · have q := h7 y hy
    rw [z] at q
    cases q
def trRow (G : Gn) (r : Row) : Option S := trSts (trS r.N (trE G r.N 40) (defScope r.st).names 20) (defBody r.st)
/-- what a def of the text is, behind the top -/
def HasDef (K : PySem.W.Frag) (mg : Str → Option Value) (r : Row) : Prop := ∃ f fd, mg r.x = some (.ref f) ∧ PySem.W.keepIn K (.ref f) = true ∧ Fun K r.x r.x r.st f fd ∧ Binds K fd (r.N.take r.np) []
/-- the text as terms -/
structure Prg (P : Program) (w : World) (K : PySem.W.Frag) (mg : Str → Option Value) (G : Gn) (rows : List Row) (prg : List Df) : Prop where
  defs : ∀ (i : Nat) (r : Row), rows[i]? = some r → HasDef K mg r ∧ scopeOk r = true ∧ ∃ b, trRow G r = some b ∧ prg[i]? = some ⟨r.N.length, r.np, b⟩ ∧ G.nps.getD i 0 = r.np
  fns : ∀ x i, G.fns.lookup x = some i → ∃ r, rows[i]? = some r ∧ r.x = x
  len : prg.length = rows.length
  cns : ∀ x d, G.cns.lookup x = some d → ∃ u v, mg x = some u ∧ RelV v u ∧ ∀ H ι, DV K H ι d v
  dcs : ∀ x c, G.dcs.lookup x = some c → ∃ p, mg x = some (.ref p) ∧ (p == sysModules) = false ∧ ∀ z d, c.lookup z = some d → ∃ v, KDct K w p ⟨z.toArray⟩ v ∧ ∀ H ι, DV K H ι d v
  bls : ∀ x, x ∈ (["len", "repr", "tuple", "list", "sum", "all", "any", "int", "max", "min", "range", "enumerate", "zip", "isinstance", "bool", "str", "dict", "sorted"] : List Str) → mg x = none
theorem SM.pad {H : Hp} {ι : List Addr} : ∀ n : Nat, SM K H ι (List.replicate n none) (List.replicate n none)
  | 0 => .nil
  | n + 1 => .non (SM.pad n)
theorem start_rel {H : Hp} {ι : List Addr} (n : Nat) : ∀ {ds : List D} {vs : List V}, DVs K H ι ds vs → SM K H ι (ds.map some ++ List.replicate n none) (vs.map some ++ List.replicate n none)
  | _, _, .nil => SM.pad n
  | _, _, .cons h r => .som h (start_rel n r)
theorem start_SM {N : List Str} {H : Hp} {ι : List Addr} {ds : List D} {vs : List V} (r : DVs K H ι ds vs) : SM K H ι (ds.map some ++ List.replicate (N.length - ds.length) none) (L2.start N vs) := by
  unfold L2.start
  rw [r.len]
  exact start_rel _ r
theorem spG_len {T : XT} {F : Caller} {r : Row} {i : Nat} (hs : scopeOk r = true) : ∀ vs H Q E, spG T K F r.np i vs H Q E → vs.length = (r.N.take r.np).length := by
  rintro vs H Q E ⟨ds, M, ι, hm, q, hl, h⟩
  unfold scopeOk at hs
  simp only [Bool.and_eq_true, decide_eq_true_eq] at hs
  rw [← q.len, hl, List.length_take, Nat.min_eq_left hs.1.1.2]
theorem callAt_ar {G : Gn} {rows : List Row} {prg : List Df} (Pg : Prg P w K mg G rows prg) (k : Nat) : ∀ f ds M, callAt prg k f ds M ≠ none → ds.length = G.nps.getD f 0 := by
  intro f ds M h
  cases k with
  | zero => exact absurd rfl h
  | succ k =>
    simp only [callAt] at h
    cases q : prg[f]? with
    | none => rw [q] at h; exact absurd rfl h
    | some df =>
      have hf : f < rows.length := by rw [← Pg.len]; exact (List.getElem?_eq_some_iff.mp q).1
      obtain ⟨_, _, b, _, e, en⟩ := Pg.defs f rows[f] (List.getElem?_eq_getElem hf)
      rw [q] at e h
      cases e
      simp only [runDf] at h
      split at h
      · rename_i hl
        rw [en]
        exact hl
      · exact absurd rfl h
theorem all_G {T : XT} {G : Gn} {rows : List Row} {prg : List Df} (Pg : Prg P w K mg G rows prg) (sys : ∃ m, base.Ns sysModules m) : ∀ (k i : Nat) (r : Row), rows[i]? = some r → ∀ f fd, mg r.x = some (.ref f) → Fun K r.x r.x r.st f fd →
    FnG P w K mg base k f fd (r.N.take r.np) (spG T K (callAt prg k) r.np i)
  | 0, i, r, hr, f, fd, _, _ => by
    obtain ⟨_, hs, _⟩ := Pg.defs i r hr
    refine ⟨spG_len hs, fun A outer s H args us vs Q E _ _ _ _ _ h => ?_⟩
    obtain ⟨ds, M, ι, _, _, _, h⟩ := h
    exact h.elim
  | k + 1, i, r, hr, f, fd, hf, Fu => by
    obtain ⟨_, hs, b, hb, hp, hn⟩ := Pg.defs i r hr
    have S := scopeOk_ok hs
    refine fn_G Fu S (spG_len hs) fun cdv A outer s H vs Q E room guard ⟨ds, M, ι, hm, q, hl, h⟩ => ?_
    have tk : Takes (cxOf (L2.CX P w) P w K mg base r.N r.x (defScope r.st) f cdv A outer s H E) (fun cls d _ H => E cls d H) := takes_of rfl rfl rfl rfl
    have ck : Cok (cxOf (L2.CX P w) P w K mg base r.N r.x (defScope r.st) f cdv A outer s H E) G T (callAt prg k) (fun cls d _ H => E cls d H) r.N (defScope r.st).names := {
      hN := rfl
      nd := S.nd
      calm := rfl
      loc := fun x h => ⟨.inl h, .inl rfl⟩
      cel := fun x h => ⟨.inr h, .inl rfl⟩
      fre := fun x h => .inr (.inr h)
      glo := fun x h => h
      fns := fun x i' hx => by
        obtain ⟨r', hr', rfl⟩ := Pg.fns x i' hx
        obtain ⟨⟨f', fd', h1, h2, h3, h4⟩, _, _, _, _, hn'⟩ := Pg.defs i' r' hr'
        exact ⟨f', fd', _, k, h1, h2, h4, room, by rw [hn']; exact all_G Pg sys k i' r' hr' f' fd' h1 h3⟩
      cns := Pg.cns
      dcs := Pg.dcs
      bls := Pg.bls
      room := room.mono (Nat.zero_le _)
      grd := guard
      tk := tk
      sys := sys
      fk := S.kind
      cap := fun x h => h
      ker := fun x h => h
      ar := callAt_ar Pg k }
    refine ⟨tS T K (fun cls d _ H => E cls d H) (callAt prg k) b, trSts_ok (trS_ok (trE_ok 40) 20) ck (passes_of rfl) hb, _, M, ι, start_SM q, hm, ?_⟩
    simp only [callAt, hp, runDf] at h
    rw [if_pos hl] at h
    match z : ex (callAt prg k) b (ds.map some ++ List.replicate (r.N.length - ds.length) none) M with
    | none => rw [z] at h; exact h.elim
    | some (.bk _ _) => rw [z] at h; exact h.elim
    | some (.ct _ _) => rw [z] at h; exact h.elim
    | some (.exc y σ M1) => rw [z] at h; exact fun cls dx τ' H' ι' e m _ t => h cls dx H' ι' e m t
    | some (.rt d M1) =>
      rw [z] at h
      intro v H' ι' e m dv
      obtain ⟨d', M', ι2, q1, q2, q3, q4⟩ := leave_ok hm e m dv
      have h : PostE T K (fun cls dx _ H' => E cls dx H') [] H ι (leave M d M1) Q := h
      rw [q1] at h
      exact h v H' ι2 q2 q3 q4
    | some (.nx σ M1) =>
      rw [z] at h
      intro τ' H' ι' e m _
      obtain ⟨d', M', ι2, q1, q2, q3, q4⟩ := leave_ok hm e m (.non)
      have h : PostE T K (fun cls dx _ H' => E cls dx H') [] H ι (leave M .non M1) Q := h
      rw [q1] at h
      exact h .non H' ι2 q2 q3 q4
end
end Mi

/-! Mi15: a law's call, over the text as terms. -/
namespace Mi
open PySem PySem.Spec
    PyProof.Rows L2
theorem HM.nil {K : PySem.W.Frag} {H : Hp} : HM K H [] [] := ⟨rfl, fun i j a o o' h => by simp at h, fun i a o h => by simp at h⟩
abbrev TF : XT := fun _ _ _ _ _ => False
/-- what holds ahead of a law's call -/
structure Ahead (w : World) (K : PySem.W.Frag) (mg mb : Str → Option Value) (h : Heap) : Prop where
  kin : K.In h
  ns : h.Ns mainGlobals mg
  bns : h.Ns builtinsNs mb
  blt : ∀ x : Str, x ≠ "__name__" → mb x = bootBuiltins x
  lim : h.NoLimit
  sys : ∃ m, h.Ns sysModules m
/-- the law's call from a tracked heap in which at most the script stands -/
theorem law_at {P : Program} {w : World} {K : PySem.W.Frag} {mg mb : Str → Option Value} {k : Nat} {fa a : Addr} {fd : FuncData} {x : Str} {sp : Sp} {s : Shared} {vs : List Value} (Z : Ahead w K mg mb s.heap) (hg : s.gens = #[])
    (ha : s.heap.get? a = some { cls := .type "list", data := .seq vs.toArray }) (hr : Room k callerA) (F : ∀ base : Heap, (∃ m, base.Ns sysModules m) → FnG P w K mg base k fa fd [x] sp) (hb : BindsTo s fd ⟨[.ref a], []⟩ [(x, .ref a)])
    (H : Hp) (H1 : ∀ b u, H b = some u → b = a ∧ K.lookup a = none ∧ ∃ o ys, u = .frz o (.lst ys)) (hok : HOk P w H s.heap) (hs : sp [.ref a] H (fun v _ => v = .bl true) fun _ _ _ => False) :
    codeAny (model P w) callerA (.call (.ref fa) ⟨[.ref a], []⟩) (fun r s2 => r = .ok (.ret (.bool true)) ∧ OldK s.heap s2.heap ∧ s2.os = s.os ∧ AllBare s2.gens) s := by
  have free : ∀ b, b ≠ a → H b = none := fun b hb => by
    cases q : H b with
    | none => rfl
    | some u => exact absurd (H1 b u q).1 hb
  have kept : ∀ {b : Addr} {m : Str → Option Value}, s.heap.Ns b m → (hidT s.heap H).Ns b m := fun {b m} y => by
    obtain ⟨o, es, ep, e, d, z⟩ := y
    refine ⟨o, es, ep, hidT_get e (free b fun q => ?_), d, z⟩
    subst q
    rw [ha] at e
    cases e
    cases d
  have keptK : K.In (hidT s.heap H) := fun b o e => hidT_get (Z.kin b o e) (by
    cases q : H b with
    | none => rfl
    | some u =>
      obtain ⟨z1, z2, _⟩ := H1 b u q
      rw [z1, z2] at e
      cases e)
  have sys : ∃ m, (hidT s.heap H).Ns sysModules m := Z.sys.imp fun m y => kept y
  have env : Env0 P w K mg (hidT s.heap H) callerA [] s H :=
    ⟨rfl, ⟨keptK, kept Z.ns, ⟨mb, kept Z.bns, Z.blt⟩, Z.lim.imp fun m y => ⟨kept y.1, y.2⟩⟩, fun b o e => of_hidT e, Nat.le_of_eq (hidT_size _ _), trivial, fun b hb => absurd hb List.not_mem_nil, hok, .of_eq hg⟩
  refine codeAny_mono ((F _ sys).run callerA [] s H ⟨[.ref a], []⟩ [.ref a] [.ref a] _ _ hr rfl env hb (.cons rfl .nil) hs) fun r s2 h => ?_
  match r, h with
  | .error e, ⟨_, _, _, _, _, _, _, _, _, _, _, _, z⟩ => exact z.elim
  | .ok (.ret u), ⟨v, H2, os, bare, un, hok2, rv, q⟩ =>
    have q : v = .bl true := q
    subst q
    cases (show u = Value.bool true from rv)
    refine ⟨rfl, OldK.of_keep
        fun b o e => ?_, os, bare⟩
    cases q : H b with
    | none => exact un.keep b o e q (fun z => by cases z) (by simp)
    | some t =>
      obtain ⟨_, _, ob, ys, rfl⟩ := H1 b t q
      have e1 := (hok b _ q).1
      have e2 := (hok2 b _ (un.frzs b ob _ q)).1
      rw [e] at e1
      cases e1
      exact e2
theorem law_G {P : Program} {w : World} {K : PySem.W.Frag} {mg mb : Str → Option Value} {k i : Nat} {fa a : Addr} {fd : FuncData} {x : Str} {F : Caller} {s : Shared} {vs : List Value} {ns : List Int} (Z : Ahead w K mg mb s.heap) (hg : s.gens = #[])
    (ha : s.heap.get? a = some { cls := .type "list", data := .seq vs.toArray }) (hi : IntsAre vs ns) (hl : ns.length ≤ sizeLine) (hr : Room k callerA) (Fn : ∀ base : Heap, (∃ m, base.Ns sysModules m) → FnG P w K mg base k fa fd [x] (spG TF K F 1 i)) (hb : BindsTo s fd ⟨[.ref a], []⟩ [(x, .ref a)])
    (law : ∃ M, F i [.rol ns] [] = some (.ok (.bl true) M)) :
    codeAny (model P w) callerA (.call (.ref fa) ⟨[.ref a], []⟩) (fun r s2 => r = .ok (.ret (.bool true)) ∧ OldK s.heap s2.heap ∧ s2.os = s.os ∧ AllBare s2.gens) s := by
  obtain ⟨M, hM⟩ := law
  have rv := vals_ints hi
  have n := hi.length
  have sp : ∀ H : Hp, SqR K H a (ns.map V.int) → spG TF K F 1 i [.ref a] H (fun v _ => v = .bl true) fun _ _ _ => False := fun H q => by
    refine ⟨[.rol ns], [], [], HM.nil, .cons (.rol q) .nil, rfl, ?_⟩
    rw [hM]
    intro v H' ι' e m d
    cases d
    rfl
  cases hk : K.lookup a with
  | some o =>
    have e := Z.kin a o hk
    rw [ha] at e
    cases e
    refine law_at Z hg ha hr Fn hb (fun _ => none) (fun b u q => by cases q) (fun b u q => by cases q) (sp _ (.inr fun H' => .inr ⟨_, vs.toArray, _, hk, rfl, rfl, rfl, ?_, by simpa using rv⟩))
    rw [List.size_toArray, n]
    exact hl
  | none =>
    refine law_at Z hg ha hr Fn hb (fun b => if b = a then some (.frz { cls := .type "list", data := .seq vs.toArray } (.lst (ns.map V.int))) else none) (fun b u q => ?_) (fun b u q => ?_) (sp _ (.inl ⟨_, if_pos rfl⟩))
    · have q : (if b = a then some (HO.frz { cls := .type "list", data := .seq vs.toArray } (.lst (ns.map V.int))) else none) = some u := q
      split at q
      · rename_i e
        cases q
        exact ⟨e, hk, _, _, rfl⟩
      · cases q
    · have q : (if b = a then some (HO.frz { cls := .type "list", data := .seq vs.toArray } (.lst (ns.map V.int))) else none) = some u := q
      split at q
      · rename_i e
        cases q
        subst e
        refine ⟨ha, ?_, vs, _, rv, ha⟩
        rw [List.length_map]
        exact hl
      · cases q
/-- THE END: the goal that the head leaves, from the law as terms -/
theorem walk_G {l : PySem.W.OpenLaw} {n k i : Nat} {q : Program} {loose : List Str} {XP : (Str → Option Value) → Heap → Prop} {YP : World → Heap → Prop} {d : DefRec} {K : Params → PySem.W.Frag} {G : Gn} {rows : List Row} {prg : List Df} {r : Row}
    (hn : l.most = some n) (hn2 : n ≤ sizeLine) (hdf : d.params.defaults = []) (hr : Room k callerA) (hq : importsNone q = true) (hY : ∀ (w : World) (h : Heap), YP w h → (K w.params).In h)
    (hi : rows[i]? = some r) (hx : r.x = d.name) (hnp : r.np = 1)
    (Pg : ∀ (w : World) (mg : Str → Option Value) (h : Heap), (K w.params).In h → h.Ns mainGlobals mg → Prg l.prog w (K w.params) mg G rows prg)
    (law : ∀ ns : List Int, ns.length ≤ n → (∀ z ∈ ns, Builtin.Int.intBits z ≤ 1048576) → ∃ M, callAt prg k i [.rol ns] [] = some (.ok (.bl true) M)) :
    PySem.W.WalkO q loose XP YP l.row.toRowW
        d [] (fun f vs => PySem.call f vs) := by
  refine Att.attach_callB hn hdf fun w s₀ s mg mb fa o pm cd doc a vs ns g Y ho hd hcd hmg hobj hints hlen hbits hgens => ?_
  have kx := hY w _ Y
  have pg := Pg w mg _ kx g.T.g
  obtain ⟨⟨f, fd, h1, h2, h3, h4⟩, hs, b, hb, hp, hnp2⟩ := pg.defs i r hi
  rw [hx] at h1
  rw [hmg] at h1
  cases h1
  have hps : ∃ x, r.N.take r.np = [x] := by
    have S := scopeOk_ok hs
    have hl : (r.N.take r.np).length = 1 := by
      unfold scopeOk at hs
      simp only [Bool.and_eq_true, decide_eq_true_eq] at hs
      rw [List.length_take, Nat.min_eq_left hs.1.1.2, hnp]
    match z : r.N.take r.np, hl with
    | [x], _ => exact ⟨x, rfl⟩
  obtain ⟨x, hps⟩ := hps
  have Z : Ahead w (K w.params) mg mb s.heap := ⟨kx, g.T.g, g.T.b, g.T.builtins, g.T.nolimit, (g.T.seer hq).mods.imp fun m y => y.1⟩
  refine law_G (fd := fd) (i := i) (x := x) (F := callAt prg k) Z hgens hobj hints (Nat.le_trans hlen hn2) hr (fun base sys => ?_) ?_ (law ns hlen hbits)
  · have z := all_G (T := TF) pg sys k i r hi fa fd (by rw [hx]; exact hmg) h3
    rw [hps, hnp] at z
    exact z
  · have z := h4 s [.ref a] kx (by rw [hps]; rfl)
    rw [hps] at z
    exact z
end Mi

/-! Mi16: the ties of a text. -/
namespace Mi
open PySem PySem.Spec
    PyProof.Rows L2
section
variable {P : Program} {w : World} {K : PySem.W.Frag} {mg : Str → Option Value} {h : Heap} {G : Gn}
def HasFn (K : PySem.W.Frag) (x : Str) (st : Stmt) : Prop := ∃ f fd, PySem.W.nsIn K mainGlobals x = some (some (.ref f)) ∧ Fun K x x st f fd
theorem hasFn {x : Str} {st : Stmt} {f : Addr} {oc : Value} {od an : Option Addr} {osl : Array (Option Value)} {kV doc pm cdv ct : Value} (a : PySem.W.nsIn K mainGlobals x = some (some (.ref f)))
    (l : K.lookup f = some ⟨oc, od, .func (PySem.W.fnOf x x (defArgs st) (defBody st) (defScope st) .none kV doc pm an cdv ct), osl⟩) (c : PySem.W.codeIn K cdv x = true) (k : PySem.W.keepIn K (.ref f) = true) : HasFn K x st := ⟨f, _, a, fun_mk l c k⟩
def Simple (r : Row) : Prop := ∀ (kV doc pm : Value) (an : Option Addr) (cdv ct : Value) (us : List Value), us.length = (r.N.take r.np).length → bindArgs (PySem.W.fnOf r.x r.x (defArgs r.st) (defBody r.st) (defScope r.st) .none kV doc pm an cdv ct) ⟨us, []⟩ = pure ((r.N.take r.np).zip us)
def Ties (K : PySem.W.Frag) (G : Gn) : List Row → List Df → List Nat → Prop
  | [], [], [] => True
  | r :: rs, ⟨n, np, b⟩ :: ds, m :: ms => (HasFn K r.x r.st ∧ Simple r ∧ scopeOk r = true ∧ trRow G r = some b ∧ n = r.N.length ∧ np = r.np ∧ m = r.np) ∧ Ties K G rs ds ms
  | _, _, _ => False
theorem Ties.len : ∀ {rs : List Row} {ds : List Df} {ms : List Nat}, Ties K G rs ds ms → ds.length = rs.length
  | [], [], [], _ => rfl
  | _ :: _, _ :: _, _ :: _, z => congrArg (· + 1) z.2.len
theorem Ties.at (X : K.In h) (N : h.Ns mainGlobals mg) : ∀ {rs : List Row} {ds : List Df} {ms : List Nat}, Ties K G rs ds ms → ∀ i r, rs[i]? = some r →
    HasDef K mg r ∧ scopeOk r = true ∧ ∃ b, trRow G r = some b ∧ ds[i]? = some ⟨r.N.length, r.np, b⟩ ∧ ms.getD i 0 = r.np
  | r :: rs, ⟨n, np, b⟩ :: ds, m :: ms, z, 0, r', e => by
    cases e
    obtain ⟨⟨⟨f, fd, q1, q2⟩, q3, q4, q5, rfl, rfl, rfl⟩, _⟩ := z
    exact ⟨⟨f, fd, PySem.W.mg_of X N q1, q2.kp, q2, q2.binds q3⟩, q4, b, q5, rfl, rfl⟩
  | r :: rs, ⟨n, np, b⟩ :: ds, m :: ms, z, i + 1, r', e => by
    have := Ties.at X N z.2 i r' (by simpa using e)
    simpa using this
def fnsOk (G : Gn) (rows : List Row) : Bool := G.fns.all fun p => match rows[p.2]? with
  | some r => decide (r.x = p.1)
  | none => false
theorem bls_of (X : K.In h) (N : h.Ns mainGlobals mg) (z0 : PySem.W.nsIn K mainGlobals "len" = some none) (z1 : PySem.W.nsIn K mainGlobals "repr" = some none) (z2 : PySem.W.nsIn K mainGlobals "tuple" = some none) (z3 : PySem.W.nsIn K mainGlobals "list" = some none)
    (z4 : PySem.W.nsIn K mainGlobals "sum" = some none) (z5 : PySem.W.nsIn K mainGlobals "all" = some none) (z6 : PySem.W.nsIn K mainGlobals "any" = some none) (z7 : PySem.W.nsIn K mainGlobals "int" = some none) (z8 : PySem.W.nsIn K mainGlobals "max" = some none)
    (z9 : PySem.W.nsIn K mainGlobals "min" = some none) (z10 : PySem.W.nsIn K mainGlobals "range" = some none) (z11 : PySem.W.nsIn K mainGlobals "enumerate" = some none) (z12 : PySem.W.nsIn K mainGlobals "zip" = some none) (z13 : PySem.W.nsIn K mainGlobals "isinstance" = some none)
    (z14 : PySem.W.nsIn K mainGlobals "bool" = some none) (z15 : PySem.W.nsIn K mainGlobals "str" = some none) (z16 : PySem.W.nsIn K mainGlobals "dict" = some none) (z17 : PySem.W.nsIn K mainGlobals "sorted" = some none) :
    ∀ x, x ∈ (["len", "repr", "tuple", "list", "sum", "all", "any", "int", "max", "min", "range", "enumerate", "zip", "isinstance", "bool", "str", "dict", "sorted"] : List Str) → mg x = none := by
  have no := fun {x : Str} (e : PySem.W.nsIn K mainGlobals x = some none) => PySem.W.mg_none_of X N e
  refine List.forall_mem_cons.mpr ⟨no z0, List.forall_mem_cons.mpr ⟨no z1, List.forall_mem_cons.mpr ⟨no z2, List.forall_mem_cons.mpr ⟨no z3, List.forall_mem_cons.mpr ⟨no z4, List.forall_mem_cons.mpr ⟨no z5, ?_⟩⟩⟩⟩⟩⟩
  refine List.forall_mem_cons.mpr ⟨no z6, List.forall_mem_cons.mpr ⟨no z7, List.forall_mem_cons.mpr ⟨no z8, List.forall_mem_cons.mpr ⟨no z9, List.forall_mem_cons.mpr ⟨no z10, List.forall_mem_cons.mpr ⟨no z11, ?_⟩⟩⟩⟩⟩⟩
  exact List.forall_mem_cons.mpr ⟨no z12, List.forall_mem_cons.mpr ⟨no z13, List.forall_mem_cons.mpr ⟨no z14, List.forall_mem_cons.mpr ⟨no z15, List.forall_mem_cons.mpr ⟨no z16, List.forall_mem_cons.mpr ⟨no z17, fun x hx => by cases hx⟩⟩⟩⟩⟩⟩
def HasCn (K : PySem.W.Frag) (x : Str) (d : D) : Prop := ∃ u v, PySem.W.nsIn K mainGlobals x = some (some u) ∧ RelV v u ∧ ∀ H ι, DV K H ι d v
theorem hasInt {x : Str} {i : Int} {t : Tok} (a : PySem.W.nsIn K mainGlobals x = some (some (.int i t))) : HasCn K x (.int i) := ⟨_, .int i, a, ⟨t, rfl⟩, fun _ _ => .int i⟩
theorem hasStr {x : Str} {s : Str} {l : List Nat} {t : Tok} (a : PySem.W.nsIn K mainGlobals x = some (some (.str s t))) (e : s.cps.toList = l) : HasCn K x (.str l) :=
  ⟨_, .str s, a, ⟨t, rfl⟩, fun _ _ => by subst e; obtain ⟨⟨l⟩⟩ := s; exact .str l⟩
theorem lookup_in {z : List Nat} {d : D} : ∀ {c : List (List Nat × D)}, c.lookup z = some d → (z, d) ∈ c
  | [], h => by cases h
  | (a, b) :: r, h => by
    rw [List.lookup_cons] at h
    by_cases e : z = a
    · subst e
      simp at h
      rw [h]
      exact List.mem_cons_self
    · have : (z == a) = false := beq_eq_false_iff_ne.mpr e
      rw [this] at h
      exact List.mem_cons_of_mem _ (lookup_in h)
/-- a dict of the module, its keys texts -/
def HasDc (K : PySem.W.Frag) (w : World) (x : Str) (c : List (List Nat × D)) : Prop := ∃ p es n, PySem.W.nsIn K mainGlobals x = some (some (.ref p)) ∧ K.lookup p = some ⟨.type "dict", none, .dict es n, #[]⟩ ∧ PySem.W.KeysLit w.params es.toList ∧ (p == sysModules) = false ∧
  ∀ e ∈ c, ∃ u v, PySem.W.nsIn K p ⟨e.1.toArray⟩ = some (some u) ∧ RelV v u ∧ ∀ H ι, DV K H ι e.2 v
theorem hasDc {x : Str} {c : List (List Nat × D)} {p : Addr} {es : Array DictEntry} {n : Nat} (a : PySem.W.nsIn K mainGlobals x = some (some (.ref p))) (l : K.lookup p = some ⟨.type "dict", none, .dict es n, #[]⟩) (kl : PySem.W.KeysLit w.params es.toList) (low : (p == sysModules) = false)
    (h : ∀ e ∈ c, ∃ u v, PySem.W.nsIn K p ⟨e.1.toArray⟩ = some (some u) ∧ RelV v u ∧ ∀ H ι, DV K H ι e.2 v) : HasDc K w x c := ⟨p, es, n, a, l, kl, low, h⟩
theorem keyInt {p : Addr} {z : List Nat} {i : Int} {s : Str} {t : Tok} (a : PySem.W.nsIn K p s = some (some (.int i t))) (e : (⟨z.toArray⟩ : Str) = s) : ∃ u v, PySem.W.nsIn K p ⟨z.toArray⟩ = some (some u) ∧ RelV v u ∧ ∀ H ι, DV K H ι (.int i) v :=
  ⟨_, .int i, by rw [e]; exact a, ⟨t, rfl⟩, fun _ _ => .int i⟩
theorem prg_of (X : K.In h) (N : h.Ns mainGlobals mg) {rows : List Row} {prg : List Df} (t : Ties K G rows prg G.nps) (f : fnsOk G rows = true) (c : ∀ p ∈ G.cns, HasCn K p.1 p.2) (dc : ∀ p ∈ G.dcs, HasDc K w p.1 p.2)
    (b : ∀ x, x ∈ (["len", "repr", "tuple", "list", "sum", "all", "any", "int", "max", "min", "range", "enumerate", "zip", "isinstance", "bool", "str", "dict", "sorted"] : List Str) → mg x = none) : Prg P w K mg G rows prg where
  defs := t.at X N
  fns := fun x i e => by
    unfold fnsOk at f
    have q := List.all_eq_true.mp f (x, i) (PySem.mem_of_lookup e)
    simp only at q
    split at q
    · rename_i r hr
      exact ⟨r, hr, of_decide_eq_true q⟩
    · cases q
  len := t.len
  cns := fun x d e => by
    obtain ⟨u, v, q1, q2, q3⟩ := c (x, d) (PySem.mem_of_lookup e)
    exact ⟨u, v, PySem.W.mg_of X N q1, q2, q3⟩
  dcs := fun x c' e => by
    obtain ⟨p, es, n, q1, q2, q3, q4, q5⟩ := dc (x, c') (PySem.mem_of_lookup e)
    refine ⟨p, PySem.W.mg_of X N q1, q4, fun z d hz => ?_⟩
    obtain ⟨u, v, q6, q7, q8⟩ := q5 (z, d) (lookup_in hz)
    exact ⟨v, ⟨es, n, u, q2, q3, q6, q7⟩, q8⟩
  bls := b
end
end Mi

/-! Pu1: what is asked of a run: a small calculus over the terms. -/
namespace Mi
open PySem

def Ret {α : Type} (r : R α) (Φ : α → Hm → Prop) : Prop := match r with
  | some (.ok a M) => Φ a M
  | _ => False
theorem Ret.mono {α : Type} {r : R α} {Φ Ψ : α → Hm → Prop} (h : Ret r Φ) (k : ∀ a M, Φ a M → Ψ a M) : Ret r Ψ := by
  match r, h with
  | some (.ok a M), h => exact k a M h
theorem Ret_ok {α : Type} {a : α} {M : Hm} {Φ : α → Hm → Prop} : Ret (ok a M) Φ ↔ Φ a M := Iff.rfl
theorem Ret_bnd {α β : Type} {x : R α} {f : α → Hm → R β} {Φ : β → Hm → Prop} : Ret (bnd x f) Φ ↔ Ret x fun a M => Ret (f a M) Φ := by
  match x with
  | none => exact Iff.rfl
  | some (.ok a M) => exact Iff.rfl
  | some (.exc e M) => exact Iff.rfl
theorem Ret_ifo {α : Type} {c : Bool} {x : R α} {Φ : α → Hm → Prop} : Ret (ifo c x) Φ ↔ c = true ∧ Ret x Φ := by
  cases c with
  | true => simp [ifo]
  | false => simp [ifo, Ret]
theorem Ret.ex {α : Type} {r : R α} {Φ : α → Hm → Prop} (h : Ret r Φ) : ∃ a M, r = some (.ok a M) ∧ Φ a M := by
  match r, h with
  | some (.ok a M), h => exact ⟨a, M, rfl, h⟩
theorem Ret.eq {α : Type} {r : R α} {a : α} {M : Hm} {Φ : α → Hm → Prop} (e : r = ok a M) (h : Φ a M) : Ret r Φ := by rw [e]; exact h
def Wp (r : RS) (N : Sl → Hm → Prop) (R : D → Hm → Prop) (B C : Sl → Hm → Prop) : Prop := match r with
  | some (.nx σ M) => N σ M
  | some (.rt d M) => R d M
  | some (.bk σ M) => B σ M
  | some (.ct σ M) => C σ M
  | _ => False
theorem Wp.mono {r : RS} {N N' : Sl → Hm → Prop} {R R' : D → Hm → Prop} {B C B' C' : Sl → Hm → Prop} (h : Wp r N R B C) (n : ∀ σ M, N σ M → N' σ M) (t : ∀ d M, R d M → R' d M) (b : ∀ σ M, B σ M → B' σ M) (c : ∀ σ M, C σ M → C' σ M) : Wp r N' R' B' C' := by
  match r, h with
  | some (.nx σ M), h => exact n σ M h
  | some (.rt σ M), h => exact t σ M h
  | some (.bk σ M), h => exact b σ M h
  | some (.ct σ M), h => exact c σ M h
theorem Wp.next {r : RS} {N N' : Sl → Hm → Prop} {R : D → Hm → Prop} {B C : Sl → Hm → Prop} (h : Wp r N R B C) (n : ∀ σ M, N σ M → N' σ M) : Wp r N' R B C := h.mono n (fun _ _ z => z) (fun _ _ z => z) fun _ _ z => z
section
variable {N : Sl → Hm → Prop} {R : D → Hm → Prop} {B C : Sl → Hm → Prop} {F : Caller} {σ : Sl} {M : Hm}
theorem Wp_nx : Wp (some (.nx σ M)) N R B C ↔ N σ M := Iff.rfl
theorem Wp_bk : Wp (some (.bk σ M)) N R B C ↔ B σ M := Iff.rfl
theorem Wp_ct : Wp (some (.ct σ M)) N R B C ↔ C σ M := Iff.rfl
theorem Wp_rt {d : D} : Wp (some (.rt d M)) N R B C ↔ R d M := Iff.rfl
theorem Wp_bndS {α : Type} {x : Mi.R α} {f : α → Hm → RS} : Wp (bndS x σ f) N R B C ↔ Ret x fun a M => Wp (f a M) N R B C := by
  match x with
  | none => exact Iff.rfl
  | some (.ok a M) => exact Iff.rfl
  | some (.exc e M) => exact Iff.rfl
theorem Wp_thenS {x : RS} {f : Sl → Hm → RS} : Wp (thenS x f) N R B C ↔ Wp x (fun σ M => Wp (f σ M) N R B C) R B C := by
  match x with
  | none => exact Iff.rfl
  | some (.nx _ _) => exact Iff.rfl
  | some (.rt _ _) => exact Iff.rfl
  | some (.bk _ _) => exact Iff.rfl
  | some (.ct _ _) => exact Iff.rfl
  | some (.exc _ _ _) => exact Iff.rfl
theorem Wp_ite {c : Bool} {a b : RS} : Wp (if c then a else b) N R B C ↔ if c then Wp a N R B C else Wp b N R B C := by
  cases c <;> exact Iff.rfl
/-- a def is run -/
theorem Ret_run {f : Df} {ds : List D} {Φ : D → Hm → Prop} (h : ds.length = f.np) (w : Wp (ex F f.bd (ds.map some ++ List.replicate (f.nm - ds.length) none) M) (fun _ M1 => Ret (leave M .non M1) Φ) (fun d M1 => Ret (leave M d M1) Φ) (fun _ _ => False) fun _ _ => False) : Ret (runDf F f ds M) Φ := by
  unfold runDf
  rw [if_pos h]
  match z : ex F f.bd (ds.map some ++ List.replicate (f.nm - ds.length) none) M, w with
  | some (.nx _ _), w => exact w
  | some (.rt _ _), w => exact w
  | some (.bk _ _), w => exact w.elim
  | some (.ct _ _), w => exact w.elim
theorem Ret_call {prg : List Df} {k i : Nat} {f : Df} {ds : List D} {Φ : D → Hm → Prop} (e : prg[i]? = some f) (h : Ret (runDf (callAt prg k) f ds M) Φ) : Ret (callAt prg (k + 1) i ds M) Φ := by
  simp only [callAt, e]
  exact h
end

/-! ### cuts -/
mutual
theorem ren_low {n : Nat} {f : Nat → Nat} (hf : ∀ i, i < n → f i = i) : ∀ {d : D}, d.low n = true → d.ren f = d
  | .ref i, h => by simp only [D.low, decide_eq_true_eq] at h; simp only [D.ren, hf i h]
  | .tup ds, h => by simp only [D.low] at h; simp only [D.ren, rens_low hf h]
  | .non, _ => rfl
  | .bl _, _ => rfl
  | .int _, _ => rfl
  | .str _, _ => rfl
  | .rol _, _ => rfl
theorem rens_low {n : Nat} {f : Nat → Nat} (hf : ∀ i, i < n → f i = i) : ∀ {ds : List D}, D.lows n ds = true → D.rens f ds = ds
  | [], _ => rfl
  | d :: r, h => by
    simp only [D.lows, Bool.and_eq_true] at h
    simp only [D.rens, ren_low hf h.1, rens_low hf h.2]
end
mutual
theorem refs_low {n : Nat} : ∀ {d : D}, d.low n = true → d.refs n = []
  | .ref i, h => by simp only [D.low, decide_eq_true_eq] at h; simp only [D.refs, if_pos h]
  | .tup ds, h => by simp only [D.low] at h; simp only [D.refs, refss_low h]
  | .non, _ => rfl
  | .bl _, _ => rfl
  | .int _, _ => rfl
  | .str _, _ => rfl
  | .rol _, _ => rfl
theorem refss_low {n : Nat} : ∀ {ds : List D}, D.lows n ds = true → D.refss n ds = []
  | [], _ => rfl
  | d :: r, h => by
    simp only [D.lows, Bool.and_eq_true] at h
    simp only [D.refss, refs_low h.1, refss_low h.2, List.append_nil]
end
mutual
theorem low_le {n m : Nat} (hm : n ≤ m) : ∀ {d : D}, d.low n = true → d.low m = true
  | .ref i, h => by simp only [D.low, decide_eq_true_eq] at h ⊢; omega
  | .tup ds, h => by simp only [D.low] at h ⊢; exact lows_le hm h
  | .non, _ => rfl
  | .bl _, _ => rfl
  | .int _, _ => rfl
  | .str _, _ => rfl
  | .rol _, _ => rfl
theorem lows_le {n m : Nat} (hm : n ≤ m) : ∀ {ds : List D}, D.lows n ds = true → D.lows m ds = true
  | [], _ => rfl
  | d :: r, h => by
    simp only [D.lows, Bool.and_eq_true] at h ⊢
    exact ⟨low_le hm h.1, lows_le hm h.2⟩
end
theorem place_lt {n : Nat} {rs : List Nat} (i : Nat) (h : i < n) : place n rs i = i := if_pos h
/-- all that stood in M0 but what is at p, where something low stands -/
def Kept (p : Nat → Prop) (M0 M : Hm) : Prop := M0.length ≤ M.length ∧ ∀ i, i < M0.length → M[i]? = M0[i]? ∨ (p i ∧ ∃ o, M[i]? = some o ∧ o.low M0.length = true)
theorem kept_of {p : Nat → Prop} {M0 M : Hm} (h : Kept p M0 M) : kept M0 M = true := by
  unfold kept
  simp only [Bool.and_eq_true, decide_eq_true_eq, List.all_eq_true, List.mem_range]
  refine ⟨h.1, fun i hi => ?_⟩
  have e0 := List.getElem?_eq_getElem hi
  rcases h.2 i hi with e | ⟨_, o, e, l⟩
  · rw [e, e0]
    simp
  · rw [e, e0]
    simp [l]
/-- a plain value leaves: the heap is cut -/
theorem leave_low {p : Nat → Prop} {M0 M : Hm} {d : D} (h : Kept p M0 M) (l : d.low M0.length = true) : leave M0 d M = ok d (M.take M0.length) := by
  unfold leave
  split
  · rename_i e
    rw [← e, List.take_length]
  · rw [refs_low l]
    have c : cuts M0 M (dd []) = true := by
      unfold cuts
      rw [kept_of h]
      rfl
    simp only [c, if_true, ren_low (fun i hi => place_lt i hi) l]
    show ok d (M.take M0.length ++ []) = _
    rw [List.append_nil]
/-- a new object leaves, which holds nothing new -/
theorem leave_ref {p : Nat → Prop} {M0 M : Hm} {i : Nat} {o : MO} (h : Kept p M0 M) (hi : M0.length ≤ i) (e : M[i]? = some o) (l : o.low M0.length = true) : leave M0 (.ref i) M = ok (.ref M0.length) (M.take M0.length ++ [o]) := by
  have hl := (List.getElem?_eq_some_iff.mp e).1
  unfold leave
  rw [if_neg (by omega)]
  have r : dd ((D.ref i).refs M0.length) = [i] := by
    simp only [D.refs, if_neg (show ¬ i < M0.length by omega)]
    rfl
  rw [r]
  have c : cuts M0 M [i] = true := by
    unfold cuts
    rw [kept_of h]
    simp [e, l]
  simp only [c, if_true, D.ren, place, if_neg (show ¬ i < M0.length by omega)]
  unfold pick
  simp [e]
/-- behind a turn: what is low stays as it is -/
theorem leaveS_low {M0 M : Hm} {σ : Sl} (h : M0.length ≤ M.length) : ∃ f : Nat → Nat, (∀ i, i < M0.length → f i = i) ∧ (leaveS M0 σ M).1 = slRen f σ ∧ (∀ i, i < M0.length → (leaveS M0 σ M).2[i]? = M[i]?) ∧ M0.length ≤ (leaveS M0 σ M).2.length := by
  have idr : ∀ σ : Sl, slRen id σ = σ := fun σ => by
    have one : ∀ d : D, d.ren id = d := fun d => by
      have : ∃ n, d.low n = true := by
        have key : ∀ d : D, ∃ n, d.low n = true := fun d => by
          induction d using D.rec (motive_2 := fun ds => ∃ n, D.lows n ds = true) with
          | ref i => exact ⟨i + 1, by simp [D.low]⟩
          | tup ds ih => obtain ⟨n, hn⟩ := ih; exact ⟨n, by simpa only [D.low] using hn⟩
          | nil => exact ⟨0, rfl⟩
          | cons d ds ih1 ih2 =>
            obtain ⟨n, hn⟩ := ih1
            obtain ⟨m, hm⟩ := ih2
            exact ⟨max n m, by simp only [D.lows, Bool.and_eq_true]; exact ⟨low_le (Nat.le_max_left _ _) hn, lows_le (Nat.le_max_right _ _) hm⟩⟩
          | _ => exact ⟨0, rfl⟩
        exact key d
      obtain ⟨n, hn⟩ := this
      exact ren_low (fun _ _ => rfl) hn
    induction σ with
    | nil => rfl
    | cons a r ih =>
      cases a with
      | none => simp only [slRen, ih]
      | some d => simp only [slRen, ih, one]
  unfold leaveS
  split
  · exact ⟨id, fun _ _ => rfl, (idr σ).symm, fun _ _ => rfl, h⟩
  · simp only
    split
    · refine ⟨_, fun i hi => place_lt i hi, rfl, fun i hi => ?_, ?_⟩
      · rw [List.getElem?_append_left (by rw [List.length_take]; omega), List.getElem?_take_of_lt hi]
      · rw [List.length_append, List.length_take]
        omega
    · exact ⟨id, fun _ _ => rfl, (idr σ).symm, fun _ _ => rfl, h⟩
theorem leaveS_same {M0 M : Hm} {σ : Sl} (h : M.length = M0.length) : leaveS M0 σ M = (σ, M) := if_pos h

/-! ### loops -/
section
variable {N : Sl → Hm → Prop} {R : D → Hm → Prop} {B C : Sl → Hm → Prop} {M0 : Hm}
theorem Wp_for {tg : Tg} {w : Wk} {body : Sl → Hm → RS} (I : Nat → Sl → Hm → Prop) {its : List D} : ∀ {σ : Sl} {M : Hm} (j : Nat), I j σ M →
    (∀ i d σ M, its[i]? = some d → I (j + i) σ M → w.ok M = true ∧ ∃ σ1, setTg tg d σ = some σ1 ∧ Wp (body σ1 M) (fun σ2 M2 => I (j + i + 1) (leaveS M0 σ2 M2).1 (leaveS M0 σ2 M2).2) R N (fun σ2 M2 => I (j + i + 1) (leaveS M0 σ2 M2).1 (leaveS M0 σ2 M2).2)) →
    (∀ σ M, I (j + its.length) σ M → w.ok M = true ∧ N σ M) → Wp (forL tg w body M0 its σ M) N R B C := by
  induction its with
  | nil =>
    intro σ M j h0 _ he
    obtain ⟨h1, h2⟩ := he σ M h0
    rw [forL, if_pos h1]
    exact h2
  | cons d r ih =>
    intro σ M j h0 hs he
    obtain ⟨h1, σ1, h2, h3⟩ := hs 0 d σ M rfl h0
    rw [forL, if_pos h1, h2]
    simp only
    have go : ∀ {σ2 : Sl} {M2 : Hm}, I (j + 0 + 1) σ2 M2 → Wp (forL tg w body M0 r σ2 M2) N R B C := fun {σ2 M2} h => by
      refine ih (j + 1) h (fun i d σ M e h => ?_) fun σ M h => ?_
      · have := hs (i + 1) d σ M (by simpa using e)
        rw [show j + (i + 1) = j + 1 + i by omega] at this
        exact this h
      · refine he σ M ?_
        rw [List.length_cons, show j + (r.length + 1) = j + 1 + r.length by omega]
        exact h
    match z : body σ1 M, h3 with
    | some (.nx σ2 M2), h3 => exact go h3
    | some (.ct σ2 M2), h3 => exact go h3
    | some (.bk σ2 M2), h3 => exact h3
    | some (.rt d M2), h3 => exact h3
theorem Wp_while {tst : Sl → Hm → Mi.R Bool} {body : Sl → Hm → RS} (I : Nat → Sl → Hm → Prop) : ∀ (n : Nat) {σ : Sl} {M : Hm}, I n σ M →
    (∀ n σ M, I n σ M → Ret (tst σ M) fun k M1 => if k then ∃ m, n = m + 1 ∧ Wp (body σ M1) (fun σ2 M2 => I m (leaveS M0 σ2 M2).1 (leaveS M0 σ2 M2).2) R N (fun σ2 M2 => I m (leaveS M0 σ2 M2).1 (leaveS M0 σ2 M2).2) else N σ M1) → Wp (whileL tst body M0 σ M) N R B C := by
  intro n
  induction n with
  | zero =>
    intro σ M h hs
    have := hs 0 σ M h
    rw [whileL]
    match z : tst σ M, this with
    | some (.ok true M1), ⟨m, e, _⟩ => cases e
    | some (.ok false M1), q => exact q
  | succ n ih =>
    intro σ M h hs
    have := hs (n + 1) σ M h
    rw [whileL]
    match z : tst σ M, this with
    | some (.ok false M1), q => exact q
    | some (.ok true M1), ⟨m, e, q⟩ =>
      cases e
      simp only
      match z2 : body σ M1, q with
      | some (.nx σ2 M2), q => exact ih q hs
      | some (.ct σ2 M2), q => exact ih q hs
      | some (.bk σ2 M2), q => exact q
      | some (.rt d M2), q => exact q
/-- a comprehension, its tests and elements in turn; nothing is cut that I needs -/
theorem Ret_comp {tg : Tg} {w : Wk} {tst : Sl → Hm → Mi.R Bool} {el : Sl → Hm → Mi.R D} {σ : Sl} {M : Hm} {Φ : List D → Hm → Prop} (I : Nat → List D → Hm → Prop) (hl : w.its.length ≤ lim) (h0 : I 0 [] M)
    (hs : ∀ i d acc M, w.its[i]? = some d → I i acc M → w.ok M = true ∧ ∃ σ1, setTg tg d σ = some σ1 ∧ Ret (tst σ1 M) fun k M1 => if k then Ret (el σ1 M1) fun y M2 => Ret (leave M y M2) fun y' M3 => I (i + 1) (acc ++ [y']) M3 else I (i + 1) acc M1)
    (he : ∀ acc M, I w.its.length acc M → w.ok M = true ∧ Φ acc M) : Ret (compW tg tst el w σ M) Φ := by
  unfold compW
  rw [if_pos hl]
  have key : ∀ (its : List D) (j : Nat) (acc : List D) (M : Hm), I j acc M →
      (∀ i d acc M, its[i]? = some d → I (j + i) acc M → w.ok M = true ∧ ∃ σ1, setTg tg d σ = some σ1 ∧ Ret (tst σ1 M) fun k M1 => if k then Ret (el σ1 M1) fun y M2 => Ret (leave M y M2) fun y' M3 => I (j + i + 1) (acc ++ [y']) M3 else I (j + i + 1) acc M1) →
      (∀ acc M, I (j + its.length) acc M → w.ok M = true ∧ Φ acc M) → Ret (compL tg tst el w σ its M) fun ys M' => Φ (acc ++ ys) M' := fun its => by
    induction its with
    | nil =>
      intro j acc M h _ he
      obtain ⟨h1, h2⟩ := he acc M h
      rw [compL, if_pos h1]
      show Φ (acc ++ []) M
      rw [List.append_nil]
      exact h2
    | cons d r ih =>
      intro j acc M h hs he
      obtain ⟨h1, σ1, h2, h3⟩ := hs 0 d acc M rfl h
      rw [compL, if_pos h1, h2]
      simp only
      have hs' : ∀ i d acc M, r[i]? = some d → I (j + 1 + i) acc M → w.ok M = true ∧ ∃ σ1, setTg tg d σ = some σ1 ∧ Ret (tst σ1 M) fun k M1 => if k then Ret (el σ1 M1) fun y M2 => Ret (leave M y M2) fun y' M3 => I (j + 1 + i + 1) (acc ++ [y']) M3 else I (j + 1 + i + 1) acc M1 := fun i d acc M e h => by
        have := hs (i + 1) d acc M (by simpa using e)
        rw [show j + (i + 1) = j + 1 + i by omega] at this
        exact this h
      have he' : ∀ acc M, I (j + 1 + r.length) acc M → w.ok M = true ∧ Φ acc M := fun acc M h => he acc M (by rw [List.length_cons, show j + (r.length + 1) = j + 1 + r.length by omega]; exact h)
      match z : tst σ1 M, h3 with
      | some (.ok false M1), h3 => exact ih (j + 1) acc M1 h3 hs' he'
      | some (.ok true M1), h3 =>
        have h3 : Ret (el σ1 M1) fun y M2 => Ret (leave M y M2) fun y' M3 => I (j + 0 + 1) (acc ++ [y']) M3 := h3
        obtain ⟨y, M2, z2, h4⟩ := h3.ex
        obtain ⟨y', M3, z3, h5⟩ := h4.ex
        simp only [z2, z3]
        obtain ⟨ys, M4, z4, h6⟩ := (ih (j + 1) (acc ++ [y']) M3 h5 hs' he').ex
        rw [z4]
        show Φ (acc ++ y' :: ys) M4
        rw [List.append_assoc] at h6
        exact h6
  have := key w.its 0 [] M h0 (fun i d acc M e h => by have := hs i d acc M e (by rw [Nat.zero_add] at h; exact h); rw [Nat.zero_add]; exact this) fun acc M h => he acc M (by rw [Nat.zero_add] at h; exact h)
  exact this.mono fun ys M' h => by simpa using h
end
end Mi

/-! Pu2: values' operators as wishes; lists of the pure heap. -/
namespace Mi
open PySem
section
variable {Φ : D → Hm → Prop} {i j : Int} {M : Hm}
theorem Ret_add : Ret (binM .add (.int i) (.int j) M) Φ ↔ Φ (.int (i + j)) M := Iff.rfl
theorem Ret_sub : Ret (binM .sub (.int i) (.int j) M) Φ ↔ Φ (.int (i - j)) M := Iff.rfl
theorem Ret_mul : Ret (binM .mul (.int i) (.int j) M) Φ ↔ i.natAbs.log2 + j.natAbs.log2 < 1000000 ∧ Φ (.int (i * j)) M := by
  show Ret (ifo _ _) Φ ↔ _
  rw [Ret_ifo, decide_eq_true_eq, Ret_ok]
theorem Ret_mod : Ret (binM .mod (.int i) (.int j) M) Φ ↔ 0 < j ∧ Φ (.int (i % j)) M := by
  show Ret (ifo _ _) Φ ↔ _
  rw [Ret_ifo, decide_eq_true_eq, Ret_ok]
theorem Ret_fdiv : Ret (binM .fdiv (.int i) (.int j) M) Φ ↔ (0 < j ∧ j.natAbs.log2 < 9000) ∧ Φ (.int (i / j)) M := by
  show Ret (ifo _ _) Φ ↔ _
  rw [Ret_ifo, Bool.and_eq_true, decide_eq_true_eq, decide_eq_true_eq, Ret_ok]
theorem Ret_pow : Ret (binM .pow (.int i) (.int j) M) Φ ↔ ((0 ≤ j ∧ j ≤ 1000000) ∧ i.natAbs < 2 ^ 64) ∧ Φ (.int (i ^ j.toNat)) M := by
  show Ret (ifo _ _) Φ ↔ _
  rw [Ret_ifo, Bool.and_eq_true, Bool.and_eq_true, decide_eq_true_eq, decide_eq_true_eq, decide_eq_true_eq, Ret_ok]
theorem Ret_addS {x y : List Nat} : Ret (binM .add (.str x) (.str y) M) Φ ↔ x.length + y.length ≤ lim ∧ Φ (.str (x ++ y)) M := by
  show Ret (ifo _ _) Φ ↔ _
  rw [Ret_ifo, decide_eq_true_eq, Ret_ok]
theorem Ret_addT {x y : List D} : Ret (binM .add (.tup x) (.tup y) M) Φ ↔ x.length + y.length ≤ lim ∧ Φ (.tup (x ++ y)) M := by
  show Ret (ifo _ _) Φ ↔ _
  rw [Ret_ifo, decide_eq_true_eq, Ret_ok]
theorem Ret_addL {a b : Nat} {x y : List D} (h1 : M[a]? = some (.lst x)) (h2 : M[b]? = some (.lst y)) : Ret (binM .add (.ref a) (.ref b) M) Φ ↔ x.length + y.length ≤ lim ∧ Φ (.ref M.length) (M ++ [.lst (x ++ y)]) := by
  have e : binM .add (.ref a) (.ref b) M = ifo (decide (x.length + y.length ≤ lim)) (ok (.ref M.length) (M ++ [.lst (x ++ y)])) := by
    simp only [binM, h1, h2]
  rw [e, Ret_ifo, decide_eq_true_eq, Ret_ok]
theorem Ret_mulT {x : List D} {k : Int} (h1 : -(2 ^ 62) ≤ k) (h2 : k < 2 ^ 62) : Ret (binM .mul (.tup x) (.int k) M) Φ ↔ x.length * k.toNat ≤ lim ∧ Φ (.tup (rep k x)) M := by
  show Ret (ifo _ _) Φ ↔ _
  rw [Ret_ifo, Bool.and_eq_true, Bool.and_eq_true, decide_eq_true_eq, decide_eq_true_eq, decide_eq_true_eq, Ret_ok]
  exact ⟨fun h => ⟨h.1.2, h.2⟩, fun h => ⟨⟨⟨h1, h2⟩, h.1⟩, h.2⟩⟩
theorem Ret_mulS {x : List Nat} {k : Int} (h1 : -(2 ^ 62) ≤ k) (h2 : k < 2 ^ 62) : Ret (binM .mul (.str x) (.int k) M) Φ ↔ x.length * k.toNat ≤ lim ∧ Φ (.str (rep k x)) M := by
  show Ret (ifo _ _) Φ ↔ _
  rw [Ret_ifo, Bool.and_eq_true, Bool.and_eq_true, decide_eq_true_eq, decide_eq_true_eq, decide_eq_true_eq, Ret_ok]
  exact ⟨fun h => ⟨h.1.2, h.2⟩, fun h => ⟨⟨⟨h1, h2⟩, h.1⟩, h.2⟩⟩
theorem cmp_lt : cmpM .lt (.int i) (.int j) M = some (decide (i < j)) := rfl
theorem cmp_le : cmpM .le (.int i) (.int j) M = some (decide (i ≤ j)) := rfl
theorem cmp_gt : cmpM .gt (.int i) (.int j) M = some (decide (j < i)) := rfl
theorem cmp_ge : cmpM .ge (.int i) (.int j) M = some (decide (j ≤ i)) := rfl
theorem cmp_eqI : cmpM .eq (.int i) (.int j) M = some (decide (i = j)) := by
  show some (i == j) = _
  simp [BEq.beq]
theorem Ret_newL {ds : List D} : Ret (newL ds M) Φ ↔ ds.length ≤ lim ∧ Φ (.ref M.length) (M ++ [.lst ds]) := by
  unfold newL
  split
  · rename_i h; exact ⟨fun z => ⟨h, z⟩, fun z => z.2⟩
  · rename_i h; exact ⟨fun z => z.elim, fun z => absurd z.1 h⟩
theorem Ret_newT {ds : List D} : Ret (newT ds M) Φ ↔ ds.length ≤ lim ∧ Φ (.tup ds) M := by
  unfold newT
  split
  · rename_i h; exact ⟨fun z => ⟨h, z⟩, fun z => z.2⟩
  · rename_i h; exact ⟨fun z => z.elim, fun z => absurd z.1 h⟩
theorem at_nat {α : Type} {xs : List α} {i : Int} (h0 : 0 ≤ i) (h1 : i < xs.length) : ∃ x, L2.atI xs i = some x ∧ xs[i.toNat]? = some x := by
  have hl : i.toNat < xs.length := by omega
  refine ⟨xs[i.toNat], ?_, List.getElem?_eq_getElem hl⟩
  unfold L2.atI
  have e : L2.ixN xs.length i = some i.toNat := by
    unfold L2.ixN
    simp [h0, h1]
  rw [e]
  exact List.getElem?_eq_getElem hl
theorem idx_lst {a : Nat} {ds : List D} (h : M[a]? = some (.lst ds)) : idxM (.ref a) (.int i) M = L2.atI ds i := by
  simp only [idxM, h]
theorem log2_lt {n : Nat} {k : Nat} (h : n < 2 ^ k) (hk : 0 < k) : n.log2 < k := by
  by_cases z : n = 0
  · subst z; simpa using hk
  · exact (Nat.log2_lt z).mpr h
end

/-! ### terms as wishes -/
def vS (Φ : D → Hm → Prop) (M : Hm) : Option (Option D) → Prop
  | some (some d) => Φ d M
  | _ => False
def cS (Φ : D → Hm → Prop) (M : Hm) : Option Bool → Prop
  | some k => Φ (.bl k) M
  | none => False
def dS (Φ : D → Hm → Prop) (M : Hm) : Option D → Prop
  | some d => Φ d M
  | none => False
def kS (Φ : Bool → Hm → Prop) (M : Hm) : D → Prop
  | .bl k => Φ k M
  | _ => False
section
variable {Φ : D → Hm → Prop} {Ψ : Bool → Hm → Prop} {M : Hm} {F : Caller} {σ : Sl} {a b c e : E} {i j k : Nat} {d x y : D} {es : Es}
theorem vS_some : vS Φ M (some (some d)) ↔ Φ d M := Iff.rfl
theorem cS_some {k : Bool} : cS Φ M (some k) ↔ Φ (.bl k) M := Iff.rfl
theorem dS_some : dS Φ M (some d) ↔ Φ d M := Iff.rfl
theorem kS_bl {k : Bool} : kS Ψ M (.bl k) ↔ Ψ k M := Iff.rfl
theorem Ret_congr {α : Type} {r : R α} {A B : α → Hm → Prop} (h : ∀ a M, A a M ↔ B a M) : Ret r A ↔ Ret r B := ⟨fun z => z.mono fun a M => (h a M).mp, fun z => z.mono fun a M => (h a M).mpr⟩
theorem w_lit : Ret (ev F (.lit d) σ M) Φ ↔ Φ d M := by rw [ev]; exact Iff.rfl
theorem w_var : Ret (ev F (.var i) σ M) Φ ↔ vS Φ M σ[i]? := by
  rw [ev]
  match σ[i]? with
  | none => exact Iff.rfl
  | some none => exact Iff.rfl
  | some (some d) => exact Iff.rfl
theorem w_bin {o : Bop} : Ret (ev F (.bin o a b) σ M) Φ ↔ Ret (ev F a σ M) fun x M1 => Ret (ev F b σ M1) fun y M2 => Ret (binM o x y M2) Φ := by
  rw [ev, Ret_bnd]
  exact Ret_congr fun x M1 => Ret_bnd
theorem w_cmp {o : Cop} : Ret (ev F (.cmp o a b) σ M) Φ ↔ Ret (ev F a σ M) fun x M1 => Ret (ev F b σ M1) fun y M2 => cS Φ M2 (cmpM o x y M2) := by
  rw [ev, Ret_bnd]
  refine Ret_congr fun x M1 => Ret_bnd.trans (Ret_congr fun y M2 => ?_)
  match cmpM o x y M2 with
  | none => exact Iff.rfl
  | some k => exact Iff.rfl
def chS (Φ : D → Hm → Prop) (M : Hm) (z : Prop) : Option Bool → Prop
  | some true => z
  | some false => Φ (.bl false) M
  | none => False
theorem chS_some {k : Bool} {z : Prop} : chS Φ M z (some k) ↔ if k then z else Φ (.bl false) M := by cases k <;> simp [chS]
theorem w_chn {o p : Cop} : Ret (ev F (.chn o p a b c) σ M) Φ ↔ Ret (ev F a σ M) fun x M1 => Ret (ev F b σ M1) fun y M2 => chS Φ M2 (Ret (ev F c σ M2) fun z M3 => cS Φ M3 (cmpM p y z M3)) (cmpM o x y M2) := by
  rw [ev, Ret_bnd]
  refine Ret_congr fun x M1 => Ret_bnd.trans (Ret_congr fun y M2 => ?_)
  match cmpM o x y M2 with
  | none => exact Iff.rfl
  | some false => exact Iff.rfl
  | some true =>
    refine Ret_bnd.trans (Ret_congr fun z M3 => ?_)
    match cmpM p y z M3 with
    | none => exact Iff.rfl
    | some k => exact Iff.rfl
theorem w_isN {no : Bool} : Ret (ev F (.isN a no) σ M) Φ ↔ Ret (ev F a σ M) fun x M1 => Φ (.bl (decide (x = .non) != no)) M1 := by rw [ev, Ret_bnd]; exact Iff.rfl
def nS (Φ : D → Hm → Prop) (M : Hm) : D → Prop
  | .int i => Φ (.int (-i)) M
  | _ => False
theorem nS_int {i : Int} : nS Φ M (.int i) ↔ Φ (.int (-i)) M := Iff.rfl
theorem w_neg : Ret (ev F (.neg a) σ M) Φ ↔ Ret (ev F a σ M) fun x M1 => nS Φ M1 x := by
  rw [ev, Ret_bnd]
  refine Ret_congr fun x M1 => ?_
  cases x <;> exact Iff.rfl
theorem w_not : Ret (ev F (.notE a) σ M) Φ ↔ Ret (evT F a σ M) fun k M1 => Φ (.bl (!k)) M1 := by rw [ev, Ret_bnd]; exact Iff.rfl
def tS2 (A B : Prop) : Option Bool → Prop
  | some true => A
  | some false => B
  | none => False
theorem tS2_some {A B : Prop} {k : Bool} : tS2 A B (some k) ↔ if k then A else B := by cases k <;> simp [tS2]
theorem w_and : Ret (ev F (.andE a b) σ M) Φ ↔ Ret (ev F a σ M) fun x M1 => tS2 (Ret (ev F b σ M1) Φ) (Φ x M1) (truM M1 x) := by
  rw [ev, Ret_bnd]
  refine Ret_congr fun x M1 => ?_
  match truM M1 x with
  | none => exact Iff.rfl
  | some true => exact Iff.rfl
  | some false => exact Iff.rfl
theorem w_or : Ret (ev F (.orE a b) σ M) Φ ↔ Ret (ev F a σ M) fun x M1 => tS2 (Φ x M1) (Ret (ev F b σ M1) Φ) (truM M1 x) := by
  rw [ev, Ret_bnd]
  refine Ret_congr fun x M1 => ?_
  match truM M1 x with
  | none => exact Iff.rfl
  | some true => exact Iff.rfl
  | some false => exact Iff.rfl
theorem w_ife : Ret (ev F (.ife c a b) σ M) Φ ↔ Ret (evT F c σ M) fun k M1 => if k then Ret (ev F a σ M1) Φ else Ret (ev F b σ M1) Φ := by
  rw [ev, Ret_bnd]
  refine Ret_congr fun k M1 => ?_
  cases k <;> exact Iff.rfl
theorem w_tup : Ret (ev F (.tup es) σ M) Φ ↔ Ret (evs F es σ M) fun ds M1 => Ret (newT ds M1) Φ := by rw [ev, Ret_bnd]
theorem w_lst : Ret (ev F (.lst es) σ M) Φ ↔ Ret (evs F es σ M) fun ds M1 => Ret (newL ds M1) Φ := by rw [ev, Ret_bnd]
theorem w_nil {A : List D → Hm → Prop} : Ret (evs F .nil σ M) A ↔ A [] M := by rw [evs]; exact Iff.rfl
theorem w_cons {A : List D → Hm → Prop} : Ret (evs F (.cons e es) σ M) A ↔ Ret (ev F e σ M) fun d M1 => Ret (evs F es σ M1) fun ds M2 => A (d :: ds) M2 := by
  rw [evs, Ret_bnd]
  exact Ret_congr fun d M1 => Ret_bnd
theorem w_idx : Ret (ev F (.idx a b) σ M) Φ ↔ Ret (ev F a σ M) fun x M1 => Ret (ev F b σ M1) fun y M2 => dS Φ M2 (idxM x y M2) := by
  rw [ev, Ret_bnd]
  refine Ret_congr fun x M1 => Ret_bnd.trans (Ret_congr fun y M2 => ?_)
  match idxM x y M2 with
  | none => exact Iff.rfl
  | some k => exact Iff.rfl
theorem w_slc {lo hi : Eo} : Ret (ev F (.slc a lo hi) σ M) Φ ↔ Ret (ev F a σ M) fun x M1 => Ret (evo F lo σ M1) fun l M2 => Ret (evo F hi σ M2) fun h M3 => Ret (slcM x l h M3) Φ := by
  rw [ev, Ret_bnd]
  exact Ret_congr fun x M1 => Ret_bnd.trans (Ret_congr fun l M2 => Ret_bnd)
theorem w_no {A : Option Int → Hm → Prop} : Ret (evo F .no σ M) A ↔ A none M := by rw [evo]; exact Iff.rfl
def oS (A : Option Int → Hm → Prop) (M : Hm) : D → Prop
  | .int i => (-(2 ^ 62) ≤ i ∧ i < 2 ^ 62) ∧ A (some i) M
  | _ => False
theorem oS_int {A : Option Int → Hm → Prop} {i : Int} : oS A M (.int i) ↔ (-(2 ^ 62) ≤ i ∧ i < 2 ^ 62) ∧ A (some i) M := Iff.rfl
theorem w_so {A : Option Int → Hm → Prop} : Ret (evo F (.so e) σ M) A ↔ Ret (ev F e σ M) fun d M1 => oS A M1 d := by
  rw [evo, Ret_bnd]
  refine Ret_congr fun d M1 => ?_
  cases d with
  | int i =>
    simp only [oS]
    split
    · rename_i h; exact ⟨fun z => ⟨h, z⟩, fun z => z.2⟩
    · rename_i h; exact ⟨fun z => z.elim, fun z => absurd z.1 h⟩
  | _ => exact Iff.rfl
theorem w_rev : Ret (ev F (.rev a) σ M) Φ ↔ Ret (ev F a σ M) fun x M1 => Ret (revM x M1) Φ := by rw [ev, Ret_bnd]
theorem w_call {f : Nat} : Ret (ev F (.call f es) σ M) Φ ↔ Ret (evs F es σ M) fun ds M1 => Ret (F f ds M1) Φ := by rw [ev, Ret_bnd]
theorem w_blt {bl : Blt} (h : notComp a = true) : Ret (ev F (.blt bl a) σ M) Φ ↔ Ret (ev F a σ M) fun x M1 => Ret (bltM bl x M1) Φ := by
  have hca : ev F (.blt bl a) σ M = bnd (ev F a σ M) fun x M1 => bltM bl x M1 := by
    cases a <;> first | (simp [notComp] at h; done) | (simp only [ev]; done) | (rw [ev]; intros; simp_all)
  rw [hca, Ret_bnd]
theorem w_bltC {bl : Blt} {tg : Tg} {s : Sr} {cs : Es} : Ret (ev F (.blt bl (.comp e tg s cs)) σ M) Φ ↔ Ret (evW F s σ M) fun w M1 => Ret (compW tg (fun σ1 M2 => evA F cs σ1 M2) (fun σ1 M2 => ev F e σ1 M2) w σ M1) fun ds M2 => Ret (bltL bl ds M2) Φ := by
  rw [ev, Ret_bnd]
  exact Ret_congr fun w M1 => Ret_bnd
theorem w_comp {tg : Tg} {s : Sr} {cs : Es} : Ret (ev F (.comp e tg s cs) σ M) Φ ↔ Ret (evW F s σ M) fun w M1 => Ret (compW tg (fun σ1 M2 => evA F cs σ1 M2) (fun σ1 M2 => ev F e σ1 M2) w σ M1) fun ds M2 => Φ (.ref M2.length) (M2 ++ [.lst ds]) := by
  rw [ev, Ret_bnd]
  exact Ret_congr fun w M1 => Ret_bnd
theorem w_bl2 {bl : Blt} : Ret (ev F (.bl2 bl a b) σ M) Φ ↔ Ret (ev F a σ M) fun x M1 => Ret (ev F b σ M1) fun y M2 => Ret (bl2M bl x y M2) Φ := by
  rw [ev, Ret_bnd]
  exact Ret_congr fun x M1 => Ret_bnd
theorem w_isi {t : Ty} : Ret (ev F (.isi a [t]) σ M) Φ ↔ Ret (ev F a σ M) fun x M1 => cS Φ M1 (isiM x t M1) := by
  rw [ev, Ret_bnd]
  refine Ret_congr fun x M1 => ?_
  match h : isiM x t M1 with
  | none => simp [h, cS, Ret]
  | some k => simp [h, cS, Ret, ok]
theorem w_joinC {tg : Tg} {s : Sr} {cs : Es} : Ret (ev F (.join a (.comp e tg s cs)) σ M) Φ ↔ Ret (ev F a σ M) fun x M1 => Ret (strK x fun sep => bnd (evW F s σ M1) fun w M2 => bnd (compW tg (fun σ1 M2 => evA F cs σ1 M2) (fun σ1 M2 => ev F e σ1 M2) w σ M2) fun ds M3 => joinL sep ds M3) Φ := by
  rw [ev, Ret_bnd]
theorem strK_str {k : List Nat → R D} {z : List Nat} : strK (.str z) k = k z := rfl
theorem w_app : Ret (ev F (.app a b) σ M) Φ ↔ Ret (ev F a σ M) fun x M1 => isLst M1 x = true ∧ Ret (ev F b σ M1) fun y M2 => Ret (appM x y M2) Φ := by
  rw [ev, Ret_bnd]
  refine Ret_congr fun x M1 => ?_
  split
  · rename_i h; rw [Ret_bnd]; exact ⟨fun z => ⟨h, z⟩, fun z => z.2⟩
  · rename_i h; exact ⟨fun z => z.elim, fun z => absurd z.1 h⟩
theorem w_get : Ret (ev F (.get a b c) σ M) Φ ↔ Ret (ev F a σ M) fun x M1 => isDct M1 x = true ∧ Ret (ev F b σ M1) fun y M2 => Ret (ev F c σ M2) fun z M3 => Ret (getM x y z M3) Φ := by
  rw [ev, Ret_bnd]
  refine Ret_congr fun x M1 => ?_
  split
  · rename_i h; rw [Ret_bnd]; exact ⟨fun z => ⟨h, z.mono fun _ _ q => Ret_bnd.mp q⟩, fun z => z.2.mono fun _ _ q => Ret_bnd.mpr q⟩
  · rename_i h; exact ⟨fun z => z.elim, fun z => absurd z.1 h⟩
/-! tests -/
theorem t_plain (h : plainE e = true) : Ret (evT F e σ M) Ψ ↔ Ret (ev F e σ M) fun x M1 => kS Ψ M1 x := by
  rw [evT_plain h, Ret_bnd]
  refine Ret_congr fun x M1 => ?_
  cases x <;> exact Iff.rfl
theorem t_and : Ret (evT F (.andE a b) σ M) Ψ ↔ Ret (evT F a σ M) fun k M1 => if k then Ret (evT F b σ M1) Ψ else Ψ false M1 := by
  rw [evT, Ret_bnd]
  refine Ret_congr fun k M1 => ?_
  cases k <;> exact Iff.rfl
theorem t_or : Ret (evT F (.orE a b) σ M) Ψ ↔ Ret (evT F a σ M) fun k M1 => if k then Ψ true M1 else Ret (evT F b σ M1) Ψ := by
  rw [evT, Ret_bnd]
  refine Ret_congr fun k M1 => ?_
  cases k <;> exact Iff.rfl
theorem t_not : Ret (evT F (.notE a) σ M) Ψ ↔ Ret (evT F a σ M) fun k M1 => Ψ (!k) M1 := by rw [evT, Ret_bnd]; exact Iff.rfl
theorem a_nil : Ret (evA F .nil σ M) Ψ ↔ Ψ true M := by rw [evA]; exact Iff.rfl
theorem a_cons : Ret (evA F (.cons e es) σ M) Ψ ↔ Ret (evT F e σ M) fun k M1 => if k then Ret (evA F es σ M1) Ψ else Ψ false M1 := by
  rw [evA, Ret_bnd]
  refine Ret_congr fun k M1 => ?_
  cases k <;> exact Iff.rfl
section
variable {o1 o2 : Cop} {no : Bool} {ts : List Ty} {bl b2 : Blt} {l1 l2 : Eo} {bo : Bop}
theorem t_lit : Ret (evT F (.lit d) σ M) Ψ ↔ Ret (ev F (.lit d) σ M) fun x M1 => kS Ψ M1 x := t_plain rfl
theorem t_var : Ret (evT F (.var i) σ M) Ψ ↔ Ret (ev F (.var i) σ M) fun x M1 => kS Ψ M1 x := t_plain rfl
theorem t_cmp : Ret (evT F (.cmp o1 a b) σ M) Ψ ↔ Ret (ev F (.cmp o1 a b) σ M) fun x M1 => kS Ψ M1 x := t_plain rfl
theorem t_chn : Ret (evT F (.chn o1 o2 a b c) σ M) Ψ ↔ Ret (ev F (.chn o1 o2 a b c) σ M) fun x M1 => kS Ψ M1 x := t_plain rfl
theorem t_isN : Ret (evT F (.isN a no) σ M) Ψ ↔ Ret (ev F (.isN a no) σ M) fun x M1 => kS Ψ M1 x := t_plain rfl
theorem t_call : Ret (evT F (.call i es) σ M) Ψ ↔ Ret (ev F (.call i es) σ M) fun x M1 => kS Ψ M1 x := t_plain rfl
theorem t_isi : Ret (evT F (.isi a ts) σ M) Ψ ↔ Ret (ev F (.isi a ts) σ M) fun x M1 => kS Ψ M1 x := t_plain rfl
theorem t_idx : Ret (evT F (.idx a b) σ M) Ψ ↔ Ret (ev F (.idx a b) σ M) fun x M1 => kS Ψ M1 x := t_plain rfl
theorem t_blt : Ret (evT F (.blt bl a) σ M) Ψ ↔ Ret (ev F (.blt bl a) σ M) fun x M1 => kS Ψ M1 x := t_plain rfl
theorem t_ife : Ret (evT F (.ife c a b) σ M) Ψ ↔ Ret (ev F (.ife c a b) σ M) fun x M1 => kS Ψ M1 x := t_plain rfl
theorem t_get : Ret (evT F (.get a b c) σ M) Ψ ↔ Ret (ev F (.get a b c) σ M) fun x M1 => kS Ψ M1 x := t_plain rfl
theorem w_blt_lit {bl : Blt} : Ret (ev F (.blt bl (.lit d)) σ M) Φ ↔ Ret (ev F (.lit d) σ M) fun x M1 => Ret (bltM bl x M1) Φ := w_blt rfl
theorem w_blt_var {bl : Blt} : Ret (ev F (.blt bl (.var i)) σ M) Φ ↔ Ret (ev F (.var i) σ M) fun x M1 => Ret (bltM bl x M1) Φ := w_blt rfl
theorem w_blt_idx {bl : Blt} : Ret (ev F (.blt bl (.idx a b)) σ M) Φ ↔ Ret (ev F (.idx a b) σ M) fun x M1 => Ret (bltM bl x M1) Φ := w_blt rfl
theorem w_blt_call {bl : Blt} : Ret (ev F (.blt bl (.call i es)) σ M) Φ ↔ Ret (ev F (.call i es) σ M) fun x M1 => Ret (bltM bl x M1) Φ := w_blt rfl
theorem w_blt_slc {bl : Blt} : Ret (ev F (.blt bl (.slc a l1 l2)) σ M) Φ ↔ Ret (ev F (.slc a l1 l2) σ M) fun x M1 => Ret (bltM bl x M1) Φ := w_blt rfl
theorem w_blt_bin {bl : Blt} : Ret (ev F (.blt bl (.bin bo a b)) σ M) Φ ↔ Ret (ev F (.bin bo a b) σ M) fun x M1 => Ret (bltM bl x M1) Φ := w_blt rfl
theorem w_blt_lst {bl : Blt} : Ret (ev F (.blt bl (.lst es)) σ M) Φ ↔ Ret (ev F (.lst es) σ M) fun x M1 => Ret (bltM bl x M1) Φ := w_blt rfl
theorem w_blt_tup {bl : Blt} : Ret (ev F (.blt bl (.tup es)) σ M) Φ ↔ Ret (ev F (.tup es) σ M) fun x M1 => Ret (bltM bl x M1) Φ := w_blt rfl
theorem w_blt_blt {bl : Blt} : Ret (ev F (.blt bl (.blt b2 a)) σ M) Φ ↔ Ret (ev F (.blt b2 a) σ M) fun x M1 => Ret (bltM bl x M1) Φ := w_blt rfl
theorem w_blt_rev {bl : Blt} : Ret (ev F (.blt bl (.rev a)) σ M) Φ ↔ Ret (ev F (.rev a) σ M) fun x M1 => Ret (bltM bl x M1) Φ := w_blt rfl
end
/-! sources -/
def sS (A : Wk → Hm → Prop) (M : Hm) : Option Wk → Prop
  | some w => A w M
  | none => False
theorem sS_some {A : Wk → Hm → Prop} {w : Wk} : sS A M (some w) ↔ A w M := Iff.rfl
theorem s_seq {A : Wk → Hm → Prop} : Ret (evW F (.seq e) σ M) A ↔ Ret (ev F e σ M) fun d M1 => sS A M1 (seqW M1 d) := by
  rw [evW, Ret_bnd]
  refine Ret_congr fun d M1 => ?_
  match seqW M1 d with
  | none => exact Iff.rfl
  | some w => exact Iff.rfl
def rS (A : Wk → Hm → Prop) (M : Hm) : D → D → Prop
  | .int i, .int j => (-(2 ^ 62) ≤ i ∧ i < 2 ^ 62 ∧ -(2 ^ 62) ≤ j ∧ j < 2 ^ 62) ∧ A ⟨rngD i j, []⟩ M
  | _, _ => False
theorem rS_int {A : Wk → Hm → Prop} {i j : Int} : rS A M (.int i) (.int j) ↔ (-(2 ^ 62) ≤ i ∧ i < 2 ^ 62 ∧ -(2 ^ 62) ≤ j ∧ j < 2 ^ 62) ∧ A ⟨rngD i j, []⟩ M := Iff.rfl
theorem s_rng {A : Wk → Hm → Prop} : Ret (evW F (.rng a b) σ M) A ↔ Ret (ev F a σ M) fun x M1 => Ret (ev F b σ M1) fun y M2 => rS A M2 x y := by
  rw [evW, Ret_bnd]
  refine Ret_congr fun x M1 => Ret_bnd.trans (Ret_congr fun y M2 => ?_)
  cases x <;> cases y <;> first
    | exact Iff.rfl
    | (simp only [rS]
       split
       · rename_i h; exact ⟨fun z => ⟨h, z⟩, fun z => z.2⟩
       · rename_i h; exact ⟨fun z => z.elim, fun z => absurd z.1 h⟩)
def eW (M : Hm) : D → Option Wk
  | .rol is => some ⟨enumD 0 (is.map .int), []⟩
  | .ref a => match M[a]? with
    | some (.lst ds) => some ⟨enumD 0 ds, [(a, .lst ds)]⟩
    | _ => none
  | _ => none
theorem s_enum {A : Wk → Hm → Prop} : Ret (evW F (.enum e) σ M) A ↔ Ret (ev F e σ M) fun d M1 => sS A M1 (eW M1 d) := by
  rw [evW, Ret_bnd]
  refine Ret_congr fun d M1 => ?_
  cases d with
  | ref i =>
    simp only [eW]
    match M1[i]? with
    | none => exact Iff.rfl
    | some (.lst ds) => exact Iff.rfl
    | some (.dct ds) => exact Iff.rfl
  | _ => exact Iff.rfl
/-! statements -/
variable {N : Sl → Hm → Prop} {R : D → Hm → Prop} {B C : Sl → Hm → Prop} {s t : S}
theorem x_set : Wp (ex F (.set i e) σ M) N R B C ↔ Ret (ev F e σ M) fun d M1 => N (σ.set i (some d)) M1 := by rw [ex, Wp_bndS]; exact Iff.rfl
def gS (N : Sl → Hm → Prop) (M : Hm) : Option Sl → Prop
  | some σ => N σ M
  | none => False
theorem gS_some {σ : Sl} : gS N M (some σ) ↔ N σ M := Iff.rfl
theorem x_setT {is : List Nat} : Wp (ex F (.setT is e) σ M) N R B C ↔ Ret (ev F e σ M) fun d M1 => gS N M1 (setTg (.tp is) d σ) := by
  rw [ex, Wp_bndS]
  refine Ret_congr fun d M1 => ?_
  match setTg (.tp is) d σ with
  | none => exact Iff.rfl
  | some σ1 => exact Iff.rfl
theorem x_setP : Wp (ex F (.setP i j a b) σ M) N R B C ↔ Ret (ev F a σ M) fun x M1 => Ret (ev F b σ M1) fun y M2 => N ((σ.set i (some x)).set j (some y)) M2 := by
  rw [ex, Wp_bndS]
  exact Ret_congr fun d M1 => Wp_bndS
def hS (N : Sl → Hm → Prop) (σ : Sl) : Option Hm → Prop
  | some M => N σ M
  | none => False
theorem hS_some : hS N σ (some M) ↔ N σ M := Iff.rfl
theorem x_setI : Wp (ex F (.setI a b e) σ M) N R B C ↔ Ret (ev F e σ M) fun v M1 => Ret (ev F a σ M1) fun x M2 => Ret (ev F b σ M2) fun y M3 => hS N σ (putM x y v M3) := by
  rw [ex, Wp_bndS]
  refine Ret_congr fun v M1 => Wp_bndS.trans (Ret_congr fun x M2 => Wp_bndS.trans (Ret_congr fun y M3 => ?_))
  match putM x y v M3 with
  | none => exact Iff.rfl
  | some M4 => exact Iff.rfl
theorem x_exp : Wp (ex F (.exp e) σ M) N R B C ↔ Ret (ev F e σ M) fun _ M1 => N σ M1 := by rw [ex, Wp_bndS]; exact Iff.rfl
theorem x_if : Wp (ex F (.ifS c s t) σ M) N R B C ↔ Ret (evT F c σ M) fun k M1 => if k then Wp (ex F s σ M1) N R B C else Wp (ex F t σ M1) N R B C := by
  rw [ex, Wp_bndS]
  refine Ret_congr fun k M1 => ?_
  cases k <;> exact Iff.rfl
theorem x_whl : Wp (ex F (.whl c s) σ M) N R B C ↔ Wp (whileL (fun σ1 M1 => evT F c σ1 M1) (fun σ1 M1 => ex F s σ1 M1) M σ M) N R B C := by rw [ex]
theorem x_for {tg : Tg} {sr : Sr} : Wp (ex F (.forS tg sr s) σ M) N R B C ↔ Ret (evW F sr σ M) fun w M1 => Wp (forL tg w (fun σ1 M2 => ex F s σ1 M2) M1 w.its σ M1) N R B C := by rw [ex, Wp_bndS]
theorem x_ret : Wp (ex F (.ret e) σ M) N R B C ↔ Ret (ev F e σ M) R := by rw [ex, Wp_bndS]; exact Iff.rfl
theorem x_retN : Wp (ex F .retN σ M) N R B C ↔ R .non M := by rw [ex]; exact Iff.rfl
theorem x_pas : Wp (ex F .pas σ M) N R B C ↔ N σ M := by rw [ex]; exact Iff.rfl
theorem x_brk : Wp (ex F .brk σ M) N R B C ↔ B σ M := by rw [ex]; exact Iff.rfl
theorem x_cnt : Wp (ex F .cnt σ M) N R B C ↔ C σ M := by rw [ex]; exact Iff.rfl
theorem x_seq : Wp (ex F (.seq s t) σ M) N R B C ↔ Wp (ex F s σ M) (fun σ1 M1 => Wp (ex F t σ1 M1) N R B C) R B C := by rw [ex, Wp_thenS]
def augS (N : Sl → Hm → Prop) (σ : Sl) (i : Nat) (M : Hm) (o : Bop) (x y : D) : Prop := match x, y with
  | .int a, .int b => match o with
    | .add => N (σ.set i (some (.int (a + b)))) M
    | .sub => N (σ.set i (some (.int (a - b)))) M
    | _ => False
  | _, _ => False
theorem augS_add {p q : Int} : augS N σ i M .add (.int p) (.int q) ↔ N (σ.set i (some (.int (p + q)))) M := Iff.rfl
theorem augS_sub {p q : Int} : augS N σ i M .sub (.int p) (.int q) ↔ N (σ.set i (some (.int (p - q)))) M := Iff.rfl
theorem x_aug {o : Bop} : Wp (ex F (.aug i o e) σ M) N R B C ↔ vS (fun x M => Ret (ev F e σ M) fun y M1 => augS N σ i M1 o x y) M σ[i]? := by
  rw [ex]
  match σ[i]? with
  | none => exact Iff.rfl
  | some none => exact Iff.rfl
  | some (some x) =>
    refine Wp_bndS.trans (Ret_congr fun y M1 => ?_)
    cases x <;> cases y <;> first | exact Iff.rfl | (cases o <;> exact Iff.rfl)
end
end Mi

/-! Pre: the drawing of numbers that all laws share. -/
namespace Mi
open PySem
def primes8 : List D := [.int 2147483629, .int 2147483587, .int 2147483579, .int 2147483563, .int 2147483549, .int 2147483543, .int 2147483497, .int 2147483489]
def p_spread8 : S :=
  (.seq (.ifS (.cmp .ge (.var 0) (.bin .pow (.lit (.int 10)) (.lit (.int 18)))) (.ret (.var 0)) .pas) (.seq (.set 2 (.lst (.cons (.lit (.int 2147483629)) (.cons (.lit (.int 2147483587)) (.cons (.lit (.int 2147483579)) (.cons (.lit (.int 2147483563)) (.cons (.lit (.int 2147483549)) (.cons (.lit (.int 2147483543)) (.cons (.lit (.int 2147483497)) (.cons (.lit (.int 2147483489)) .nil)))))))))) (.seq (.set 3 (.bin .mod (.bin .pow (.bin .add (.bin .add (.bin .mul (.bin .mod (.var 0) (.lit (.int 1000000007))) (.bin .add (.bin .mul (.lit (.int 2)) (.var 1)) (.lit (.int 69069)))) (.bin .mul (.var 1) (.lit (.int 40503)))) (.lit (.int 977))) (.lit (.int 3))) (.idx (.var 2) (.bin .mod (.var 1) (.lit (.int 8)))))) (.seq (.set 4 (.bin .mod (.bin .pow (.bin .add (.bin .add (.bin .mul (.var 3) (.bin .add (.var 1) (.lit (.int 3)))) (.bin .mod (.var 0) (.lit (.int 65537)))) (.lit (.int 5))) (.lit (.int 5))) (.idx (.var 2) (.bin .mod (.bin .add (.var 1) (.lit (.int 5))) (.lit (.int 8)))))) (.seq (.set 5 (.bin .mod (.bin .pow (.bin .add (.bin .add (.var 4) (.bin .mod (.var 3) (.lit (.int 1009)))) (.var 1)) (.lit (.int 3))) (.idx (.var 2) (.bin .mod (.bin .add (.var 1) (.lit (.int 7))) (.lit (.int 8)))))) (.ret (.bin .add (.bin .mul (.bin .add (.bin .mul (.var 3) (.lit (.int 2147483647))) (.var 4)) (.lit (.int 2147483647))) (.var 5))))))))
theorem prime_at {i : Int} (ds : List D) (hd : ∀ d ∈ ds, ∃ p : Int, d = .int p ∧ 0 < p ∧ p < 2 ^ 31) (h0 : 0 ≤ i) (h1 : i < ds.length) : ∃ p : Int, L2.atI ds i = some (.int p) ∧ 0 < p ∧ p < 2 ^ 31 := by
  obtain ⟨x, e1, e2⟩ := at_nat h0 h1
  obtain ⟨p, rfl, h⟩ := hd x (List.mem_of_getElem? e2)
  exact ⟨p, e1, h⟩
theorem primes8_ok : ∀ d ∈ primes8, ∃ p : Int, d = .int p ∧ 0 < p ∧ p < 2 ^ 31 := by
  intro d hd
  simp only [primes8, List.mem_cons, List.not_mem_nil, or_false] at hd
  rcases hd with rfl | rfl | rfl | rfl | rfl | rfl | rfl | rfl <;> exact ⟨_, rfl, by decide, by decide⟩
def SpreadOk (prg : List Df) (s : Nat) : Prop := ∀ (k : Nat) (cell at' : Int) (M : Hm), 0 ≤ at' → at' ≤ 2 ^ 30 → Ret (callAt prg (k + 1) s [.int cell, .int at'] M) fun d M' => M' = M ∧ ∃ v, d = .int v ∧ 0 ≤ v
theorem small_log {i : Int} (h : i.natAbs < 2 ^ 64) : i.natAbs.log2 < 64 := log2_lt h (by decide)
theorem mul_bd {a b A B : Int} (ha : 0 ≤ a) (ha2 : a ≤ A) (hb : 0 ≤ b) (hb2 : b ≤ B) : 0 ≤ a * b ∧ a * b ≤ A * B :=
  ⟨Int.mul_nonneg ha hb, Int.mul_le_mul ha2 hb2 hb (Int.le_trans ha ha2)⟩
theorem kept_app {M X : Hm} : Kept (fun _ => False) M (M ++ X) := ⟨by rw [List.length_append]; omega, fun i hi => .inl (List.getElem?_append_left hi)⟩
theorem last_at {M : Hm} {o : MO} : (M ++ [o])[M.length]? = some o := by simp
/-- the sum that is told -/
theorem spread_end {M X : Hm} {v : Int} (h : 0 ≤ v) : Ret (leave M (.int v) (M ++ X)) fun d M' => M' = M ∧ ∃ v, d = .int v ∧ 0 ≤ v := by
  rw [leave_low kept_app rfl, List.take_left]
  exact ⟨rfl, v, rfl, h⟩
theorem spread8_ok {prg : List Df} {s : Nat} (hs : prg[s]? = some ⟨6, 2, p_spread8⟩) : SpreadOk prg s := by
  intro k cell at' M ha hb
  refine Ret_call hs (Ret_run rfl ?_)
  simp only [p_spread8, x_seq, x_if, x_set, x_ret, x_pas, w_bin, w_cmp, w_lit, w_var, w_lst, w_nil, w_cons, w_idx, t_cmp, vS_some, cS_some, kS_bl, Ret_add, Ret_mul, Ret_mod, Ret_pow, cmp_ge, Ret_newL, List.map_cons, List.map_nil, List.length_cons, List.length_nil, List.replicate, List.cons_append, List.nil_append, List.getElem?_cons_zero, List.getElem?_cons_succ, List.set_cons_zero, List.set_cons_succ, Int.reduceLE, Int.reduceLT, Nat.reduceAdd, Int.reduceToNat, Int.reducePow, Nat.reduceLT, Nat.reducePow, true_and, and_true]
  refine ⟨by decide, ?_⟩
  split
  · rename_i h
    have h : 1000000000000000000 ≤ cell := of_decide_eq_true h
    have e := spread_end (M := M) (X := []) (v := cell) (by omega)
    rw [List.append_nil] at e
    exact e
  · have c1 : 0 ≤ cell % 1000000007 ∧ cell % 1000000007 ≤ 1000000006 := by omega
    have c2 : 0 ≤ cell % 65537 ∧ cell % 65537 < 65537 := by omega
    have e1 : (2 : Int).natAbs.log2 = 1 := by decide
    have e2 : (40503 : Int).natAbs.log2 = 15 := by decide
    have e3 : (2147483647 : Int).natAbs.log2 = 30 := by decide
    have l1 : at'.natAbs.log2 < 64 := small_log (by omega)
    have l2 : (cell % 1000000007).natAbs.log2 < 64 := small_log (by omega)
    have l3 : (2 * at' + 69069).natAbs.log2 < 64 := small_log (by omega)
    have b1 := mul_bd c1.1 c1.2 (show 0 ≤ 2 * at' + 69069 by omega) (show 2 * at' + 69069 ≤ 2147600000 by omega)
    refine ⟨by decide, by omega, by omega, by omega, by omega, ?_⟩
    generalize cell % 1000000007 * (2 * at' + 69069) + at' * 40503 + 977 = A
    have hM : (M ++ [MO.lst primes8])[M.length]? = some (.lst primes8) := last_at
    show dS _ (M ++ [MO.lst primes8]) (idxM (.ref M.length) (.int (at' % 8)) (M ++ [MO.lst primes8]))
    obtain ⟨p, ep, p0, p1⟩ := prime_at (i := at' % 8) primes8 primes8_ok (by omega) (by show _ < ((8 : Nat) : Int); omega)
    simp only [idx_lst hM, ep, dS_some, Ret_mod, Ret_mul, Ret_add, Ret_pow, Int.reduceLE, Int.reduceLT, true_and]
    generalize hone : A ^ 3 % p = one
    have o0 : 0 ≤ one ∧ one < 2147483648 := by rw [← hone]; exact ⟨Int.emod_nonneg _ (by omega), by have := Int.emod_lt_of_pos (A ^ 3) p0; omega⟩
    have l4 : one.natAbs.log2 < 64 := small_log (by omega)
    have l5 : (at' + 3).natAbs.log2 < 64 := small_log (by omega)
    have b2 := mul_bd o0.1 (show one ≤ 2147483648 by omega) (show 0 ≤ at' + 3 by omega) (show at' + 3 ≤ 1073741900 by omega)
    obtain ⟨q, eq, q0, q1⟩ := prime_at (i := (at' + 5) % 8) primes8 primes8_ok (by omega) (by show _ < ((8 : Nat) : Int); omega)
    obtain ⟨r, er, r0, r1⟩ := prime_at (i := (at' + 7) % 8) primes8 primes8_ok (by omega) (by show _ < ((8 : Nat) : Int); omega)
    simp only [eq, er, dS_some, Ret_mod, Ret_mul, Ret_add, Ret_pow, Int.reduceLE, Int.reduceLT, true_and]
    generalize hB : one * (at' + 3) + cell % 65537 + 5 = B
    generalize htwo : B ^ Int.toNat 5 % q = two
    have t0 : 0 ≤ two ∧ two < 2147483648 := by rw [← htwo]; exact ⟨Int.emod_nonneg _ (by omega), by have := Int.emod_lt_of_pos (B ^ Int.toNat 5) q0; omega⟩
    generalize hC : two + one % 1009 + at' = C
    generalize hthr : C ^ Int.toNat 3 % r = three
    have h0 : 0 ≤ three := by rw [← hthr]; exact Int.emod_nonneg _ (by omega)
    have b3 := mul_bd o0.1 (show one ≤ 2147483648 by omega) (show (0 : Int) ≤ 2147483647 by omega) (Int.le_refl _)
    have l6 : (one * 2147483647 + two).natAbs.log2 < 64 := small_log (by omega)
    have n1 : 0 ≤ (one * 2147483647 + two) * 2147483647 := Int.mul_nonneg (by omega) (by omega)
    refine ⟨p0, by omega, by omega, q0, by omega, ?_⟩
    simp only [idx_lst hM, er, dS_some, Ret_mod, Ret_mul, Ret_add]
    rw [hthr]
    exact ⟨r0, by omega, by omega, spread_end (by omega)⟩

/-! ### the pen -/
def Pen (M : Hm) (p c : Nat) (b : Int) : Prop := ∃ (cells : List Int) (at' cur : Int), M[p]? = some (.lst [.ref c, .int at', .int cur]) ∧ M[c]? = some (.lst (cells.map .int)) ∧ c ≠ p ∧ 0 ≤ at' ∧ at' ≤ b ∧ 0 ≤ cur
theorem ix_lit {n : Nat} (i : Nat) (h : i < n) : L2.ixN n (i : Int) = some i := by
  unfold L2.ixN
  rw [if_pos (by omega),
      if_pos (by omega)]
  rfl
theorem idx_0 {M : Hm} {a : Nat} {x : D} {r : List D} (h : M[a]? = some (.lst (x :: r))) : idxM (.ref a) (.int 0) M = some x := by
  rw [idx_lst h, L2.atI, show (0 : Int) = ((0 : Nat) : Int) from rfl, ix_lit 0 (by simp)]
  rfl
theorem idx_1 {M : Hm} {a : Nat} {x y : D} {r : List D} (h : M[a]? = some (.lst (x :: y :: r))) : idxM (.ref a) (.int 1) M = some y := by
  rw [idx_lst h, L2.atI, show (1 : Int) = ((1 : Nat) : Int) from rfl, ix_lit 1 (by simp)]
  rfl
theorem idx_2 {M : Hm} {a : Nat} {x y z : D} {r : List D} (h : M[a]? = some (.lst (x :: y :: z :: r))) : idxM (.ref a) (.int 2) M = some z := by
  rw [idx_lst h, L2.atI, show (2 : Int) = ((2 : Nat) : Int) from rfl, ix_lit 2 (by simp)]
  rfl
theorem len_lst {M : Hm} {a : Nat} {ds : List D} {Φ : D → Hm → Prop} (h : M[a]? = some (.lst ds)) : Ret (bltM .len (.ref a) M) Φ ↔ Φ (.int ds.length) M := by
  simp only [bltM, h, bltL, Ret_ok]
theorem put_3 {M : Hm} {a : Nat} {x y z v : D} (h : M[a]? = some (.lst [x, y, z])) : putM (.ref a) (.int 1) v M = some (M.set a (.lst [x, v, z])) ∧ putM (.ref a) (.int 2) v M = some (M.set a (.lst [x, y, v])) := by
  simp [putM, h, L2.ixN]
theorem set_same {M : Hm} {p : Nat} {o : MO} (h : M[p]? = some o) : M.set p o = M := by
  refine List.ext_getElem? fun i => ?_
  rw [List.getElem?_set]
  split
  · rename_i e
    subst e
    rw [if_pos (List.getElem?_eq_some_iff.mp h).1, h]
  · rfl
def p_take (s : Nat) : S :=
  (.seq (.ifS (.cmp .lt (.idx (.var 0) (.lit (.int 2))) (.var 1)) (.seq (.set 3 (.idx (.var 0) (.lit (.int 1)))) (.seq (.set 4 (.lit (.int 0))) (.seq (.ifS (.cmp .lt (.var 3) (.blt .len (.idx (.var 0) (.lit (.int 0))))) (.set 4 (.idx (.idx (.var 0) (.lit (.int 0))) (.var 3))) (.ifS (.cmp .gt (.blt .len (.idx (.var 0) (.lit (.int 0)))) (.lit (.int 0))) (.set 4 (.bin .mod (.idx (.idx (.var 0) (.lit (.int 0))) (.bin .mod (.bin .add (.bin .mul (.var 3) (.lit (.int 5))) (.lit (.int 3))) (.blt .len (.idx (.var 0) (.lit (.int 0)))))) (.bin .add (.bin .pow (.lit (.int 10)) (.lit (.int 17))) (.var 3)))) .pas)) (.seq (.setI (.var 0) (.lit (.int 1)) (.bin .add (.var 3) (.lit (.int 1)))) (.setI (.var 0) (.lit (.int 2)) (.call s (.cons (.var 4) (.cons (.var 3) .nil)))))))) .pas) (.seq (.set 2 (.bin .mod (.idx (.var 0) (.lit (.int 2))) (.var 1))) (.seq (.setI (.var 0) (.lit (.int 2)) (.bin .fdiv (.idx (.var 0) (.lit (.int 2))) (.var 1))) (.ret (.var 2)))))
def TakeOk (prg : List Df) (t : Nat) : Prop := ∀ (k p c : Nat) (b many : Int) (M : Hm), Pen M p c b → b < 2 ^ 30 → 0 < many → many.natAbs.log2 < 9000 →
  Ret (callAt prg (k + 2) t [.ref p, .int many] M) fun d M' => ∃ v o, d = .int v ∧ 0 ≤ v ∧ v < many ∧ M' = M.set p o ∧ Pen M' p c (b + 1)
theorem take_ok {prg : List Df} {t s : Nat} (ht : prg[t]? = some ⟨5, 2, p_take s⟩) (hs : SpreadOk prg s) : TakeOk prg t := by
  intro k p c b many M pen hb hm hl
  obtain ⟨cells, at', cur, hp, hc, hcp, a0, a1, q0⟩ := pen
  have pl : p < M.length := (List.getElem?_eq_some_iff.mp hp).1
  have cl : c < M.length := (List.getElem?_eq_some_iff.mp hc).1
  refine Ret_call ht (Ret_run rfl ?_)
  simp only [p_take, List.map_cons, List.map_nil, List.length_cons, List.length_nil, List.replicate, List.cons_append, List.nil_append, Nat.reduceAdd, Nat.reduceSub]
  rw [x_seq]
  have tail : ∀ {cell : Int} {R : D → Hm → Prop} {B C : Sl → Hm → Prop}, Wp (ex (callAt prg (k + 1)) (.seq (.setI (.var 0) (.lit (.int 1)) (.bin .add (.var 3) (.lit (.int 1)))) (.setI (.var 0) (.lit (.int 2)) (.call s (.cons (.var 4) (.cons (.var 3) .nil))))) [some (.ref p), some (.int many), none, some (.int at'), some (.int cell)] M)
      (fun σ M' => ∃ x3 x4 at2 cur2, σ = [some (.ref p), some (.int many), none, x3, x4] ∧ M' = M.set p (.lst [.ref c, .int at2, .int cur2]) ∧ 0 ≤ at2 ∧ at2 ≤ b + 1 ∧ 0 ≤ cur2) R B C := by
    intro cell R B C
    simp only [x_seq, x_setI, w_var, w_lit, w_bin, w_call, w_nil, w_cons, vS_some, List.getElem?_cons_zero, List.getElem?_cons_succ, Ret_add, (put_3 hp).1, hS_some]
    refine (hs k cell at' _ a0 (by omega)).mono fun d M' h => ?_
    obtain ⟨rfl, v, rfl, hv⟩ := h
    have hp2 : (M.set p (.lst [.ref c, .int (at' + 1), .int cur]))[p]? = some (.lst [.ref c, .int (at' + 1), .int cur]) := List.getElem?_set_self pl
    rw [(put_3 hp2).2, hS_some, List.set_set]
    exact ⟨_, _, at' + 1, v, rfl, rfl, by omega, by omega, hv⟩
  have fst : ∀ {R : D → Hm → Prop} {B C : Sl → Hm → Prop}, Wp (ex (callAt prg (k + 1)) (.ifS (.cmp .lt (.idx (.var 0) (.lit (.int 2))) (.var 1)) (.seq (.set 3 (.idx (.var 0) (.lit (.int 1)))) (.seq (.set 4 (.lit (.int 0))) (.seq (.ifS (.cmp .lt (.var 3) (.blt .len (.idx (.var 0) (.lit (.int 0))))) (.set 4 (.idx (.idx (.var 0) (.lit (.int 0))) (.var 3))) (.ifS (.cmp .gt (.blt .len (.idx (.var 0) (.lit (.int 0)))) (.lit (.int 0))) (.set 4 (.bin .mod (.idx (.idx (.var 0) (.lit (.int 0))) (.bin .mod (.bin .add (.bin .mul (.var 3) (.lit (.int 5))) (.lit (.int 3))) (.blt .len (.idx (.var 0) (.lit (.int 0)))))) (.bin .add (.bin .pow (.lit (.int 10)) (.lit (.int 17))) (.var 3)))) .pas)) (.seq (.setI (.var 0) (.lit (.int 1)) (.bin .add (.var 3) (.lit (.int 1)))) (.setI (.var 0) (.lit (.int 2)) (.call s (.cons (.var 4) (.cons (.var 3) .nil)))))))) .pas) [some (.ref p), some (.int many), none, none, none] M)
      (fun σ M' => ∃ x3 x4 at2 cur2, σ = [some (.ref p), some (.int many), none, x3, x4] ∧ M' = M.set p (.lst [.ref c, .int at2, .int cur2]) ∧ 0 ≤ at2 ∧ at2 ≤ b + 1 ∧ 0 ≤ cur2) R B C := by
    intro R B C
    rw [x_if]
    simp only [w_cmp, w_idx, w_var, w_lit, t_cmp, vS_some, cS_some, kS_bl, dS_some, List.getElem?_cons_zero, List.getElem?_cons_succ, idx_2 hp, cmp_lt]
    split
    · simp only [x_seq (s := .set _ _), x_set, w_idx, w_var, w_lit, vS_some, dS_some, List.getElem?_cons_zero, idx_1 hp, List.set_cons_zero, List.set_cons_succ]
      rw [x_seq]
      have mid : Wp (ex (callAt prg (k + 1)) (.ifS (.cmp .lt (.var 3) (.blt .len (.idx (.var 0) (.lit (.int 0))))) (.set 4 (.idx (.idx (.var 0) (.lit (.int 0))) (.var 3))) (.ifS (.cmp .gt (.blt .len (.idx (.var 0) (.lit (.int 0)))) (.lit (.int 0))) (.set 4 (.bin .mod (.idx (.idx (.var 0) (.lit (.int 0))) (.bin .mod (.bin .add (.bin .mul (.var 3) (.lit (.int 5))) (.lit (.int 3))) (.blt .len (.idx (.var 0) (.lit (.int 0)))))) (.bin .add (.bin .pow (.lit (.int 10)) (.lit (.int 17))) (.var 3)))) .pas)) [some (.ref p), some (.int many), none, some (.int at'), some (.int 0)] M)
          (fun σ1 M1 => ∃ cell : Int, σ1 = [some (.ref p), some (.int many), none, some (.int at'), some (.int cell)] ∧ M1 = M) R B C := by
        simp only [x_if, x_set, x_pas, w_cmp, w_idx, w_var, w_lit, w_bin, w_blt_idx, t_cmp, vS_some, cS_some, kS_bl, dS_some, List.getElem?_cons_zero, List.getElem?_cons_succ, List.set_cons_zero, List.set_cons_succ, idx_0 hp, cmp_lt, cmp_gt, len_lst hc, List.length_map, Ret_add, Ret_mul, Ret_mod, Ret_pow, idx_lst hc]
        split
        · rename_i h
          have h : at' < cells.length := of_decide_eq_true h
          obtain ⟨x, e1, e2⟩ := at_nat (xs := cells.map D.int) a0 (by rw [List.length_map]; exact h)
          obtain ⟨z, _, rfl⟩ := List.mem_map.mp (List.mem_of_getElem? e2)
          rw [e1, dS_some]
          exact ⟨z, rfl, rfl⟩
        · split
          · rename_i h
            have h : (0 : Int) < cells.length := of_decide_eq_true h
            have l1 : at'.natAbs.log2 < 64 := small_log (by omega)
            have e5 : (5 : Int).natAbs.log2 = 2 := by decide
            obtain ⟨x, e1, e2⟩ := at_nat (xs := cells.map D.int) (i := (at' * 5 + 3) % cells.length) (Int.emod_nonneg _ (by omega)) (by rw [List.length_map]; exact Int.emod_lt_of_pos _ h)
            obtain ⟨z, _, rfl⟩ := List.mem_map.mp (List.mem_of_getElem? e2)
            refine ⟨by omega, h, ?_⟩
            rw [e1, dS_some]
            refine ⟨⟨by decide, by decide⟩, ?_⟩
            rw [Ret_mod]
            refine ⟨?_, _, rfl, rfl⟩
            have : (10 : Int) ^ Int.toNat 17 = 100000000000000000 := by decide
            omega
          · exact ⟨0, rfl, trivial⟩
      refine Wp.next mid fun σ1 M1 h => ?_
      obtain ⟨cell, rfl, rfl⟩ := h
      exact tail
    · rw [x_pas]
      refine ⟨none, none, at', cur, rfl, ?_, a0, by omega, q0⟩
      exact (set_same hp).symm
  refine Wp.next fst fun σ1 M1 h => ?_
  obtain ⟨x3, x4, at2, cur2, rfl, rfl, z0, z1, z2⟩ := h
  have hp2 : (M.set p (.lst [.ref c, .int at2, .int cur2]))[p]? = some (.lst [.ref c, .int at2, .int cur2]) := List.getElem?_set_self pl
  simp only [x_seq, x_set, x_setI, x_ret, w_bin, w_idx, w_var, w_lit, vS_some, dS_some, List.getElem?_cons_zero, List.getElem?_cons_succ, List.set_cons_zero, List.set_cons_succ, idx_2 hp2, Ret_mod, Ret_fdiv, (put_3 hp2).2, hS_some, List.set_set]
  refine ⟨hm, ⟨hm, hl⟩, ?_⟩
  have kp : Kept (· = p) M (M.set p (.lst [.ref c, .int at2, .int (cur2 / many)])) := by
    refine ⟨by rw [List.length_set]; exact Nat.le_refl _, fun i hi => ?_⟩
    by_cases e : i = p
    · subst e
      exact .inr ⟨rfl, _, List.getElem?_set_self pl, by simp [MO.low, D.lows, D.low, cl]⟩
    · exact .inl (List.getElem?_set_ne (Ne.symm e))
  rw [leave_low kp rfl]
  have tk : (M.set p (.lst [.ref c, .int at2, .int (cur2 / many)])).take M.length = M.set p (.lst [.ref c, .int at2, .int (cur2 / many)]) := List.take_of_length_le (by rw [List.length_set]; exact Nat.le_refl _)
  rw [tk]
  refine ⟨_, _, rfl, Int.emod_nonneg _ (by omega), Int.emod_lt_of_pos _ hm, rfl, cells, at2, cur2 / many, List.getElem?_set_self pl, ?_, hcp, z0, z1, Int.ediv_nonneg z2 (by omega)⟩
  rw [List.getElem?_set_ne (Ne.symm hcp)]
  exact hc

theorem cut_map {α β : Type} (f : α → β) (l : List α) (lo hi : Option Int) : cut (l.map f) lo hi = (cut l lo hi).map f := by
  unfold cut
  rw [List.length_map, List.map_take, List.map_drop]
theorem cut_len {α : Type} (l : List α) (lo hi : Option Int) : (cut l lo hi).length = min (HT.sIx l.length l.length hi - HT.sIx l.length 0 lo) (l.length - HT.sIx l.length 0 lo) := by
  unfold cut
  rw [List.length_take,
      List.length_drop]
def p_open : S :=
  (.seq (.set 1 (.blt .list (.slc (.var 0) .no (.so (.lit (.int 12)))))) (.seq (.forS (.tp [2, 3]) (.enum (.slc (.var 0) (.so (.lit (.int 12))) (.so (.lit (.int 63))))) (.setI (.var 1) (.bin .mod (.var 2) (.lit (.int 12))) (.bin .add (.idx (.var 1) (.bin .mod (.var 2) (.lit (.int 12)))) (.var 3)))) (.ret (.lst (.cons (.var 1) (.cons (.lit (.int 0)) (.cons (.lit (.int 0)) .nil)))))))
theorem set_tp2 {i j : Nat} {x y : D} {σ : Sl} : setTg (.tp [i, j]) (.tup [x, y]) σ = some ((σ.set i (some x)).set j (some y)) := rfl
theorem open_ok {prg : List Df} {o : Nat} (ho : prg[o]? = some ⟨4, 1, p_open⟩) (k : Nat) (ns : List Int) : Ret (callAt prg (k + 1) o [.rol ns] []) fun d M => ∃ p c, d = .ref p ∧ Pen M p c 0 := by
  refine Ret_call ho (Ret_run rfl ?_)
  simp only [p_open, List.map_cons, List.map_nil, List.length_cons, List.length_nil, List.replicate, List.cons_append, List.nil_append, Nat.reduceAdd, Nat.reduceSub, x_seq, x_set, w_blt_slc, w_slc, w_var, w_lit, w_no, w_so, oS_int, vS_some, List.getElem?_cons_zero, List.set_cons_zero, List.set_cons_succ]
  refine ⟨by decide, ?_⟩
  have e0 : slcM (.rol ns) none (some 12) [] = ok (.ref 0) [.lst ((cut ns none (some 12)).map .int)] := by rw [← cut_map]; rfl
  rw [e0, Ret_ok]
  have e1 : bltM .list (.ref 0) [.lst ((cut ns none (some 12)).map .int)] = ok (.ref 1) [.lst ((cut ns none (some 12)).map .int), .lst ((cut ns none (some 12)).map .int)] := rfl
  rw [e1, Ret_ok, x_for]
  simp only [s_enum, w_slc, w_var, w_lit, w_no, w_so, oS_int, vS_some, List.getElem?_cons_zero]
  refine ⟨by decide, by decide, ?_⟩
  generalize hA : (cut ns none (some 12)) = A
  generalize hB : (cut ns (some 12) (some 63)) = B
  have e2 : slcM (.rol ns) (some 12) (some 63) [.lst (A.map .int), .lst (A.map .int)] = ok (.ref 2) [.lst (A.map .int), .lst (A.map .int), .lst (B.map .int)] := by rw [← hB, ← cut_map]; rfl
  rw [e2, Ret_ok]
  show Wp (forL (.tp [2, 3]) ⟨enumD 0 (B.map .int), [(2, .lst (B.map .int))]⟩ _ _ (enumD 0 (B.map .int)) _ _) _ _ _ _
  have s12 : ∀ d, HT.sIx ns.length d (some 12) = min 12 ns.length := fun d => HT.sIx_nat _ d 12
  have s63 : ∀ d, HT.sIx ns.length d (some 63) = min 63 ns.length := fun d => HT.sIx_nat _ d 63
  have lA : A.length = min 12 ns.length := by
    rw [← hA, cut_len, s12, HT.sIx_none]
    omega
  have lB : ns.length ≤ 12 → B.length = 0 := fun h => by
    rw [← hB, cut_len, s12, s63]
    omega
  have ls : ∀ (σ : Sl) (a b c d e f : MO), leaveS [a, b, c] σ [d, e, f] = (σ, [d, e, f]) := fun _ _ _ _ _ _ _ => rfl
  refine Wp_for (fun i σ M => ∃ (C : List Int) (x2 x3 : Option D), σ = [some (.rol ns), some (.ref 1), x2, x3] ∧ M = [.lst (A.map .int), .lst (C.map .int), .lst (B.map .int)] ∧ C.length = A.length) 0 ⟨A, _, _, rfl, rfl, rfl⟩ ?_ ?_
  · rintro i d σ M hd ⟨C, x2, x3, rfl, rfl, hC⟩
    obtain ⟨d0, e, rfl⟩ := enum_at hd
    rw [List.getElem?_map] at e
    obtain ⟨z, hz, rfl⟩ := Option.map_eq_some_iff.mp e
    have hi := (List.getElem?_eq_some_iff.mp hz).1
    refine ⟨by simp [Wk.ok], _, set_tp2, ?_⟩
    have h12 : C.length = 12 := by
      have : ¬ ns.length ≤ 12 := fun q => by have := lB q; omega
      omega
    rw [Nat.zero_add]
    obtain ⟨x, e1, e2⟩ := at_nat (xs := C.map D.int) (i := ((i : Nat) : Int) % 12) (by omega) (by rw [List.length_map, h12]; omega)
    obtain ⟨y, _, rfl⟩ := List.mem_map.mp (List.mem_of_getElem? e2)
    have hM : ([.lst (A.map .int), .lst (C.map .int), .lst (B.map .int)] : Hm)[1]? = some (.lst (C.map .int)) := rfl
    simp only [List.set_cons_zero, List.set_cons_succ, x_setI, w_bin, w_idx, w_var, w_lit, vS_some, List.getElem?_cons_zero, List.getElem?_cons_succ, Ret_mod, idx_lst hM, e1, dS_some, Ret_add]
    refine ⟨by decide, by decide, ?_⟩
    have hp : putM (.ref 1) (.int (((i : Nat) : Int) % 12)) (.int (y + z)) [.lst (A.map .int), .lst (C.map .int), .lst (B.map .int)] = some [.lst (A.map .int), .lst ((C.set (((i : Nat) : Int) % 12).toNat (y + z)).map .int), .lst (B.map .int)] := by
      have ix : L2.ixN (C.map D.int).length (((i : Nat) : Int) % 12) = some (((i : Nat) : Int) % 12).toNat := by
        unfold L2.ixN
        rw [if_pos (by omega), if_pos (by rw [List.length_map, h12]; omega)]
      simp only [putM, hM, ix]
      rw [List.map_set]
      rfl
    rw [hp, hS_some, ls]
    exact ⟨_, _, _, rfl, rfl, by rw [List.length_set]; exact hC⟩
  · rintro σ M ⟨C, x2, x3, rfl, rfl, hC⟩
    refine ⟨by simp [Wk.ok], ?_⟩
    simp only [x_ret, w_lst, w_cons, w_nil, w_var, w_lit, vS_some, List.getElem?_cons_succ, List.getElem?_cons_zero, Ret_newL]
    refine ⟨by decide, ?_⟩
    have lv : leave [] (.ref 3) [.lst (A.map .int), .lst (C.map .int), .lst (B.map .int), .lst [.ref 1, .int 0, .int 0]] = ok (.ref 3) [.lst (A.map .int), .lst (C.map .int), .lst (B.map .int), .lst [.ref 1, .int 0, .int 0]] := rfl
    show Ret (leave [] (.ref 3) [.lst (A.map .int), .lst (C.map .int), .lst (B.map .int), .lst [.ref 1, .int 0, .int 0]]) _
    rw [lv, Ret_ok]
    exact ⟨3, 1, rfl, C, 0, 0, rfl, rfl, by decide, by decide, by decide, by decide⟩

/-- the heap but for the pen -/
def Pst (p : Nat) (M M' : Hm) : Prop := ∃ o, M' = M.set p o
theorem Pst.len {p : Nat} {M M' : Hm} (h : Pst p M M') : M'.length = M.length := by obtain ⟨o, rfl⟩ := h; exact List.length_set
theorem Pst.get {p i : Nat} {M M' : Hm} (h : Pst p M M') (hi : i ≠ p) : M'[i]? = M[i]? := by obtain ⟨o, rfl⟩ := h; exact List.getElem?_set_ne (Ne.symm hi)
theorem Pst.trans {p : Nat} {A B C : Hm} (h : Pst p A B) (g : Pst p B C) : Pst p A C := by
  obtain ⟨o, rfl⟩ := h
  obtain ⟨o', rfl⟩ := g
  exact ⟨o', List.set_set ..⟩
theorem Pen.refl {M : Hm} {p c : Nat} {b : Int} (h : Pen M p c b) : Pst p M M := by
  obtain ⟨cells, a, q, h1, _⟩ := h
  exact ⟨_, (set_same h1).symm⟩
theorem Pen.le {M : Hm} {p c : Nat} {b b' : Int} (h : Pen M p c b) (hb : b ≤ b') : Pen M p c b' := by
  obtain ⟨cells, a, q, h1, h2, h3, h4, h5, h6⟩ := h
  exact ⟨cells, a, q, h1, h2, h3, h4, by omega, h6⟩
theorem Pen.lt {M : Hm} {p c : Nat} {b : Int} (h : Pen M p c b) : p < M.length ∧ c < M.length := by
  obtain ⟨cells, a, q, h1, h2, _⟩ := h
  exact ⟨(List.getElem?_eq_some_iff.mp h1).1, (List.getElem?_eq_some_iff.mp h2).1⟩
theorem Pen.app {M X : Hm} {p c : Nat} {b : Int} (h : Pen M p c b) : Pen (M ++ X) p c b := by
  obtain ⟨l1, l2⟩ := h.lt
  obtain ⟨cells, a, q, h1, h2, h3⟩ := h
  exact ⟨cells, a, q, by rw [List.getElem?_append_left l1]; exact h1, by rw [List.getElem?_append_left l2]; exact h2, h3⟩
/-- what stands behind some steps of the pen, and new things behind -/
theorem pen_kept {M M1 X : Hm} {p c : Nat} {b b' : Int} (h : Pen M p c b) (s : Pst p M M1) (g : Pen M1 p c b') : Kept (· = p) M (M1 ++ X) := by
  obtain ⟨_, l2⟩ := h.lt
  refine ⟨by rw [List.length_append, s.len]; omega, fun i hi => ?_⟩
  rw [List.getElem?_append_left (by rw [s.len]; exact hi)]
  by_cases e : i = p
  · subst e
    obtain ⟨cells, a, q, h1, _⟩ := g
    exact .inr ⟨rfl, _, h1, by simp [MO.low, D.lows, D.low, l2]⟩
  · exact .inl (s.get e)
/-- a list leaves that is new -/
theorem leave_new {M M1 X : Hm} {p c : Nat} {b b' : Int} {i : Nat} {ds : List D} (h : Pen M p c b) (s : Pst p M M1) (g : Pen M1 p c b') (hi : M.length ≤ i) (e : (M1 ++ X)[i]? = some (.lst ds)) (l : D.lows M.length ds = true) : leave M (.ref i) (M1 ++ X) = ok (.ref M.length) (M1 ++ [.lst ds]) := by
  rw [leave_ref (pen_kept h s g) hi e l, ← s.len, List.take_left]
theorem leave_old {M M1 X : Hm} {p c : Nat} {b b' : Int} {d : D} (h : Pen M p c b) (s : Pst p M M1) (g : Pen M1 p c b') (l : d.low M.length = true) : leave M d (M1 ++ X) = ok d M1 := by
  rw [leave_low (pen_kept h s g) l, ← s.len, List.take_left]
theorem leave_eq {M M1 : Hm} {d : D} (h : M1.length = M.length) : leave M d M1 = ok d M1 := if_pos h
mutual
theorem pl_low {n : Nat} : ∀ {d : D}, (∀ i, d ≠ .ref i) → (∀ ds, d ≠ .tup ds) → d.low n = true
  | .non, _, _ => rfl
  | .bl _, _, _ => rfl
  | .int _, _, _ => rfl
  | .str _, _, _ => rfl
  | .rol _, _, _ => rfl
  | .ref i, h, _ => absurd rfl (h i)
  | .tup ds, _, h => absurd rfl (h ds)
end
end Mi

/-! Pu3: plain data: == and repr. -/
namespace Mi
open PySem
mutual
/-- None, ints, texts and tuples of them -/
def D.pl : D → Bool
  | .non => true
  | .int i => decide (i.natAbs.log2 < 1000)
  | .str x => PyData.strOk ⟨x.toArray⟩
  | .tup ds => D.pls ds
  | _ => false
def D.pls : List D → Bool
  | [] => true
  | d :: ds => D.pl d && D.pls ds
end
mutual
def D.dep : D → Nat
  | .tup ds => D.deps ds + 1
  | _ => 0
def D.deps : List D → Nat
  | [] => 0
  | d :: ds => max (D.dep d) (D.deps ds)
end
mutual
/-- how long its repr is at most -/
def D.sz : D → Nat
  | .str x => 10 * x.length + 4
  | .int i => i.natAbs.log2 + 4
  | .tup ds => D.szs ds + 4
  | _ => 8
def D.szs : List D → Nat
  | [] => 0
  | d :: ds => D.sz d + 2 + D.szs ds
end
theorem pls_all {ds : List D} : D.pls ds = true ↔ ∀ d ∈ ds, D.pl d = true := by
  induction ds with
  | nil => simp [D.pls]
  | cons d r ih => simp [D.pls, ih]
mutual
theorem py_pl : ∀ {d : D}, d.pl = true → ∃ p, d.py = some p ∧ p.canLay0 = true ∧ p.showable = true ∧ p.depth = d.dep
  | .non, _ => ⟨_, rfl, rfl, rfl, rfl⟩
  | .int i, h => ⟨_, rfl, rfl, by simp only [D.pl, decide_eq_true_eq] at h; simp only [PyData.showable, decide_eq_true_eq]; omega, rfl⟩
  | .str x, h => ⟨_, rfl, by simp only [D.pl] at h; simpa only [PyData.canLay0] using h, rfl, rfl⟩
  | .tup ds, h => by
    obtain ⟨ps, e, h1, h2, h3⟩ := pys_pl (by simpa only [D.pl] using h)
    exact ⟨.tuple ps, by simp only [D.py, e, Option.map_some], by simpa only [PyData.canLay0] using h1, by simpa only [PyData.showable] using h2, by simp only [PyData.depth, D.dep, h3]⟩
  | .bl _, h => by simp [D.pl] at h
  | .ref _, h => by simp [D.pl] at h
  | .rol _, h => by simp [D.pl] at h
theorem pys_pl : ∀ {ds : List D}, D.pls ds = true → ∃ ps, D.pys ds = some ps ∧ PyData.canLayAll0 ps = true ∧ PyData.showableAll ps = true ∧ PyData.depthAll ps = D.deps ds
  | [], _ => ⟨[], rfl, rfl, rfl, rfl⟩
  | d :: r, h => by
    simp only [D.pls, Bool.and_eq_true] at h
    obtain ⟨p, e, h1, h2, h3⟩ := py_pl h.1
    obtain ⟨ps, f, g1, g2, g3⟩ := pys_pl h.2
    exact ⟨p :: ps, by simp only [D.pys, e, f, Option.bind_some, Option.map_some], by simp only [PyData.canLayAll0, h1, g1, Bool.and_self], by simp only [PyData.showableAll, h2, g2, Bool.and_self], by simp only [PyData.depthAll, D.deps, h3, g3]⟩
end
mutual
theorem pyM_py {M : Hm} : ∀ {d : D} {p : PyData}, d.py = some p → ∀ n, pyM M n d = some p
  | d, p, h, 0 => by simpa only [pyM] using h
  | .tup ds, p, h, n + 1 => by
    simp only [D.py, Option.map_eq_some_iff] at h
    obtain ⟨ps, e, rfl⟩ := h
    simp only [pyM, pysM_py e n, Option.map_some]
  | .non, p, h, n + 1 => by simpa only [pyM] using h
  | .int _, p, h, n + 1 => by simpa only [pyM] using h
  | .str _, p, h, n + 1 => by simpa only [pyM] using h
  | .bl _, p, h, n + 1 => by simpa only [pyM] using h
  | .rol _, p, h, n + 1 => by simp [D.py] at h
  | .ref _, p, h, n + 1 => by simp [D.py] at h
theorem pysM_py {M : Hm} : ∀ {ds : List D} {ps : List PyData}, D.pys ds = some ps → ∀ n, ds.mapM (pyM M n) = some ps
  | [], ps, h, n => by simp only [D.pys] at h; cases h; rfl
  | d :: r, ps, h, n => by
    simp only [D.pys, Option.bind_eq_some_iff, Option.map_eq_some_iff] at h
    obtain ⟨p, e, qs, f, rfl⟩ := h
    rw [List.mapM_cons, pyM_py e n, pysM_py f n]
    rfl
end
mutual
theorem eqv_pl : ∀ {a b : D} {p q : PyData}, a.pl = true → b.pl = true → a.py = some p → b.py = some q → PyData.eqv p q = decide (a = b)
  | .non, b, p, q, _, hb, ha', hb' => by
    cases ha'
    cases b <;> first | (simp [D.pl] at hb; done) | (simp only [D.py] at hb'; cases hb'; simp [PyData.eqv]) | (simp only [D.py, Option.map_eq_some_iff] at hb'; obtain ⟨ps, _, rfl⟩ := hb'; simp [PyData.eqv])
  | .int i, b, p, q, _, hb, ha', hb' => by
    cases ha'
    cases b <;> first | (simp [D.pl] at hb; done) | (simp only [D.py] at hb'; cases hb'; simp [PyData.eqv, BEq.beq]) | (simp only [D.py, Option.map_eq_some_iff] at hb'; obtain ⟨ps, _, rfl⟩ := hb'; simp [PyData.eqv])
  | .str x, b, p, q, _, hb, ha', hb' => by
    cases ha'
    cases b with
    | str y =>
      cases hb'
      simp only [PyData.eqv]
      by_cases h : x = y
      · subst h; simp
      · simp [h]
    | tup ds => simp only [D.py, Option.map_eq_some_iff] at hb'; obtain ⟨ps, _, rfl⟩ := hb'; simp [PyData.eqv]
    | _ => first | (simp [D.pl] at hb; done) | (simp only [D.py] at hb'; cases hb'; simp [PyData.eqv])
  | .tup as, b, p, q, ha, hb, ha', hb' => by
    simp only [D.py, Option.map_eq_some_iff] at ha'
    obtain ⟨ps, e, rfl⟩ := ha'
    cases b with
    | tup bs =>
      simp only [D.py, Option.map_eq_some_iff] at hb'
      obtain ⟨qs, f, rfl⟩ := hb'
      simp only [PyData.eqv, eqvs_pl (by simpa only [D.pl] using ha) (by simpa only [D.pl] using hb) e f, D.tup.injEq]
    | _ => first | (simp [D.pl] at hb; done) | (simp only [D.py] at hb'; cases hb'; simp [PyData.eqv])
  | .bl _, b, p, q, ha, _, _, _ => by simp [D.pl] at ha
  | .ref _, b, p, q, ha, _, _, _ => by simp [D.pl] at ha
  | .rol _, b, p, q, ha, _, _, _ => by simp [D.pl] at ha
theorem eqvs_pl : ∀ {a b : List D} {p q : List PyData}, D.pls a = true → D.pls b = true → D.pys a = some p → D.pys b = some q → PyData.eqvAll p q = decide (a = b)
  | [], [], p, q, _, _, ha, hb => by simp only [D.pys] at ha hb; cases ha; cases hb; rfl
  | [], b :: bs, p, q, _, _, ha, hb => by
    simp only [D.pys, Option.bind_eq_some_iff, Option.map_eq_some_iff] at ha hb
    cases ha
    obtain ⟨p, e, qs, f, rfl⟩ := hb
    simp [PyData.eqvAll]
  | a :: as, [], p, q, _, _, ha, hb => by
    simp only [D.pys, Option.bind_eq_some_iff, Option.map_eq_some_iff] at ha hb
    cases hb
    obtain ⟨p, e, qs, f, rfl⟩ := ha
    simp [PyData.eqvAll]
  | a :: as, b :: bs, p, q, ha, hb, ha', hb' => by
    simp only [D.pys, Option.bind_eq_some_iff, Option.map_eq_some_iff] at ha' hb'
    obtain ⟨p, e, ps, f, rfl⟩ := ha'
    obtain ⟨q, e2, qs, f2, rfl⟩ := hb'
    simp only [D.pls, Bool.and_eq_true] at ha hb
    simp only [PyData.eqvAll, eqv_pl ha.1 hb.1 e e2, eqvs_pl ha.2 hb.2 f f2, List.cons.injEq, Bool.decide_and]
end
theorem eq_pl {M : Hm} {a b : D} (ha : a.pl = true) (hb : b.pl = true) (da : a.dep ≤ 64) (db : b.dep ≤ 64) : eqM M a b = some (decide (a = b)) := by
  obtain ⟨p, e, h1, h2, h3⟩ := py_pl ha
  obtain ⟨q, f, g1, g2, g3⟩ := py_pl hb
  unfold eqM
  split
  · rename_i h
    simp only
        [Bool.and_eq_true] at h
    have : ∀ x y : List Nat, (x == y) = decide (x = y) := fun x y => by
      by_cases q : x = y
      · subst q; simp
      · simp [q]
    cases a <;> cases b <;> first
      | (simp [D.pl] at ha; done)
      | (simp [D.pl] at hb; done)
      | (simp [D.atom] at h; done)
      | (simp only [D.peq, this, D.str.injEq]; done)
      | (simp [D.peq, BEq.beq]; done)
  · have s1 : SeqAt.shaped p = true := by unfold SeqAt.shaped; rw [h1, h3]; simp [da]
    have s2 : SeqAt.shaped q = true := by unfold SeqAt.shaped; rw [g1, g3]; simp [db]
    have de : dataEq M a b = some (decide (a = b)) := by
      unfold dataEq
      rw [pyM_py e, pyM_py f]
      simp only [Option.bind_some, s1, s2, Bool.and_self, if_true, eqv_pl ha hb e f]
    rw [de]
end Mi
namespace Mi
open PySem
theorem int_sz {i : Int} (h : i.natAbs.log2 < 1000) : (PyData.shown (.int i)).length ≤ i.natAbs.log2 + 4 := by
  have := int_text_length_le (a := i) (k := i.natAbs.log2 + 1) (by omega) (by omega)
  show (Str.ofString (toString i)).length ≤ _
  rw [ofString_length]
  omega
theorem str_sz {x : List Nat} (h : PyData.strOk ⟨x.toArray⟩ = true) : (PyData.shown (.str ⟨x.toArray⟩)).length ≤ 10 * x.length + 4 := by
  have := PySem.StrLaws.reprText_len ⟨x.toArray⟩ fun c hc => by
    unfold PyData.strOk at h
    have := Array.all_eq_true_iff_forall_mem.mp h c (by simpa using hc)
    have := of_decide_eq_true this
    omega
  show (reprText ⟨x.toArray⟩).length ≤ _
  have e : (⟨x.toArray⟩ : Str).length = x.length := by simp [Str.length]
  rw [e] at this
  omega
theorem tup_sz {ts : List Str} : (tupleText ts).length ≤ piled ts + 4 := by
  unfold tupleText
  rw [strLen_append,
      strLen_append]
  have e1 : ((if ts.length == 1 then ",)" else ")" : String) : Str).length ≤ 2 := by split <;> decide
  have e2 : (("(" : Str)).length = 1 := rfl
  by_cases h : ts = []
  · subst h
    have e3 : (Str.join ", " ([] : List Str)).length = 0 := rfl
    omega
  · have :=
      join_length_add ts h
    omega
mutual
theorem shown_sz : ∀ {d : D} {p : PyData}, d.pl = true → d.py = some p → p.shown.length ≤ d.sz
  | .non, p, _, e => by cases e; decide
  | .int i, p, h, e => by cases e; simp only [D.pl, decide_eq_true_eq] at h; exact int_sz h
  | .str x, p, h, e => by cases e; simp only [D.pl] at h; exact str_sz h
  | .tup ds, p, h, e => by
    simp only [D.py, Option.map_eq_some_iff] at e
    obtain ⟨ps, e, rfl⟩ := e
    have := showns_sz (by simpa only [D.pl] using h) e
    have t := tup_sz (ts := PyData.shownAll ps)
    simp only [PyData.shown, D.sz]
    omega
  | .bl _, p, h, e => by simp [D.pl] at h
  | .ref _, p, h, e => by simp [D.pl] at h
  | .rol _, p, h, e => by simp [D.pl] at h
theorem showns_sz : ∀ {ds : List D} {ps : List PyData}, D.pls ds = true → D.pys ds = some ps → piled (PyData.shownAll ps) ≤ D.szs ds
  | [], ps, _, e => by simp only [D.pys] at e; cases e; exact Nat.le_refl _
  | d :: r, ps, h, e => by
    simp only [D.pls, Bool.and_eq_true] at h
    simp only [D.pys, Option.bind_eq_some_iff, Option.map_eq_some_iff] at e
    obtain ⟨p, e1, qs, e2, rfl⟩ := e
    have h1 := shown_sz h.1 e1
    have h2 := showns_sz h.2 e2
    simp only [PyData.shownAll, piled_cons, D.szs]
    omega
end
theorem repr_pl {d : D} (h : d.pl = true) (hd : d.dep ≤ 64) (hz : d.sz ≤ lim) : ∃ t, ∀ M, reprM M d = some t := by
  obtain ⟨p, e, h1, h2, h3⟩ := py_pl h
  have := shown_sz h e
  refine ⟨p.shown.cps.toList, fun M => ?_⟩
  unfold reprM
  rw [pyM_py e]
  simp only [Option.bind_some, h2, h3, Bool.true_and]
  rw [if_pos]
  simp only [Bool.and_eq_true,
      decide_eq_true_eq]
  exact ⟨hd, by omega⟩
end Mi

/-! Rt: roots of rows, rounds to one side. -/
namespace Mi
open PySem
section
variable {α : Type}
    [DecidableEq α]
def pow (n : Nat) (x : List α) : List α := (List.replicate n x).flatten
def rootAt (w : List α) (s : Nat) : Bool := decide (w.length % s = 0) && decide (pow (w.length / s) (w.take s) = w)
def rootOf (w : List α) : List α := match (List.range w.length).find? fun s => decide (1 ≤ s) && rootAt w s with
  | some s => w.take s
  | none => w
theorem rootOf_some {w : List α} {s : Nat} (h1 : 1 ≤ s) (h2 : s < w.length) (h3 : rootAt w s = true) (h4 : ∀ t, 1 ≤ t → t < s → rootAt w t = false) : rootOf w = w.take s := by
  have : (List.range w.length).find? (fun s => decide (1 ≤ s) && rootAt w s) = some s := by
    rw [List.find?_range_eq_some]
    refine ⟨by simp [h1, h3], List.mem_range.mpr h2, fun j hj => ?_⟩
    by_cases h : 1 ≤ j
    · simp [h4 j h hj]
    · simp [h]
  unfold rootOf
  rw [this]
theorem rootOf_none {w : List α} (h : ∀ t, 1 ≤ t → t < w.length → rootAt w t = false) : rootOf w = w := by
  have : (List.range w.length).find? (fun s => decide (1 ≤ s) && rootAt w s) = none := by
    rw [List.find?_range_eq_none]
    intro i hi
    by_cases h1 : 1 ≤ i
    · simp [h i h1 hi]
    · simp [h1]
  unfold rootOf
  rw [this]
/-- u from its end -/
def peel : List α → List α → List α × List α
  | [], v => ([], v)
  | a :: r, v => if v.getLast? = some a then peel r (a :: v.dropLast) else (a :: r, v)
end
/-! ### slices -/
theorem cut_upto {α : Type} {xs : List α} {n : Nat} (h : n ≤ xs.length) : cut xs none (some (n : Int)) = xs.take n := by
  unfold cut
  rw [HT.sIx_nat, HT.sIx_none, Nat.min_eq_left h]
  simp
theorem cut_from {α : Type} {xs : List α} {n : Nat} (h : n ≤ xs.length) : cut xs (some (n : Int)) none = xs.drop n := by
  unfold cut
  rw [HT.sIx_nat, HT.sIx_none, Nat.min_eq_left h]
  exact List.take_of_length_le (by rw [List.length_drop]; exact Nat.le_refl _)
theorem cut_part {α : Type} {xs : List α} {m n : Nat} (h : m ≤ xs.length) (h2 : n ≤ xs.length) : cut xs (some (m : Int)) (some (n : Int)) = (xs.drop m).take (n - m) := by
  unfold cut
  rw [HT.sIx_nat, HT.sIx_nat, Nat.min_eq_left h, Nat.min_eq_left h2]
theorem cut_but {α : Type} (xs : List α) : cut xs none (some (-1)) = xs.dropLast := by
  unfold cut
  simp only [HT.sIx]
  rw [if_pos (by decide), List.dropLast_eq_take]
  simp
  congr 1
  omega
theorem cut_last {α : Type} (xs : List α) : cut xs (some (-1)) none = xs.drop (xs.length - 1) := by
  unfold cut
  simp only [HT.sIx]
  rw [if_pos (by decide)]
  have : (-1 + (xs.length : Int)).toNat = xs.length - 1 := by omega
  rw [this]
  exact List.take_of_length_le (by
      rw [List.length_drop]; omega)
theorem at_last {α : Type} {xs : List α} (h : xs ≠ []) : L2.atI xs (-1) = xs.getLast? := by
  have hl := List.length_pos_iff.mpr h
  unfold L2.atI L2.ixN
  rw [if_neg (by decide), if_pos (by omega), List.getLast?_eq_getElem?]
  have : (-1 + (xs.length : Int)).toNat = xs.length - 1 := by omega
  simp only [this, Option.bind_some]
theorem at_first {α : Type} {xs : List α} (h : xs ≠ []) : L2.atI xs 0 = xs.head? := by
  cases xs with
  | nil => exact absurd rfl h
  | cons a r =>
    unfold L2.atI
    rw [show (0 : Int) = ((0 : Nat) : Int) from rfl, ix_lit 0 (by simp)]
    rfl
theorem slc_tup {ds : List D} {lo hi : Option Int} {M : Hm} {Φ : D → Hm → Prop} : Ret (slcM (.tup ds) lo hi M) Φ ↔ Φ (.tup (cut ds lo hi)) M := Iff.rfl
theorem len_tup {ds : List D} {M : Hm} {Φ : D → Hm → Prop} : Ret (bltM .len (.tup ds) M) Φ ↔ Φ (.int ds.length) M := Iff.rfl
theorem idx_tup {ds : List D} {i : Int} {M : Hm} : idxM (.tup ds) (.int i) M = L2.atI ds i := rfl
theorem leave_same {M : Hm} {d : D} : leave M d M = ok d M := if_pos rfl
theorem pls_sub {a b : List D} (h : D.pls b = true) (hs : ∀ d ∈ a, d ∈ b) : D.pls a = true := pls_all.mpr fun d hd => pls_all.mp h d (hs d hd)
theorem deps_le {n : Nat} {ds : List D} : D.deps ds ≤ n ↔ ∀ d ∈ ds, D.dep d ≤ n := by
  induction ds with
  | nil => simp [D.deps]
  | cons d r ih => simp [D.deps, ih, Nat.max_le]
/-- rows of plain things -/
structure Row0 (ds : List D) : Prop where
  pl : D.pls ds = true
  dp : D.deps ds ≤ 40
theorem Row0.sub {a b : List D} (h : Row0 b) (hs : ∀ d ∈ a, d ∈ b) : Row0 a := ⟨pls_sub h.pl hs, deps_le.mpr fun d hd => deps_le.mp h.dp d (hs d hd)⟩
theorem Row0.nil : Row0 [] := ⟨rfl, Nat.zero_le _⟩
theorem Row0.app {a b : List D} (h : Row0 a) (g : Row0 b) : Row0 (a ++ b) := ⟨pls_all.mpr fun d hd => (List.mem_append.mp hd).elim (pls_all.mp h.pl d) (pls_all.mp g.pl d), deps_le.mpr fun d hd => (List.mem_append.mp hd).elim (deps_le.mp h.dp d) (deps_le.mp g.dp d)⟩
theorem eq_row {M : Hm} {a b : List D} (ha : Row0 a) (hb : Row0 b) : eqM M (.tup a) (.tup b) = some (decide (a = b)) := by
  have h1 := ha.dp
  have h2 := hb.dp
  rw [eq_pl (by simpa only [D.pl] using ha.pl) (by simpa only [D.pl] using hb.pl) (by simp only [D.dep]; omega) (by simp only [D.dep]; omega)]
  simp
theorem eq_one {M : Hm} {a b : D} {as bs : List D} (ha : Row0 as) (hb : Row0 bs) (h1 : a ∈ as) (h2 : b ∈ bs) : eqM M a b = some (decide (a = b)) := by
  have q1 := deps_le.mp ha.dp a h1
  have q2 := deps_le.mp hb.dp b h2
  exact eq_pl (pls_all.mp ha.pl a h1) (pls_all.mp hb.pl b h2) (by omega) (by omega)
theorem cmp_eq {M : Hm} {x y : D} {k : Bool} (h : eqM M x y = some k) : cmpM .eq x y M = some k := h
theorem cmp_ne {M : Hm} {x y : D} {k : Bool} (h : eqM M x y = some k) : cmpM .ne x y M = some (!k) := by
  show (eqM M x y).map _ = _
  rw [h]
  rfl

def p_root : S :=
  (.seq (.forS (.nm 1) (.rng (.lit (.int 1)) (.blt .len (.var 0))) (.ifS (.andE (.cmp .eq (.bin .mod (.blt .len (.var 0)) (.var 1)) (.lit (.int 0))) (.cmp .eq (.bin .mul (.slc (.var 0) .no (.so (.var 1))) (.bin .fdiv (.blt .len (.var 0)) (.var 1))) (.var 0))) (.ret (.slc (.var 0) .no (.so (.var 1)))) .pas)) (.ret (.var 0)))
theorem rep_pow {n : Nat} {x : List D} : rep (n : Int) x = pow n x := by
  unfold rep pow
  rw [Int.toNat_natCast]
theorem rng_at {lo hi : Int} {i : Nat} {d : D} (h : (rngD lo hi)[i]? = some d) : d = .int (lo + i) ∧ lo + i < hi := by
  unfold rngD at h
  rw [List.getElem?_map] at h
  obtain ⟨k, hk, rfl⟩ := Option.map_eq_some_iff.mp h
  have hl := (List.getElem?_eq_some_iff.mp hk).1
  rw [List.getElem?_range (by simpa using hl)] at hk
  cases hk
  rw [List.length_range] at hl
  exact ⟨rfl, by omega⟩
theorem rng_len {lo hi : Int} : (rngD lo hi).length = (hi - lo).toNat := by unfold rngD; simp
theorem set_nm {i : Nat} {d : D} {σ : Sl} : setTg (.nm i) d σ = some (σ.set i (some d)) := rfl
theorem wk_free {its : List D} {M : Hm} : Wk.ok ⟨its, []⟩ M = true := rfl
theorem mem_pow {n : Nat} {x : List D} : ∀ d ∈ pow n x, d ∈ x := by
  intro d hd
  unfold pow at hd
  obtain ⟨l, hl, hd⟩ := List.mem_flatten.mp hd
  rw [(List.mem_replicate.mp hl).2] at hd
  exact hd
def RootOk (prg : List Df) (i : Nat) : Prop := ∀ (k : Nat) (w : List D) (M : Hm), Row0 w → w.length ≤ 1000000 → Ret (callAt prg (k + 1) i [.tup w] M) fun d M' => d = .tup (rootOf w) ∧ M' = M
theorem root_ok {prg : List Df} {i : Nat} (hi : prg[i]? = some ⟨2, 1, p_root⟩) : RootOk prg i := by
  intro k w M hw hl
  refine Ret_call hi (Ret_run rfl ?_)
  simp only [p_root, List.map_cons, List.map_nil, List.length_cons, List.length_nil, List.replicate, List.cons_append, List.nil_append, Nat.reduceAdd, Nat.reduceSub, x_seq, x_for, s_rng, w_lit, w_blt_var, w_var, vS_some, List.getElem?_cons_zero, len_tup, rS_int]
  refine ⟨by omega, ?_⟩
  refine Wp_for (fun j σ M' => ∃ x, σ = [some (.tup w), x] ∧ M' = M ∧ ∀ t, 1 ≤ t → t < 1 + j → rootAt w t = false) 0 ⟨_, rfl, rfl, fun t h1 h2 => by omega⟩ ?_ ?_
  · rintro j d σ M' hd ⟨x, rfl, rfl, hno⟩
    obtain ⟨rfl, hlt⟩ := rng_at hd
    refine ⟨wk_free, _, set_nm, ?_⟩
    have e1 : (1 : Int) + (j : Int) = ((1 + j : Nat) : Int) := by omega
    have hj : 1 + j < w.length := by omega
    rw [e1]
    have hd : Row0 (w.take (1 + j)) := hw.sub fun d h => List.mem_of_mem_take h
    have lp : (pow (w.length / (1 + j)) (w.take (1 + j))).length ≤ w.length := by
      unfold pow
      rw [List.length_flatten, List.map_replicate, List.sum_replicate_nat, List.length_take, Nat.min_eq_left (by omega)]
      exact Nat.div_mul_le_self _ _
    have hp : Row0 (pow (w.length / (1 + j)) (w.take (1 + j))) := hd.sub mem_pow
    have mo : ((w.length : Int) % ((1 + j : Nat) : Int)) = ((w.length % (1 + j) : Nat) : Int) := by rw [Int.natCast_emod]
    have dv : ((w.length : Int) / ((1 + j : Nat) : Int)) = ((w.length / (1 + j) : Nat) : Int) := by rw [Int.natCast_ediv]
    have lg : (((1 + j : Nat) : Int)).natAbs.log2 < 64 := small_log (by omega)
    have qle : w.length / (1 + j) ≤ w.length := Nat.div_le_self _ _
    simp only [List.set_cons_zero, List.set_cons_succ, x_if, t_and, t_cmp, w_cmp, w_bin, w_blt_var, w_var, w_lit, w_slc, w_no, w_so, vS_some, cS_some, kS_bl, oS_int, List.getElem?_cons_zero, List.getElem?_cons_succ, len_tup, Ret_mod, Ret_fdiv, cmp_eqI, slc_tup, mo, dv, cut_upto (show 1 + j ≤ w.length by omega), x_ret, x_pas]
    refine ⟨by omega, ?_⟩
    have fail : rootAt w (1 + j) = false → ∀ t, 1 ≤ t → t < 1 + (0 + j + 1) → rootAt w t = false := fun h t h1 h2 => by
      by_cases e : t = 1 + j
      · rw [e]; exact h
      · exact hno t h1 (by omega)
    split
    · rename_i hm
      have hm : w.length % (1 + j) = 0 := by have := of_decide_eq_true hm; omega
      refine ⟨⟨by omega, by omega⟩, ⟨by omega, by omega⟩, ?_⟩
      have md := Nat.mul_div_le w.length (1 + j)
      have rt : ∀ h : pow (w.length / (1 + j)) (w.take (1 + j)) = w, rootAt w (1 + j) = true := fun h => by simp [rootAt, hm, h]
      have rf : ¬ pow (w.length / (1 + j)) (w.take (1 + j)) = w → rootAt w (1 + j) = false := fun h => by simp [rootAt, h]
      generalize w.length / (1 + j) = q at *
      rw [Ret_mulT (by omega) (by omega), rep_pow]
      refine ⟨by have : lim = 16777216 := rfl; rw [List.length_take, Nat.min_eq_left (by omega), Int.toNat_natCast]; omega, ?_⟩
      rw [cmp_eq (eq_row hp hw), cS_some, kS_bl]
      split
      · rename_i hq
        refine ⟨⟨by omega, by omega⟩, ?_⟩
        rw [leave_same, Ret_ok]
        refine ⟨?_, rfl⟩
        rw [rootOf_some (s := 1 + j) (by omega) hj (rt (of_decide_eq_true hq)) fun t h1 h2 => hno t h1 (by omega)]
      · rename_i hq
        rw [leaveS_same rfl]
        exact ⟨_, rfl, rfl, fail (rf fun z => hq (decide_eq_true z))⟩
    · rename_i hm
      simp only [Bool.false_eq_true,
          if_false]
      rw [leaveS_same rfl]
      refine ⟨_, rfl, rfl, fail ?_⟩
      simp only [rootAt, Bool.and_eq_false_iff]
      refine .inl (decide_eq_false fun z => hm (decide_eq_true ?_))
      omega
  · rintro σ M' ⟨x, rfl, rfl, hno⟩
    refine ⟨wk_free, ?_⟩
    simp only [x_ret, w_var, vS_some, List.getElem?_cons_zero]
    rw [leave_same, Ret_ok]
    refine ⟨?_, rfl⟩
    rw [rootOf_none fun t h1 h2 => hno t h1 (by rw [rng_len]; omega)]

theorem rootOf_mem {w : List D} : ∀ d ∈ rootOf w, d ∈ w := by
  unfold rootOf
  split
  · exact fun d h => List.mem_of_mem_take h
  · exact fun d h => h
theorem rootOf_ne {w : List D} (h : w ≠ []) : rootOf w ≠ [] := by
  unfold rootOf
  split
  · rename_i s e
    have := List.find?_some e
    simp only [Bool.and_eq_true, decide_eq_true_eq] at this
    have hl := List.length_pos_iff.mpr h
    intro z
    have q : min s w.length = 0 := by
      have := congrArg List.length z
      rw [List.length_take] at this
      exact this
    omega
  · exact h
theorem rootOf_len {w : List D} : (rootOf w).length ≤ w.length := by
  unfold rootOf
  split
  · rw [List.length_take]; omega
  · exact Nat.le_refl _
def p_righted (c : Nat) : S :=
  (.seq (.set 1 (.call c (.cons (.var 1) .nil))) (.seq (.whl (.andE (.cmp .ne (.var 0) (.tup .nil)) (.cmp .eq (.idx (.var 0) (.neg (.lit (.int 1)))) (.idx (.var 1) (.neg (.lit (.int 1)))))) (.setP 0 1 (.slc (.var 0) .no (.so (.neg (.lit (.int 1))))) (.bin .add (.slc (.var 1) (.so (.neg (.lit (.int 1)))) .no) (.slc (.var 1) .no (.so (.neg (.lit (.int 1)))))))) (.ret (.tup (.cons (.var 0) (.cons (.var 1) .nil))))))
def righted (u v : List D) : List D × List D := ((peel u.reverse (rootOf v)).1.reverse, (peel u.reverse (rootOf v)).2)
def RightedOk (prg : List Df) (i : Nat) : Prop := ∀ (k : Nat) (u v : List D) (M : Hm), Row0 u → Row0 v → v ≠ [] → u.length ≤ 1000000 → v.length ≤ 1000000 →
  Ret (callAt prg (k + 2) i [.tup u, .tup v] M) fun d M' => d = .tup [.tup (righted u v).1, .tup (righted u v).2] ∧ M' = M
theorem last_drop {v : List D} (h : v ≠ []) : v.drop (v.length - 1) = [v.getLast h] := by
  obtain ⟨r, a, rfl⟩ : ∃ r a, v = r ++ [a] := ⟨v.dropLast, v.getLast h, (List.dropLast_concat_getLast h).symm⟩
  rw [List.length_append, List.length_singleton, Nat.add_sub_cancel, List.drop_left, List.getLast_append]
  simp
theorem righted_ok {prg : List Df} {i c : Nat} (hi : prg[i]? = some ⟨2, 2, p_righted c⟩) (hc : RootOk prg c) : RightedOk prg i := by
  intro k u v M hu hv hne lu lv
  refine Ret_call hi (Ret_run rfl ?_)
  simp only [p_righted, List.map_cons, List.map_nil, List.length_cons, List.length_nil, List.replicate, List.cons_append, List.nil_append, Nat.reduceAdd, Nat.reduceSub, x_seq, x_set, w_call, w_nil, w_cons, w_var, vS_some, List.getElem?_cons_zero, List.getElem?_cons_succ]
  refine (hc k v M hv lv).mono fun d M' h => ?_
  obtain ⟨rfl, rfl⟩ := h
  rw [List.set_cons_succ, List.set_cons_zero, x_whl]
  have g0 := deps_le.mpr fun d hd => deps_le.mp hv.dp d (rootOf_mem d hd)
  refine Wp_while (fun n σ M1 => ∃ r v', n = r.length ∧ σ = [some (.tup r.reverse), some (.tup v')] ∧ M1 = M' ∧ peel r v' = peel u.reverse (rootOf v) ∧ v' ≠ [] ∧ Row0 r ∧ Row0 v' ∧ v'.length ≤ 1000000) u.reverse.length
    ⟨u.reverse, rootOf v, rfl, by rw [List.reverse_reverse], rfl, rfl, rootOf_ne hne, hu.sub fun d h => List.mem_reverse.mp h, hv.sub rootOf_mem, Nat.le_trans rootOf_len lv⟩ ?_
  rintro n σ M1 ⟨r, v', rfl, rfl, rfl, hp, hn, hr, hv', hl'⟩
  have hrr : Row0 r.reverse := hr.sub fun d h => List.mem_reverse.mp h
  have fin : peel r v' = (r, v') → Ret (leave M1 (.tup [.tup r.reverse, .tup v']) M1) fun d M' => d = .tup [.tup (righted u v).1, .tup (righted u v).2] ∧ M' = M1 := fun h => by
    rw [leave_same, Ret_ok]
    unfold righted
    rw [← hp, h]
    exact ⟨rfl, rfl⟩
  simp only [t_and, t_cmp, w_cmp, w_idx, w_var, w_tup, w_nil, w_neg, w_lit, nS_int, vS_some, List.getElem?_cons_zero, List.getElem?_cons_succ, Ret_newT, cmp_ne (eq_row hrr Row0.nil), cS_some, kS_bl, x_ret, w_cons]
  refine ⟨by decide, ?_⟩
  cases r with
  | nil =>
    simp only [List.reverse_nil, decide_true, Bool.not_true, Bool.false_eq_true, if_false]
    exact ⟨by show 2 ≤ lim; decide, fin rfl⟩
  | cons a r =>
    have e0 : ((a :: r).reverse) ≠ [] := by simp
    simp only [e0, decide_false, Bool.not_false, if_true, idx_tup, at_last e0, at_last hn]
    rw [List.getLast?_reverse, List.head?_cons, List.getLast?_eq_some_getLast hn]
    simp only [dS_some]
    rw [cmp_eq (eq_one hr hv' List.mem_cons_self (List.getLast_mem hn)), cS_some, kS_bl]
    split
    · rename_i h
      have h := of_decide_eq_true h
      refine ⟨r.length, rfl, ?_⟩
      simp only [x_setP, w_slc, w_no, w_so, w_var, w_neg, w_lit, nS_int, w_bin, vS_some, List.getElem?_cons_zero, List.getElem?_cons_succ, oS_int, slc_tup, cut_but, cut_last, last_drop hn]
      refine ⟨by decide, by decide, by decide, ?_⟩
      rw [Ret_addT]
      refine ⟨by rw [List.length_dropLast]; have : lim = 16777216 := rfl; simp only [List.length_singleton]; omega, ?_⟩
      rw [leaveS_same rfl]
      refine ⟨r, v'.getLast hn :: v'.dropLast, rfl, ?_, rfl, ?_, List.cons_ne_nil _ _, hr.sub fun d h => List.mem_cons_of_mem _ h, ?_, ?_⟩
      · simp
      · rw [← hp]
        conv => rhs; rw [peel]
        rw [List.getLast?_eq_some_getLast hn, if_pos (by rw [h]), h]
      · exact hv'.sub fun d h => (List.mem_cons.mp h).elim (fun e => e ▸ List.getLast_mem hn) fun h => List.dropLast_subset _ h
      · rw [List.length_cons, List.length_dropLast]
        have := List.length_pos_iff.mpr hn
        omega
    · rename_i h
      have h : ¬ a = v'.getLast hn := fun z => h (decide_eq_true z)
      refine ⟨by show 2 ≤ lim; decide, fin ?_⟩
      rw [peel, List.getLast?_eq_some_getLast hn, if_neg]
      intro z
      exact h (Option.some.inj z).symm

/-- u from its front -/
def peelL : List D → List D → List D × List D
  | [], v => ([], v)
  | a :: r, v => if v.head? = some a then peelL r (v.tail ++ [a]) else (a :: r, v)
def p_lefted (c : Nat) : S :=
  (.seq (.set 0 (.call c (.cons (.var 0) .nil))) (.seq (.whl (.andE (.cmp .ne (.var 1) (.tup .nil)) (.cmp .eq (.idx (.var 1) (.lit (.int 0))) (.idx (.var 0) (.lit (.int 0))))) (.setP 0 1 (.bin .add (.slc (.var 0) (.so (.lit (.int 1))) .no) (.slc (.var 0) .no (.so (.lit (.int 1))))) (.slc (.var 1) (.so (.lit (.int 1))) .no))) (.ret (.tup (.cons (.var 0) (.cons (.var 1) .nil))))))
def lefted (v u : List D) : List D × List D := ((peelL u (rootOf v)).2, (peelL u (rootOf v)).1)
def LeftedOk (prg : List Df) (i : Nat) : Prop := ∀ (k : Nat) (v u : List D) (M : Hm), Row0 u → Row0 v → v ≠ [] → u.length ≤ 1000000 → v.length ≤ 1000000 →
  Ret (callAt prg (k + 2) i [.tup v, .tup u] M) fun d M' => d = .tup [.tup (lefted v u).1, .tup (lefted v u).2] ∧ M' = M
theorem cut_tail {α : Type} (xs : List α) : cut xs (some 1) none = xs.tail := by
  cases xs with
  | nil => rfl
  | cons a r => exact cut_from (n := 1) (by simp)
theorem cut_head {α : Type} {xs : List α} (h : xs ≠ []) : cut xs none (some 1) = [xs.head h] := by
  cases xs with
  | nil => exact absurd rfl h
  | cons a r => exact cut_upto (n := 1) (by simp)
theorem lefted_ok {prg : List Df} {i c : Nat} (hi : prg[i]? = some ⟨2, 2, p_lefted c⟩) (hc : RootOk prg c) : LeftedOk prg i := by
  intro k v u M hu hv hne lu lv
  refine Ret_call hi (Ret_run rfl ?_)
  simp only [p_lefted, List.map_cons, List.map_nil, List.length_cons, List.length_nil, List.replicate, List.cons_append, List.nil_append, Nat.reduceAdd, Nat.reduceSub, x_seq, x_set, w_call, w_nil, w_cons, w_var, vS_some, List.getElem?_cons_zero, List.getElem?_cons_succ]
  refine (hc k v M hv lv).mono fun d M' h => ?_
  obtain ⟨rfl, rfl⟩ := h
  rw [List.set_cons_zero, x_whl]
  refine Wp_while (fun n σ M1 => ∃ r v', n = r.length ∧ σ = [some (.tup v'), some (.tup r)] ∧ M1 = M' ∧ peelL r v' = peelL u (rootOf v) ∧ v' ≠ [] ∧ Row0 r ∧ Row0 v' ∧ v'.length ≤ 1000000) u.length
    ⟨u, rootOf v, rfl, rfl, rfl, rfl, rootOf_ne hne, hu, hv.sub rootOf_mem, Nat.le_trans rootOf_len lv⟩ ?_
  rintro n σ M1 ⟨r, v', rfl, rfl, rfl, hp, hn, hr, hv', hl'⟩
  have fin : peelL r v' = (r, v') → Ret (leave M1 (.tup [.tup v', .tup r]) M1) fun d M' => d = .tup [.tup (lefted v u).1, .tup (lefted v u).2] ∧ M' = M1 := fun h => by
    rw [leave_same, Ret_ok]
    unfold lefted
    rw [← hp, h]
    exact ⟨rfl, rfl⟩
  simp only [t_and, t_cmp, w_cmp, w_idx, w_var, w_tup, w_nil, w_lit, vS_some, List.getElem?_cons_zero, List.getElem?_cons_succ, Ret_newT, cmp_ne (eq_row hr Row0.nil), cS_some, kS_bl, x_ret, w_cons]
  refine ⟨by decide, ?_⟩
  cases r with
  | nil =>
    simp only [decide_true, Bool.not_true, Bool.false_eq_true, if_false]
    exact ⟨by show 2 ≤ lim; decide, fin rfl⟩
  | cons a r =>
    simp only [reduceCtorEq, decide_false, Bool.not_false, if_true, idx_tup, at_first (List.cons_ne_nil a r), at_first hn, List.head?_cons]
    rw [List.head?_eq_some_head hn]
    simp only [dS_some]
    rw [cmp_eq (eq_one hr hv' List.mem_cons_self (List.head_mem hn)), cS_some, kS_bl]
    split
    · rename_i h
      have h := of_decide_eq_true h
      refine ⟨r.length, rfl, ?_⟩
      simp only [x_setP, w_slc, w_no, w_so, w_var, w_lit, w_bin, vS_some, List.getElem?_cons_zero, List.getElem?_cons_succ, oS_int, slc_tup, cut_tail, cut_head hn]
      refine ⟨by decide, by decide, ?_⟩
      rw [Ret_addT]
      refine ⟨by rw [List.length_tail]; have : lim = 16777216 := rfl; simp only [List.length_singleton]; omega, by decide, ?_⟩
      rw [leaveS_same rfl]
      refine ⟨r, v'.tail ++ [v'.head hn], rfl, rfl, rfl, ?_, by simp, hr.sub fun d h => List.mem_cons_of_mem _ h, ?_, ?_⟩
      · rw [← hp]
        conv => rhs; rw [peelL]
        rw [List.head?_eq_some_head hn, if_pos (by rw [h]), h]
      · exact hv'.sub fun d h => (List.mem_append.mp h).elim (fun h => List.mem_of_mem_tail h) fun h => by rw [List.mem_singleton.mp h]; exact List.head_mem hn
      · rw [List.length_append, List.length_tail, List.length_singleton]
        have := List.length_pos_iff.mpr hn
        omega
    · rename_i h
      have h : ¬ a = v'.head hn := fun z => h (decide_eq_true z)
      refine ⟨by show 2 ≤ lim; decide, fin ?_⟩
      rw [peelL, List.head?_eq_some_head hn, if_neg]
      intro z
      exact h (Option.some.inj z).symm
end Mi

/-! Dr: what the laws draw with the pen. -/
namespace Mi
open PySem
def p_pick (t : Nat) : S := (.ret (.idx (.var 1) (.call t (.cons (.var 0) (.cons (.blt .len (.var 1)) .nil)))))
def PickOk (prg : List Df) (i : Nat) : Prop := ∀ (k p c q : Nat) (b : Int) (M : Hm) (ds : List D), Pen M p c b → b < 2 ^ 30 → M[q]? = some (.lst ds) → q ≠ p → ds ≠ [] → ds.length ≤ 1000000 →
  Ret (callAt prg (k + 3) i [.ref p, .ref q] M) fun d M' => d ∈ ds ∧ Pst p M M' ∧ Pen M' p c (b + 1)
theorem log_int {n : Nat} (h : n ≤ 1000000) : (n : Int).natAbs.log2 < 9000 := by
  have := small_log (i := (n : Int)) (by omega)
  omega
theorem pick_ok {prg : List Df} {i t : Nat} (hi : prg[i]? = some ⟨2, 2, p_pick t⟩) (ht : TakeOk prg t) : PickOk prg i := by
  intro k p c q b M ds pen hb hq hqp hne hl
  refine Ret_call hi (Ret_run rfl ?_)
  have h0 := List.length_pos_iff.mpr hne
  simp only [p_pick, List.map_cons, List.map_nil, List.length_cons, List.length_nil, List.replicate, List.cons_append, List.nil_append, Nat.reduceAdd, Nat.reduceSub, x_ret, w_idx, w_call, w_cons, w_nil, w_var, w_blt_var, vS_some, List.getElem?_cons_zero, List.getElem?_cons_succ, len_lst hq]
  refine (ht k p c b ds.length M pen hb (by omega) (log_int hl)).mono fun d M' h => ?_
  obtain ⟨v, o, rfl, v0, v1, rfl, pen'⟩ := h
  have st : Pst p M (M.set p o) := ⟨o, rfl⟩
  obtain ⟨x, e1, e2⟩ := at_nat v0 v1
  rw [idx_lst ((st.get hqp).trans hq), e1, dS_some, leave_eq st.len, Ret_ok]
  exact ⟨List.mem_of_getElem? e2, st, pen'⟩
def p_same : S := (.ret (.cmp .eq (.blt .repr (.var 0)) (.blt .repr (.var 1))))
/-- what may be shown and compared -/
structure Shw (d : D) : Prop where
  pl : d.pl = true
  dp : d.dep ≤ 64
  sz : d.sz ≤ lim
theorem repr_blt {d : D} {M : Hm} {t : List Nat} (h : reprM M d = some t) : bltM .repr d M = ok (.str t) M := by
  unfold bltM
  simp only [h]
theorem same_ok {prg : List Df} {i : Nat} (hi : prg[i]? = some ⟨2, 2, p_same⟩) (k : Nat) (d : D) (M : Hm) (hd : Shw d) : Ret (callAt prg (k + 1) i [d, d] M) fun r M' => r = .bl true ∧ M' = M := by
  refine Ret_call hi (Ret_run rfl ?_)
  obtain ⟨t, ht⟩ := repr_pl hd.pl hd.dp hd.sz
  simp only [p_same, List.map_cons, List.map_nil, List.length_cons, List.length_nil, List.replicate, List.cons_append, List.nil_append, Nat.reduceAdd, Nat.reduceSub, x_ret, w_cmp, w_var, w_blt_var, vS_some, List.getElem?_cons_zero, List.getElem?_cons_succ, repr_blt (ht M), Ret_ok]
  have e : cmpM .eq (.str t) (.str t) M = some true := by simp [cmpM, eqM, D.atom, D.peq]
  rw [e, cS_some, leave_same]
  exact ⟨rfl, rfl⟩
/-! ### letters -/
def small : List Nat := [97, 98, 99, 100, 101, 102, 103, 104, 105, 106, 107, 108, 109, 110, 111, 112, 113, 114, 115, 116, 117, 118, 119, 120, 121, 122]
def p_some_letters (t : Nat) : S :=
  (.seq (.set 2 (.lit (.str [97, 98, 99, 100, 101, 102, 103, 104, 105, 106, 107, 108, 109, 110, 111, 112, 113, 114, 115, 116, 117, 118, 119, 120, 121, 122]))) (.seq (.set 3 (.join (.lit (.str [])) (.comp (.idx (.var 2) (.call t (.cons (.var 0) (.cons (.lit (.int 26)) .nil)))) (.nm 6) (.rng (.lit (.int 0)) (.call t (.cons (.var 0) (.cons (.lit (.int 8)) .nil)))) .nil))) (.seq (.set 4 (.call t (.cons (.var 0) (.cons (.bin .add (.blt .len (.var 3)) (.lit (.int 1))) .nil)))) (.seq (.set 5 (.call t (.cons (.var 0) (.cons (.lit (.int 26)) .nil)))) (.seq (.ifS (.cmp .eq (.call t (.cons (.var 0) (.cons (.lit (.int 3)) .nil))) (.lit (.int 0))) (.ret (.comp (.bin .mul (.idx (.var 2) (.bin .mod (.bin .add (.var 5) (.bin .mul (.lit (.int 5)) (.var 6))) (.lit (.int 26)))) (.bin .add (.lit (.int 1)) (.bin .mod (.bin .add (.var 4) (.bin .mul (.lit (.int 3)) (.var 6))) (.lit (.int 8))))) (.nm 6) (.rng (.lit (.int 0)) (.var 1)) .nil)) .pas) (.ret (.comp (.bin .add (.bin .add (.slc (.var 3) .no (.so (.var 4))) (.idx (.var 2) (.bin .mod (.bin .add (.var 5) (.bin .mul (.lit (.int 5)) (.var 6))) (.lit (.int 26))))) (.slc (.var 3) (.so (.var 4)) .no)) (.nm 6) (.rng (.lit (.int 0)) (.var 1)) .nil)))))))
def Ltr (x : D) : Prop := ∃ l : List Nat, x = .str l ∧ l ≠ [] ∧ l.length ≤ 8 ∧ ∀ c ∈ l, 97 ≤ c ∧ c ≤ 122
def LettersOk (prg : List Df) (i : Nat) : Prop := ∀ (k p c : Nat) (b : Int) (many : Nat) (M : Hm), Pen M p c b → b + 20 < 2 ^ 30 → many ≤ 100 →
  Ret (callAt prg (k + 3) i [.ref p, .int many] M) fun d M' => ∃ M1 ds, d = .ref M.length ∧ M' = M1 ++ [.lst ds] ∧ Pst p M M1 ∧ Pen M1 p c (b + 20) ∧ ds.length = many ∧ ∀ x ∈ ds, Ltr x
theorem small_at {i : Int} (h0 : 0 ≤ i) (h1 : i < 26) {M : Hm} : ∃ c, idxM (.str small) (.int i) M = some (.str [c]) ∧ 97 ≤ c ∧ c ≤ 122 := by
  obtain ⟨c, e1, e2⟩ := at_nat (xs := small) h0 (by show i < 26; exact h1)
  have : ∀ c ∈ small, 97 ≤ c ∧ c ≤ 122 := by decide
  refine ⟨c, ?_, this c (List.mem_of_getElem? e2)⟩
  simp only [idxM]
  rw [if_pos (by decide), e1]
  rfl
theorem join_nil : ∀ cs : List Nat, joinS [] (cs.map fun c => [c]) = cs
  | [] => rfl
  | [c] => rfl
  | c :: d :: r => by
    have ih := join_nil (d :: r)
    simp only [List.map_cons] at ih ⊢
    rw [joinS]
    · rw [ih]; rfl
    · intro h; cases h
theorem strs_of : ∀ cs : List Nat, allStrs (cs.map fun c => D.str [c]) = some (cs.map fun c => [c])
  | [] => rfl
  | c :: r => by
    simp only [List.map_cons, allStrs, strs_of r, Option.map_some]
theorem letters_ok {prg : List Df} {i t : Nat} (hi : prg[i]? = some ⟨7, 2, p_some_letters t⟩) (ht : TakeOk prg t) : LettersOk prg i := by
  intro k p c b many M pen hb hmany
  refine Ret_call hi (Ret_run rfl ?_)
  simp only [p_some_letters, List.map_cons, List.map_nil, List.length_cons, List.length_nil, List.replicate, List.cons_append, List.nil_append, Nat.reduceAdd, Nat.reduceSub]
  rw [x_seq, x_set, w_lit, x_seq, x_set, w_joinC, w_lit, strK_str]
  simp only [Ret_bnd, s_rng, w_lit, w_call, w_cons, w_nil, w_var, vS_some, List.set_cons_zero, List.set_cons_succ, List.getElem?_cons_zero, List.getElem?_cons_succ]
  refine (ht k p c b 8 M pen (by omega) (by decide) (by decide)).mono fun d M1 h => ?_
  obtain ⟨n, o1, rfl, n0, n1, rfl, pen1⟩ := h
  have st1 : Pst p M (M.set p o1) := ⟨o1, rfl⟩
  rw [rS_int]
  refine ⟨by omega, ?_⟩
  refine Ret_comp (fun j acc M' => Pst p M M' ∧ Pen M' p c (b + 1 + j) ∧ ∃ cs : List Nat, acc = cs.map (fun c => .str [c]) ∧ cs.length = j ∧ ∀ c ∈ cs, 97 ≤ c ∧ c ≤ 122) (by rw [rng_len]; have : lim = 16777216 := rfl; omega) ⟨st1, pen1.le (by omega), [], rfl, rfl, by simp⟩ ?_ ?_
  · rintro j d acc M' hd ⟨st, pn, cs, rfl, hcs, hc⟩
    obtain ⟨rfl, hlt⟩ := rng_at hd
    refine ⟨wk_free, _, set_nm, ?_⟩
    rw [a_nil]
    simp only [if_true, w_idx, w_call, w_cons, w_nil, w_var, w_lit, vS_some, List.set_cons_zero, List.set_cons_succ, List.getElem?_cons_zero, List.getElem?_cons_succ]
    refine (ht k p c _ 26 M' pn (by omega) (by decide) (by decide)).mono fun d M2 h => ?_
    obtain ⟨v, o2, rfl, v0, v1, rfl, pen2⟩ := h
    have st2 : Pst p M' (M'.set p o2) := ⟨o2, rfl⟩
    obtain ⟨ch, e, hch⟩ := small_at (M := M'.set p o2) v0 v1
    rw [show idxM (.str [97, 98, 99, 100, 101, 102, 103, 104, 105, 106, 107, 108, 109, 110, 111, 112, 113, 114, 115, 116, 117, 118, 119, 120, 121, 122]) (.int v) (M'.set p o2) = some (.str [ch]) from e, dS_some, leave_eq st2.len, Ret_ok]
    refine ⟨st.trans st2, pen2.le (by omega), cs ++ [ch], by simp, by simp [hcs], fun c h => ?_⟩
    rcases List.mem_append.mp
        h with h | h
    · exact hc c h
    · rw [List.mem_singleton.mp h]; exact hch
  · rintro acc M' ⟨st, pn, cs, rfl, hcs, hc⟩
    refine ⟨wk_free, ?_⟩
    rw [rng_len] at hcs pn
    have hl : cs.length ≤ 7 := by omega
    unfold joinL
    rw [strs_of]
    simp only
    rw [Ret_ifo, Ret_ok, join_nil]
    refine ⟨decide_eq_true ?_, ?_⟩
    · have e : ((cs.map fun c => [c]).map List.length).sum = cs.length := by
        rw [List.map_map]
        show (cs.map fun _ => 1).sum = cs.length
        rw [List.map_const', List.sum_replicate_nat, Nat.mul_one]
      rw [e]
      have : lim = 16777216 := rfl
      simp only [List.length_nil, Nat.mul_zero]
      omega
    rw [x_seq, x_set]
    have ls : Ret (bltM .len (.str cs) M') = fun Φ => Φ (.int cs.length) M' := by
      funext Φ
      show Ret (if cs.length ≤ lim then ok (.int cs.length) M' else none) Φ = _
      rw [if_pos (by have : lim = 16777216 := rfl; omega)]
      rfl
    simp only [w_call, w_cons, w_nil, w_var, w_bin, w_blt_var, w_lit, vS_some, List.getElem?_cons_zero, List.getElem?_cons_succ, ls, Ret_add]
    refine (ht k p c _ (cs.length + 1) M' pn (by omega) (by omega) (by have := small_log (i := (cs.length : Int) + 1) (by omega); omega)).mono fun d M2 h => ?_
    obtain ⟨at', o2, rfl, a0, a1, rfl, pen2⟩ := h
    have st2 := st.trans ⟨o2, rfl⟩
    rw [List.set_cons_succ, List.set_cons_succ, List.set_cons_succ, List.set_cons_succ, List.set_cons_zero, x_seq, x_set]
    simp only [w_call, w_cons, w_nil, w_var, w_lit, vS_some, List.getElem?_cons_zero]
    refine (ht k p c _ 26 _ pen2 (by omega) (by decide) (by decide)).mono fun d M3 h => ?_
    obtain ⟨first, o3, rfl, f0, f1, rfl, pen3⟩ := h
    have st3 := st2.trans ⟨o3, rfl⟩
    rw [List.set_cons_succ, List.set_cons_succ, List.set_cons_succ, List.set_cons_succ, List.set_cons_succ, List.set_cons_zero, x_seq, x_if, t_cmp, w_cmp]
    simp only [w_call, w_cons, w_nil, w_var, w_lit, vS_some, List.getElem?_cons_zero]
    refine (ht k p c _ 3 _ pen3 (by omega) (by decide) (by decide)).mono fun d M4 h => ?_
    obtain ⟨way, o4, rfl, w0, w1, rfl, pen4⟩ := h
    have st4 := st3.trans ⟨o4, rfl⟩
    rw [cmp_eqI, cS_some, kS_bl]
    generalize hMM : (((M'.set p o2).set p o3).set p o4) = MM at pen4 st4 ⊢
    have fin : ∀ {Φ : D → Hm → Prop} (ds : List D), ds.length = many → (∀ x ∈ ds, Ltr x) → (∀ M', (∃ M1 ds, D.ref M.length = .ref M.length ∧ M' = M1 ++ [.lst ds] ∧ Pst p M M1 ∧ Pen M1 p c (b + 20) ∧ ds.length = many ∧ ∀ x ∈ ds, Ltr x) → Φ (.ref M.length) M') → Ret (leave M (.ref MM.length) (MM ++ [.lst ds])) Φ := fun {Φ} ds h1 h2 h3 => by
      have lw : D.lows M.length ds = true := by
        clear h1
        induction ds with
        | nil => rfl
        | cons x r ih =>
          obtain ⟨l, rfl, _⟩ := h2 x List.mem_cons_self
          simp only [D.lows, D.low, Bool.true_and]
          exact ih fun y hy => h2 y (List.mem_cons_of_mem _ hy)
      rw [leave_new (X := [.lst ds]) (ds := ds) pen st4 pen4 (by rw [st4.len]; exact Nat.le_refl _) (by simp) lw, Ret_ok]
      exact h3 _ ⟨MM, ds, rfl, rfl, st4, pen4.le (by omega), h1, h2⟩
    have chr : ∀ (j : Nat) (M : Hm), ∃ ch, idxM (.str small) (.int ((first + 5 * (0 + (j : Int))) % 26)) M = some (.str [ch]) ∧ 97 ≤ ch ∧ ch ≤ 122 := fun j M => small_at (by omega) (by omega)
    split
    · rw [x_ret, w_comp, s_rng]
      simp only [w_lit, w_var, vS_some, List.getElem?_cons_zero, List.getElem?_cons_succ, rS_int]
      refine ⟨by omega, ?_⟩
      refine Ret_comp (fun j acc M' => M' = MM ∧ acc.length = j ∧ ∀ x ∈ acc, Ltr x) (by rw [rng_len]; have : lim = 16777216 := rfl; omega) ⟨rfl, rfl, by simp⟩ ?_ ?_
      · rintro j d acc M' hd ⟨rfl, hj, hL⟩
        obtain ⟨rfl, hlt⟩ := rng_at hd
        refine ⟨wk_free, _, set_nm, ?_⟩
        rw [a_nil]
        obtain ⟨ch, e, hch⟩ := chr j M'
        have e5 : (5 : Int).natAbs.log2 = 2 := by decide
        have e3 : (3 : Int).natAbs.log2 = 1 := by decide
        have lj : (0 + (j : Int)).natAbs.log2 < 64 := small_log (by omega)
        simp only [if_true, w_idx, w_bin, w_var, w_lit, vS_some, List.set_cons_zero, List.set_cons_succ, List.getElem?_cons_zero, List.getElem?_cons_succ, Ret_mul, Ret_add, Ret_mod]
        refine ⟨by omega,
            by omega, ?_⟩
        rw [show idxM (.str [97, 98, 99, 100, 101, 102, 103, 104, 105, 106, 107, 108, 109, 110, 111, 112, 113, 114, 115, 116, 117, 118, 119, 120, 121, 122]) (.int ((first + 5 * (0 + (j : Int))) % 26)) M' = some (.str [ch]) from e, dS_some]
        refine ⟨by omega,
            by omega, ?_⟩
        have r1 : 1 ≤ 1 + (at' + 3 * (0 + (j : Int))) % 8 ∧ 1 + (at' + 3 * (0 + (j : Int))) % 8 ≤ 8 := by omega
        generalize 1 + (at' + 3 * (0 + (j : Int))) % 8 = m at r1 ⊢
        have rl : (rep m [ch]).length = m.toNat := by unfold rep; simp
        rw [Ret_mulS (by omega) (by omega)]
        refine ⟨by have : lim = 16777216 := rfl; simp only [List.length_singleton]; omega, ?_⟩
        rw [leave_same, Ret_ok]
        refine ⟨rfl, by simp [hj], fun x hx => ?_⟩
        rcases List.mem_append.mp hx with h | h
        · exact hL x h
        · rw [List.mem_singleton.mp h]
          refine ⟨_, rfl, fun z => ?_, by omega, fun c h => ?_⟩
          · rw [z] at rl; simp at rl; omega
          · unfold rep at h
            have := (List.mem_flatten.mp h)
            obtain ⟨l, hl, hc⟩ := this
            rw [(List.mem_replicate.mp hl).2] at hc
            rw [List.mem_singleton.mp hc]
            exact hch
      · rintro acc M' ⟨rfl, hj, hL⟩
        refine ⟨wk_free, fin acc (by rw [hj, rng_len]; omega) hL fun _ h => h⟩
    · rw [x_pas, x_ret, w_comp, s_rng]
      simp only [w_lit, w_var, vS_some, List.getElem?_cons_zero, List.getElem?_cons_succ, rS_int]
      refine ⟨by omega, ?_⟩
      refine Ret_comp (fun j acc M' => M' = MM ∧ acc.length = j ∧ ∀ x ∈ acc, Ltr x) (by rw [rng_len]; have : lim = 16777216 := rfl; omega) ⟨rfl, rfl, by simp⟩ ?_ ?_
      · rintro j d acc M' hd ⟨rfl, hj, hL⟩
        obtain ⟨rfl, hlt⟩ := rng_at hd
        refine ⟨wk_free, _, set_nm, ?_⟩
        rw [a_nil]
        obtain ⟨ch, e, hch⟩ := chr j M'
        have e5 : (5 : Int).natAbs.log2 = 2 := by decide
        have lj : (0 + (j : Int)).natAbs.log2 < 64 := small_log (by omega)
        have sl : ∀ (lo hi : Option Int) (Φ : D → Hm → Prop), Ret (slcM (.str cs) lo hi M') Φ ↔ Φ (.str (cut cs lo hi)) M' := fun lo hi Φ => by
          show Ret (if cs.length ≤ lim then ok (.str (cut cs lo hi)) M' else none) Φ ↔ _
          rw [if_pos (by have : lim = 16777216 := rfl; omega)]
          exact Iff.rfl
        have ea : at' = ((at'.toNat : Nat) : Int) := by omega
        simp only [if_true, w_idx, w_bin, w_slc, w_no, w_so, w_var, w_lit, vS_some, oS_int, List.set_cons_zero, List.set_cons_succ, List.getElem?_cons_zero, List.getElem?_cons_succ, sl, Ret_mul, Ret_add, Ret_mod]
        rw [ea, cut_upto (by omega)]
        refine ⟨by omega, by omega, by omega, ?_⟩
        rw [show idxM (.str [97, 98, 99, 100, 101, 102, 103, 104, 105, 106, 107, 108, 109, 110, 111, 112, 113, 114, 115, 116, 117, 118, 119, 120, 121, 122]) (.int ((first + 5 * (0 + (j : Int))) % 26)) M' = some (.str [ch]) from e, dS_some, Ret_addS]
        have l1 : (cs.take at'.toNat).length ≤ cs.length := by rw [List.length_take]; omega
        have l2 : (cs.take at'.toNat ++ [ch]).length + (cs.drop at'.toNat).length = cs.length + 1 := by rw [List.length_append, List.length_take, List.length_drop, List.length_singleton]; omega
        refine ⟨by have : lim = 16777216 := rfl; simp only [List.length_singleton]; omega, by omega, ?_⟩
        rw [sl, cut_from (by omega), Ret_addS]
        refine ⟨by have : lim = 16777216 := rfl; omega, ?_⟩
        rw [leave_same, Ret_ok]
        refine ⟨rfl, by simp [hj], fun x hx => ?_⟩
        rcases List.mem_append.mp hx with h | h
        · exact hL x h
        · rw [List.mem_singleton.mp h]
          refine ⟨_, rfl, by simp, by rw [List.length_append]; omega, fun c h => ?_⟩
          rcases List.mem_append.mp
              h with h | h
          · rcases List.mem_append.mp
              h with h | h
            · exact hc c (List.mem_of_mem_take h)
            · rw [List.mem_singleton.mp h]; exact hch
          · exact hc c (List.mem_of_mem_drop h)
      · rintro acc M' ⟨rfl, hj, hL⟩
        refine ⟨wk_free, fin acc (by rw [hj, rng_len]; omega) hL fun _ h => h⟩
/-- a step of the pen, new things behind -/
theorem take_app {prg : List Df} {t : Nat} (ht : TakeOk prg t) (k p c : Nat) (b many : Int) (M X : Hm) (h : Pen M p c b) (hb : b < 2 ^ 30) (hm : 0 < many) (hl : many.natAbs.log2 < 9000) :
    Ret (callAt prg (k + 2) t [.ref p, .int many] (M ++ X)) fun d M' => ∃ v M2, d = .int v ∧ 0 ≤ v ∧ v < many ∧ M' = M2 ++ X ∧ Pst p M M2 ∧ Pen M2 p c (b + 1) := by
  obtain ⟨l1, l2⟩ := h.lt
  refine (ht k p c b many (M ++ X) h.app hb hm hl).mono fun d M' z => ?_
  obtain ⟨v, o, rfl, v0, v1, rfl, cells, a, q, h1, h2, h3⟩ := z
  rw [List.set_append_left p o l1] at h1 h2 ⊢
  refine ⟨v, M.set p o, rfl, v0, v1, rfl, ⟨o, rfl⟩, cells, a, q, ?_, ?_, h3⟩
  · rw [← h1, List.getElem?_append_left (by rw [List.length_set]; exact l1)]
  · rw [← h2, List.getElem?_append_left (by rw [List.length_set]; exact l2)]
end Mi

/-! Vw: what a value reads as, wherever it stands; things of any kind. -/
namespace Mi
open PySem
mutual
/-- x reads as q in M; nothing in it stands at p -/
inductive Vw (p : Nat) (M : Hm) : D → PyData → Prop
  | non : Vw p M .non .none
  | bl (b : Bool) : Vw p M (.bl b) (.bool b)
  | int (i : Int) : Vw p M (.int i) (.int i)
  | str (x : List Nat) : x.length ≤ lim → Vw p M (.str x) (.str ⟨x.toArray⟩)
  | tup {ds : List D} {qs : List PyData} : ds.length ≤ lim → Vws p M ds qs → Vw p M (.tup ds) (.tuple qs)
  | lst {i : Nat} {ds : List D} {qs : List PyData} : ds.length ≤ lim → i ≠ p → M[i]? = some (.lst ds) → D.lows i ds = true → Vws p M ds qs → Vw p M (.ref i) (.list qs)
  | dct {i : Nat} : i ≠ p → M[i]? = some (.dct []) → Vw p M (.ref i) (.dict [])
inductive Vws (p : Nat) (M : Hm) : List D → List PyData → Prop
  | nil : Vws p M [] []
  | cons {d : D} {q : PyData} {ds : List D} {qs : List PyData} : Vw p M d q → Vws p M ds qs → Vws p M (d :: ds) (q :: qs)
end
section
variable {p : Nat} {M M' : Hm}
mutual
theorem Vw.upto {n : Nat} (h : ∀ i, i ≠ p → i < n → M'[i]? = M[i]?) : ∀ {x : D} {q : PyData}, Vw p M x q → x.low n = true → Vw p M' x q
  | _, _, .non, _ => .non
  | _, _, .bl b, _ => .bl b
  | _, _, .int b, _ => .int b
  | _, _, .str b z, _ => .str b z
  | _, _, .tup z r, l => .tup z (Vws.upto h r (by simpa only [D.low] using l))
  | _, _, .lst z hi e w r, l => by
    simp only [D.low, decide_eq_true_eq] at l
    exact .lst z hi ((h _ hi l).trans e) w (Vws.upto h r (lows_le (Nat.le_of_lt l) w))
  | _, _, .dct hi e, l => by
    simp only [D.low, decide_eq_true_eq] at l
    exact .dct hi ((h _ hi l).trans e)
theorem Vws.upto {n : Nat} (h : ∀ i, i ≠ p → i < n → M'[i]? = M[i]?) : ∀ {x : List D} {q : List PyData}, Vws p M x q → D.lows n x = true → Vws p M' x q
  | _, _, .nil, _ => .nil
  | _, _, .cons a r, l => by
    simp only [D.lows, Bool.and_eq_true] at l
    exact .cons (Vw.upto h a l.1) (Vws.upto h r l.2)
end
mutual
theorem Vw.low : ∀ {x : D} {q : PyData}, Vw p M x q → x.low M.length = true
  | _, _, .non => rfl
  | _, _, .bl b => rfl
  | _, _, .int b => rfl
  | _, _, .str b z => rfl
  | _, _, .tup z r => by simp only [D.low]; exact r.low
  | _, _, .lst z hi e w r => by simp only [D.low, decide_eq_true_eq]; exact (List.getElem?_eq_some_iff.mp e).1
  | _, _, .dct hi e => by simp only [D.low, decide_eq_true_eq]; exact (List.getElem?_eq_some_iff.mp e).1
theorem Vws.low : ∀ {x : List D} {q : List PyData}, Vws p M x q → D.lows M.length x = true
  | _, _, .nil => rfl
  | _, _, .cons a r => by simp only [D.lows, Bool.and_eq_true]; exact ⟨a.low, r.low⟩
end
theorem Vw.ext (h : ∀ i o, i ≠ p → M[i]? = some o → M'[i]? = some o) {x : D} {q : PyData} (v : Vw p M x q) : Vw p M' x q :=
  v.upto (n := M.length) (fun i hi hl => (h i _ hi (List.getElem?_eq_getElem hl)).trans (List.getElem?_eq_getElem hl).symm) v.low
theorem Vws.ext (h : ∀ i o, i ≠ p → M[i]? = some o → M'[i]? = some o) {x : List D} {q : List PyData} (v : Vws p M x q) : Vws p M' x q :=
  v.upto (n := M.length) (fun i hi hl => (h i _ hi (List.getElem?_eq_getElem hl)).trans (List.getElem?_eq_getElem hl).symm) v.low
theorem Vw.app {X : Hm} {x : D} {q : PyData} (v : Vw p M x q) : Vw p (M ++ X) x q := v.ext fun i o _ e => by
  rw [List.getElem?_append_left (List.getElem?_eq_some_iff.mp e).1]
  exact e
theorem Vw.pst (h : Pst p M M') {x : D} {q : PyData} (v : Vw p M x q) : Vw p M' x q := v.ext fun i o hi e => (h.get hi).trans e
mutual
theorem Vw.py : ∀ {x : D} {q : PyData} {n : Nat}, Vw p M x q → q.depth ≤ n → pyM M n x = some q
  | _, _, 0, .non, _ => rfl
  | _, _, n + 1, .non, _ => rfl
  | _, _, 0, .bl b, _ => rfl
  | _, _, n + 1, .bl b, _ => rfl
  | _, _, 0, .int b, _ => rfl
  | _, _, n + 1, .int b, _ => rfl
  | _, _, 0, .str b z, _ => rfl
  | _, _, n + 1, .str b z, _ => rfl
  | _, _, 0, .tup z r, h => by simp [PyData.depth] at h
  | _, _, n + 1, .tup z r, h => by
    simp only [PyData.depth] at h
    rw [pyM, Vws.py (n := n) r (by omega)]
    rfl
  | _, _, 0, .lst z hi e w r, h => by simp [PyData.depth] at h
  | _, _, n + 1, .lst z hi e w r, h => by
    simp only [PyData.depth] at h
    simp only [pyM, e]
    rw [Vws.py (n := n) r (by omega)]
    rfl
  | _, _, 0, .dct hi e, h => by simp [PyData.depth] at h
  | _, _, n + 1, .dct hi e, h => by
    simp only [pyM, e]
    rfl
theorem Vws.py : ∀ {x : List D} {q : List PyData} {n : Nat}, Vws p M x q → PyData.depthAll q ≤ n → x.mapM (pyM M n) = some q
  | _, _, n, .nil, _ => rfl
  | _, _, n, .cons a r, h => by
    simp only [PyData.depthAll] at h
    rw [List.mapM_cons, Vw.py (n := n) a (by omega), Vws.py (n := n) r (by omega)]
    rfl
end
theorem Vws.len : ∀ {x : List D} {q : List PyData}, Vws p M x q → x.length = q.length
  | _, _, .nil => rfl
  | _, _, .cons a r => congrArg (· + 1) r.len
theorem Vws.get : ∀ {x : List D} {q : List PyData} {i : Nat} {d : D}, Vws p M x q → x[i]? = some d → ∃ y, q[i]? = some y ∧ Vw p M d y
  | _, _, _, _, .nil,
      e => by simp at e
  | _, _, 0, _, .cons a r, e => by simp at e; subst e; exact ⟨_, rfl, a⟩
  | _, _, i + 1, _, .cons a r, e => by
    obtain ⟨y, h1, h2⟩ := r.get (i := i) (by simpa using e)
    exact ⟨y, by simpa using h1, h2⟩
theorem Vw.repr {x : D} {q : PyData} (v : Vw p M x q) (h1 : q.showable = true) (h2 : q.depth ≤ 64) (h3 : q.shown.length ≤ lim) : reprM M x = some q.shown.cps.toList := by
  unfold reprM
  rw [v.py (n := 65) (by omega)]
  simp only [Option.bind_some, h1, h2, h3, decide_true, Bool.and_self, if_true]
/-- what isinstance says -/
def isiQ (q : PyData) (t : Ty) : Bool := match q with
  | .none => false
  | .bool _ => decide (t = .bool) || decide (t = .int)
  | .int _ => decide (t = .int)
  | .str _ => decide (t = .str)
  | .tuple _ => decide (t = .tuple)
  | .list _ => decide (t = .list)
  | .dict _ => decide (t = .dict)
theorem Vw.isi {x : D} {q : PyData} (v : Vw p M x q) (t : Ty) : isiM x t M = some (isiQ q t) := by
  cases v with
  | lst z hi e w r => simp only [isiM, e, isiQ]
  | dct hi e => simp only [isiM, e, isiQ]
  | _ => rfl
/-! ### leaving -/
theorem rens_len {f : Nat → Nat} : ∀ {ds : List D}, (D.rens f ds).length = ds.length
  | [] => rfl
  | d :: r => by simp only [D.rens, List.length_cons, rens_len]
mutual
/-- references from n on, renamed, where each such thing holds nothing from n on -/
theorem Vw.ren {n : Nat} {f : Nat → Nat} {P : Nat → Prop} (hf : ∀ i, i < n → f i = i) (h1 : ∀ i, i ≠ p → i < n → M'[i]? = M[i]?) (hp : ∀ i, n ≤ i → P i → f i ≠ p ∧ n ≤ f i ∧ ∃ o, M[i]? = some o ∧ o.low n = true ∧ M'[f i]? = some o) :
    ∀ {x : D} {q : PyData}, Vw p M x q → (∀ i, i ∈ x.refs n → P i) → Vw p M' (x.ren f) q
  | _, _, .non, _ => .non
  | _, _, .bl b, _ => .bl b
  | _, _, .int b, _ => .int b
  | _, _, .str b z, _ => .str b z
  | _, _, .tup z r, l => by
    simp only [D.ren]
    exact .tup (by rw [rens_len]; exact z) (Vws.ren hf h1 hp r fun i hi => l i (by simpa only [D.refs] using hi))
  | .ref j, _, .lst z hi e w r, l => by
    simp only [D.ren]
    by_cases hl : j < n
    · rw [hf j hl]
      exact .lst z hi ((h1 j hi hl).trans e) w (r.upto h1 (lows_le (Nat.le_of_lt hl) w))
    · obtain ⟨z1, z2, o, z3, z4, z5⟩ := hp j (by omega) (l j (by simp [D.refs, hl]))
      rw [e] at z3
      cases z3
      simp only [MO.low] at z4
      exact .lst z z1 z5 (lows_le z2 z4) (r.upto h1 z4)
  | .ref j, _, .dct hi e, l => by
    simp only [D.ren]
    by_cases hl : j < n
    · rw [hf j hl]
      exact .dct hi ((h1 j hi hl).trans e)
    · obtain ⟨z1, z2, o, z3, z4, z5⟩ := hp j (by omega) (l j (by simp [D.refs, hl]))
      rw [e] at z3
      cases z3
      exact .dct z1 z5
theorem Vws.ren {n : Nat} {f : Nat → Nat} {P : Nat → Prop} (hf : ∀ i, i < n → f i = i) (h1 : ∀ i, i ≠ p → i < n → M'[i]? = M[i]?) (hp : ∀ i, n ≤ i → P i → f i ≠ p ∧ n ≤ f i ∧ ∃ o, M[i]? = some o ∧ o.low n = true ∧ M'[f i]? = some o) :
    ∀ {x : List D} {q : List PyData}, Vws p M x q → (∀ i, i ∈ D.refss n x → P i) → Vws p M' (D.rens f x) q
  | _, _, .nil, _ => .nil
  | _, _, .cons a r, l => by
    simp only [D.rens]
    exact .cons (Vw.ren hf h1 hp a fun i hi => l i (by simp only [D.refss, List.mem_append]; exact .inl hi)) (Vws.ren hf h1 hp r fun i hi => l i (by simp only [D.refss, List.mem_append]; exact .inr hi))
end
theorem dd_mem {l : List Nat} {i : Nat} : i ∈ dd l ↔ i ∈ l := by
  induction l with
  | nil => simp [dd]
  | cons a r ih =>
    simp only [dd, List.mem_cons, List.mem_filter, ih, bne_iff_ne, ne_eq]
    by_cases e : i = a
    · simp [e]
    · simp [e]
mutual
theorem vrefs_ge {n : Nat} : ∀ {x : D} {i : Nat}, i ∈ x.refs n → n ≤ i
  | .ref j, i, h => by
    simp only [D.refs] at h
    split at h
    · simp at h
    · simp at h; omega
  | .tup ds, i, h => by simp only [D.refs] at h; exact vrefss_ge h
  | .non, i, h => by simp [D.refs] at h
  | .bl _, i, h => by simp [D.refs] at h
  | .int _, i, h => by simp [D.refs] at h
  | .str _, i, h => by simp [D.refs] at h
  | .rol _, i, h => by simp [D.refs] at h
theorem vrefss_ge {n : Nat} : ∀ {x : List D} {i : Nat}, i ∈ D.refss n x → n ≤ i
  | [], i, h => by simp [D.refss] at h
  | d :: r, i, h => by
    simp only [D.refss, List.mem_append] at h
    exact h.elim vrefs_ge vrefss_ge
end
theorem vslRefs_ge {n : Nat} : ∀ {σ : Sl} {i : Nat}, i ∈ slRefs n σ → n ≤ i
  | [], i, h => by simp [slRefs] at h
  | none :: r, i, h => by simp only [slRefs] at h; exact vslRefs_ge h
  | some d :: r, i, h => by
    simp only [slRefs, List.mem_append] at h
    exact h.elim vrefs_ge vslRefs_ge
theorem vpick_at {rs : List Nat} (hall : ∀ i ∈ rs, ∃ o, M[i]? = some o) {i : Nat} (hi : i ∈ rs) : (pick M rs)[rs.idxOf i]? = M[i]? := by
  induction rs with
  | nil => simp at hi
  | cons a r ih =>
    obtain ⟨o, ho⟩ := hall a (by simp)
    have e : pick M (a :: r) = o :: pick M r := by simp [pick, ho]
    rw [e]
    by_cases h : a = i
    · subst h
      simp [ho]
    · have h2 : i ∈ r := by
        rcases List.mem_cons.mp hi with z | z
        · exact absurd z.symm h
        · exact z
      rw [List.idxOf_cons]
      have : (a == i) = false := beq_eq_false_iff_ne.mpr h
      rw [this]
      simp only [cond_false, List.getElem?_cons_succ]
      exact ih (fun j hj => hall j (List.mem_cons_of_mem _ hj)) h2
/-- what a cut does -/
theorem cut_at {M0 : Hm} {rs : List Nat} (hp : p < M0.length) (hl : M0.length ≤ M.length) (hc : cuts M0 M rs = true) (hg : ∀ i ∈ rs, M0.length ≤ i) :
    (∀ i, i < M0.length → (M.take M0.length ++ pick M rs)[i]? = M[i]?) ∧ ∀ i, M0.length ≤ i → i ∈ rs → place M0.length rs i ≠ p ∧ M0.length ≤ place M0.length rs i ∧ ∃ o, M[i]? = some o ∧ o.low M0.length = true ∧ (M.take M0.length ++ pick M rs)[place M0.length rs i]? = some o := by
  have lt : (M.take M0.length).length = M0.length := by rw [List.length_take]; omega
  have ob : ∀ i ∈ rs, ∃ o, M[i]? = some o ∧ o.low M0.length = true := fun i hi => by
    unfold cuts at hc
    simp only [Bool.and_eq_true, List.all_eq_true] at hc
    have := hc.2 i hi
    split at this
    · rename_i o e
      exact ⟨o, e, this⟩
    · cases this
  refine ⟨fun i hi => ?_, fun i hi hm => ?_⟩
  · rw [List.getElem?_append_left (by omega), List.getElem?_take_of_lt hi]
  · obtain ⟨o, e, l⟩ := ob i hm
    have pl : place M0.length rs i = M0.length + rs.idxOf i := if_neg (by omega)
    refine ⟨by omega, by omega, o, e, l, ?_⟩
    rw [pl, List.getElem?_append_right (by omega), lt, Nat.add_sub_cancel_left, vpick_at (fun j hj => (ob j hj).imp fun o h => h.1) hm, e]
/-- a thing leaves -/
theorem leave_vw {M0 : Hm} {x : D} {q : PyData} (hp : p < M0.length) (hl : M0.length ≤ M.length) (v : Vw p M x q) : ∃ d X, leave M0 x M = ok d (M.take M0.length ++ X) ∧ Vw p (M.take M0.length ++ X) d q := by
  have same : ∃ d X, ok x M = ok d (M.take M0.length ++ X) ∧ Vw p (M.take M0.length ++ X) d q := ⟨x, M.drop M0.length, by rw [List.take_append_drop], by rw [List.take_append_drop]; exact v⟩
  unfold leave
  split
  · exact same
  · simp only
    split
    · rename_i hc
      obtain ⟨h1, h2⟩ := cut_at hp hl hc fun i hi => vrefs_ge (dd_mem.mp hi)
      exact ⟨_, _, rfl, v.ren (P := fun i => i ∈ dd (x.refs M0.length)) (fun i hi => place_lt i hi) (fun i _ hi => h1 i hi) h2 fun i hi => dd_mem.mpr hi⟩
    · exact same
/-- behind a turn -/
theorem leaveS_vw {M0 : Hm} {σ : Sl} (hp : p < M0.length) (hl : M0.length ≤ M.length) : ∃ f : Nat → Nat, (∀ i, i < M0.length → f i = i) ∧ (leaveS M0 σ M).1 = slRen f σ ∧ (∀ i, i < M0.length → (leaveS M0 σ M).2[i]? = M[i]?) ∧ M0.length ≤ (leaveS M0 σ M).2.length ∧
    ∀ x q, some x ∈ σ → Vw p M x q → Vw p (leaveS M0 σ M).2 (x.ren f) q := by
  have idd : ∀ d : D, d.ren id = d := fun d => by
    have key : ∃ n, d.low n = true := by
      induction d using D.rec (motive_2 := fun ds => ∃ n, D.lows n ds = true) with
      | ref i => exact ⟨i + 1, by simp [D.low]⟩
      | tup ds ih => obtain ⟨n, hn⟩ := ih; exact ⟨n, by simpa only [D.low] using hn⟩
      | nil => exact ⟨0, rfl⟩
      | cons d ds ih1 ih2 =>
        obtain ⟨n, hn⟩ := ih1
        obtain ⟨m, hm⟩ := ih2
        exact ⟨max n m, by simp only [D.lows, Bool.and_eq_true]; exact ⟨low_le (Nat.le_max_left _ _) hn, lows_le (Nat.le_max_right _ _) hm⟩⟩
      | _ => exact ⟨0, rfl⟩
    obtain ⟨n, hn⟩ := key
    exact ren_low (fun _ _ => rfl) hn
  have idr : ∀ σ : Sl, slRen id σ = σ := fun σ => by
    induction σ with
    | nil => rfl
    | cons a r ih => cases a <;> simp only [slRen, ih, idd]
  unfold leaveS
  split
  · exact ⟨id, fun _ _ => rfl, (idr σ).symm, fun _ _ => rfl, hl, fun x q _ v => by rw [idd]; exact v⟩
  · simp only
    split
    · rename_i hc
      obtain ⟨h1, h2⟩ := cut_at hp hl hc fun i hi => vslRefs_ge (dd_mem.mp hi)
      refine ⟨_, fun i hi => place_lt i hi, rfl, h1, by rw [List.length_append, List.length_take]; omega, fun x q hx v => ?_⟩
      refine v.ren (P := fun i => i ∈ dd (slRefs M0.length σ)) (fun i hi => place_lt i hi) (fun i _ hi => h1 i hi) h2 fun i hi => dd_mem.mpr ?_
      clear hc h1 h2
      induction σ with
      | nil => simp at hx
      | cons a r ih =>
        cases a with
        | none => simp only [slRefs]; exact ih (by simpa using hx)
        | some d =>
          simp only [slRefs, List.mem_append]
          rcases List.mem_cons.mp hx with e | e
          · cases e; exact .inl hi
          · exact .inr (ih e)
    · exact ⟨id, fun _ _ => rfl, (idr σ).symm, fun _ _ => rfl, hl, fun x q _ v => by rw [idd]; exact v⟩
end
/-! ### things of bounded depth and size -/
mutual
/-- how many things stand in it, tuple for tuple -/
def wt : PyData → Nat
  | .tuple qs => 1 + wts qs
  | _ => 1
def wts : List PyData → Nat
  | [] => 0
  | q :: r => wt q + wts r
end
theorem wt_pos (q : PyData) : 1 ≤ wt q := by cases q <;> simp [wt]
theorem wts_len : ∀ qs : List PyData, qs.length ≤ wts qs
  | [] => Nat.zero_le _
  | q :: r => by
    have := wt_pos q
    have := wts_len r
    simp only [List.length_cons, wts]
    omega
structure Bd (q : PyData) (d s : Nat) : Prop where
  sh : q.showable = true
  dp : q.depth ≤ d
  sz : q.shown.length ≤ s
  wt : wt q ≤ s
def Gx (p : Nat) (M : Hm) (d s : Nat) (x : D) : Prop := ∃ q, Vw p M x q ∧ Bd q d s
theorem Bd.le {q : PyData} {d s d' s' : Nat} (h : Bd q d s) (hd : d ≤ d') (hs : s ≤ s') : Bd q d' s' := ⟨h.sh, Nat.le_trans h.dp hd, Nat.le_trans h.sz hs, Nat.le_trans h.wt hs⟩
section
variable {p : Nat} {M M' : Hm} {d s : Nat} {x : D}
theorem Gx.le {d' s' : Nat} (h : Gx p M d s x) (hd : d ≤ d') (hs : s ≤ s') : Gx p M d' s' x := h.imp fun _ z => ⟨z.1, z.2.le hd hs⟩
theorem Gx.ext (h : ∀ i o, i ≠ p → M[i]? = some o → M'[i]? = some o) (g : Gx p M d s x) : Gx p M' d s x := g.imp fun _ z => ⟨z.1.ext h, z.2⟩
theorem Gx.app {X : Hm} (g : Gx p M d s x) : Gx p (M ++ X) d s x := g.imp fun _ z => ⟨z.1.app, z.2⟩
theorem Gx.pst (h : Pst p M M') (g : Gx p M d s x) : Gx p M' d s x := g.imp fun _ z => ⟨z.1.pst h, z.2⟩
theorem Gx.low (g : Gx p M d s x) : x.low M.length = true := by obtain ⟨q, v, _⟩ := g; exact v.low
theorem Gx.repr (g : Gx p M d s x) (hd : d ≤ 64) (hs : s ≤ lim) : ∃ q, Vw p M x q ∧ ∀ M', Vw p M' x q → reprM M' x = some q.shown.cps.toList := by
  obtain ⟨q, v, b⟩ := g
  exact ⟨q, v, fun M' v' => v'.repr b.sh (Nat.le_trans b.dp hd) (Nat.le_trans b.sz hs)⟩
theorem gx_non : Gx p M d (s + 4) .non := ⟨_, .non, rfl, Nat.zero_le _, by show (4 : Nat) ≤ s + 4; omega, by show 1 ≤ s + 4; omega⟩
theorem gx_bl {b : Bool} : Gx p M d (s + 5) (.bl b) := ⟨_, .bl b, rfl, Nat.zero_le _, by cases b <;> (show (_ : Nat) ≤ s + 5; first | exact Nat.le_add_left 5 s | exact Nat.le_trans (by decide) (Nat.le_add_left 5 s)), by show 1 ≤ s + 5; omega⟩
theorem gx_int {i : Int} (h : i.natAbs.log2 < 1000) (hs : i.natAbs.log2 + 4 ≤ s) : Gx p M d s (.int i) :=
  ⟨_, .int i, by simp only [PyData.showable, decide_eq_true_eq]; omega, Nat.zero_le _, Nat.le_trans (int_sz h) hs, by show 1 ≤ s; omega⟩
theorem gx_str {t : List Nat} (h : PyData.strOk ⟨t.toArray⟩ = true) (hs : 10 * t.length + 4 ≤ s) (hl : t.length ≤ lim := by decide) : Gx p M d s (.str t) := ⟨_, .str t hl, rfl, Nat.zero_le _, Nat.le_trans (str_sz h) hs, by show 1 ≤ s; omega⟩
theorem gxs {ds : List D} (h : ∀ y ∈ ds, Gx p M d s y) : ∃ qs, Vws p M ds qs ∧ PyData.showableAll qs = true ∧ PyData.depthAll qs ≤ d ∧ piled (PyData.shownAll qs) ≤ ds.length * (s + 2) ∧ wts qs ≤ ds.length * (s + 2) := by
  induction ds with
  | nil => exact ⟨[], .nil, rfl, Nat.zero_le _, Nat.zero_le _, Nat.zero_le _⟩
  | cons a r ih =>
    obtain ⟨q, v, b⟩ := h a (by simp)
    obtain ⟨qs, h1, h2, h3, h4, h5⟩ := ih fun y hy => h y (List.mem_cons_of_mem _ hy)
    refine ⟨q :: qs, .cons v h1, by simp only [PyData.showableAll, b.sh, h2, Bool.and_self], ?_, ?_, ?_⟩
    · have := b.dp
      simp only [PyData.depthAll]
      omega
    · have := b.sz
      simp only [PyData.shownAll, piled_cons, List.length_cons, Nat.add_mul, Nat.one_mul]
      omega
    · have := b.wt
      simp only [wts, List.length_cons, Nat.add_mul, Nat.one_mul]
      omega
theorem gx_tup {ds : List D} {n : Nat} (h : ∀ y ∈ ds, Gx p M d s y) (hn : ds.length ≤ n) (hL : n ≤ lim) : Gx p M (d + 1) (n * (s + 2) + 4) (.tup ds) := by
  obtain ⟨qs, h1, h2, h3, h4, h5⟩ := gxs h
  refine ⟨_, .tup (Nat.le_trans hn hL) h1, h2, by simp only [PyData.depth]; omega, ?_, ?_⟩
  · have t := tup_sz (ts := PyData.shownAll qs)
    have := Nat.mul_le_mul_right (s + 2) hn
    simp only [PyData.shown]
    omega
  · have := Nat.mul_le_mul_right (s + 2) hn
    simp only [wt]
    omega
theorem gx_pair {s1 s2 : Nat} {a b : D} (h1 : Gx p M d s1 a) (h2 : Gx p M d s2 b) : Gx p M (d + 1) (s1 + s2 + 8) (.tup [a, b]) := by
  obtain ⟨q, v, bq⟩ := h1
  obtain ⟨r, w, br⟩ := h2
  refine ⟨_, .tup (by show 2 ≤ lim; decide) (.cons v (.cons w .nil)), by simp only [PyData.showable, PyData.showableAll, bq.sh, br.sh, Bool.and_self], ?_, ?_, ?_⟩
  · have := bq.dp
    have := br.dp
    simp only [PyData.depth,
        PyData.depthAll]
    omega
  · have t := tup_sz (ts := PyData.shownAll [q, r])
    have := bq.sz
    have := br.sz
    simp only [PyData.shown]
    simp only [PyData.shownAll, piled_cons] at t ⊢
    have z : piled ([] : List Str) = 0 := rfl
    omega
  · have := bq.wt
    have := br.wt
    simp only [wt, wts]
    omega
theorem gx_one {a : D} (h1 : Gx p M d s a) : Gx p M (d + 1) (s + 6) (.tup [a]) := by
  have := gx_tup (n := 1) (ds := [a]) (fun y hy => by rw [List.mem_singleton.mp hy]; exact h1) (Nat.le_refl 1) (by decide)
  exact this.le (Nat.le_refl _) (by omega)
theorem lst_sz {ts : List Str} : (listText ts).length ≤ piled ts + 4 := by
  rw [listText_eq_join, strLen_append, strLen_append]
  have e1 : (("]" : Str)).length = 1 := rfl
  have e2 : (("[" : Str)).length = 1 := rfl
  by_cases h : ts = []
  · subst h
    have e3 : (Str.join ", " ([] : List Str)).length = 0 := rfl
    omega
  · have :=
      join_length_add ts h
    omega
theorem gx_lst {ds : List D} {n i : Nat} (hi : i ≠ p) (e : M[i]? = some (.lst ds)) (hl : D.lows i ds = true) (h : ∀ y ∈ ds, Gx p M d s y) (hn : ds.length ≤ n) (hL : n ≤ lim) : Gx p M (d + 1) (n * (s + 2) + 4) (.ref i) := by
  obtain ⟨qs, h1, h2, h3, h4, h5⟩ := gxs h
  refine ⟨_, .lst (Nat.le_trans hn hL) hi e hl h1, h2, by simp only [PyData.depth]; omega, ?_, ?_⟩
  · have t := lst_sz (ts := PyData.shownAll qs)
    have := Nat.mul_le_mul_right (s + 2) hn
    simp only [PyData.shown]
    omega
  · show 1 ≤ _
    omega
theorem gx_dct {i : Nat} (hi : i ≠ p) (e : M[i]? = some (.dct [])) : Gx p M (d + 1) (s + 2) (.ref i) :=
  ⟨_, .dct hi e, rfl, by show (0 : Nat) + 1 ≤ d + 1; omega, by show (2 : Nat) ≤ s + 2; omega, by show 1 ≤ s + 2; omega⟩
theorem gx_leave {M0 : Hm} (hp : p < M0.length) (hl : M0.length ≤ M.length) (g : Gx p M d s x) : ∃ y X, leave M0 x M = ok y (M.take M0.length ++ X) ∧ Gx p (M.take M0.length ++ X) d s y := by
  obtain ⟨q, v, b⟩ := g
  obtain ⟨y, X, h1, h2⟩ := leave_vw hp hl v
  exact ⟨y, X, h1, q, h2, b⟩
end
end Mi

/-! Tg: what tests of things say; comprehensions that change nothing. -/
namespace Mi
open PySem
section
variable {F : Caller} {σ : Sl} {M : Hm} {N : Sl → Hm → Prop} {R : D → Hm → Prop} {B C : Sl → Hm → Prop}
theorem x_guard {c e : E} {s : S} : Wp (ex F (.seq (.ifS c (.ret e) .pas) s) σ M) N R B C ↔ Ret (evT F c σ M) fun k M1 => if k then Ret (ev F e σ M1) R else Wp (ex F s σ M1) N R B C := by
  rw [x_seq, x_if]
  refine Ret_congr fun k M1 => ?_
  cases k
  · simp only [Bool.false_eq_true, if_false, x_pas]
  · simp only [if_true, x_ret]
theorem x_ifp {c : E} {t s : S} : Wp (ex F (.seq (.ifS c t .pas) s) σ M) N R B C ↔ Ret (evT F c σ M) fun k M1 => if k then Wp (ex F t σ M1) (fun σ1 M1 => Wp (ex F s σ1 M1) N R B C) R B C else Wp (ex F s σ M1) N R B C := by
  rw [x_seq, x_if]
  refine Ret_congr fun k M1 => ?_
  cases k
  · simp only [Bool.false_eq_true, if_false, x_pas]
  · simp only [if_true]
theorem x_sets {i : Nat} {e : E} {s : S} : Wp (ex F (.seq (.set i e) s) σ M) N R B C ↔ Ret (ev F e σ M) fun d M1 => Wp (ex F s (σ.set i (some d)) M1) N R B C := by
  rw [x_seq, x_set]
theorem kS_b {k : Bool} {Ψ : Bool → Hm → Prop} : kS Ψ M (.bl k) ↔ Ψ k M := Iff.rfl
theorem cmp_neI {i j : Int} : cmpM .ne (.int i) (.int j) M = some (!decide (i = j)) := by
  simp [cmpM, eqM, D.atom, D.peq, BEq.beq]
theorem len_t {ds : List D} {Φ : D → Hm → Prop} : Ret (bltM .len (.tup ds) M) Φ ↔ Φ (.int ds.length) M := Iff.rfl
theorem t_bltC {bl : Blt} {e : E} {tg : Tg} {s : Sr} {cs : Es} {Ψ : Bool → Hm → Prop} : Ret (evT F (.blt bl (.comp e tg s cs)) σ M) Ψ ↔ Ret (ev F (.blt bl (.comp e tg s cs)) σ M) fun x M1 => kS Ψ M1 x := t_plain rfl
theorem t_isB {e : E} {b no : Bool} {Ψ : Bool → Hm → Prop} : Ret (evT F (.isB e b no) σ M) Ψ ↔ Ret (ev F (.isB e b no) σ M) fun x M1 => kS Ψ M1 x := t_plain rfl
def bS (Φ : D → Hm → Prop) (b no : Bool) (M : Hm) : D → Prop
  | .bl k => Φ (.bl (decide (k = b) != no)) M
  | _ => False
theorem bS_bl {Φ : D → Hm → Prop} {b no k : Bool} : bS Φ b no M (.bl k) ↔ Φ (.bl (decide (k = b) != no)) M := Iff.rfl
theorem w_isB {e : E} {b no : Bool} {Φ : D → Hm → Prop} : Ret (ev F (.isB e b no) σ M) Φ ↔ Ret (ev F e σ M) fun x M1 => bS Φ b no M1 x := by
  rw [ev, Ret_bnd]
  refine Ret_congr fun x M1 => ?_
  cases x <;> exact Iff.rfl
def kxS (Φ : D → Hm → Prop) (M : Hm) : Option D → Prop
  | some d => Φ d M
  | none => False
theorem kxS_some {Φ : D → Hm → Prop} {d : D} : kxS Φ M (some d) ↔ Φ d M := Iff.rfl
theorem w_kix {c : List (List Nat × D)} {e : E} {Φ : D → Hm → Prop} : Ret (ev F (.kix c e) σ M) Φ ↔ Ret (ev F e σ M) fun x M1 => kxS Φ M1 (kixM c x) := by
  rw [ev, Ret_bnd]
  refine Ret_congr fun x M1 => ?_
  cases kixM c x <;> exact Iff.rfl
theorem w_kin {c : List (List Nat × D)} {e : E} {no : Bool} {Φ : D → Hm → Prop} : Ret (ev F (.kin c e no) σ M) Φ ↔ Ret (ev F e σ M) fun x M1 => kxS (fun _ M2 => Φ (.bl (!no)) M2) M1 (kixM c x) := by
  rw [ev, Ret_bnd]
  refine Ret_congr fun x M1 => ?_
  cases kixM c x <;> exact Iff.rfl
theorem t_kin {c : List (List Nat × D)} {e : E} {no : Bool} {Ψ : Bool → Hm → Prop} : Ret (evT F (.kin c e no) σ M) Ψ ↔ Ret (ev F (.kin c e no) σ M) fun x M1 => kS Ψ M1 x := t_plain rfl
def stS (N : Sl → Hm → Prop) (σ : Sl) (i j : Nat) (M : Hm) : D → Prop
  | .tup (x :: xs) => N ((σ.set i (some x)).set j (some (.ref M.length))) (M ++ [.lst xs])
  | _ => False
theorem stS_tup {σ : Sl} {i j : Nat} {x : D} {xs : List D} : stS N σ i j M (.tup (x :: xs)) ↔ N ((σ.set i (some x)).set j (some (.ref M.length))) (M ++ [.lst xs]) := Iff.rfl
theorem x_setS {i j : Nat} {e : E} : Wp (ex F (.setS i j e) σ M) N R B C ↔ Ret (ev F e σ M) fun d M1 => stS N σ i j M1 d := by
  rw [ex, Wp_bndS]
  refine Ret_congr fun d M1 => ?_
  cases d with
  | tup ds => cases ds <;> exact Iff.rfl
  | _ => exact Iff.rfl
theorem s_zip {a b : E} {A : Wk → Hm → Prop} : Ret (evW F (.zip a b) σ M) A ↔ Ret (ev F a σ M) fun x M1 => Ret (ev F b σ M1) fun y M2 => sS A M2 (zipW M2 x y) := by
  rw [evW, Ret_bnd]
  refine Ret_congr fun x M1 => ?_
  rw [Ret_bnd]
  refine Ret_congr fun y M2 => ?_
  cases zipW M2 x y <;> exact Iff.rfl
theorem w_dct {es : Es} {Φ : D → Hm → Prop} : Ret (ev F (.dct es) σ M) Φ ↔ Ret (evs F es σ M) fun ds M1 => Ret (dctD ds M1) Φ := by rw [ev, Ret_bnd]
theorem dct_nil {Φ : D → Hm → Prop} : Ret (dctD [] M) Φ ↔ Φ (.ref M.length) (M ++ [.dct []]) := Iff.rfl
theorem w_ext {a b : E} {Φ : D → Hm → Prop} : Ret (ev F (.ext a b) σ M) Φ ↔ Ret (ev F a σ M) fun x M1 => isLst M1 x = true ∧ Ret (ev F b σ M1) fun y M2 => Ret (extM x y M2) Φ := by
  rw [ev, Ret_bnd]
  refine Ret_congr fun x M1 => ?_
  cases isLst M1 x
  · simp [Ret]
  · simp [Ret_bnd]
end
/-- the slots of a def at its start -/
theorem allBls_map (l : List Bool) : allBls (l.map .bl) = some l := by
  induction l with
  | nil => rfl
  | cons a r ih => simp [allBls, ih]
theorem leave_id {M : Hm} {d : D} : leave M d M = ok d M := if_pos rfl
theorem leave_drop {M X : Hm} {d : D} (l : d.low M.length = true) : leave M d (M ++ X) = ok d M := by rw [leave_low kept_app l, List.take_left]
section
variable {F : Caller} {p : Nat} {M : Hm} {σ : Sl} {Φ : List D → Hm → Prop}
/-- [f(d) for d in ds] where nothing is changed -/
theorem Ret_vmap {tg : Tg} {el : Sl → Hm → R D} {f : PyData → D} {ds : List D} {qs : List PyData} (r : Vws p M ds qs) (hl : ds.length ≤ lim)
    (he : ∀ d q, d ∈ ds → Vw p M d q → q ∈ qs → ∃ σ1, setTg tg d σ = some σ1 ∧ Ret (el σ1 M) fun y M' => y = f q ∧ M' = M) (h : Φ (qs.map f) M) {w : Wk} (hw : w.its = ds) (hk : w.ok M = true) :
    Ret (compW tg (fun σ1 M2 => evA F .nil σ1 M2) el w σ M) Φ := by
  refine Ret_comp (fun j acc M' => M' = M ∧ acc = (qs.take j).map f) (by rw [hw]; exact hl) ⟨rfl, by simp⟩ ?_ ?_
  · rintro i d acc M' e ⟨rfl, rfl⟩
    rw [hw] at e
    obtain ⟨q, e2, v⟩ := r.get e
    obtain ⟨σ1, h1, h2⟩ := he d q (List.mem_of_getElem? e) v (List.mem_of_getElem? e2)
    refine ⟨hk, σ1, h1, ?_⟩
    rw [a_nil, if_pos rfl]
    refine h2.mono fun y M2 ⟨h3, h4⟩ => ?_
    subst h3 h4
    rw [leave_id, Ret_ok]
    refine ⟨rfl, ?_⟩
    rw [List.take_add_one, e2]
    simp
  · rintro acc M' ⟨rfl, rfl⟩
    refine ⟨hk, ?_⟩
    rw [hw, r.len, List.take_length]
    exact h
end
def isNum : PyData → Bool
  | .int _ => true
  | _ => false
def p_isnum : S := (.ret (.andE (.isi (.var 0) [.int]) (.notE (.isi (.var 0) [.bool]))))
def NumOk (prg : List Df) (i : Nat) : Prop := ∀ (k p : Nat) (M : Hm) (x : D) (q : PyData), Vw p M x q → Ret (callAt prg (k + 1) i [x] M) fun d M' => d = .bl (isNum q) ∧ M' = M
theorem isnum_ok {prg : List Df} {i : Nat} (hi : prg[i]? = some ⟨1, 1, p_isnum⟩) : NumOk prg i := by
  intro k p M x q v
  refine Ret_call hi (Ret_run rfl ?_)
  simp only [p_isnum, List.map_cons, List.map_nil, List.length_cons, List.length_nil, List.replicate, List.cons_append, List.nil_append, Nat.reduceAdd, Nat.reduceSub, x_ret, w_and, w_isi, w_not, t_isi, w_var, vS_some, List.getElem?_cons_zero, v.isi, cS_some, kS_bl, truM, tS2_some]
  cases q <;> simp [isiQ, isNum, leave_id, Ret_ok]
end Mi

/-! Pw: rows that go round: which is the shortest telling. -/
namespace Mi
open PySem
theorem pow_len {n : Nat} {x : List D} : (pow n x).length = n * x.length := by unfold pow; simp
theorem pow_get {v : List D} (hv : v ≠ []) : ∀ (n i : Nat), i < n * v.length → (pow n v)[i]? = v[i % v.length]?
  | 0, i, h => by omega
  | n + 1, i, h => by
    have hl := List.length_pos_iff.mpr hv
    have e : pow (n + 1) v = v ++ pow n v := by unfold pow; rw [List.replicate_succ, List.flatten_cons]
    rw [e]
    by_cases hi : i < v.length
    · rw [List.getElem?_append_left hi, Nat.mod_eq_of_lt hi]
    · rw [List.getElem?_append_right (by omega), pow_get hv n (i - v.length) (by rw [Nat.succ_mul] at h; omega), ← Nat.mod_eq_sub_mod (by omega)]
def far (u v : List D) (n : Nat) : List D := (u ++ pow n v).take n
/-- u, then v again and again -/
def gon (u v : List D) (i : Nat) : Option D := if i < u.length then u[i]? else v[(i - u.length) % v.length]?
theorem far_get {u v : List D} {n i : Nat} (hv : v ≠ []) (hi : i < n) : (far u v n)[i]? = gon u v i := by
  have hl := List.length_pos_iff.mpr hv
  unfold far gon
  rw [List.getElem?_take_of_lt hi]
  split
  · rename_i h; exact List.getElem?_append_left h
  · rename_i h
    rw [List.getElem?_append_right (by omega), pow_get hv]
    have : n * 1 ≤ n * v.length := Nat.mul_le_mul_left n hl
    omega
theorem far_len {u v : List D} {n : Nat} (hv : v ≠ []) : (far u v n).length = n := by
  have hl := List.length_pos_iff.mpr hv
  unfold far
  rw [List.length_take, List.length_append, pow_len]
  have : n * 1 ≤ n * v.length := Nat.mul_le_mul_left n hl
  omega
/-- from a on the row goes round with r -/
def Per (f : List D) (r a : Nat) : Prop := ∀ i, a ≤ i → i + r < f.length → f[i]? = f[i + r]?
theorem per_far {f : List D} {r a : Nat} (hr : 1 ≤ r) (ha : a + r ≤ f.length) : far (f.take a) ((f.drop a).take r) f.length = f ↔ Per f r a := by
  have lx : (f.take a).length = a := by rw [List.length_take]; omega
  have ly : ((f.drop a).take r).length = r := by rw [List.length_take, List.length_drop]; omega
  have hy : (f.drop a).take r ≠ [] := fun z => by rw [z] at ly; simp at ly; omega
  have yg : ∀ j, j < r → ((f.drop a).take r)[j]? = f[a + j]? := fun j hj => by rw [List.getElem?_take_of_lt hj, List.getElem?_drop]
  constructor
  · intro h i hi hin
    have e1 := far_get (u := f.take a) hy (show i < f.length by omega)
    have e2 := far_get (u := f.take a) hy hin
    rw [h] at e1 e2
    rw [e1, e2]
    unfold gon
    rw [lx, ly, if_neg (by omega), if_neg (by omega), show i + r - a = (i - a) + r by omega, Nat.add_mod_right]
  · intro h
    have key : ∀ i, a ≤ i → i < f.length → f[a + (i - a) % r]? = f[i]? := fun i => by
      induction i using Nat.strongRecOn with
      | _ i ih =>
        intro h1 h2
        by_cases hi : i - a < r
        · rw [Nat.mod_eq_of_lt hi, show a + (i - a) = i by omega]
        · have := ih (i - r) (by omega) (by omega) (by omega)
          rw [Nat.mod_eq_sub_mod (by omega), show i - a - r = i - r - a by omega, this, h (i - r) (by omega) (by omega), show i - r + r = i by omega]
    refine List.ext_getElem? fun i => ?_
    by_cases hi : i < f.length
    · rw [far_get hy hi]
      unfold gon
      rw [lx, ly]
      split
      · rename_i h3; exact List.getElem?_take_of_lt h3
      · rename_i h3
        rw [yg _ (Nat.mod_lt _ (by omega)), key i (by omega) hi]
    · rw [List.getElem?_eq_none (by rw [far_len hy]; omega), List.getElem?_eq_none (by omega)]
/-! ### periods of what never ends -/
def PerN (h : Nat → Option D) (p : Nat) : Prop := ∀ j, h (j + p) = h j
theorem PerN.mul {h : Nat → Option D} {p : Nat} (a : PerN h p) : ∀ k j, h (j + p * k) = h j
  | 0, j => rfl
  | k + 1, j => by rw [Nat.mul_succ, ← Nat.add_assoc, a, a.mul k j]
theorem PerN.gcd {h : Nat → Option D} : ∀ p q, PerN h p → PerN h q → PerN h (Nat.gcd p q) := by
  intro p q
  induction p, q using Nat.gcd.induction with
  | H0 n => intro _ b; rw [Nat.gcd_zero_left]; exact b
  | H1 m n hm ih =>
    intro a b
    rw [Nat.gcd_rec]
    refine ih (fun j => ?_) a
    have e : j + n = (j + n % m) + m * (n / m) := by have := Nat.mod_add_div n m; omega
    rw [← b j, e, a.mul]
theorem root_spec {v : List D} (hv : v ≠ []) : ∃ s, 1 ≤ s ∧ s ≤ v.length ∧ rootOf v = v.take s ∧ v.length % s = 0 ∧ (∀ i, i < v.length → v[i]? = v[i % s]?) ∧ ∀ t, 1 ≤ t → t < v.length → rootAt v t = true → s ≤ t := by
  have hl := List.length_pos_iff.mpr hv
  unfold rootOf
  split
  · rename_i s e
    rw [List.find?_range_eq_some] at e
    obtain ⟨e1, e2, e3⟩ := e
    simp only [Bool.and_eq_true, decide_eq_true_eq, rootAt] at e1
    have e2 := List.mem_range.mp e2
    obtain ⟨h1, h2, h3⟩ := e1
    refine ⟨s, h1, by omega, rfl, h2, fun i hi => ?_, fun t t1 t2 t3 => ?_⟩
    · have ls : (v.take s).length = s := by rw [List.length_take]; omega
      have ne : v.take s ≠ [] := fun z => by rw [z] at ls; simp at ls; omega
      have := pow_get ne (v.length / s) i (by rw [ls]; have := Nat.div_add_mod v.length s; rw [h2, Nat.mul_comm] at this; omega)
      rw [h3, ls] at this
      rw [this, List.getElem?_take_of_lt (Nat.mod_lt _ (by omega))]
    · refine Nat.le_of_not_lt fun z => ?_
      have := e3 t z
      rw [t3] at this
      simp [t1] at this
  · rename_i e
    rw [List.find?_range_eq_none] at e
    refine ⟨v.length, hl, Nat.le_refl _, by rw [List.take_length], Nat.mod_self _, fun i hi => by rw [Nat.mod_eq_of_lt hi], fun t t1 t2 t3 => ?_⟩
    have := e t t2
    rw [t3] at this
    simp [t1] at this
theorem root_at_of {v : List D} {d : Nat} (h1 : 1 ≤ d) (h2 : d ≤ v.length) (h3 : v.length % d = 0) (h : ∀ i, i < v.length → v[i]? = v[i % d]?) : rootAt v d = true := by
  simp only [rootAt, Bool.and_eq_true, decide_eq_true_eq]
  refine ⟨h3, ?_⟩
  have ls : (v.take d).length = d := by rw [List.length_take]; omega
  have ne : v.take d ≠ [] := fun z => by rw [z] at ls; simp at ls; omega
  have hm : v.length / d * d = v.length := by have := Nat.div_add_mod v.length d; rw [h3, Nat.mul_comm] at this; omega
  refine List.ext_getElem? fun i => ?_
  by_cases hi : i < v.length
  · rw [pow_get ne _ _ (by rw [ls, hm]; exact hi), ls, List.getElem?_take_of_lt (Nat.mod_lt _ (by omega)), h i hi]
  · rw [List.getElem?_eq_none (by rw [pow_len, ls, hm]; omega), List.getElem?_eq_none (by omega)]

/-- any round of the tail is no shorter than the root -/
theorem root_least {u v : List D} {n r a : Nat} (hv : v ≠ []) (hn : u.length + 2 * v.length ≤ n) (ha : a ≤ u.length) (hr : 1 ≤ r) (hr2 : r ≤ v.length) (h : Per (far u v n) r a) : (rootOf v).length ≤ r := by
  have hl := List.length_pos_iff.mpr hv
  have hp : PerN (fun j => v[j % v.length]?) r := fun j => by
    have hj : j % v.length < v.length := Nat.mod_lt _ hl
    have q := h (u.length + j % v.length) (by omega) (by rw [far_len hv]; omega)
    rw [far_get hv (by omega), far_get hv (by omega)] at q
    unfold gon at q
    rw [if_neg (by omega), if_neg (by omega), show u.length + j % v.length - u.length = j % v.length by omega, show u.length + j % v.length + r - u.length = j % v.length + r by omega, Nat.mod_mod, Nat.mod_add_mod] at q
    exact q.symm
  have hq : PerN (fun j => v[j % v.length]?) v.length := fun j => by simp only [Nat.add_mod_right]
  have hg := PerN.gcd r v.length hp hq
  obtain ⟨s, s1, s2, e, s3, s4, s5⟩ := root_spec hv
  have gd : Nat.gcd r v.length ∣ v.length := Nat.gcd_dvd_right _ _
  have g1 : 1 ≤ Nat.gcd r v.length := Nat.gcd_pos_of_pos_left _ hr
  have g2 : Nat.gcd r v.length ≤ r := Nat.gcd_le_left _ hr
  have ls : (rootOf v).length = s := by rw [e, List.length_take]; omega
  rw [ls]
  generalize Nat.gcd r v.length = d at *
  have at' : rootAt v d = true := root_at_of g1 (by omega) (Nat.mod_eq_zero_of_dvd gd) fun i hi => by
    have := hg.mul (i / d) (i % d)
    simp only [Nat.mod_add_div] at this
    rw [Nat.mod_eq_of_lt hi, Nat.mod_eq_of_lt (show i % d < v.length by have := Nat.mod_le i d; omega)] at this
    exact this
  by_cases hd : d < v.length
  · have := s5 d g1 hd at'
    omega
  · omega
/-- the same without end, told by the root -/
theorem gon_root {u v : List D} (hv : v ≠ []) (i : Nat) : gon u v i = gon u (rootOf v) i := by
  have hl := List.length_pos_iff.mpr hv
  obtain ⟨s, s1, s2, e, s3, s4, _⟩ := root_spec hv
  have ls : (rootOf v).length = s := by rw [e, List.length_take]; omega
  unfold gon
  split
  · rfl
  · rw [ls, e, List.getElem?_take_of_lt (Nat.mod_lt _ (by omega)), s4 _ (Nat.mod_lt _ hl), Nat.mod_mod_of_dvd _ (Nat.dvd_of_mod_eq_zero s3)]
theorem peel_spec : ∀ (r w : List D), w ≠ [] → (peel r w).2.length = w.length ∧ (∀ i, gon (peel r w).1.reverse (peel r w).2 i = gon r.reverse w i) ∧ (peel r w).1.length ≤ r.length ∧ (peel r w).2 ≠ [] ∧
    (∀ a q, (peel r w).1 = a :: q → (peel r w).2.getLast? ≠ some a) ∧ (∀ d ∈ (peel r w).1, d ∈ r) ∧ ∀ d ∈ (peel r w).2, d ∈ r ∨ d ∈ w
  | [], w, hw => ⟨rfl, fun _ => rfl, Nat.le_refl _, hw, fun a q h => by simp [peel] at h, fun d h => h, fun d h => .inr h⟩
  | a :: r, w, hw => by
    have hl := List.length_pos_iff.mpr hw
    rw [peel]
    split
    · rename_i h
      have ht : w.getLast hw = a := by rw [List.getLast?_eq_some_getLast hw] at h; exact Option.some.inj h
      have hd := List.dropLast_concat_getLast hw
      rw [ht] at hd
      have ld : w.dropLast.length = w.length - 1 := List.length_dropLast
      obtain ⟨h1, h2, h3, h4, h5, h6, h7⟩ := peel_spec r (a :: w.dropLast) (List.cons_ne_nil _ _)
      refine ⟨by rw [h1, List.length_cons, ld]; omega, fun i => ?_, by rw [List.length_cons]; omega, h4, h5, fun d hd => List.mem_cons_of_mem _ (h6 d hd), fun d hd2 => ?_⟩
      · rw [h2 i]
        unfold gon
        rw [List.reverse_cons, List.length_append, List.length_singleton, List.length_cons, ld, List.length_reverse, show w.length - 1 + 1 = w.length by omega]
        by_cases c1 : i < r.length
        · rw [if_pos c1, if_pos (by omega), List.getElem?_append_left (by rw [List.length_reverse]; exact c1)]
        · rw [if_neg c1]
          by_cases c2 : i = r.length
          · subst c2
            rw [if_pos (by omega), Nat.sub_self, Nat.zero_mod, List.getElem?_append_right (by rw [List.length_reverse]; exact Nat.le_refl _), List.length_reverse, Nat.sub_self]
            rfl
          · rw [if_neg (by omega)]
            have wat : ∀ t, t < w.length - 1 → w[t]? = w.dropLast[t]? := fun t ht => by
              conv => lhs; rw [← hd]
              exact List.getElem?_append_left (by rw [ld]; exact ht)
            obtain ⟨m, rfl⟩ : ∃ m, i = r.length + 1 + m := ⟨i - (r.length + 1), by omega⟩
            rw [show r.length + 1 + m - r.length = m + 1 by omega, show r.length + 1 + m - (r.length + 1) = m by omega]
            have hm := Nat.mod_lt m hl
            by_cases c3 : m % w.length = w.length - 1
            · have e1 : (m + 1) % w.length = 0 := by
                rw [← Nat.mod_add_mod, c3, show w.length - 1 + 1 = w.length by omega, Nat.mod_self]
              rw [e1, c3, ← List.getLast?_eq_getElem?, h]
              rfl
            · have e1 : (m + 1) % w.length = m % w.length + 1 := by
                rw [← Nat.mod_add_mod, Nat.mod_eq_of_lt (by omega)]
              rw [e1, List.getElem?_cons_succ, wat _ (by omega)]
      · rcases h7 d hd2 with h | h
        · exact .inl (List.mem_cons_of_mem _ h)
        · rcases List.mem_cons.mp h with h | h
          · exact .inl (h ▸ List.mem_cons_self)
          · exact .inr (List.dropLast_subset _ h)
    · rename_i h
      exact ⟨rfl, fun _ => rfl, Nat.le_refl _, hw, fun a' q e => by cases e; exact h, fun d hd => hd, fun d hd => .inr hd⟩
/-- what is told to the right: the first round of all -/
theorem righted_first {u v : List D} {n : Nat} (hv : v ≠ []) (hn : u.length + 2 * v.length ≤ n) :
    (righted u v).2.length = (rootOf v).length ∧ (righted u v).1.length ≤ u.length ∧ (righted u v).2 ≠ [] ∧ (far u v n).take (righted u v).1.length = (righted u v).1 ∧ ((far u v n).drop (righted u v).1.length).take (rootOf v).length = (righted u v).2 ∧
    Per (far u v n) (rootOf v).length (righted u v).1.length ∧ ∀ a, a < (righted u v).1.length → ¬ Per (far u v n) (rootOf v).length a := by
  have hl := List.length_pos_iff.mpr hv
  have hr := rootOf_ne hv
  have hrl := List.length_pos_iff.mpr hr
  have hrl2 := rootOf_len (w := v)
  obtain ⟨h1, h2, h3, h4, h5, _⟩ := peel_spec u.reverse (rootOf v) hr
  rw [List.reverse_reverse] at h2
  rw [List.length_reverse] at h3
  unfold righted
  simp only [List.length_reverse]
  generalize hP : (peel u.reverse (rootOf v)).1 = P at *
  generalize hW : (peel u.reverse (rootOf v)).2 = W at *
  have fg : ∀ i, i < n → (far u v n)[i]? = gon P.reverse W i := fun i hi => by rw [far_get hv hi, gon_root hv, h2]
  have lf : (far u v n).length = n := far_len hv
  have gr : ∀ i, P.length ≤ i → gon P.reverse W i = W[(i - P.length) % W.length]? := fun i hi => by
    unfold gon
    rw [List.length_reverse, if_neg (by omega)]
  refine ⟨h1, h3, h4, ?_, ?_, fun i hi hin => ?_, fun a ha hper => ?_⟩
  · refine List.ext_getElem? fun i => ?_
    by_cases hi : i < P.length
    · rw [List.getElem?_take_of_lt hi, fg i (by omega)]
      unfold gon
      rw [List.length_reverse, if_pos hi]
    · rw [List.getElem?_eq_none (by rw [List.length_take]; omega), List.getElem?_eq_none (by rw [List.length_reverse]; omega)]
  · refine List.ext_getElem? fun i => ?_
    by_cases hi : i < (rootOf v).length
    · rw [List.getElem?_take_of_lt hi, List.getElem?_drop, fg _ (by omega), gr _ (by omega), show P.length + i - P.length = i by omega, Nat.mod_eq_of_lt (by omega)]
    · rw [List.getElem?_eq_none (by rw [List.length_take]; omega), List.getElem?_eq_none (by omega)]
  · rw [lf] at hin
    rw [fg i (by omega), fg _ hin, gr i hi, gr _ (by omega), ← h1, show i + W.length - P.length = (i - P.length) + W.length by omega, Nat.add_mod_right]
  · obtain ⟨x, q, hq⟩ : ∃ x q, P = x :: q := by
      cases P with
      | nil => simp at ha
      | cons x q => exact ⟨x, q, rfl⟩
    have := hper (P.length - 1) (by omega) (by rw [lf]; omega)
    rw [fg _ (by omega), fg _ (by omega), gr (P.length - 1 + (rootOf v).length) (by omega), ← h1] at this
    have e1 : gon P.reverse W (P.length - 1) = some x := by
      unfold gon
      rw [List.length_reverse, if_pos (by omega), hq, List.reverse_cons, List.length_cons, Nat.add_sub_cancel, List.getElem?_append_right (by rw [List.length_reverse]; exact Nat.le_refl _), List.length_reverse, Nat.sub_self]
      rfl
    have wl : W.length = (rootOf v).length := h1
    rw [e1, show P.length - 1 + W.length - P.length = W.length - 1 by omega, Nat.mod_eq_of_lt (by omega), ← List.getLast?_eq_getElem?] at this
    exact h5 x q hq this.symm

/-! ### the same from the front -/
theorem rev_get {v : List D} {i : Nat} (h : i < v.length) : v.reverse[i]? = v[v.length - 1 - i]? := by
  rw [List.getElem?_reverse h]
theorem per_rev {v : List D} {t : Nat} (h1 : 1 ≤ t) (h : v.length % t = 0) (hp : ∀ i, i < v.length → v[i]? = v[i % t]?) : ∀ i, i < v.reverse.length → v.reverse[i]? = v.reverse[i % t]? := by
  intro i hi
  rw [List.length_reverse] at hi
  have hm := Nat.mod_le i t
  have hd := Nat.mod_add_div i t
  rw [rev_get hi, rev_get (by omega), hp _ (by omega), hp (v.length - 1 - i % t) (by omega)]
  have e : v.length - 1 - i % t = (v.length - 1 - i) + t * (i / t) := by omega
  rw [e, Nat.add_mul_mod_self_left]
theorem root_rev {v : List D} (hv : v ≠ []) : rootOf v.reverse = (rootOf v).reverse := by
  have hr : v.reverse ≠ [] := by simpa using hv
  have hl := List.length_pos_iff.mpr hv
  obtain ⟨s, s1, s2, e, s3, s4, s5⟩ := root_spec hv
  obtain ⟨t, t1, t2, f, t3, t4, t5⟩ := root_spec hr
  rw [List.length_reverse] at t2 t3 t4 t5
  have a1 : rootAt v.reverse s = true := root_at_of s1 (by rw [List.length_reverse]; exact s2) (by rw [List.length_reverse]; exact s3) (per_rev s1 s3 s4)
  have a2 : rootAt v t = true := root_at_of t1 t2 t3 fun i hi => by
    have := per_rev (v := v.reverse) t1 (by rw [List.length_reverse]; exact t3) (by rw [List.length_reverse]; exact t4) i (by rw [List.reverse_reverse]; exact hi)
    rwa [List.reverse_reverse] at this
  have st : s = t := by
    by_cases h1 : s < v.length
    · have q := t5 s s1 h1 a1
      by_cases h2 : t < v.length
      · have := s5 t t1 h2 a2; omega
      · omega
    · by_cases h2 : t < v.length
      · have := s5 t t1 h2 a2; omega
      · omega
  subst st
  rw [f, e]
  refine List.ext_getElem? fun i => ?_
  have lt : (v.take s).length = s := by rw [List.length_take]; omega
  by_cases hi : i < s
  · rw [List.getElem?_take_of_lt hi, rev_get (by omega), rev_get (by rw [lt]; exact hi), lt, List.getElem?_take_of_lt (by omega), s4 _ (by omega)]
    have hd := Nat.mod_add_div v.length s
    rw [s3] at hd
    have hq : 1 ≤ v.length / s := by
      refine Nat.pos_of_ne_zero fun z => ?_
      rw [z] at hd
      simp at hd
      omega
    obtain ⟨m, hm⟩ : ∃ m, v.length / s = m + 1 := ⟨v.length / s - 1, by omega⟩
    rw [hm, Nat.mul_succ] at hd
    have e : v.length - 1 - i = (s - 1 - i) + s * m := by omega
    rw [e, Nat.add_mul_mod_self_left, Nat.mod_eq_of_lt (by omega)]
  · rw [List.getElem?_eq_none (by rw [List.length_take]; omega), List.getElem?_eq_none (by rw [List.length_reverse, lt]; omega)]
theorem peel_rev : ∀ (r w : List D), peelL r w.reverse = ((peel r w).1, (peel r w).2.reverse)
  | [], w => rfl
  | a :: r, w => by
    rw [peelL, peel, List.head?_reverse]
    split
    · rw [List.tail_reverse, ← List.reverse_cons]
      exact peel_rev r _
    · rfl
theorem lefted_rev {u v : List D} (hv : v ≠ []) : lefted v.reverse u.reverse = ((righted u v).2.reverse, (righted u v).1.reverse) := by
  unfold lefted righted
  rw [root_rev hv, peel_rev]
  simp only [List.reverse_reverse]
theorem righted_mem {u v : List D} (hv : v ≠ []) : (∀ d ∈ (righted u v).1, d ∈ u) ∧ ∀ d ∈ (righted u v).2, d ∈ u ∨ d ∈ v := by
  obtain ⟨_, _, _, _, _, h6, h7⟩ := peel_spec u.reverse (rootOf v) (rootOf_ne hv)
  unfold righted
  exact ⟨fun d hd => List.mem_reverse.mp (h6 d (List.mem_reverse.mp hd)), fun d hd => (h7 d hd).imp List.mem_reverse.mp (rootOf_mem d)⟩
/-! ### the shortest, tried out -/
theorem cut_take {α : Type} (xs : List α) (n : Nat) : cut xs none (some (n : Int)) = xs.take n := by
  unfold cut
  rw [HT.sIx_nat, HT.sIx_none]
  simp
def p_far : S := (.ret (.slc (.bin .add (.var 0) (.bin .mul (.var 1) (.var 2))) .no (.so (.var 2))))
def FarOk (prg : List Df) (i : Nat) : Prop := ∀ (k n : Nat) (u v : List D) (M : Hm), u.length ≤ 1000 → v.length ≤ 1000 → n ≤ 1000 → Ret (callAt prg (k + 1) i [.tup u, .tup v, .int n] M) fun d M' => d = .tup (far u v n) ∧ M' = M
theorem far_ok {prg : List Df} {i : Nat} (hi : prg[i]? = some ⟨3, 3, p_far⟩) : FarOk prg i := by
  intro k n u v M hu hv hn
  refine Ret_call hi (Ret_run rfl ?_)
  simp only [p_far, List.map_cons, List.map_nil, List.length_cons, List.length_nil, List.replicate, List.cons_append, List.nil_append, Nat.reduceAdd, Nat.reduceSub, x_ret, w_slc, w_bin, w_var, w_no, w_so, vS_some, List.getElem?_cons_zero, List.getElem?_cons_succ]
  have l0 : v.length * n ≤ 1000 * 1000 := Nat.mul_le_mul hv hn
  rw [Ret_mulT (by omega) (by omega), rep_pow, Int.toNat_natCast]
  refine ⟨by have : lim = 16777216 := rfl; omega, ?_⟩
  rw [Ret_addT]
  refine ⟨by rw [pow_len, Nat.mul_comm]; have : lim = 16777216 := rfl; omega, ?_⟩
  rw [oS_int]
  refine ⟨by omega, ?_⟩
  rw [slc_tup, cut_take, leave_same, Ret_ok]
  exact ⟨rfl, rfl⟩
def rightS : D := .str [114, 105, 103, 104, 116]
def p_shortest (c : Nat) : S :=
  (.seq (.set 2 (.bin .add (.bin .mul (.lit (.int 2)) (.bin .add (.blt .len (.var 0)) (.blt .len (.var 1)))) (.lit (.int 2)))) (.seq (.set 3 (.call c (.cons (.var 0) (.cons (.var 1) (.cons (.var 2) .nil))))) (.seq (.forS (.nm 4) (.rng (.lit (.int 1)) (.bin .add (.blt .len (.var 1)) (.lit (.int 1)))) (.forS (.nm 5) (.rng (.lit (.int 0)) (.bin .add (.blt .len (.var 0)) (.lit (.int 1)))) (.ifS (.cmp .eq (.call c (.cons (.slc (.var 3) .no (.so (.var 5))) (.cons (.slc (.var 3) (.so (.var 5)) (.so (.bin .add (.var 5) (.var 4)))) (.cons (.var 2) .nil)))) (.var 3)) (.ret (.tup (.cons (.lit (.str [114, 105, 103, 104, 116])) (.cons (.slc (.var 3) .no (.so (.var 5))) (.cons (.slc (.var 3) (.so (.var 5)) (.so (.bin .add (.var 5) (.var 4)))) .nil))))) .pas))) (.ret (.lit .non)))))
theorem shortest_ok {prg : List Df} {i c : Nat} (hi : prg[i]? = some ⟨6, 2, p_shortest c⟩) (hc : FarOk prg c) (k : Nat) (u v : List D) (M : Hm) (hu : Row0 u) (hv : Row0 v) (lu : u.length ≤ 100) (lv : v.length ≤ 100) (hne : v ≠ []) :
    Ret (callAt prg (k + 2) i [.tup u, .tup v] M) fun d M' => d = .tup [rightS, .tup (righted u v).1, .tup (righted u v).2] ∧ M' = M := by
  refine Ret_call hi (Ret_run rfl ?_)
  have hl := List.length_pos_iff.mpr hne
  simp only [p_shortest, List.map_cons, List.map_nil, List.length_cons, List.length_nil, List.replicate, List.cons_append, List.nil_append, Nat.reduceAdd, Nat.reduceSub]
  rw [x_seq, x_set]
  simp only [w_bin, w_lit, w_blt_var, w_var, vS_some, List.getElem?_cons_zero, List.getElem?_cons_succ, len_tup, Ret_add, Ret_mul]
  have e2 : (2 : Int).natAbs.log2 = 1 := by decide
  have l1 : ((u.length : Int) + (v.length : Int)).natAbs.log2 < 64 := small_log (by omega)
  refine ⟨by omega, ?_⟩
  have en : 2 * ((u.length : Int) + (v.length : Int)) + 2 = ((2 * (u.length + v.length) + 2 : Nat) : Int) := by omega
  rw [en]
  generalize hn : 2 * (u.length + v.length) + 2 = n
  rw [List.set_cons_succ, List.set_cons_succ, List.set_cons_zero, x_seq, x_set]
  simp only [w_call, w_cons, w_nil, w_var, vS_some, List.getElem?_cons_zero, List.getElem?_cons_succ]
  refine (hc k n u v M (by omega) (by omega) (by omega)).mono fun d M' h => ?_
  obtain ⟨rfl, rfl⟩ := h
  rw [List.set_cons_succ, List.set_cons_succ, List.set_cons_succ, List.set_cons_zero, x_seq, x_for, s_rng]
  simp only [w_bin, w_lit, w_blt_var, w_var, vS_some, List.getElem?_cons_zero, List.getElem?_cons_succ, len_tup, Ret_add, rS_int]
  refine ⟨by omega, ?_⟩
  obtain ⟨f1, f2, f3, f4, f5, f6, f7⟩ := righted_first (u := u) (n := n) hne (by omega)
  have hF : Row0 (far u v n) := (hu.app (hv.sub (mem_pow (n := n)))).sub fun d h => List.mem_of_mem_take h
  have lF : (far u v n).length = n := far_len hne
  have hrl := rootOf_len (w := v)
  have hr1 := List.length_pos_iff.mpr (rootOf_ne hne)
  have least : ∀ r a, 1 ≤ r → r ≤ v.length → a ≤ u.length → Per (far u v n) r a → (rootOf v).length ≤ r := fun r a h1 h2 h3 h4 => root_least hne (by omega) h3 h1 h2 h4
  generalize hr : righted u v = R at *
  generalize far u v n = f at *
  generalize (rootOf v).length = s at *
  refine Wp_for (fun j σ M1 => ∃ x4 x5, σ = [some (.tup u), some (.tup v), some (.int n), some (.tup f), x4, x5] ∧ M1 = M' ∧ 1 + j ≤ s) 0 ⟨_, _, rfl, rfl, by omega⟩ ?_ ?_
  · rintro j d σ M1 hd ⟨x4, x5, rfl, rfl, hj⟩
    obtain ⟨rfl, hlt⟩ := rng_at hd
    refine ⟨wk_free, _, set_nm, ?_⟩
    rw [List.set_cons_succ, List.set_cons_succ, List.set_cons_succ, List.set_cons_succ, List.set_cons_zero, x_for, s_rng]
    simp only [w_bin, w_lit, w_blt_var, w_var, vS_some, List.getElem?_cons_zero, List.getElem?_cons_succ, len_tup, Ret_add, rS_int]
    refine ⟨by omega, ?_⟩
    have er : (1 : Int) + (j : Int) = ((1 + j : Nat) : Int) := by omega
    rw [er]
    generalize hrg : 1 + j = r at *
    refine Wp_for (fun i σ M2 => ∃ x5, σ = [some (.tup u), some (.tup v), some (.int n), some (.tup f), some (.int (r : Int)), x5] ∧ M2 = M1 ∧ (r = s → i ≤ R.1.length)) 0 ⟨_, rfl, rfl, fun _ => Nat.zero_le _⟩ ?_ ?_
    · rintro i d σ M2 hd ⟨x5, rfl, rfl, hi⟩
      obtain ⟨rfl, hlt2⟩ := rng_at hd
      refine ⟨wk_free, _, set_nm, ?_⟩
      rw [Nat.zero_add] at hi
      have ei : (0 : Int) + (i : Int) = (i : Int) := by omega
      have eir : (i : Int) + (r : Int) = ((i + r : Nat) : Int) := by omega
      have h1 : i ≤ f.length := by omega
      have h2 : i + r ≤ f.length := by omega
      rw [ei, List.set_cons_succ, List.set_cons_succ, List.set_cons_succ, List.set_cons_succ, List.set_cons_succ, List.set_cons_zero, x_if, t_cmp, w_cmp]
      simp only [w_call, w_cons, w_nil, w_slc, w_no, w_so, w_bin, w_var, w_lit, vS_some, List.getElem?_cons_zero, List.getElem?_cons_succ, oS_int, slc_tup, Ret_add, eir, cut_upto h1, cut_part h1 h2, Nat.add_sub_cancel_left]
      refine ⟨by omega, by omega, by omega, ?_⟩
      refine (hc k n _ _ M2 (by rw [List.length_take]; omega) (by rw [List.length_take, List.length_drop]; omega) (by omega)).mono fun d M3 h => ?_
      obtain ⟨rfl, rfl⟩ := h
      have hF1 : Row0 (far (f.take i) ((f.drop i).take r) n) := hF.sub fun d h => by
        rcases List.mem_append.mp (List.mem_of_mem_take h) with h | h
        · exact List.mem_of_mem_take h
        · exact List.mem_of_mem_drop (List.mem_of_mem_take (mem_pow d h))
      rw [cmp_eq (eq_row hF1 hF), cS_some, kS_bl]
      have pf := per_far (f := f) (r := r) (a := i) (by omega) h2
      rw [lF] at pf
      split
      · rename_i hq
        have hper := pf.mp (of_decide_eq_true hq)
        have hs := least r i (by omega) (by omega) (by omega) hper
        have rs : r = s := by omega
        subst rs
        have hii : i = R.1.length := by
          refine Nat.le_antisymm (hi rfl) (Nat.le_of_not_lt fun z => f7 i z hper)
        subst hii
        rw [x_ret]
        simp only [w_tup, w_cons, w_nil, w_slc, w_no, w_so, w_bin, w_var, w_lit, vS_some, List.getElem?_cons_zero, List.getElem?_cons_succ, oS_int, slc_tup, Ret_add, eir, cut_upto h1, cut_part h1 h2, Nat.add_sub_cancel_left, Ret_newT]
        refine ⟨by omega, by omega, by omega, by show 3 ≤ lim; decide, ?_⟩
        rw [leave_same, Ret_ok, f4, f5]
        exact ⟨rfl, rfl⟩
      · rename_i hq
        rw [x_pas, leaveS_same rfl]
        refine ⟨_, rfl, rfl, fun rs => ?_⟩
        subst rs
        have h := hi rfl
        have : i ≠ R.1.length := fun z => by
          subst z
          exact hq (decide_eq_true (pf.mpr f6))
        omega
    · rintro σ M2 ⟨x5, rfl, rfl, hi⟩
      refine ⟨wk_free, ?_⟩
      rw [leaveS_same rfl]
      refine ⟨_, _, rfl, rfl, ?_⟩
      rw [rng_len, Nat.zero_add] at hi
      have : r ≠ s := fun z => by have := hi z; omega
      omega
  · rintro σ M1 ⟨x4, x5, rfl, rfl, hj⟩
    rw [rng_len] at hj
    omega
end Mi

/-! L21: rounds to one side: what the law draws. -/
namespace Mi
open PySem
def Sgn (x : D) : Prop := Ltr x ∨ ∃ i : Int, x = .int i ∧ 0 ≤ i ∧ i < 10 ^ 30
theorem Ltr.facts {x : D} (h : Ltr x) : x.pl = true ∧ x.dep = 0 ∧ x.sz ≤ 110 ∧ ∀ n, x.low n = true := by
  obtain ⟨l, rfl, h1, h2, h3⟩ := h
  refine ⟨?_, rfl, by simp only [D.sz]; omega, fun n => rfl⟩
  simp only [D.pl, PyData.strOk]
  rw [Array.all_eq_true_iff_forall_mem]
  intro c hc
  have := h3 c (by simpa using hc)
  exact decide_eq_true
      (by omega)
theorem Sgn.facts {x : D} (h : Sgn x) : x.pl = true ∧ x.dep = 0 ∧ x.sz ≤ 110 ∧ ∀ n, x.low n = true := by
  rcases h with h | ⟨i, rfl, h0, h1⟩
  · exact h.facts
  · have e : (10 : Int) ^ 30 = 1000000000000000000000000000000 := by decide
    have : i.natAbs.log2 < 100 := log2_lt (by omega) (by decide)
    exact ⟨by simp only [D.pl, decide_eq_true_eq]; omega, rfl, by simp only [D.sz]; omega, fun n => rfl⟩
theorem lows_of {n : Nat} {ds : List D} (h : ∀ x ∈ ds, x.low n = true) : D.lows n ds = true := by
  induction ds with
  | nil => rfl
  | cons x r ih => simp only [D.lows, h x List.mem_cons_self, Bool.true_and]; exact ih fun y hy => h y (List.mem_cons_of_mem _ hy)
theorem row_of {ds : List D} (h : ∀ x ∈ ds, Sgn x) : Row0 ds := ⟨pls_all.mpr fun d hd => (h d hd).facts.1, deps_le.mpr fun d hd => by rw [(h d hd).facts.2.1]; omega⟩
def p_some_signs (t l : Nat) : S :=
  (.seq (.set 1 (.bin .add (.call l (.cons (.var 0) (.cons (.lit (.int 3)) .nil))) (.lst (.cons (.lit (.int 0)) (.cons (.lit (.int 1)) (.cons (.lit (.int 2)) (.cons (.lit (.int 10)) (.cons (.call t (.cons (.var 0) (.cons (.bin .pow (.lit (.int 10)) (.lit (.int 30))) .nil))) .nil)))))))) (.ret (.comp (.idx (.var 1) (.bin .mod (.bin .add (.call t (.cons (.var 0) (.cons (.lit (.int 8)) .nil))) (.bin .mul (.lit (.int 3)) (.var 2))) (.lit (.int 8)))) (.nm 2) (.rng (.lit (.int 0)) (.bin .add (.lit (.int 2)) (.call t (.cons (.var 0) (.cons (.lit (.int 3)) .nil))))) .nil)))
theorem some_signs_ok {prg : List Df} {i t l : Nat} (hi : prg[i]? = some ⟨3, 1, p_some_signs t l⟩) (ht : TakeOk prg t) (hl : LettersOk prg l) (k p c : Nat) (b : Int) (M : Hm) (pen : Pen M p c b) (hb : b + 40 < 2 ^ 30) :
    Ret (callAt prg (k + 4) i [.ref p] M) fun d M' => ∃ M1 ds, d = .ref M.length ∧ M' = M1 ++ [.lst ds] ∧ Pst p M M1 ∧ Pen M1 p c (b + 40) ∧ 2 ≤ ds.length ∧ ds.length ≤ 4 ∧ ∀ x ∈ ds, Sgn x := by
  refine Ret_call hi (Ret_run rfl ?_)
  simp only [p_some_signs, List.map_cons, List.map_nil, List.length_cons, List.length_nil, List.replicate, List.cons_append, List.nil_append, Nat.reduceAdd, Nat.reduceSub]
  rw [x_seq, x_set, w_bin]
  simp only [w_call, w_cons, w_nil, w_var, w_lit, vS_some, List.getElem?_cons_zero]
  refine (hl k p c b 3 M pen (by omega) (by decide)).mono fun d M' h => ?_
  obtain ⟨M1, ds, rfl, rfl, st1, pen1, n1, L1⟩ := h
  rw [w_lst]
  simp only [w_call, w_cons, w_nil, w_var, w_lit, w_bin, vS_some, List.getElem?_cons_zero, Ret_pow]
  refine ⟨by decide, ?_⟩
  have e30 : (10 : Int) ^ Int.toNat 30 = 1000000000000000000000000000000 := by decide
  rw [e30]
  refine (take_app ht (k + 1) p c _ _ M1 [.lst ds] pen1 (by omega) (by decide) (by decide)).mono fun d M' h => ?_
  obtain ⟨v, M2, rfl, v0, v1, rfl, st2, pen2⟩ := h
  have st12 := st1.trans st2
  rw [Ret_newL]
  refine ⟨by show 5 ≤ lim; decide, ?_⟩
  have len2 : M2.length = M.length := st12.len
  have h1 : (M2 ++ [MO.lst ds] ++ [.lst [.int 0, .int 1, .int 2, .int 10, .int v]])[M.length]? = some (.lst ds) := by
    rw [← len2, List.append_assoc, List.getElem?_append_right (Nat.le_refl _), Nat.sub_self]
    rfl
  have h2 : (M2 ++ [MO.lst ds] ++ [.lst [.int 0, .int 1, .int 2, .int 10, .int v]])[(M2 ++ [MO.lst ds]).length]? = some (.lst [.int 0, .int 1, .int 2, .int 10, .int v]) := last_at
  rw [Ret_addL h1 h2]
  refine ⟨by rw [n1]; show 3 + 5 ≤ lim; decide, ?_⟩
  rw [List.set_cons_succ, List.set_cons_zero]
  rw [x_ret, w_comp, s_rng]
  have X : ∃ X, M2 ++ [MO.lst ds] ++ [.lst [.int 0, .int 1, .int 2, .int 10, .int v]] ++ [.lst (ds ++ [.int 0, .int 1, .int 2, .int 10, .int v])] = M2 ++ X ∧ X.length = 3 ∧ X[2]? = some (.lst (ds ++ [.int 0, .int 1, .int 2, .int 10, .int v])) := ⟨_, by rw [List.append_assoc, List.append_assoc], rfl, rfl⟩
  have ln : (M2 ++ [MO.lst ds] ++ [MO.lst [.int 0, .int 1, .int 2, .int 10, .int v]]).length = M.length + 2 := by simp [len2]
  rw [ln]
  obtain ⟨X, hX, lX, X2⟩ := X
  rw [hX]
  simp only [w_call, w_cons, w_nil, w_var, w_lit, w_bin, vS_some, List.getElem?_cons_zero]
  refine (take_app ht (k + 1) p c _ 3 M2 X pen2 (by omega) (by decide) (by decide)).mono fun d M' h => ?_
  obtain ⟨m, M3, rfl, m0, m1, rfl, st3, pen3⟩ := h
  have st13 := st12.trans st3
  rw [Ret_add, rS_int]
  refine ⟨by omega, ?_⟩
  have all8 : ∀ x ∈ ds ++ [D.int 0, .int 1, .int 2, .int 10, .int v], Sgn x := fun x hx => by
    rcases List.mem_append.mp hx with h | h
    · exact .inl (L1 x h)
    · refine .inr ?_
      simp only [List.mem_cons, List.not_mem_nil, or_false] at h
      have : (10 : Int) ^ 30 = 1000000000000000000000000000000 := by decide
      rcases h with rfl | rfl | rfl | rfl | rfl <;> exact ⟨_, rfl, by omega, by omega⟩
  have len8 : (ds ++ [D.int 0, .int 1, .int 2, .int 10, .int v]).length = 8 := by simp [n1]
  generalize ds ++ [D.int 0, .int 1, .int 2, .int 10, .int v] = eight at *
  refine Ret_comp (fun j acc M' => ∃ M4, M' = M4 ++ X ∧ Pst p M M4 ∧ Pen M4 p c (b + 22 + j) ∧ acc.length = j ∧ ∀ x ∈ acc, Sgn x) (by rw [rng_len]; have : lim = 16777216 := rfl; omega) ⟨M3, rfl, st13, pen3.le (by omega), rfl, by simp⟩ ?_ ?_
  · rintro j d acc M' hd ⟨M4, rfl, st4, pen4, hj, hS⟩
    obtain ⟨rfl, hlt⟩ := rng_at hd
    refine ⟨wk_free, _, set_nm, ?_⟩
    rw [a_nil]
    simp only [if_true, w_idx, w_bin, w_call, w_cons, w_nil, w_var, w_lit, vS_some, List.set_cons_zero, List.set_cons_succ, List.getElem?_cons_zero, List.getElem?_cons_succ]
    refine (take_app ht (k + 1) p c _ 8 M4 X pen4 (by omega) (by decide) (by decide)).mono fun d M' h => ?_
    obtain ⟨q, M5, rfl, q0, q1, rfl, st5, pen5⟩ := h
    have st15 := st4.trans st5
    have e3 : (3 : Int).natAbs.log2 = 1 := by decide
    have lj : (0 + (j : Int)).natAbs.log2 < 64 := small_log (by omega)
    rw [Ret_mul]
    refine ⟨by omega, ?_⟩
    rw [Ret_add, Ret_mod]
    refine ⟨by decide, ?_⟩
    have hx : (M5 ++ X)[M.length + 2]? = some (.lst eight) := by
      rw [List.getElem?_append_right (by rw [st15.len]; omega), st15.len, show M.length + 2 - M.length = 2 by omega]
      exact X2
    obtain ⟨x, e1, e2⟩ := at_nat (xs := eight) (i := (q + 3 * (0 + (j : Int))) % 8) (by omega) (by rw [len8]; omega)
    rw [idx_lst hx, e1, dS_some, leave_eq (by rw [List.length_append, List.length_append, st15.len, st4.len]), Ret_ok]
    refine ⟨M5, rfl, st15, pen5.le (by omega), by simp [hj], fun y hy => ?_⟩
    rcases List.mem_append.mp hy with h | h
    · exact hS y h
    · rw [List.mem_singleton.mp h]; exact all8 x (List.mem_of_getElem? e2)
  · rintro acc M' ⟨M4, rfl, st4, pen4, hj, hS⟩
    refine ⟨wk_free, ?_⟩
    have lw : D.lows M.length acc = true := lows_of fun x hx => (hS x hx).facts.2.2.2 _
    rw [List.append_assoc, leave_new (i := (M4 ++ X).length) (X := X ++ [MO.lst acc]) (ds := acc) pen st4 pen4 (by rw [List.length_append]; rw [st4.len]; omega) (by rw [← List.append_assoc]; exact last_at) lw, Ret_ok]
    rw [rng_len] at hj pen4
    exact ⟨M4, acc, rfl, rfl, st4, pen4.le (by omega), by omega, by omega, hS⟩
end Mi

/-! M21: the law's turns. -/
namespace Mi
open PySem
def leftS : D := .str [108, 101, 102, 116]
def p_right (c : Nat) : S := (.ret (.bin .add (.tup (.cons (.lit (.str [114, 105, 103, 104, 116])) .nil)) (.call c (.cons (.var 0) (.cons (.var 1) .nil)))))
def p_left (c : Nat) : S := (.ret (.bin .add (.tup (.cons (.lit (.str [108, 101, 102, 116])) .nil)) (.call c (.cons (.var 0) (.cons (.var 1) .nil)))))
theorem right_ok {prg : List Df} {i c : Nat} (hi : prg[i]? = some ⟨2, 2, p_right c⟩) (hc : RightedOk prg c) (k : Nat) (u v : List D) (M : Hm) (hu : Row0 u) (hv : Row0 v) (hne : v ≠ []) (lu : u.length ≤ 1000000) (lv : v.length ≤ 1000000) :
    Ret (callAt prg (k + 3) i [.tup u, .tup v] M) fun d M' => d = .tup [rightS, .tup (righted u v).1, .tup (righted u v).2] ∧ M' = M := by
  refine Ret_call hi (Ret_run rfl ?_)
  simp only [p_right, List.map_cons, List.map_nil, List.length_cons, List.length_nil, List.replicate, List.cons_append, List.nil_append, Nat.reduceAdd, Nat.reduceSub, x_ret, w_bin, w_tup, w_cons, w_nil, w_lit, w_call, w_var, vS_some, List.getElem?_cons_zero, List.getElem?_cons_succ, Ret_newT]
  refine ⟨by decide, ?_⟩
  refine (hc k u v M hu hv hne lu lv).mono fun d M' h => ?_
  obtain ⟨rfl, rfl⟩ := h
  rw [Ret_addT]
  refine ⟨by show 1 + 2 ≤ lim; decide, ?_⟩
  rw [leave_same, Ret_ok]
  exact ⟨rfl, rfl⟩
theorem left_ok {prg : List Df} {i c : Nat} (hi : prg[i]? = some ⟨2, 2, p_left c⟩) (hc : LeftedOk prg c) (k : Nat) (v u : List D) (M : Hm) (hu : Row0 u) (hv : Row0 v) (hne : v ≠ []) (lu : u.length ≤ 1000000) (lv : v.length ≤ 1000000) :
    Ret (callAt prg (k + 3) i [.tup v, .tup u] M) fun d M' => d = .tup [leftS, .tup (lefted v u).1, .tup (lefted v u).2] ∧ M' = M := by
  refine Ret_call hi (Ret_run rfl ?_)
  simp only [p_left, List.map_cons, List.map_nil, List.length_cons, List.length_nil, List.replicate, List.cons_append, List.nil_append, Nat.reduceAdd, Nat.reduceSub, x_ret, w_bin, w_tup, w_cons, w_nil, w_lit, w_call, w_var, vS_some, List.getElem?_cons_zero, List.getElem?_cons_succ, Ret_newT]
  refine ⟨by decide, ?_⟩
  refine (hc k v u M hu hv hne lu lv).mono fun d M' h => ?_
  obtain ⟨rfl, rfl⟩ := h
  rw [Ret_addT]
  refine ⟨by show 1 + 2 ≤ lim; decide, ?_⟩
  rw [leave_same, Ret_ok]
  exact ⟨rfl, rfl⟩
def p_some_row (pk t : Nat) : S :=
  (.ret (.blt .tuple (.comp (.call pk (.cons (.var 0) (.cons (.var 1) .nil))) (.nm 4) (.rng (.lit (.int 0)) (.bin .add (.var 2) (.call t (.cons (.var 0) (.cons (.bin .add (.bin .sub (.var 3) (.var 2)) (.lit (.int 1))) .nil))))) .nil)))
theorem some_row_ok {prg : List Df} {i t pk : Nat} (hi : prg[i]? = some ⟨5, 4, p_some_row pk t⟩) (ht : TakeOk prg t) (hp : PickOk prg pk) (k p c q lo hi' : Nat) (b : Int) (M : Hm) (ds : List D) (pen : Pen M p c b) (hb : b + 20 < 2 ^ 30) (hq : M[q]? = some (.lst ds)) (hqp : q ≠ p)
    (hne : ds ≠ []) (hl : ds.length ≤ 1000) (h1 : lo ≤ hi') (h2 : hi' ≤ 10) (hS : ∀ x ∈ ds, ∀ n, x.low n = true) :
    Ret (callAt prg (k + 4) i [.ref p, .ref q, .int lo, .int hi'] M) fun d M' => ∃ es, d = .tup es ∧ lo ≤ es.length ∧ es.length ≤ hi' ∧ (∀ x ∈ es, x ∈ ds) ∧ Pst p M M' ∧ Pen M' p c (b + 20) := by
  refine Ret_call hi (Ret_run rfl ?_)
  simp only [p_some_row, List.map_cons, List.map_nil, List.length_cons, List.length_nil, List.replicate, List.cons_append, List.nil_append, Nat.reduceAdd, Nat.reduceSub, x_ret, w_bltC, s_rng, w_lit, w_bin, w_var, w_call, w_cons, w_nil, vS_some, List.getElem?_cons_zero, List.getElem?_cons_succ, Ret_sub, Ret_add]
  have lg : ((hi' : Int) - (lo : Int) + 1).natAbs.log2 < 64 := small_log (by omega)
  refine (ht (k + 1) p c b _ M pen (by omega) (by omega) (by omega)).mono fun d M1 h => ?_
  obtain ⟨v, o, rfl, v0, v1, rfl, pen1⟩ := h
  have st1 : Pst p M (M.set p o) := ⟨o, rfl⟩
  rw [Ret_add, rS_int]
  refine ⟨by omega, ?_⟩
  refine Ret_comp (fun j acc M' => Pst p M M' ∧ Pen M' p c (b + 1 + j) ∧ acc.length = j ∧ ∀ x ∈ acc, x ∈ ds) (by rw [rng_len]; have : lim = 16777216 := rfl; omega) ⟨st1, pen1.le (by omega), rfl, by simp⟩ ?_ ?_
  · rintro j d acc M' hd ⟨st, pn, hj, hA⟩
    obtain ⟨rfl, hlt⟩ := rng_at hd
    refine ⟨wk_free, _, set_nm, ?_⟩
    rw [a_nil]
    simp only [if_true, w_call, w_cons, w_nil, w_var, vS_some, List.set_cons_zero, List.set_cons_succ, List.getElem?_cons_zero, List.getElem?_cons_succ]
    refine (hp k p c q _ M' ds pn (by omega) ((st.get hqp).trans hq) hqp hne (by omega)).mono fun y M2 h => ?_
    obtain ⟨hy, st2, pen2⟩ := h
    rw [leave_eq st2.len, Ret_ok]
    refine ⟨st.trans st2, pen2.le (by omega), by simp [hj], fun x hx => ?_⟩
    rcases List.mem_append.mp hx with h | h
    · exact hA x h
    · rw [List.mem_singleton.mp h]; exact hy
  · rintro acc M' ⟨st, pn, hj, hA⟩
    refine ⟨wk_free, ?_⟩
    rw [rng_len] at hj pn
    show Ret (bltL .tuple acc M') _
    show Ret (leave M (.tup acc) M') _
    rw [leave_eq st.len, Ret_ok]
    exact ⟨acc, rfl, by omega, by omega, hA, st, pn.le (by omega)⟩
/-! ### a turn -/
theorem shw_rows {a : D} {x y : List D} (ha : a.pl = true ∧ a.dep = 0 ∧ a.sz ≤ 110) (hx : ∀ d ∈ x, Sgn d) (hy : ∀ d ∈ y, Sgn d) (lx : x.length ≤ 100) (ly : y.length ≤ 100) : Shw (.tup [a, .tup x, .tup y]) := by
  have rx := row_of hx
  have ry := row_of hy
  have sz : ∀ {l : List D}, (∀ d ∈ l, Sgn d) → D.szs l ≤ 112 * l.length := fun {l} h => by
    induction l with
    | nil => exact Nat.zero_le _
    | cons d r ih =>
      have := (h d List.mem_cons_self).facts.2.2.1
      have := ih fun y hy => h y (List.mem_cons_of_mem _ hy)
      simp only [D.szs, List.length_cons]
      omega
  have dp : ∀ {l : List D}, (∀ d ∈ l, Sgn d) → D.deps l = 0 := fun {l} h => by
    have : D.deps l ≤ 0 := deps_le.mpr fun d hd => by rw [(h d hd).facts.2.1]; exact Nat.le_refl _
    omega
  refine ⟨?_, ?_, ?_⟩
  · simp only [D.pl, D.pls, ha.1, rx.pl, ry.pl, Bool.and_self]
  · simp only [D.dep, D.deps, ha.2.1, dp hx, dp hy]
    decide
  · have h1 := sz hx
    have h2 := sz hy
    have h3 := ha.2.2
    have : lim = 16777216 := rfl
    simp only [D.sz, D.szs]
    omega
end Mi

/-! Bi: rows that go round to both sides. -/
namespace Mi
open PySem
/-- the round v again and again -/
def lp (v : List D) (i : Nat) : Option D := v[i % v.length]?
theorem gon_nil {v : List D} (i : Nat) : gon [] v i = lp v i := by
  unfold gon lp
  rw [if_neg (show ¬ i < ([] : List D).length from Nat.not_lt_zero _)]
  rfl
theorem lp_per (v : List D) : PerN (lp v) v.length := fun j => by unfold lp; rw [Nat.add_mod_right]
theorem lp_root {v : List D} (hv : v ≠ []) (i : Nat) : lp (rootOf v) i = lp v i := by
  have := gon_root (u := []) hv i
  rw [gon_nil, gon_nil] at this
  exact this.symm
def Prim (v : List D) : Prop := v ≠ [] ∧ ∀ r, 1 ≤ r → PerN (lp v) r → v.length ≤ r
theorem root_le_per {v : List D} (hv : v ≠ []) {r : Nat} (hr : 1 ≤ r) (hp : PerN (lp v) r) : (rootOf v).length ≤ r := by
  have hl := List.length_pos_iff.mpr hv
  have hg := PerN.gcd r v.length hp (lp_per v)
  obtain ⟨s, s1, s2, e, s3, s4, s5⟩ := root_spec hv
  have gd : Nat.gcd r v.length ∣ v.length := Nat.gcd_dvd_right _ _
  have g1 : 1 ≤ Nat.gcd r v.length := Nat.gcd_pos_of_pos_left _ hr
  have g2 : Nat.gcd r v.length ≤ r := Nat.gcd_le_left _ hr
  have g3 : Nat.gcd r v.length ≤ v.length := Nat.le_of_dvd hl gd
  have ls : (rootOf v).length = s := by rw [e, List.length_take]; omega
  rw [ls]
  generalize Nat.gcd r v.length = d at *
  have at' : rootAt v d = true := root_at_of g1 g3 (Nat.mod_eq_zero_of_dvd gd) fun i hi => by
    have := hg.mul (i / d) (i % d)
    unfold lp at this
    simp only [Nat.mod_add_div] at this
    rw [Nat.mod_eq_of_lt hi, Nat.mod_eq_of_lt (show i % d < v.length by have := Nat.mod_le i d; omega)] at this
    exact this
  by_cases hd : d < v.length
  · have := s5 d g1 hd at'
    omega
  · omega
theorem Prim.pos {v : List D} (h : Prim v) : 0 < v.length := List.length_pos_iff.mpr h.1
theorem prim_root {v : List D} (hv : v ≠ []) : Prim (rootOf v) := ⟨rootOf_ne hv, fun r hr h => root_le_per hv hr fun j => by
  have := h j
  rwa [lp_root hv, lp_root hv] at this⟩
theorem Prim.root {v : List D} (h : Prim v) : rootOf v = v := by
  obtain ⟨s, s1, s2, e, _⟩ := root_spec h.1
  have ls : (rootOf v).length = s := by rw [e, List.length_take]; omega
  have := h.2 (rootOf v).length (by omega) fun j => by
    rw [← lp_root h.1, ← lp_root h.1]
    exact lp_per _ j
  rw [e]
  exact List.take_of_length_le (by omega)
theorem lp_ext {v w : List D} (hl : v.length = w.length) (h : ∀ i, lp v i = lp w i) : v = w := by
  refine List.ext_getElem? fun i => ?_
  by_cases hi : i < v.length
  · have := h i
    unfold lp at this
    rwa [Nat.mod_eq_of_lt hi, Nat.mod_eq_of_lt (by omega)] at this
  · rw [List.getElem?_eq_none (by omega), List.getElem?_eq_none (by omega)]
theorem Prim.eq {v w : List D} (hv : Prim v) (hw : Prim w) (h : ∀ i, lp v i = lp w i) : v = w := by
  have e : lp v = lp w := funext h
  exact lp_ext (Nat.le_antisymm (hv.2 _ hw.pos (e ▸ lp_per w)) (hw.2 _ hv.pos (e ▸ lp_per v))) h
theorem PerN.back {v : List D} (hv : v ≠ []) {r A : Nat} (h : PerN (fun j => lp v (j + A)) r) : PerN (lp v) r := fun j => by
  have hl := List.length_pos_iff.mpr hv
  have q := h (j + (v.length - 1) * A)
  have e : (v.length - 1) * A + A = v.length * A := by
    obtain ⟨m, hm⟩ : ∃ m, v.length = m + 1 := ⟨v.length - 1, by omega⟩
    rw [hm, Nat.succ_mul, Nat.add_sub_cancel]
  simp only at q
  rw [show j + (v.length - 1) * A + r + A = (j + r) + v.length * A by omega, show j + (v.length - 1) * A + A = j + v.length * A by omega, (lp_per v).mul, (lp_per v).mul] at q
  exact q
theorem gon_tail {u v : List D} (i : Nat) : gon u v (i + u.length) = lp v i := by
  unfold gon lp
  rw [if_neg (by omega), Nat.add_sub_cancel]
theorem far_ext {u v u' v' : List D} {n : Nat} (hv : v ≠ []) (hv' : v' ≠ []) (h : ∀ i, gon u v i = gon u' v' i) : far u v n = far u' v' n := by
  refine List.ext_getElem? fun i => ?_
  by_cases hi : i < n
  · rw [far_get hv hi, far_get hv' hi, h]
  · rw [List.getElem?_eq_none (by rw [far_len hv]; omega), List.getElem?_eq_none (by rw [far_len hv']; omega)]
theorem root_len_le {u v u' v' : List D} (hv : v ≠ []) (hv' : v' ≠ []) (h : ∀ i, gon u v i = gon u' v' i) : (rootOf v).length ≤ (rootOf v').length := by
  have h1 : ∀ j, lp v (j + u'.length) = lp (rootOf v') (j + u.length) := fun j => by
    rw [lp_root hv', ← gon_tail (u := u) (j + u'.length), h, ← gon_tail (u := u') (j + u.length)]
    congr 1
    omega
  refine root_le_per hv (List.length_pos_iff.mpr (rootOf_ne hv')) (PerN.back (A := u'.length) hv fun j => ?_)
  simp only
  rw [h1, h1, show j + (rootOf v').length + u.length = j + u.length + (rootOf v').length by omega]
  exact lp_per _ _
/-- rows that are the same far out are told the same -/
theorem canon_eq {u v u' v' : List D} (hv : v ≠ []) (hv' : v' ≠ []) (h : ∀ i, gon u v i = gon u' v' i) : righted u v = righted u' v' := by
  have hs := Nat.le_antisymm (root_len_le hv hv' h) (root_len_le hv' hv fun i => (h i).symm)
  obtain ⟨f1, f2, f3, f4, f5, f6, f7⟩ := righted_first (u := u) (n := u.length + 2 * v.length + (u'.length + 2 * v'.length)) hv (by omega)
  obtain ⟨g1, g2, g3, g4, g5, g6, g7⟩ := righted_first (u := u') (n := u.length + 2 * v.length + (u'.length + 2 * v'.length)) hv' (by omega)
  rw [far_ext hv hv' h] at f4 f5 f6 f7
  rw [hs] at f5 f6 f7
  have ea : (righted u v).1.length = (righted u' v').1.length := by
    refine Nat.le_antisymm (Nat.le_of_not_lt fun z => f7 _ z g6) (Nat.le_of_not_lt fun z => g7 _ z f6)
  refine Prod.ext ?_ ?_
  · rw [← f4, ← g4, ea]
  · rw [← f5, ← g5, ea]
/-! ### turning -/
def rotl (v : List D) : List D := v.drop 1 ++ v.take 1
theorem rotl_len {v : List D} : (rotl v).length = v.length := by
  unfold rotl
  rw [List.length_append, List.length_drop, List.length_take]
  omega
theorem rotl_ne {v : List D} (h : v ≠ []) : rotl v ≠ [] := fun z => by
  have := rotl_len (v := v)
  have hl := List.length_pos_iff.mpr h
  rw [z] at this
  simp at this
  omega
def rotn (k : Nat) (v : List D) : List D := v.drop k ++ v.take k
theorem rotn_len {k : Nat} {v : List D} : (rotn k v).length = v.length := by
  unfold rotn
  rw [List.length_append, List.length_drop, List.length_take]
  omega
theorem lp_rotn {v : List D} {k : Nat} (hk : k ≤ v.length) (i : Nat) : lp (rotn k v) i = lp v (i + k) := by
  by_cases hv : v = []
  · subst hv
    unfold rotn lp
    simp
  have hl := List.length_pos_iff.mpr hv
  unfold lp
  rw [rotn_len, ← Nat.mod_add_mod i v.length k]
  have hm := Nat.mod_lt i hl
  generalize i % v.length = j at hm
  unfold rotn
  by_cases h : j + k < v.length
  · rw [List.getElem?_append_left (by rw [List.length_drop]; omega), List.getElem?_drop, Nat.mod_eq_of_lt h]
    congr 1
    omega
  · rw [List.getElem?_append_right (by rw [List.length_drop]; omega), List.length_drop, Nat.mod_eq_sub_mod (by omega), Nat.mod_eq_of_lt (by omega)]
    by_cases h2 : k = v.length
    · rw [List.getElem?_take_of_lt (by omega)]
      congr 1
      omega
    · rw [List.getElem?_take_of_lt (by omega)]
      congr 1
      omega
theorem lp_rotl {v : List D} (hv : v ≠ []) (i : Nat) : lp (rotl v) i = lp v (i + 1) := lp_rotn (List.length_pos_iff.mpr hv) i
theorem Prim.shift {v w : List D} {k : Nat} (hv : Prim v) (hl : w.length = v.length) (h : ∀ i, lp w i = lp v (i + k)) : Prim w := by
  refine ⟨fun z => ?_, fun r hr hp => ?_⟩
  · have := hv.pos
    rw [z] at hl
    simp at hl
    omega
  · rw [hl]
    refine hv.2 r hr (PerN.back (A := k) hv.1 fun j => ?_)
    have := hp j
    rw [h, h] at this
    exact this
theorem Prim.rotl {v : List D} (hv : Prim v) : Prim (rotl v) := hv.shift rotl_len (lp_rotl hv.1)
theorem Prim.rotn {v : List D} {k : Nat} (hv : Prim v) (hk : k ≤ v.length) : Prim (rotn k v) := hv.shift rotn_len (lp_rotn hk)
theorem gon_adv {u w : List D} (hw : w ≠ []) (i : Nat) : gon u.tail (if u = [] then rotl w else w) i = gon u w (i + 1) := by
  cases u with
  | nil => rw [List.tail_nil, if_pos rfl, gon_nil, gon_nil, lp_rotl hw]
  | cons a r =>
    rw [List.tail_cons, if_neg (List.cons_ne_nil _ _)]
    unfold gon
    rw [List.length_cons]
    by_cases h : i < r.length
    · rw [if_pos h, if_pos (by omega), List.getElem?_cons_succ]
    · rw [if_neg h, if_neg (by omega), Nat.add_sub_add_right]
/-- told in its one way -/
def Can (u w : List D) : Prop := Prim w ∧ ∀ a, u.getLast? = some a → w.getLast? ≠ some a
theorem Can.righted {u w : List D} (h : Can u w) : righted u w = (u, w) := by
  unfold Mi.righted
  rw [h.1.root]
  have : peel u.reverse w = (u.reverse, w) := by
    cases e : u.reverse with
    | nil => rfl
    | cons a r =>
      rw [peel, if_neg (h.2 a ?_)]
      rw [← List.head?_reverse, e]
      rfl
  rw [this, List.reverse_reverse]
theorem can_righted {u v : List D} (hv : v ≠ []) : Can (righted u v).1 (righted u v).2 := by
  obtain ⟨h1, h2, h3, h4, h5, _⟩ := peel_spec u.reverse (rootOf v) (rootOf_ne hv)
  refine ⟨?_, fun a ha => ?_⟩
  · refine ⟨h4, fun r hr hp => ?_⟩
    show (peel u.reverse (rootOf v)).2.length ≤ r
    rw [h1]
    refine (prim_root hv).2 r hr (PerN.back (A := (peel u.reverse (rootOf v)).1.length) (rootOf_ne hv) fun j => ?_)
    have g : ∀ j, lp (rootOf v) (j + (peel u.reverse (rootOf v)).1.length) = lp (peel u.reverse (rootOf v)).2 (j + u.length) := fun j => by
      have e1 := h2 (j + u.length + (peel u.reverse (rootOf v)).1.length)
      rw [List.reverse_reverse, ← List.length_reverse (as := (peel u.reverse (rootOf v)).1), gon_tail, show j + u.length + (peel u.reverse (rootOf v)).1.reverse.length = (j + (peel u.reverse (rootOf v)).1.reverse.length) + u.length by omega, gon_tail] at e1
      rw [← List.length_reverse (as := (peel u.reverse (rootOf v)).1)]
      exact e1.symm
    simp only
    rw [g, g, show j + r + u.length = j + u.length + r by omega]
    exact hp _
  · unfold righted at ha ⊢
    simp only [List.getLast?_reverse] at ha
    cases e : (peel u.reverse (rootOf v)).1 with
    | nil => rw [e] at ha; cases ha
    | cons b q =>
      rw [e] at ha
      cases ha
      exact h5 _ q e
theorem gon_righted {u v : List D} (hv : v ≠ []) (i : Nat) : gon (righted u v).1 (righted u v).2 i = gon u v i := by
  obtain ⟨h1, h2, _⟩ := peel_spec u.reverse (rootOf v) (rootOf_ne hv)
  have := h2 i
  rw [List.reverse_reverse] at this
  rw [gon_root hv]
  exact this
theorem Can.adv {u w : List D} (h : Can u w) : Can u.tail (if u = [] then rotl w else w) := by
  cases u with
  | nil => rw [List.tail_nil, if_pos rfl]; exact ⟨h.1.rotl, fun a ha => by cases ha⟩
  | cons a r =>
    rw [List.tail_cons, if_neg (List.cons_ne_nil _ _)]
    refine ⟨h.1, fun b hb => h.2 b ?_⟩
    rw [List.getLast?_cons, hb]
    rfl
/-! ### both sides -/
def bw : Nat → List D → List D → List D → Bool × List D × List D × List D
  | 0, v, _, _ => (false, v, [], [])
  | n + 1, v, u, w => if (u ++ w).head? = v.head? then bw n (rotl v) u.tail (if u = [] then rotl w else w) else (true, v, u, w)
theorem gon_zero {u w : List D} (hw : w ≠ []) : gon u w 0 = (u ++ w).head? := by
  cases u with
  | nil =>
    rw [gon_nil]
    unfold lp
    rw [Nat.zero_mod, List.nil_append, List.head?_eq_getElem?]
  | cons a r => rfl
theorem lp_zero {v : List D} : lp v 0 = v.head? := by
  unfold lp
  rw [Nat.zero_mod, List.head?_eq_getElem?]
structure BwT (n : Nat) (v u w : List D) (t : Nat) (v1 u1 w1 : List D) : Prop where
  lt : t < n
  sm : ∀ i, i < t → gon u w i = lp v i
  df : gon u w t ≠ lp v t
  eq : bw n v u w = (true, v1, u1, w1)
  pv : Prim v1
  cu : Can u1 w1
  lv : ∀ i, lp v1 i = lp v (i + t)
  lu : ∀ i, gon u1 w1 i = gon u w (i + t)
  nv : v1.length = v.length
  nu : u1.length ≤ u.length
  nw : w1.length = w.length
  mv : ∀ d ∈ v1, d ∈ v
  mu : ∀ d ∈ u1, d ∈ u
  mw : ∀ d ∈ w1, d ∈ w
structure BwF (n : Nat) (v u w : List D) (v1 : List D) : Prop where
  sm : ∀ i, i < n → gon u w i = lp v i
  eq : bw n v u w = (false, v1, [], [])
  pv : Prim v1
  lv : ∀ i, lp v1 i = lp v (i + n)
  nv : v1.length = v.length
  mv : ∀ d ∈ v1, d ∈ v
theorem rotl_mem {v : List D} : ∀ d ∈ rotl v, d ∈ v := fun d h => (List.mem_append.mp h).elim List.mem_of_mem_drop List.mem_of_mem_take
theorem bw_spec : ∀ (n : Nat) (v u w : List D), Prim v → Can u w → (∃ t v1 u1 w1, BwT n v u w t v1 u1 w1) ∨ ∃ v1, BwF n v u w v1
  | 0, v, u, w, hv, hc => .inr ⟨v, fun i h => absurd h (Nat.not_lt_zero _), rfl, hv, fun _ => rfl, rfl, fun d h => h⟩
  | n + 1, v, u, w, hv, hc => by
    by_cases h : (u ++ w).head? = v.head?
    · have h0 : gon u w 0 = lp v 0 := by rw [gon_zero hc.1.1, lp_zero, h]
      have e : bw (n + 1) v u w = bw n (rotl v) u.tail (if u = [] then rotl w else w) := by rw [bw, if_pos h]
      have mw : ∀ d ∈ (if u = [] then rotl w else w), d ∈ w := fun d hd => by
        split at hd
        · exact rotl_mem d hd
        · exact hd
      have nw : (if u = [] then rotl w else w).length = w.length := by
        split
        · exact rotl_len
        · rfl
      rcases bw_spec n (rotl v) u.tail (if u = [] then rotl w else w) hv.rotl hc.adv with ⟨t, v1, u1, w1, B⟩ | ⟨v1, B⟩
      · refine .inl ⟨t + 1, v1, u1, w1, ?_, fun i hi => ?_, ?_, e.trans B.eq, B.pv, B.cu, fun i => ?_, fun i => ?_, B.nv.trans rotl_len, ?_, B.nw.trans nw, fun d hd => rotl_mem d (B.mv d hd), fun d hd => List.mem_of_mem_tail (B.mu d hd), fun d hd => mw d (B.mw d hd)⟩
        · have := B.lt; omega
        · cases i with
          | zero => exact h0
          | succ i =>
            have := B.sm i (by omega)
            rwa [gon_adv hc.1.1, lp_rotl hv.1] at this
        · have := B.df
          rwa [gon_adv hc.1.1, lp_rotl hv.1] at this
        · rw [B.lv, lp_rotl hv.1]; rfl
        · rw [B.lu, gon_adv hc.1.1]; rfl
        · have := B.nu
          rw [List.length_tail] at this
          omega
      · refine .inr ⟨v1, fun i hi => ?_, e.trans B.eq, B.pv, fun i => ?_, B.nv.trans rotl_len, fun d hd => rotl_mem d (B.mv d hd)⟩
        · cases i with
          | zero => exact h0
          | succ i =>
            have := B.sm i (by omega)
            rwa [gon_adv hc.1.1, lp_rotl hv.1] at this
        · rw [B.lv, lp_rotl hv.1]; rfl
    · refine .inl ⟨0, v, u, w, by omega, fun i hi => absurd hi (Nat.not_lt_zero _), ?_, by rw [bw, if_neg h], hv, hc, fun _ => rfl, fun _ => rfl, rfl, Nat.le_refl _, rfl, fun d h => h, fun d h => h, fun d h => h⟩
      rw [gon_zero hc.1.1, lp_zero]
      exact h
theorem fine_wilf {f g : Nat → Option D} {p q : Nat} (hp : 1 ≤ p) (hq : 1 ≤ q) (hf : PerN f p) (hg : PerN g q) (h : ∀ i, i < p + q → f i = g i) : ∀ i, f i = g i := by
  have pf : PerN f q := fun j => by
    have hm := Nat.mod_lt j hp
    have e : j + q = (j % p + q) + p * (j / p) := by have := Nat.mod_add_div j p; omega
    have e2 : f j = f (j % p) := by
      conv => lhs; rw [show j = j % p + p * (j / p) from (Nat.mod_add_div j p).symm]
      exact hf.mul _ _
    rw [e, hf.mul, e2, h (j % p + q) (by omega), hg, ← h (j % p) (by omega)]
  intro i
  have hm := Nat.mod_lt i hq
  conv => lhs; rw [show i = i % q + q * (i / q) from (Nat.mod_add_div i q).symm]
  conv => rhs; rw [show i = i % q + q * (i / q) from (Nat.mod_add_div i q).symm]
  rw [pf.mul, hg.mul, h (i % q) (by omega)]
theorem round_all {v u w : List D} (hv : v ≠ []) (hw : w ≠ []) (h : ∀ i, i < u.length + v.length + w.length → gon u w i = lp v i) : ∀ i, gon u w i = lp v i := by
  have l1 := List.length_pos_iff.mpr hv
  have l2 := List.length_pos_iff.mpr hw
  have q := fine_wilf (f := lp w) (g := fun j => lp v (j + u.length)) l2 l1 (lp_per w) (fun j => by
    simp only
    rw [show j + v.length + u.length = j + u.length + v.length by omega]
    exact lp_per v _) fun i hi => by
    rw [← gon_tail (u := u), h _ (by omega)]
  intro i
  by_cases hi : i < u.length
  · exact h i (by omega)
  · have := q (i - u.length)
    rw [← gon_tail (u := u)] at this
    rwa [show i - u.length + u.length = i by omega] at this
/-- what bothed hands back -/
def bothOf (v u w : List D) : Bool × List D × List D × List D := bw ((righted u w).1.length + (rootOf v).length + (righted u w).2.length) (rootOf v) (righted u w).1 (righted u w).2
structure BoT (v u w : List D) (t : Nat) (v1 u1 w1 : List D) : Prop where
  sm : ∀ i, i < t → gon u w i = lp v i
  df : gon u w t ≠ lp v t
  eq : bothOf v u w = (true, v1, u1, w1)
  pv : Prim v1
  cu : Can u1 w1
  lv : ∀ i, lp v1 i = lp v (i + t)
  lu : ∀ i, gon u1 w1 i = gon u w (i + t)
  nv : v1.length ≤ v.length
  nu : u1.length ≤ u.length
  nw : w1.length ≤ w.length
  mv : ∀ d ∈ v1, d ∈ v
  mu : ∀ d ∈ u1, d ∈ u
  mw : ∀ d ∈ w1, d ∈ u ∨ d ∈ w
  lt : t < u.length + v.length + w.length
  nvr : v1.length = (rootOf v).length
  nwr : w1.length = (rootOf w).length
structure BoF (v u w : List D) (t : Nat) (v1 : List D) : Prop where
  sm : ∀ i, gon u w i = lp v i
  eq : bothOf v u w = (false, v1, [], [])
  pv : Prim v1
  lv : ∀ i, lp v1 i = lp v (i + t)
  nv : v1.length ≤ v.length
  mv : ∀ d ∈ v1, d ∈ v
theorem both_spec {v u w : List D} (hv : v ≠ []) (hw : w ≠ []) : (∃ t v1 u1 w1, BoT v u w t v1 u1 w1) ∨ ∃ t v1, BoF v u w t v1 := by
  have cr := can_righted (u := u) hw
  obtain ⟨f1, f2, f3, _⟩ := righted_first (u := u) (n := u.length + 2 * w.length) hw (Nat.le_refl _)
  obtain ⟨m1, m2⟩ := righted_mem (u := u) hw
  have rl := rootOf_len (w := v)
  have rl2 := rootOf_len (w := w)
  rcases bw_spec ((righted u w).1.length + (rootOf v).length + (righted u w).2.length) (rootOf v) (righted u w).1 (righted u w).2 (prim_root hv) cr with ⟨t, v1, u1, w1, B⟩ | ⟨v1, B⟩
  · refine .inl ⟨t, v1, u1, w1, fun i hi => ?_, ?_, B.eq, B.pv, B.cu, fun i => ?_, fun i => ?_, ?_, ?_, ?_, fun d hd => rootOf_mem d (B.mv d hd), fun d hd => m1 d (B.mu d hd), fun d hd => m2 d (B.mw d hd), ?_, B.nv, B.nw.trans f1⟩
    · have := B.sm i hi
      rwa [gon_righted hw, lp_root hv] at this
    · have := B.df
      rwa [gon_righted hw, lp_root hv] at this
    · rw [B.lv, lp_root hv]
    · rw [B.lu, gon_righted hw]
    · have := B.nv; omega
    · have := B.nu; omega
    · have := B.nw; omega
    · have := B.lt; omega
  · refine .inr ⟨(righted u w).1.length + (rootOf v).length + (righted u w).2.length, v1, fun i => ?_, B.eq, B.pv, fun i => ?_, ?_, fun d hd => rootOf_mem d (B.mv d hd)⟩
    · have := round_all (rootOf_ne hv) f3 B.sm i
      rwa [gon_righted hw, lp_root hv] at this
    · rw [B.lv, lp_root hv]
    · have := B.nv; omega
/-- the same row told twice: the second telling begins q places further ahead -/
structure Twice (v u w v2 u2 w2 : List D) (q : Nat) : Prop where
  nv : v ≠ []
  nw : w ≠ []
  nv2 : v2 ≠ []
  nw2 : w2 ≠ []
  h1 : ∀ i, i < q → gon u2 w2 i = lp v2 i
  h2 : ∀ i, gon u2 w2 (i + q) = gon u w i
  h3 : ∀ i, lp v2 (i + q) = lp v i
theorem Twice.both {v u w v2 u2 w2 : List D} {q t : Nat} {v1 u1 w1 : List D} (T : Twice v u w v2 u2 w2 q) (B : BoT v u w t v1 u1 w1) : bothOf v2 u2 w2 = (true, v1, u1, w1) := by
  have d2 : gon u2 w2 (t + q) ≠ lp v2 (t + q) := by rw [T.h2, T.h3]; exact B.df
  have s2 : ∀ i, i < t + q → gon u2 w2 i = lp v2 i := fun i hi => by
    by_cases h : i < q
    · exact T.h1 i h
    · obtain ⟨j, rfl⟩ : ∃ j, i = j + q := ⟨i - q, by omega⟩
      rw [T.h2, T.h3]
      exact B.sm j (by omega)
  rcases both_spec (u := u2) T.nv2 T.nw2 with ⟨t2, v3, u3, w3, C⟩ | ⟨t2, v3, C⟩
  · have et : t2 = t + q := by
      refine Nat.le_antisymm (Nat.le_of_not_lt fun z => d2 (C.sm _ z)) (Nat.le_of_not_lt fun z => C.df (s2 _ z))
    subst et
    rw [C.eq]
    have e1 : v3 = v1 := C.pv.eq B.pv fun i => by rw [C.lv, B.lv, ← T.h3, Nat.add_assoc]
    have e2 : (u3, w3) = (u1, w1) := by
      rw [← C.cu.righted, ← B.cu.righted]
      exact canon_eq C.cu.1.1 B.cu.1.1 fun i => by rw [C.lu, B.lu, ← T.h2, Nat.add_assoc]
    cases e1
    cases e2
    rfl
  · exact absurd (C.sm _) d2
theorem Twice.round {v u w v2 u2 w2 : List D} {q t : Nat} {v1 : List D} (T : Twice v u w v2 u2 w2 q) (B : BoF v u w t v1) : ∃ t2 v3, BoF v2 u2 w2 t2 v3 ∧ ∃ k, ∀ i, lp v3 i = lp v1 (i + k) := by
  have s2 : ∀ i, gon u2 w2 i = lp v2 i := fun i => by
    by_cases h : i < q
    · exact T.h1 i h
    · obtain ⟨j, rfl⟩ : ∃ j, i = j + q := ⟨i - q, by omega⟩
      rw [T.h2, T.h3]
      exact B.sm j
  rcases both_spec (u := u2) T.nv2 T.nw2 with ⟨t2, v3, u3, w3, C⟩ | ⟨t2, v3, C⟩
  · exact absurd (s2 _) C.df
  · have l1 := List.length_pos_iff.mpr T.nv2
    have l0 := List.length_pos_iff.mpr T.nv
    -- lp v3 i = lp v2 (i + t2) = lp v (i + t2 - q + many rounds) = lp v1 ..
    refine ⟨t2, v3, C, t2 + (v2.length * q - q) + (v.length * t - t), fun i => ?_⟩
    have a1 : q ≤ v2.length * q := Nat.le_mul_of_pos_left q l1
    have a2 : t ≤ v.length * t := Nat.le_mul_of_pos_left t l0
    rw [C.lv, B.lv, show i + (t2 + (v2.length * q - q) + (v.length * t - t)) + t = (i + t2 + (v2.length * q - q)) + v.length * t by omega, (lp_per v).mul, ← T.h3, show i + t2 + (v2.length * q - q) + q = (i + t2) + v2.length * q by omega, (lp_per v2).mul]
end Mi

/-! Tl: texts of signs, the least turning. -/
namespace Mi
open PySem Builtin.Str
/-- the text of a thing -/
def tx (d : D) : List Nat := match d.py with
  | some p => p.shown.cps.toList
  | none => []
theorem Sgn.repr {d : D} (h : Sgn d) (M : Hm) : bltM .repr d M = ok (.str (tx d)) M := by
  obtain ⟨h1, h2, h3, _⟩ := h.facts
  obtain ⟨p, e, _⟩ := py_pl h1
  obtain ⟨t, ht⟩ := repr_pl h1 (by omega) (by have : lim = 16777216 := rfl; omega)
  refine repr_blt ?_
  rw [ht M]
  have hq := ht []
  unfold reprM at hq
  rw [pyM_py e] at hq
  simp only [Option.bind_some] at hq
  split at hq
  · cases hq
    unfold tx
    rw [e]
  · cases hq
theorem foldl_plain {q : Nat} : ∀ (l : List Nat) (acc : Array Nat), (∀ c ∈ l, reprChar q c = [c]) → (l.foldl (fun out c => out ++ (reprChar q c).toArray) acc).toList = acc.toList ++ l
  | [], acc, _ => by simp
  | c :: r, acc, h => by
    rw [List.foldl_cons, foldl_plain r _ fun d hd => h d (List.mem_cons_of_mem _ hd), h c List.mem_cons_self]
    simp
theorem tx_str {l : List Nat} (h : ∀ c ∈ l, 97 ≤ c ∧ c ≤ 122) : tx (.str l) = 39 :: (l ++ [39]) := by
  show (reprText ⟨l.toArray⟩).cps.toList = _
  have hq : reprQuote ⟨l.toArray⟩ = 39 := by
    unfold reprQuote
    have : ¬ (39 ∈ l) := fun z => by have := h 39 z; omega
    simp [this]
  have hc : ∀ c, 97 ≤ c ∧ c ≤ 122 → reprChar 39 c = [c] := by
    have : ∀ k : Fin 26, reprChar 39 (97 + k.val) = [97 + k.val] := by decide +kernel
    intro c hc
    have := this ⟨c - 97, by omega⟩
    simp only at this
    rwa [show 97 + (c - 97) = c by omega] at this
  unfold reprText
  rw [hq]
  simp only [Array.toList_push]
  rw [← Array.foldl_toList, foldl_plain _ _ fun c hh => hc c (h c (by simpa using hh))]
  simp
theorem tx_int {m : Nat} : tx (.int (m : Int)) = (Nat.toDigits 10 m).map Char.toNat := PySem.W.KIN.signs_num m
theorem tx_dig {m : Nat} : ∀ c ∈ tx (.int (m : Int)), 48 ≤ c ∧ c ≤ 57 := by
  intro c hc
  rw [tx_int] at hc
  obtain ⟨ch, hch, rfl⟩ := List.mem_map.mp hc
  have := Nat.isDigit_of_mem_toDigits (by decide) (by decide) hch
  simp only [Char.isDigit, Bool.and_eq_true, decide_eq_true_eq, ge_iff_le, UInt32.le_iff_toNat_le] at this
  exact this
theorem tx_inj {a b : D} (ha : Sgn a) (hb : Sgn b) (h : tx a = tx b) : a = b := by
  rcases ha with ⟨l, rfl, l1, l2, l3⟩ | ⟨i, rfl, i0, i1⟩
  · rcases hb with ⟨l', rfl, _, _, l3'⟩ | ⟨i, rfl, i0, i1⟩
    · rw [tx_str l3, tx_str l3'] at h
      simp only [List.cons.injEq, true_and] at h
      rw [List.append_cancel_right h]
    · obtain ⟨m, rfl⟩ := Int.eq_ofNat_of_zero_le i0
      have := tx_dig (m := m) 39 (by rw [← h, tx_str l3]; exact List.mem_cons_self)
      omega
  · obtain ⟨m, rfl⟩ := Int.eq_ofNat_of_zero_le i0
    rcases hb with ⟨l', rfl, _, _, l3'⟩ | ⟨i', rfl, i0', i1'⟩
    · have := tx_dig (m := m) 39 (by rw [h, tx_str l3']; exact List.mem_cons_self)
      omega
    · obtain ⟨m', rfl⟩ := Int.eq_ofNat_of_zero_le i0'
      rw [tx_int, tx_int] at h
      have := congrArg PySem.NumText.digitsVal h
      rw [PySem.W.KIN.val_back, PySem.W.KIN.val_back] at this
      rw [this]
theorem tx_ok {d : D} (h : Sgn d) : PyData.strOk ⟨(tx d).toArray⟩ = true := by
  have key : ∀ l : List Nat, (∀ c ∈ l, c ≤ 122) → PyData.strOk ⟨l.toArray⟩ = true := fun l hl => by
    simp only [PyData.strOk]
    rw [Array.all_eq_true_iff_forall_mem]
    intro c hc
    have := hl c (by simpa using hc)
    exact decide_eq_true
        (by omega)
  rcases h with ⟨l, rfl, l1, l2, l3⟩ | ⟨i, rfl, i0, i1⟩
  · refine key _ fun c hc => ?_
    rw [tx_str l3] at hc
    rcases List.mem_cons.mp hc with h | h
    · omega
    · rcases List.mem_append.mp
        h with h | h
      · exact (l3 c h).2
      · rw [List.mem_singleton.mp h]; omega
  · obtain ⟨m, rfl⟩ := Int.eq_ofNat_of_zero_le i0
    refine key _ fun c hc => ?_
    have := tx_dig c hc
    omega
/-! ### rows of texts in order -/
def txD (d : D) : D := .str (tx d)
def txP (d : D) : PyData := .str ⟨(tx d).toArray⟩
def Tk (v : List D) : List (Int ⊕ List Nat) := PySem.W.keyToksAll (v.map txP)
theorem Tk_inj : ∀ {v w : List D}, (∀ d ∈ v, Sgn d) → (∀ d ∈ w, Sgn d) → Tk v = Tk w → v = w
  | [], [], _, _, _ => rfl
  | [], b :: w, _, _, h => by
    unfold Tk at h
    simp [PySem.W.keyToksAll] at h
  | a :: v, [], _, _, h => by
    unfold Tk at h
    simp [PySem.W.keyToksAll] at h
  | a :: v, b :: w, hv, hw, h => by
    unfold Tk at h
    simp only [List.map_cons, PySem.W.keyToksAll, txP, PySem.W.keyToks, List.cons_append, List.nil_append, List.cons.injEq, Sum.inr.injEq, true_and] at h
    rw [tx_inj (hv a List.mem_cons_self) (hw b List.mem_cons_self) h.1, Tk_inj (fun d hd => hv d (List.mem_cons_of_mem _ hd)) (fun d hd => hw d (List.mem_cons_of_mem _ hd)) h.2]
abbrev lx (a b : List (Int ⊕ List Nat)) : Bool := PyProof.Rows.lexLt PyProof.Rows.itemOrd a b
def Least (v r : List D) : Prop := ∃ b, b < v.length ∧ r = rotn b v ∧ ∀ k, k < v.length → lx (Tk (rotn k v)) (Tk (rotn b v)) = false
theorem rotn_mem {k : Nat} {v : List D} : ∀ d ∈ rotn k v, d ∈ v := fun d h => (List.mem_append.mp h).elim List.mem_of_mem_drop List.mem_of_mem_take
theorem lp_mod {v : List D} (i k : Nat) : lp v (i + k % v.length) = lp v (i + k) := by
  unfold lp
  rw [Nat.add_mod_mod]
theorem Least.one {v v' r r' : List D} (hS : ∀ d ∈ v, Sgn d) (hS' : ∀ d ∈ v', Sgn d) (hv : Prim v) (hv' : Prim v') (hk : ∃ k, ∀ i, lp v' i = lp v (i + k)) (h : Least v r) (h' : Least v' r') : r = r' := by
  obtain ⟨k, hk⟩ := hk
  have hp := hv.pos
  have hp' := hv'.pos
  have hk2 : ∀ i, lp v i = lp v' (i + (v.length * k - k)) := fun i => by
    have a : k ≤ v.length * k := Nat.le_mul_of_pos_left k hp
    rw [hk, show i + (v.length * k - k) + k = i + v.length * k by omega, (lp_per v).mul]
  have hl : v.length = v'.length := by
    refine Nat.le_antisymm (hv.2 _ hp' (PerN.back (A := k) hv.1 fun j => ?_)) (hv'.2 _ hp (PerN.back (A := v.length * k - k) hv'.1 fun j => ?_))
    · simp only [← hk]
      exact lp_per v' j
    · simp only [← hk2]
      exact lp_per v j
  obtain ⟨b, hb, rfl, hm⟩ := h
  obtain ⟨b', hb', rfl, hm'⟩ := h'
  have e1 : rotn b' v' = rotn ((b' + k) % v.length) v := by
    have := Nat.mod_lt (b' + k) hp
    refine lp_ext (by rw [rotn_len, rotn_len, hl]) fun i => ?_
    rw [lp_rotn (by omega), lp_rotn (by omega), hk, lp_mod, Nat.add_assoc]
  have e2 : rotn b v = rotn ((b + (v.length * k - k)) % v'.length) v' := by
    have := Nat.mod_lt (b + (v.length * k - k)) hp'
    refine lp_ext (by rw [rotn_len, rotn_len, hl]) fun i => ?_
    rw [lp_rotn (by omega), lp_rotn (by omega), hk2, lp_mod, Nat.add_assoc]
  refine Tk_inj (fun d hd => hS d (rotn_mem d hd)) (fun d hd => hS' d (rotn_mem d hd)) ?_
  refine PyProof.Rows.lex_total (O := PyProof.Rows.itemOrd) _ _ ?_ ?_
  · have := hm' _ (Nat.mod_lt (b + (v.length * k - k)) hp')
    rwa [← e2] at this
  · have := hm _ (Nat.mod_lt (b' + k) hp)
    rwa [← e1] at this
/-! ### the walk -/
theorem lt_texts {M : Hm} {a b : Nat} {v w : List D} (ha : M[a]? = some (.lst (v.map txD))) (hb : M[b]? = some (.lst (w.map txD))) (hv : ∀ d ∈ v, Sgn d) (hw : ∀ d ∈ w, Sgn d) :
    cmpM .lt (.ref a) (.ref b) M = some (lx (Tk v) (Tk w)) := by
  have py : ∀ {v : List D} (n : Nat), (v.map txD).mapM (pyM M n) = some (v.map txP) := fun {v} n => by
    induction v with
    | nil => rfl
    | cons d r ih =>
      rw [List.map_cons, List.mapM_cons, ih]
      have : pyM M n (txD d) = some (txP d) := by cases n <;> rfl
      rw [this]
      rfl
  have sh : ∀ {v : List D}, (∀ d ∈ v, Sgn d) → SeqAt.shaped (.list (v.map txP)) = true := fun {v} hv => by
    have h1 : PyData.canLayAll0 (v.map txP) = true := by
      induction v with
      | nil => rfl
      | cons d r ih =>
        simp only [List.map_cons, PyData.canLayAll0, Bool.and_eq_true]
        exact ⟨tx_ok (hv d List.mem_cons_self), ih fun x hx => hv x (List.mem_cons_of_mem _ hx)⟩
    have h2 : PyData.depthAll (v.map txP) = 0 := by
      clear hv h1
      induction v with
      | nil => rfl
      | cons d r ih =>
        simp only [List.map_cons, PyData.depthAll, ih]
        rfl
    unfold SeqAt.shaped
    simp only [PyData.canLay0, h1, PyData.depth, h2, Bool.true_and]
    decide
  have al : PySem.W.alikeAll (v.map txP) (w.map txP) = true := by
    clear ha hb hv hw py sh
    induction v generalizing w with
    | nil => cases w <;> rfl
    | cons d r ih =>
      cases w with
      | nil => rfl
      | cons e t => simp only [List.map_cons, PySem.W.alikeAll, ih, Bool.and_true]; rfl
  show ltData M (.ref a) (.ref b) = _
  unfold ltData
  have e1 : pyM M 65 (.ref a) = some (.list (v.map txP)) := by
    simp only [pyM, ha, py, Option.map_some]
  have e2 : pyM M 65 (.ref b) = some (.list (w.map txP)) := by
    simp only [pyM, hb, py, Option.map_some]
  rw [e1, e2]
  simp only [Option.bind_some, sh hv, sh hw, PySem.W.alike, al, Bool.and_self, if_true]
  rw [PySem.W.dataLt_list]
  rfl
theorem slc_lst {M : Hm} {a : Nat} {ds : List D} {lo hi : Option Int} {Φ : D → Hm → Prop} (h : M[a]? = some (.lst ds)) : Ret (slcM (.ref a) lo hi M) Φ ↔ Φ (.ref M.length) (M ++ [.lst (cut ds lo hi)]) := by
  simp only [slcM, h, Ret_ok]
theorem at_app {M X : Hm} {a : Nat} {o : MO} (h : M[a]? = some o) : (M ++ X)[a]? = some o := by
  rw [List.getElem?_append_left (List.getElem?_eq_some_iff.mp h).1]
  exact h
theorem leaveS_app {M X : Hm} {σ : Sl} : ∃ (f : Nat → Nat) (Y : Hm), (∀ i, i < M.length → f i = i) ∧ leaveS M σ (M ++ X) = (slRen f σ, M ++ Y) := by
  obtain ⟨f, h1, h2, h3, h4⟩ := leaveS_low (M0 := M) (M := M ++ X) (σ := σ) (by rw [List.length_append]; omega)
  refine ⟨f, (leaveS M σ (M ++ X)).2.drop M.length, h1, Prod.ext h2 (List.ext_getElem? fun i => ?_)⟩
  by_cases hi : i < M.length
  · rw [h3 i hi, List.getElem?_append_left hi, List.getElem?_append_left hi]
  · rw [List.getElem?_append_right (by omega), List.getElem?_drop]
    congr 1
    omega
theorem Sgn.rowlow {v : List D} (h : ∀ d ∈ v, Sgn d) (n : Nat) : (D.tup v).low n = true := by
  simp only [D.low]
  exact lows_of fun x hx => (h x hx).facts.2.2.2 n
def TurnOk (prg : List Df) (i : Nat) : Prop := ∀ (k t : Nat) (v : List D) (M : Hm), (∀ d ∈ v, Sgn d) → v ≠ [] → v.length ≤ 1000 → M[t]? = some (.lst (v.map txD)) → Ret (callAt prg (k + 1) i [.tup v, .ref t] M) fun d M' => ∃ r, d = .tup r ∧ M' = M ∧ Least v r
def p_turned : S :=
  (.seq (.set 2 (.lit (.int 0))) (.seq (.forS (.nm 3) (.rng (.lit (.int 1)) (.blt .len (.var 0))) (.ifS (.cmp .lt (.bin .add (.slc (.var 1) (.so (.var 3)) .no) (.slc (.var 1) .no (.so (.var 3)))) (.bin .add (.slc (.var 1) (.so (.var 2)) .no) (.slc (.var 1) .no (.so (.var 2))))) (.set 2 (.var 3)) .pas)) (.ret (.bin .add (.slc (.var 0) (.so (.var 2)) .no) (.slc (.var 0) .no (.so (.var 2)))))))
theorem turned_ok {prg : List Df} {i : Nat} (hi : prg[i]? = some ⟨4, 2, p_turned⟩) : TurnOk prg i := by
  intro k t v M hS hne hl ht
  have hp := List.length_pos_iff.mpr hne
  have htl := (List.getElem?_eq_some_iff.mp ht).1
  refine Ret_call hi (Ret_run rfl ?_)
  simp only [p_turned, List.map_cons, List.map_nil, List.length_cons, List.length_nil, List.replicate, List.cons_append, List.nil_append, Nat.reduceAdd, Nat.reduceSub]
  rw [x_seq, x_set, w_lit, List.set_cons_succ, List.set_cons_succ, List.set_cons_zero, x_seq, x_for, s_rng]
  simp only [w_lit, w_blt_var, w_var, vS_some, List.getElem?_cons_zero, len_tup, rS_int]
  refine ⟨by omega, ?_⟩
  refine Wp_for (fun j σ M' => ∃ b x X, σ = [some (.tup v), some (.ref t), some (.int ((b : Nat) : Int)), x] ∧ M' = M ++ X ∧ b < v.length ∧ ∀ k, k < 1 + j → k < v.length → lx (Tk (rotn k v)) (Tk (rotn b v)) = false) 0 ⟨0, _, [], rfl, by rw [List.append_nil], hp, fun k h _ => ?_⟩ ?_ ?_
  · have : k = 0 := by omega
    subst this
    exact PyProof.Rows.lex_irrefl _
  · rintro j d σ M' hd ⟨b, x, X, rfl, rfl, hb, hk⟩
    obtain ⟨rfl, hlt⟩ := rng_at hd
    refine ⟨wk_free, _, set_nm, ?_⟩
    rw [Nat.zero_add] at hk
    have e1 : (1 : Int) + (j : Int) = ((1 + j : Nat) : Int) := by omega
    rw [e1, List.set_cons_succ, List.set_cons_succ, List.set_cons_succ, List.set_cons_zero, x_if, t_cmp, w_cmp]
    have hkl : 1 + j ≤ (v.map txD).length := by rw [List.length_map]; omega
    have hbl : b ≤ (v.map txD).length := by rw [List.length_map]; omega
    have lm : lim = 16777216 := rfl
    have cc : ∀ k : Nat, (v.map txD).drop k ++ (v.map txD).take k = (rotn k v).map txD := fun k => by unfold rotn; rw [List.map_append, List.map_drop, List.map_take]
    have cl : ∀ k : Nat, ((v.map txD).drop k).length + ((v.map txD).take k).length = v.length := fun k => by rw [List.length_drop, List.length_take, List.length_map]; omega
    simp only [w_bin, w_slc, w_no, w_so, w_var, vS_some, List.getElem?_cons_zero, List.getElem?_cons_succ, oS_int]
    refine ⟨by omega, ?_⟩
    have h0 : (M ++ X)[t]? = some (.lst (v.map txD)) := at_app ht
    rw [slc_lst h0, cut_from hkl]
    refine ⟨by omega, ?_⟩
    rw [slc_lst (at_app h0), cut_upto hkl, Ret_addL (at_app last_at) last_at, cc, cl]
    refine ⟨by omega,
        by omega, ?_⟩
    rw [slc_lst (at_app (at_app (at_app h0))), cut_from hbl]
    refine ⟨by omega, ?_⟩
    rw [slc_lst (at_app (at_app (at_app (at_app h0)))), cut_upto hbl, Ret_addL (at_app last_at) last_at, cc, cl]
    refine ⟨by omega, ?_⟩
    rw [lt_texts (at_app (at_app (at_app last_at))) last_at (fun d hd => hS d (rotn_mem d hd)) (fun d hd => hS d (rotn_mem d hd)), cS_some, kS_bl]
    simp only [List.append_assoc]
    have fin : ∀ (b2 : Nat) (Z : Hm), b2 < v.length → (∀ k, k < 1 + (0 + j + 1) → k < v.length → lx (Tk (rotn k v)) (Tk (rotn b2 v)) = false) →
        ∃ b x X, (leaveS M [some (.tup v), some (.ref t), some (.int ((b2 : Nat) : Int)), some (.int ((1 + j : Nat) : Int))] (M ++ Z)).1 = [some (.tup v), some (.ref t), some (.int ((b : Nat) : Int)), x] ∧ (leaveS M [some (.tup v), some (.ref t), some (.int ((b2 : Nat) : Int)), some (.int ((1 + j : Nat) : Int))] (M ++ Z)).2 = M ++ X ∧ b < v.length ∧ ∀ k, k < 1 + (0 + j + 1) → k < v.length → lx (Tk (rotn k v)) (Tk (rotn b v)) = false := fun b2 Z h1 h2 => by
      obtain ⟨f, Y, hf, e⟩ := leaveS_app (M := M) (X := Z) (σ := [some (.tup v), some (.ref t), some (.int ((b2 : Nat) : Int)), some (.int ((1 + j : Nat) : Int))])
      refine ⟨b2, some (.int ((1 + j : Nat) : Int)), Y, ?_, by rw [e], h1, h2⟩
      rw [e]
      simp only [slRen]
      rw [ren_low hf (Sgn.rowlow hS _), ren_low hf (by simp only [D.low, decide_eq_true_eq]; exact htl : (D.ref t).low M.length = true), ren_low hf rfl, ren_low hf rfl]
    split
    · rename_i hlx
      rw [x_set, w_var]
      simp only [vS_some, List.getElem?_cons_zero, List.getElem?_cons_succ, List.set_cons_zero, List.set_cons_succ]
      refine fin (1 + j) _ (by omega) fun q h1 h2 => ?_
      by_cases e : q = 1 + j
      · subst e; exact PyProof.Rows.lex_irrefl _
      · have h3 := hk q (by omega) h2
        cases h4 : lx (Tk (rotn q v)) (Tk (rotn (1 + j) v)) with
        | false => rfl
        | true => 
          have := PyProof.Rows.lex_trans (O := PyProof.Rows.itemOrd) _ _ _ h4 hlx
          exact absurd (h3.symm.trans this) Bool.false_ne_true
    · rename_i hlx
      rw [x_pas]
      refine fin b _ hb fun q h1 h2 => ?_
      by_cases e : q = 1 + j
      · subst e; exact Bool.eq_false_iff.mpr hlx
      · exact hk q (by omega) h2
  · rintro σ M' ⟨b, x, X, rfl, rfl, hb, hk⟩
    refine ⟨wk_free, ?_⟩
    rw [rng_len] at hk
    simp only [x_ret, w_bin, w_slc, w_no, w_so, w_var, vS_some, List.getElem?_cons_zero, List.getElem?_cons_succ, oS_int, slc_tup]
    have lm : lim = 16777216 := rfl
    refine ⟨by omega,
        by omega, ?_⟩
    rw [cut_from (by omega), cut_upto (by omega), Ret_addT]
    refine ⟨by rw [List.length_drop, List.length_take]; omega, ?_⟩
    have e : v.drop b ++ v.take b = rotn b v := rfl
    rw [e, leave_drop (Sgn.rowlow (fun d hd => hS d (rotn_mem d hd)) _), Ret_ok]
    exact ⟨_, rfl, rfl, b, hb, rfl, fun k h => hk k (by omega) h⟩
end Mi

/-! Bw: both sides, walked. -/
namespace Mi
open PySem
def bothS : D := .str [98, 111, 116, 104]
def roundS : D := .str [114, 111, 117, 110, 100]
def boD (r : Bool × List D × List D × List D) : D := if r.1 then .tup [bothS, .tup r.2.1, .tup r.2.2.1, .tup r.2.2.2] else .tup [roundS, .tup r.2.1]
def p_bothed (cr c0 : Nat) : S :=
  (.seq (.setT [1, 2] (.call cr (.cons (.var 1) (.cons (.var 2) .nil)))) (.seq (.set 0 (.call c0 (.cons (.var 0) .nil))) (.seq (.forS (.nm 3) (.rng (.lit (.int 0)) (.bin .add (.bin .add (.blt .len (.var 1)) (.blt .len (.var 0))) (.blt .len (.var 2)))) (.seq (.ifS (.cmp .ne (.idx (.orE (.var 1) (.var 2)) (.lit (.int 0))) (.idx (.var 0) (.lit (.int 0)))) (.ret (.tup (.cons (.lit (.str [98, 111, 116, 104])) (.cons (.var 0) (.cons (.var 1) (.cons (.var 2) .nil)))))) .pas) (.seq (.ifS (.cmp .eq (.var 1) (.tup .nil)) (.set 2 (.bin .add (.slc (.var 2) (.so (.lit (.int 1))) .no) (.slc (.var 2) .no (.so (.lit (.int 1)))))) .pas) (.setP 0 1 (.bin .add (.slc (.var 0) (.so (.lit (.int 1))) .no) (.slc (.var 0) .no (.so (.lit (.int 1))))) (.slc (.var 1) (.so (.lit (.int 1))) .no))))) (.ret (.tup (.cons (.lit (.str [114, 111, 117, 110, 100])) (.cons (.var 0) .nil)))))))
def BothOk (prg : List Df) (i : Nat) : Prop := ∀ (k : Nat) (v u w : List D) (M : Hm), Row0 v → Row0 u → Row0 w → v ≠ [] → w ≠ [] → v.length ≤ 1000 → u.length ≤ 1000 → w.length ≤ 1000 →
  Ret (callAt prg (k + 3) i [.tup v, .tup u, .tup w] M) fun d M' => d = boD (bothOf v u w) ∧ M' = M
theorem rotl_head {v : List D} (h : v ≠ []) : rotl v = v.tail ++ [v.head h] := by
  cases v with
  | nil => exact absurd rfl h
  | cons a r => rfl
theorem bothed_ok {prg : List Df} {i cr c0 : Nat} (hi : prg[i]? = some ⟨4, 3, p_bothed cr c0⟩) (hr : RightedOk prg cr) (h0 : RootOk prg c0) : BothOk prg i := by
  intro k v u w M hv hu hw nv nw lv lu lw
  refine Ret_call hi (Ret_run rfl ?_)
  simp only [p_bothed, List.map_cons, List.map_nil, List.length_cons, List.length_nil, List.replicate, List.cons_append, List.nil_append, Nat.reduceAdd, Nat.reduceSub]
  rw [x_seq, x_setT]
  simp only [w_call, w_nil, w_cons, w_var, vS_some, List.getElem?_cons_zero, List.getElem?_cons_succ]
  refine (hr k u w M hu hw nw (by omega) (by omega)).mono fun d M' h => ?_
  obtain ⟨rfl, rfl⟩ := h
  obtain ⟨m1, m2⟩ := righted_mem (u := u) nw
  obtain ⟨f1, f2, f3, _⟩ := righted_first (u := u) (n := u.length + 2 * w.length) nw (Nat.le_refl _)
  have rl := rootOf_len (w := v)
  have rl2 := rootOf_len (w := w)
  have hu1 : Row0 (righted u w).1 := hu.sub m1
  have hw1 : Row0 (righted u w).2 := (hu.app hw).sub fun d hd => List.mem_append.mpr (m2 d hd)
  have eb : bothOf v u w = bw ((righted u w).1.length + (rootOf v).length + (righted u w).2.length) (rootOf v) (righted u w).1 (righted u w).2 := rfl
  rw [eb]
  generalize righted u w = R at *
  show gS _ M' (some ([some (.tup v), some (.tup R.1), some (.tup R.2), none] : Sl))
  show Wp _ _ _ _ _
  rw [x_seq, x_set]
  simp only [w_call, w_nil, w_cons, w_var, vS_some, List.getElem?_cons_zero, List.getElem?_cons_succ]
  refine (h0 (k + 1) v M' hv (by omega)).mono fun d M1 h => ?_
  obtain ⟨rfl, rfl⟩ := h
  have hv1 : Row0 (rootOf v) := hv.sub rootOf_mem
  have nv1 := rootOf_ne nv
  generalize rootOf v = v1 at *
  rw [List.set_cons_zero, x_seq, x_for, s_rng]
  simp only [w_bin, w_lit, w_blt_var, w_var, vS_some, List.getElem?_cons_zero, List.getElem?_cons_succ, len_tup, Ret_add, rS_int]
  refine ⟨by omega, ?_⟩
  have en : ((R.1.length : Int) + (v1.length : Int)) + (R.2.length : Int) = ((R.1.length + v1.length + R.2.length : Nat) : Int) := by omega
  rw [en]
  generalize hn : R.1.length + v1.length + R.2.length = n
  refine Wp_for (fun j σ M' => ∃ v u w x, σ = [some (.tup v), some (.tup u), some (.tup w), x] ∧ M' = M1 ∧ v ≠ [] ∧ w ≠ [] ∧ Row0 v ∧ Row0 u ∧ Row0 w ∧ v.length ≤ 1000 ∧ u.length ≤ 1000 ∧ w.length ≤ 1000 ∧ bw (n - j) v u w = bw n v1 R.1 R.2) 0 ⟨_, _, _, _, rfl, rfl, nv1, f3, hv1, hu1, hw1, by omega, by omega, by omega, rfl⟩ ?_ ?_
  · rintro j d σ M' hd ⟨v, u, w, x, rfl, rfl, nv, nw, hv, hu, hw, lv, lu, lw, hb⟩
    obtain ⟨rfl, hlt⟩ := rng_at hd
    refine ⟨wk_free, _, set_nm, ?_⟩
    rw [Nat.zero_add] at hb
    have lm : lim = 16777216 := rfl
    have ej : n - j = (n - (0 + j + 1)) + 1 := by omega
    rw [ej, bw] at hb
    rw [List.set_cons_succ, List.set_cons_succ, List.set_cons_succ, List.set_cons_zero, x_seq, x_if, t_cmp, w_cmp, w_idx, w_or]
    simp only [w_var, w_lit, w_idx, vS_some, List.getElem?_cons_zero, List.getElem?_cons_succ, truM, tS2_some]
    have hvh : v.head? = some (v.head nv) := List.head?_eq_some_head nv
    have rotD : ∀ (x : List D) (nx : x ≠ []) (lx : x.length ≤ 1000) (σ : Sl) (i : Nat) (Φ : D → Hm → Prop), σ[i]? = some (some (.tup x)) → Φ (.tup (rotl x)) M' → Ret (ev (callAt prg (k + 2)) (.bin .add (.slc (.var i) (.so (.lit (.int 1))) .no) (.slc (.var i) .no (.so (.lit (.int 1))))) σ M') Φ := fun x nx lx σ i Φ hx h => by
      simp only [w_bin, w_slc, w_no, w_so, w_var, w_lit, hx, vS_some, oS_int, slc_tup, cut_tail, cut_head nx, Ret_addT]
      refine ⟨by decide, by decide, by rw [List.length_tail]; simp only [List.length_singleton]; omega, ?_⟩
      rw [← rotl_head nx]
      exact h
    have both : ∀ y, (u ++ w).head? = some y → y ∈ u ++ w → y ≠ v.head nv → Ret (leave M' (.tup [bothS, .tup v, .tup u, .tup w]) M') fun d M2 => d = boD (bw n v1 R.1 R.2) ∧ M2 = M' := fun y h1 h2 h3 => by
      rw [leave_same, Ret_ok]
      rw [h1, hvh, if_neg (fun z => h3 (Option.some.inj z))] at hb
      rw [← hb]
      exact ⟨rfl, rfl⟩
    have Huw : Row0 (u ++ w) := hu.app hw
    have htl : Row0 u.tail := hu.sub fun d h => List.mem_of_mem_tail h
    have ltl : u.tail.length ≤ 1000 := by rw [List.length_tail]; omega
    cases u with
    | nil =>
      simp only [List.isEmpty_nil, Bool.not_true, Bool.false_eq_true, if_false, idx_tup, at_first nw, at_first nv, hvh, List.head?_eq_some_head nw, dS_some]
      rw [cmp_ne (eq_one hw hv (List.head_mem nw) (List.head_mem nv)), cS_some, kS_bl]
      split
      · rename_i hq
        have hq : w.head nw ≠ v.head nv := fun z => by simp [z] at hq
        simp only [x_ret, w_tup, w_cons, w_nil, w_lit, w_var, vS_some, List.getElem?_cons_zero, List.getElem?_cons_succ, Ret_newT]
        exact ⟨by show 4 ≤ lim; decide, both _ (List.head?_eq_some_head nw) (List.mem_append_right _ (List.head_mem nw)) hq⟩
      · rename_i hq
        have hq : w.head nw = v.head nv := Classical.byContradiction fun z => hq (by simp [z])
        rw [List.nil_append, List.head?_eq_some_head nw, hvh, if_pos (by rw [hq]), if_pos rfl] at hb
        rw [x_pas, x_seq, x_if, t_cmp, w_cmp]
        simp only [w_tup, w_nil, w_var, vS_some, List.getElem?_cons_zero, List.getElem?_cons_succ, Ret_newT, cmp_eq (eq_row Row0.nil Row0.nil), cS_some, kS_bl, decide_true, if_true]
        refine ⟨by decide, ?_⟩
        rw [x_set]
        refine rotD w nw lw _ 2 _ rfl ?_
        rw [List.set_cons_succ, List.set_cons_succ, List.set_cons_zero, x_setP]
        refine rotD v nv lv _ 0 _ rfl ?_
        simp only [w_slc, w_no, w_so, w_lit, w_var, vS_some, List.getElem?_cons_zero, List.getElem?_cons_succ, oS_int, slc_tup, cut_tail, List.set_cons_zero, List.set_cons_succ]
        refine ⟨by decide, ?_⟩
        rw [leaveS_same rfl]
        exact ⟨_, _, _, _, rfl, rfl, rotl_ne nv, rotl_ne nw, hv.sub rotl_mem, Row0.nil, hw.sub rotl_mem, by rw [rotl_len]; omega, by simp, by rw [rotl_len]; omega, hb⟩
    | cons a r =>
      simp only [List.isEmpty_cons, Bool.not_false, if_true, idx_tup, at_first (List.cons_ne_nil a r), at_first nv, hvh, List.head?_cons, dS_some]
      rw [cmp_ne (eq_one hu hv List.mem_cons_self (List.head_mem nv)), cS_some, kS_bl]
      split
      · rename_i hq
        have hq : a ≠ v.head nv := fun z => by simp [z] at hq
        simp only [x_ret, w_tup, w_cons, w_nil, w_lit, w_var, vS_some, List.getElem?_cons_zero, List.getElem?_cons_succ, Ret_newT]
        exact ⟨by show 4 ≤ lim; decide, both _ rfl List.mem_cons_self hq⟩
      · rename_i hq
        have hq : a = v.head nv := Classical.byContradiction fun z => hq (by simp [z])
        rw [List.cons_append, List.head?_cons, hvh, if_pos (by rw [hq]), if_neg (List.cons_ne_nil _ _)] at hb
        rw [x_pas, x_seq, x_if, t_cmp, w_cmp]
        simp only [w_tup, w_nil, w_var, vS_some, List.getElem?_cons_zero, List.getElem?_cons_succ, Ret_newT, cmp_eq (eq_row hu Row0.nil), cS_some, kS_bl, reduceCtorEq, decide_false, Bool.false_eq_true, if_false]
        refine ⟨by decide, ?_⟩
        rw [x_pas, x_setP]
        refine rotD v nv lv _ 0 _ rfl ?_
        simp only [w_slc, w_no, w_so, w_lit, w_var, vS_some, List.getElem?_cons_zero, List.getElem?_cons_succ, oS_int, slc_tup, cut_tail, List.set_cons_zero, List.set_cons_succ]
        refine ⟨by decide, ?_⟩
        rw [leaveS_same rfl]
        exact ⟨_, _, _, _, rfl, rfl, rotl_ne nv, nw, hv.sub rotl_mem, htl, hw, by rw [rotl_len]; omega, ltl, lw, hb⟩
  · rintro σ M' ⟨v, u, w, x, rfl, rfl, nv, nw, hv, hu, hw, lv, lu, lw, hb⟩
    refine ⟨wk_free, ?_⟩
    have en : n - (0 + (rngD 0 (n : Int)).length) = 0 := by rw [rng_len]; omega
    rw [en, bw] at hb
    simp only [x_ret, w_tup, w_cons, w_nil, w_lit, w_var, vS_some, List.getElem?_cons_zero, List.getElem?_cons_succ, Ret_newT]
    refine ⟨by show 2 ≤ lim; decide, ?_⟩
    rw [leave_same, Ret_ok, ← hb]
    exact ⟨rfl, rfl⟩
theorem idx_ix {ds : List D} {M : Hm} (n : Nat) {x : D} (h : ds[n]? = some x) : idxM (.tup ds) (.int ((n : Nat) : Int)) M = some x := by
  rw [idx_tup]
  unfold L2.atI
  rw [ix_lit n (List.getElem?_eq_some_iff.mp h).1]
  exact h
/-- [f(d) for d in ds] where nothing is changed -/
theorem Ret_dmap {F : Caller} {σ : Sl} {M : Hm} {Φ : List D → Hm → Prop} {tg : Tg} {el : Sl → Hm → R D} {f : D → D} {ds : List D} (hl : ds.length ≤ lim)
    (he : ∀ d, d ∈ ds → ∃ σ1, setTg tg d σ = some σ1 ∧ Ret (el σ1 M) fun y M' => y = f d ∧ M' = M) (h : Φ (ds.map f) M) {w : Wk} (hw : w.its = ds) (hk : w.ok M = true) :
    Ret (compW tg (fun σ1 M2 => evA F .nil σ1 M2) el w σ M) Φ := by
  refine Ret_comp (fun j acc M' => M' = M ∧ acc = (ds.take j).map f) (by rw [hw]; exact hl) ⟨rfl, by simp⟩ ?_ ?_
  · rintro i d acc M' e ⟨rfl, rfl⟩
    rw [hw] at e
    obtain ⟨σ1, h1, h2⟩ := he d (List.mem_of_getElem? e)
    refine ⟨hk, σ1, h1, ?_⟩
    rw [a_nil, if_pos rfl]
    refine h2.mono fun y M2 ⟨h3, h4⟩ => ?_
    subst h3 h4
    rw [leave_id, Ret_ok]
    refine ⟨rfl, ?_⟩
    rw [List.take_add_one, e]
    simp
  · rintro acc M' ⟨rfl, rfl⟩
    refine ⟨hk, ?_⟩
    rw [hw, List.take_length]
    exact h
/-- what both_piece tells -/
def IsB (v u w : List D) (d : D) : Prop := (∃ t v1 u1 w1, BoT v u w t v1 u1 w1 ∧ d = .tup [bothS, .tup v1, .tup u1, .tup w1]) ∨ ∃ t v1 r, BoF v u w t v1 ∧ Least v1 r ∧ d = .tup [roundS, .tup r]
def p_bothp (cb ct : Nat) : S :=
  (.seq (.set 3 (.call cb (.cons (.var 0) (.cons (.var 1) (.cons (.var 2) .nil))))) (.seq (.ifS (.cmp .eq (.idx (.var 3) (.lit (.int 0))) (.lit (.str [98, 111, 116, 104]))) (.ret (.var 3)) .pas) (.ret (.tup (.cons (.lit (.str [114, 111, 117, 110, 100])) (.cons (.call ct (.cons (.idx (.var 3) (.lit (.int 1))) (.cons (.comp (.blt .repr (.var 4)) (.nm 4) (.seq (.idx (.var 3) (.lit (.int 1)))) .nil) .nil))) .nil))))))
def BothpOk (prg : List Df) (i : Nat) : Prop := ∀ (k : Nat) (v u w : List D) (M : Hm), (∀ d ∈ v, Sgn d) → (∀ d ∈ u, Sgn d) → (∀ d ∈ w, Sgn d) → v ≠ [] → w ≠ [] → v.length ≤ 1000 → u.length ≤ 1000 → w.length ≤ 1000 →
  Ret (callAt prg (k + 4) i [.tup v, .tup u, .tup w] M) fun d M' => IsB v u w d ∧ M' = M
theorem bothp_ok {prg : List Df} {i cb ct : Nat} (hi : prg[i]? = some ⟨5, 3, p_bothp cb ct⟩) (hb : BothOk prg cb) (ht : TurnOk prg ct) : BothpOk prg i := by
  intro k v u w M hv hu hw nv nw lv lu lw
  refine Ret_call hi (Ret_run rfl ?_)
  simp only [p_bothp, List.map_cons, List.map_nil, List.length_cons, List.length_nil, List.replicate, List.cons_append, List.nil_append, Nat.reduceAdd, Nat.reduceSub]
  rw [x_seq, x_set]
  simp only [w_call, w_nil, w_cons, w_var, vS_some, List.getElem?_cons_zero, List.getElem?_cons_succ]
  refine (hb k v u w M (row_of hv) (row_of hu) (row_of hw) nv nw lv lu lw).mono fun d M' h => ?_
  obtain ⟨rfl, rfl⟩ := h
  rw [List.set_cons_succ, List.set_cons_succ, List.set_cons_succ, List.set_cons_zero, x_seq, x_if, t_cmp, w_cmp]
  have eqs : ∀ (a b : List Nat), cmpM .eq (.str a) (.str b) M' = some (a == b) := fun a b => by simp [cmpM, eqM, D.atom, D.peq]
  have i0 : ∀ (a : D) (r : List D), idxM (.tup (a :: r)) (.int 0) M' = some a := fun a r => idx_ix 0 rfl
  have i1 : ∀ (a b : D) (r : List D), idxM (.tup (a :: b :: r)) (.int 1) M' = some b := fun a b r => idx_ix 1 rfl
  rcases both_spec (u := u) nv nw with ⟨t, v1, u1, w1, B⟩ | ⟨t, v1, B⟩
  · have e : boD (bothOf v u w) = .tup [bothS, .tup v1, .tup u1, .tup w1] := by rw [B.eq]; rfl
    rw [e]
    simp only [w_idx, w_lit, w_var, vS_some, List.getElem?_cons_zero, List.getElem?_cons_succ, i0, dS_some, bothS, eqs, cS_some, kS_bl]
    rw [if_pos (by decide)]
    simp only [x_ret, w_var, vS_some, List.getElem?_cons_zero, List.getElem?_cons_succ]
    rw [leave_same, Ret_ok]
    exact ⟨.inl ⟨t, v1, u1, w1, B, rfl⟩, rfl⟩
  · have e : boD (bothOf v u w) = .tup [roundS, .tup v1] := by rw [B.eq]; rfl
    have hv1 : ∀ d ∈ v1, Sgn d := fun d h => hv d (B.mv d h)
    have l1 := B.nv
    rw [e]
    simp only [w_idx, w_lit, w_var, vS_some, List.getElem?_cons_zero, List.getElem?_cons_succ, i0, dS_some, roundS, eqs, cS_some, kS_bl]
    rw [if_neg (by decide), x_pas, x_ret, w_tup, w_cons, w_lit, w_cons, w_call, w_cons]
    simp only [w_idx, w_lit, w_var, vS_some, List.getElem?_cons_zero, List.getElem?_cons_succ, i1, dS_some]
    rw [w_cons, w_comp, s_seq]
    simp only [w_idx, w_lit, w_var, vS_some, List.getElem?_cons_zero, List.getElem?_cons_succ, i1, dS_some]
    show Ret _ _
    have lm : lim = 16777216 := rfl
    refine Ret_dmap (f := txD) (ds := v1) (by omega) (fun d hd => ⟨_, set_nm, ?_⟩) ?_ rfl wk_free
    · rw [w_blt_var, w_var]
      simp only [vS_some, List.set_cons_succ, List.set_cons_zero, List.getElem?_cons_zero, List.getElem?_cons_succ]
      rw [(hv1 d hd).repr, Ret_ok]
      exact ⟨rfl, rfl⟩
    · simp only [w_nil]
      refine (ht (k + 2) M'.length v1 _ hv1 B.pv.1 (by omega) last_at).mono fun d M1 h => ?_
      obtain ⟨r, rfl, rfl, hr⟩ := h
      obtain ⟨b, hb, rfl, _⟩ := id hr
      rw [Ret_newT]
      refine ⟨by show 2 ≤ lim; decide, ?_⟩
      rw [leave_drop, Ret_ok]
      · exact ⟨.inr ⟨t, v1, _, B, hr, rfl⟩, rfl⟩
      · have := Sgn.rowlow (v := rotn b v1) (fun d hd => hv1 d (rotn_mem d hd)) M'.length
        simp only [D.low] at this
        simp only [D.low, D.lows, this, Bool.and_self]
end Mi

/-! Bx: one row, told in two ways. -/
namespace Mi
open PySem
def Sgs (v : List D) : Prop := ∀ d ∈ v, Sgn d
theorem BoF.one {v u w : List D} {t t' : Nat} {v1 v1' : List D} (B : BoF v u w t v1) (C : BoF v u w t' v1') : v1 = v1' := by
  have := B.eq.symm.trans C.eq
  simp only [Prod.mk.injEq, true_and, and_true] at this
  exact this
theorem Twice.one {v u w v2 u2 w2 : List D} {q : Nat} {d d2 : D} (T : Twice v u w v2 u2 w2 q) (s1 : Sgs v) (s2 : Sgs v2) (h : IsB v u w d) (h2 : IsB v2 u2 w2 d2) : d = d2 := by
  rcases h with ⟨t, v1, u1, w1, B, rfl⟩ | ⟨t, v1, r, B, L, rfl⟩
  · have e := T.both B
    rcases h2 with ⟨t2, v3, u3, w3, C, rfl⟩ | ⟨t2, v3, r3, C, L3, rfl⟩
    · have := e.symm.trans C.eq
      simp only [Prod.mk.injEq, true_and] at this
      obtain ⟨rfl, rfl, rfl⟩ := this
      rfl
    · have := e.symm.trans C.eq
      simp at this
  · obtain ⟨t2, v3, C, hk⟩ := T.round B
    rcases h2 with ⟨t2, v4, u4, w4, C4, rfl⟩ | ⟨t2, v4, r4, C4, L4, rfl⟩
    · have := C4.eq.symm.trans C.eq
      simp at this
    · cases C4.one C
      rw [Least.one (fun d hd => s1 d (B.mv d hd)) (fun d hd => s2 d (C.mv d hd)) B.pv C.pv hk L L4]
theorem gon_self {r : List D} (hr : r ≠ []) (i : Nat) : gon r r i = lp r i := by
  unfold gon lp
  split
  · rename_i h; rw [Nat.mod_eq_of_lt h]
  · rw [← Nat.mod_eq_sub_mod (by omega)]
/-- a both piece is told again -/
theorem BoT.again {v u w : List D} {t : Nat} {v1 u1 w1 : List D} (nv : v ≠ []) (nw : w ≠ []) (B : BoT v u w t v1 u1 w1) : Twice v1 u1 w1 v u w t := ⟨B.pv.1, B.cu.1.1, nv, nw, B.sm, fun i => (B.lu i).symm, fun i => (B.lv i).symm⟩
theorem BoF.again {v u w : List D} {t b : Nat} {v1 x : List D} (nv : v ≠ []) (nw : w ≠ []) (B : BoF v u w t v1) (hb : b < v1.length) (hx : ∀ i, gon x (rotn b v1) i = lp (rotn b v1) i) : Twice (rotn b v1) x (rotn b v1) v u w (b + t) := by
  have pr := B.pv.rotn (Nat.le_of_lt hb)
  refine ⟨pr.1, pr.1, nv, nw, fun i _ => B.sm i, fun i => ?_, fun i => ?_⟩
  · rw [B.sm, hx, lp_rotn (Nat.le_of_lt hb), B.lv, Nat.add_assoc]
  · rw [lp_rotn (Nat.le_of_lt hb), B.lv, Nat.add_assoc]
theorem BoF.len {v u w : List D} {t : Nat} {v1 : List D} (nv : v ≠ []) (nw : w ≠ []) (B : BoF v u w t v1) : v1.length ≤ w.length := by
  refine B.pv.2 _ (List.length_pos_iff.mpr nw) fun j => ?_
  have hp : PerN (lp v) w.length := PerN.back (A := u.length) nv fun j => by
    simp only
    rw [← B.sm, ← B.sm, gon_tail, gon_tail]
    exact lp_per w j
  rw [B.lv, B.lv, show j + w.length + t = j + t + w.length by omega]
  exact hp _
/-! ### the same row, told otherwise -/
theorem lp_pow {v : List D} (hv : v ≠ []) (n i : Nat) : lp (pow (n + 1) v) i = lp v i := by
  have hl := List.length_pos_iff.mpr hv
  have h2 : 0 < (n + 1) * v.length := Nat.mul_pos (Nat.succ_pos _) hl
  unfold lp
  rw [pow_len, pow_get hv _ _ (Nat.mod_lt _ h2), Nat.mod_mod_of_dvd _ (Nat.dvd_mul_left _ _)]
theorem gon_app {u x w : List D} (i : Nat) : gon (u ++ x) w i = if i < u.length then u[i]? else gon x w (i - u.length) := by
  unfold gon
  rw [List.length_append]
  by_cases h : i < u.length
  · rw [if_pos h, if_pos (by omega), List.getElem?_append_left h]
  · rw [if_neg h]
    by_cases h2 : i < u.length + x.length
    · rw [if_pos h2, if_pos (by omega), List.getElem?_append_right (by omega)]
    · rw [if_neg h2, if_neg (by omega), Nat.sub_sub]
theorem lp_some {v : List D} (hv : v ≠ []) {q n j : Nat} (hq : q ≤ n * v.length) (hj : j < q) : ((pow n v).take q)[j]? = lp v j := by
  rw [List.getElem?_take_of_lt hj, pow_get hv _ _ (by omega)]
  rfl
theorem take_len {v : List D} {q n : Nat} (hq : q ≤ n * v.length) : ((pow n v).take q).length = q := by rw [List.length_take, pow_len]; omega
theorem gon_round {v : List D} (hv : v ≠ []) {q n m : Nat} (hq : q ≤ n * v.length) (i : Nat) : gon ((pow n v).take q) (pow (m + 1) (rotn (q % v.length) v)) i = lp v i := by
  have hl := List.length_pos_iff.mpr hv
  have hm := Nat.mod_lt q hl
  have nr : rotn (q % v.length) v ≠ [] := fun z => by
    have := rotn_len (k := q % v.length) (v := v)
    rw [z] at this
    simp at this
    omega
  by_cases h : i < q
  · unfold gon
    rw [take_len hq, if_pos h, lp_some hv hq h]
  · obtain ⟨j, rfl⟩ : ∃ j, i = j + q := ⟨i - q, by omega⟩
    have := gon_tail (u := (pow n v).take q) (v := pow (m + 1) (rotn (q % v.length) v)) j
    rw [take_len hq] at this
    rw [this, lp_pow nr, lp_rotn (by omega), lp_mod]
theorem gon_more {u v : List D} (hv : v ≠ []) {q n m : Nat} (hq : q ≤ n * v.length) (i : Nat) : gon (u ++ (pow n v).take q) (pow (m + 1) (rotn (q % v.length) v)) i = gon u v i := by
  rw [gon_app, gon_round hv hq]
  rfl
theorem lp_cong {v : List D} {a b : Nat} (x y : Nat) (h : a + v.length * x = b + v.length * y) : lp v a = lp v b := by
  rw [← (lp_per v).mul x a, ← (lp_per v).mul y b, h]
theorem lp_rev {v : List D} (hv : v ≠ []) (i : Nat) : lp v.reverse i = lp v (v.length - 1 - i % v.length) := by
  have hl := List.length_pos_iff.mpr hv
  have hm := Nat.mod_lt i hl
  unfold lp
  rw [List.length_reverse, rev_get hm, Nat.mod_eq_of_lt (show v.length - 1 - i % v.length < v.length by omega)]
theorem twice_left {L u v m2 r2 : List D} {q n m : Nat} (hL : L ≠ []) (hv : v ≠ []) (hr : r2 ≠ []) (hq : q ≤ n * L.length) (hm : ∀ i, gon m2 r2 i = gon u v i) :
    Twice L u v (pow (m + 1) (rotn (q % L.length) L.reverse)).reverse (((pow n L.reverse).take q).reverse ++ m2) r2 q := by
  have hl := List.length_pos_iff.mpr hL
  have hR : L.reverse ≠ [] := by simpa using hL
  have lR : L.reverse.length = L.length := List.length_reverse
  have hqr : q % L.length ≤ L.reverse.length := by rw [lR]; exact Nat.le_of_lt (Nat.mod_lt _ hl)
  have nr : rotn (q % L.length) L.reverse ≠ [] := fun z => by
    have := rotn_len (k := q % L.length) (v := L.reverse)
    rw [z] at this
    simp at this
    omega
  have np : pow (m + 1) (rotn (q % L.length) L.reverse) ≠ [] := fun z => by
    have := pow_len (n := m + 1) (x := rotn (q % L.length) L.reverse)
    rw [z, rotn_len, lR, List.length_nil] at this
    have : 0 < (m + 1) * L.length := Nat.mul_pos (Nat.succ_pos m) hl
    omega
  have lpp : (pow (m + 1) (rotn (q % L.length) L.reverse)).length = L.length * (m + 1) := by rw [pow_len, rotn_len, lR, Nat.mul_comm]
  have lt : ((pow n L.reverse).take q).length = q := take_len (by rw [lR]; exact hq)
  have key : ∀ j, lp (pow (m + 1) (rotn (q % L.length) L.reverse)) j = lp L.reverse (j + q) := fun j => by
    rw [lp_pow nr, lp_rotn hqr]
    have := lp_mod (v := L.reverse) j q
    rwa [lR] at this
  have key2 : ∀ i, lp (pow (m + 1) (rotn (q % L.length) L.reverse)).reverse i = lp L.reverse (L.length * (m + 1) - 1 - i % (L.length * (m + 1)) + q) := fun i => by
    rw [lp_rev np, key, lpp]
  have pos : 0 < L.length * (m + 1) := Nat.mul_pos hl (Nat.succ_pos _)
  refine ⟨hL, hv, by simpa using np, hr, fun i hi => ?_, fun i => ?_, fun i => ?_⟩
  · rw [gon_app, List.length_reverse, lt, if_pos hi, rev_get (by rw [lt]; exact hi), lt, lp_some hR (by rw [lR]; exact hq) (by omega), key2]
    have h1 := Nat.mod_add_div i (L.length * (m + 1))
    have h2 := Nat.mod_lt i pos
    refine lp_cong ((m + 1) * (1 + i / (L.length * (m + 1)))) 0 ?_
    rw [lR, ← Nat.mul_assoc, Nat.mul_add, Nat.mul_one]
    generalize L.length * (m + 1) = N at *
    generalize N * (i / N) = W at *
    omega
  · rw [gon_app, List.length_reverse, lt, if_neg (by omega), Nat.add_sub_cancel, hm]
  · rw [key2]
    have e : lp L i = lp L.reverse (L.length - 1 - i % L.length) := by
      have := lp_rev hR i
      rw [List.reverse_reverse, lR] at this
      exact this
    rw [e]
    have h1 := Nat.mod_add_div (i + q) (L.length * (m + 1))
    have h2 := Nat.mod_lt (i + q) pos
    have h3 := Nat.mod_add_div i L.length
    have h4 := Nat.mod_lt i hl
    -- a + |L| (x) = b + |L| y
    have le1 : L.length ≤ L.length * (m + 1) := Nat.le_mul_of_pos_right _ (Nat.succ_pos _)
    refine lp_cong (1 + i / L.length) ((m + 1) * (1 + (i + q) / (L.length * (m + 1)))) ?_
    rw [lR, ← Nat.mul_assoc]
    generalize L.length * (m + 1) = N at *
    rw [Nat.mul_add, Nat.mul_add, Nat.mul_one, Nat.mul_one]
    generalize N * ((i + q) / N) = W at *
    generalize L.length * (i / L.length) = W2 at *
    omega
/-- one sign more ahead -/
theorem ahead_iff {p1 p2 : List D} {s : D} (h : Can p1 p2) : righted (s :: p1) p2 = (p1, p2) ↔ p1 = [] ∧ p2 = [s] := by
  have cs : Can [] [s] := ⟨⟨List.cons_ne_nil _ _, fun r hr _ => hr⟩, fun a ha => by cases ha⟩
  have gs : ∀ i, gon [] [s] i = some s := fun i => by
    rw [gon_nil]
    unfold lp
    rw [List.length_singleton, Nat.mod_one]
    rfl
  constructor
  · intro e
    have g : ∀ i, gon p1 p2 i = gon (s :: p1) p2 i := fun i => by
      have := gon_righted (u := s :: p1) h.1.1 i
      rwa [e] at this
    have c : ∀ i, gon p1 p2 i = some s := fun i => by
      induction i with
      | zero => rw [g, gon_zero h.1.1]; rfl
      | succ i ih =>
        rw [g, ← gon_adv h.1.1, List.tail_cons, if_neg (List.cons_ne_nil _ _)]
        exact ih
    have := canon_eq h.1.1 cs.1.1 fun i => (c i).trans (gs i).symm
    rw [h.righted, cs.righted] at this
    exact ⟨congrArg Prod.fst this, congrArg Prod.snd this⟩
  · rintro ⟨rfl, rfl⟩
    rw [canon_eq (u := [s]) (u' := []) cs.1.1 cs.1.1 fun i => (gon_self cs.1.1 i).trans (gon_nil i).symm, cs.righted]
end Mi

/-! Ip: is_piece of what is told. -/
namespace Mi
open PySem
def p_isof : S :=
  (.seq (.ifS (.orE (.notE (.isi (.var 0) [.str])) (.notE (.chn .lt .le (.lit (.int 0)) (.blt .len (.var 0)) (.lit (.int 8))))) (.ret (.lit (.bl false))) .pas) (.ret (.blt .all (.comp (.cmp .isin (.var 2) (.var 1)) (.nm 2) (.seq (.var 0)) .nil))))
def p_isletter (c : Nat) : S :=
  (.ret (.call c (.cons (.var 0) (.cons (.lit (.str [97, 98, 99, 100, 101, 102, 103, 104, 105, 106, 107, 108, 109, 110, 111, 112, 113, 114, 115, 116, 117, 118, 119, 120, 121, 122])) .nil))))
def isTx : D → Bool
  | .str _ => true
  | _ => false
def LetOk (prg : List Df) (i : Nat) : Prop := ∀ (k : Nat) (x : D) (M : Hm), Sgn x → Ret (callAt prg (k + 2) i [x] M) fun d M' => d = .bl (isTx x) ∧ M' = M
theorem isin_sign {c : Nat} {b : List Nat} {M : Hm} : cmpM .isin (.str [c]) (.str b) M = some (b.contains c) := rfl
theorem len_st {t : List Nat} (h : t.length ≤ lim) {M : Hm} {Φ : D → Hm → Prop} : Ret (bltM .len (.str t) M) Φ ↔ Φ (.int t.length) M := by
  show Ret (if t.length ≤ lim then _ else none) Φ ↔ _
  rw [if_pos h]
  exact Iff.rfl
theorem let_ok {prg : List Df} {i c : Nat} (hi : prg[i]? = some ⟨1, 1, p_isletter c⟩) (hc : prg[c]? = some ⟨3, 2, p_isof⟩) : LetOk prg i := by
  intro k x M hx
  refine Ret_call hi (Ret_run rfl ?_)
  (simp only [p_isletter, List.map_cons, List.map_nil, List.length_cons, List.length_nil, List.replicate, List.cons_append, List.nil_append, Nat.reduceAdd, Nat.reduceSub])
  rw [x_ret]
  (simp only [t_or, t_and, t_not, t_isi, t_cmp, t_chn, t_call, t_idx, t_blt, t_var, t_lit, t_isN, t_isB, w_isB, w_isN, w_not, w_isi, w_cmp, w_chn, w_call, w_cons, w_nil, w_idx, w_var, w_lit, w_bin, w_neg, nS_int, w_slc, w_so, w_no, w_tup, w_blt_var, w_blt_idx, w_blt_lit, w_blt_call, w_blt_slc, w_blt_bin, vS_some, List.getElem?_cons_zero, List.getElem?_cons_succ, List.set_cons_zero, List.set_cons_succ, cS_some, kS_bl, dS_some, bS_bl, chS_some, len_t, cmp_le, cmp_lt, cmp_gt, cmp_ge, cmp_eqI, cmp_neI, if_true, if_false, Bool.not_true, Bool.not_false, decide_true, decide_false, Bool.false_eq_true, Ret_add, Ret_sub])
  suffices hs : Ret (callAt prg (k + 1) c [x, .str small] M) fun d M' => d = .bl (isTx x) ∧ M' = M by
    refine hs.mono fun d M' h => ?_
    obtain ⟨rfl, rfl⟩ := h
    rw [leave_id, Ret_ok]
    exact ⟨rfl, rfl⟩
  refine Ret_call hc (Ret_run rfl ?_)
  (simp only [p_isof, List.map_cons, List.map_nil, List.length_cons, List.length_nil, List.replicate, List.cons_append, List.nil_append, Nat.reduceAdd, Nat.reduceSub])
  rw [x_guard]
  rcases hx with ⟨l, rfl, l1, l2, l3⟩ | ⟨n, rfl, n0, n1⟩
  · have lm : lim = 16777216 := rfl
    have lp := List.length_pos_iff.mpr l1
    have e1 : isiM (.str l) .str M = some true := rfl
    (simp only [t_or, t_and, t_not, t_isi, t_cmp, t_chn, t_call, t_idx, t_blt, t_var, t_lit, t_isN, t_isB, w_isB, w_isN, w_not, w_isi, w_cmp, w_chn, w_call, w_cons, w_nil, w_idx, w_var, w_lit, w_bin, w_neg, nS_int, w_slc, w_so, w_no, w_tup, w_blt_var, w_blt_idx, w_blt_lit, w_blt_call, w_blt_slc, w_blt_bin, vS_some, List.getElem?_cons_zero, List.getElem?_cons_succ, List.set_cons_zero, List.set_cons_succ, cS_some, kS_bl, dS_some, bS_bl, chS_some, len_t, cmp_le, cmp_lt, cmp_gt, cmp_ge, cmp_eqI, cmp_neI, if_true, if_false, Bool.not_true, Bool.not_false, decide_true, decide_false, Bool.false_eq_true, Ret_add, Ret_sub, e1, len_st (show l.length ≤ lim by omega)])
    have h0 : (0 : Int) < l.length := by omega
    have h8 : (l.length : Int) ≤ 8 := by omega
    (simp only [t_or, t_and, t_not, t_isi, t_cmp, t_chn, t_call, t_idx, t_blt, t_var, t_lit, t_isN, t_isB, w_isB, w_isN, w_not, w_isi, w_cmp, w_chn, w_call, w_cons, w_nil, w_idx, w_var, w_lit, w_bin, w_neg, nS_int, w_slc, w_so, w_no, w_tup, w_blt_var, w_blt_idx, w_blt_lit, w_blt_call, w_blt_slc, w_blt_bin, vS_some, List.getElem?_cons_zero, List.getElem?_cons_succ, List.set_cons_zero, List.set_cons_succ, cS_some, kS_bl, dS_some, bS_bl, chS_some, len_t, cmp_le, cmp_lt, cmp_gt, cmp_ge, cmp_eqI, cmp_neI, if_true, if_false, Bool.not_true, Bool.not_false, decide_true, decide_false, Bool.false_eq_true, Ret_add, Ret_sub, h0, h8])
    rw [x_ret]
    simp only [w_bltC, s_seq, w_var, vS_some, List.getElem?_cons_zero, seqW, sS_some]
    refine Ret_dmap (f := fun _ => .bl true) (ds := l.map fun c => D.str [c]) (by rw [List.length_map]; omega) (fun d hd => ?_) ?_ rfl rfl
    · obtain ⟨ch, hch, rfl⟩ := List.mem_map.mp hd
      refine ⟨_, rfl, ?_⟩
      (simp only [t_or, t_and, t_not, t_isi, t_cmp, t_chn, t_call, t_idx, t_blt, t_var, t_lit, t_isN, t_isB, w_isB, w_isN, w_not, w_isi, w_cmp, w_chn, w_call, w_cons, w_nil, w_idx, w_var, w_lit, w_bin, w_neg, nS_int, w_slc, w_so, w_no, w_tup, w_blt_var, w_blt_idx, w_blt_lit, w_blt_call, w_blt_slc, w_blt_bin, vS_some, List.getElem?_cons_zero, List.getElem?_cons_succ, List.set_cons_zero, List.set_cons_succ, cS_some, kS_bl, dS_some, bS_bl, chS_some, len_t, cmp_le, cmp_lt, cmp_gt, cmp_ge, cmp_eqI, cmp_neI, if_true, if_false, Bool.not_true, Bool.not_false, decide_true, decide_false, Bool.false_eq_true, Ret_add, Ret_sub, isin_sign])
      refine ⟨?_, trivial⟩
      have h1 := l3 ch hch
      have : ∀ k : Fin 26, small.contains (97 + k.val) = true := by decide
      have := this ⟨ch - 97, by omega⟩
      simp only at this
      rw [show 97 + (ch - 97) = ch by omega] at this
      rw [this]
    · rw [show ((l.map fun c => D.str [c]).map fun _ => D.bl true) = (l.map fun _ => true).map D.bl by simp]
      simp only [bltL, allBls_map, Ret_ok]
      rw [leave_id, Ret_ok]
      exact ⟨by simp [isTx], rfl⟩
  · have e1 : isiM (.int n) .str M = some false := rfl
    (simp only [t_or, t_and, t_not, t_isi, t_cmp, t_chn, t_call, t_idx, t_blt, t_var, t_lit, t_isN, t_isB, w_isB, w_isN, w_not, w_isi, w_cmp, w_chn, w_call, w_cons, w_nil, w_idx, w_var, w_lit, w_bin, w_neg, nS_int, w_slc, w_so, w_no, w_tup, w_blt_var, w_blt_idx, w_blt_lit, w_blt_call, w_blt_slc, w_blt_bin, vS_some, List.getElem?_cons_zero, List.getElem?_cons_succ, List.set_cons_zero, List.set_cons_succ, cS_some, kS_bl, dS_some, bS_bl, chS_some, len_t, cmp_le, cmp_lt, cmp_gt, cmp_ge, cmp_eqI, cmp_neI, if_true, if_false, Bool.not_true, Bool.not_false, decide_true, decide_false, Bool.false_eq_true, Ret_add, Ret_sub, e1])
    rw [leave_id, Ret_ok]
    exact ⟨rfl, rfl⟩
def p_istup (cl cn : Nat) : S :=
  (.seq (.ifS (.orE (.notE (.isi (.var 0) [.tuple])) (.cmp .lt (.blt .len (.var 0)) (.var 1))) (.ret (.lit (.bl false))) .pas) (.ret (.blt .all (.comp (.orE (.call cl (.cons (.var 2) .nil)) (.andE (.call cn (.cons (.var 2) .nil)) (.cmp .ge (.var 2) (.lit (.int 0))))) (.nm 2) (.seq (.var 0)) .nil))))
def TupOk (prg : List Df) (i : Nat) : Prop := ∀ (k n : Nat) (v : List D) (M : Hm), Sgs v → n ≤ v.length → v.length ≤ 1000 → Ret (callAt prg (k + 3) i [.tup v, .int n] M) fun d M' => d = .bl true ∧ M' = M
theorem tup_ok {prg : List Df} {i cl cn : Nat} (hi : prg[i]? = some ⟨3, 2, p_istup cl cn⟩) (hl : LetOk prg cl) (hn : NumOk prg cn) : TupOk prg i := by
  intro k n v M hv hnl hlen
  refine Ret_call hi (Ret_run rfl ?_)
  (simp only [p_istup, List.map_cons, List.map_nil, List.length_cons, List.length_nil, List.replicate, List.cons_append, List.nil_append, Nat.reduceAdd, Nat.reduceSub])
  rw [x_guard]
  have lm : lim = 16777216 := rfl
  have e1 : isiM (.tup v) .tuple M = some true := rfl
  have e2 : ¬ (v.length : Int) < (n : Int) := by omega
  (simp only [t_or, t_and, t_not, t_isi, t_cmp, t_chn, t_call, t_idx, t_blt, t_var, t_lit, t_isN, t_isB, w_isB, w_isN, w_not, w_isi, w_cmp, w_chn, w_call, w_cons, w_nil, w_idx, w_var, w_lit, w_bin, w_neg, nS_int, w_slc, w_so, w_no, w_tup, w_blt_var, w_blt_idx, w_blt_lit, w_blt_call, w_blt_slc, w_blt_bin, vS_some, List.getElem?_cons_zero, List.getElem?_cons_succ, List.set_cons_zero, List.set_cons_succ, cS_some, kS_bl, dS_some, bS_bl, chS_some, len_t, cmp_le, cmp_lt, cmp_gt, cmp_ge, cmp_eqI, cmp_neI, if_true, if_false, Bool.not_true, Bool.not_false, decide_true, decide_false, Bool.false_eq_true, Ret_add, Ret_sub, e1, e2])
  rw [x_ret]
  simp only [w_bltC, s_seq, w_var, vS_some, List.getElem?_cons_zero, seqW, sS_some]
  refine Ret_dmap (f := fun _ => .bl true) (ds := v) (by omega) (fun d hd => ⟨_, set_nm, ?_⟩) ?_ rfl rfl
  · rw [w_or, w_call, w_cons]
    simp only [w_nil, w_var, vS_some, List.set_cons_succ, List.set_cons_zero, List.getElem?_cons_zero, List.getElem?_cons_succ]
    refine (hl k d M (hv d hd)).mono fun x M' h => ?_
    obtain ⟨rfl, rfl⟩ := h
    simp only [truM, tS2_some]
    rcases hv d hd with ⟨l, rfl, _⟩ | ⟨j, rfl, j0, j1⟩
    · simp only [isTx, if_true]
      exact ⟨trivial, trivial⟩
    · simp only [isTx, Bool.false_eq_true, if_false]
      rw [w_and, w_call, w_cons]
      simp only [w_nil, w_var, vS_some, List.getElem?_cons_zero, List.getElem?_cons_succ]
      refine (hn (k + 1) 0 M' _ _ (.int j)).mono fun x M2 h => ?_
      obtain ⟨rfl, rfl⟩ := h
      simp only [truM, tS2_some, isNum, if_true]
      (simp only [t_or, t_and, t_not, t_isi, t_cmp, t_chn, t_call, t_idx, t_blt, t_var, t_lit, t_isN, t_isB, w_isB, w_isN, w_not, w_isi, w_cmp, w_chn, w_call, w_cons, w_nil, w_idx, w_var, w_lit, w_bin, w_neg, nS_int, w_slc, w_so, w_no, w_tup, w_blt_var, w_blt_idx, w_blt_lit, w_blt_call, w_blt_slc, w_blt_bin, vS_some, List.getElem?_cons_zero, List.getElem?_cons_succ, List.set_cons_zero, List.set_cons_succ, cS_some, kS_bl, dS_some, bS_bl, chS_some, len_t, cmp_le, cmp_lt, cmp_gt, cmp_ge, cmp_eqI, cmp_neI, if_true, if_false, Bool.not_true, Bool.not_false, decide_true, decide_false, Bool.false_eq_true, Ret_add, Ret_sub, show decide (j ≥ 0) = true from decide_eq_true j0])
      simp [j0]
  · rw [show (v.map fun _ => D.bl true) = (v.map fun _ => true).map D.bl by simp]
    simp only [bltL, allBls_map, Ret_ok]
    rw [leave_id, Ret_ok]
    exact ⟨by simp, rfl⟩
abbrev sizesC : List (List Nat × D) := [([102, 101, 119], (.int 1)), ([114, 105, 103, 104, 116], (.int 2)), ([108, 101, 102, 116], (.int 2)), ([98, 111, 116, 104], (.int 3)), ([114, 111, 117, 110, 100], (.int 1)), ([101, 118, 101, 110], (.int 1))]
def p_shaped (ct : Nat) : S :=
  (.seq (.ifS (.orE (.notE (.isi (.var 0) [.tuple])) (.orE (.cmp .eq (.var 0) (.tup .nil)) (.orE (.notE (.isi (.idx (.var 0) (.lit (.int 0))) [.str])) (.kin sizesC (.idx (.var 0) (.lit (.int 0))) true)))) (.ret (.lit (.bl false))) .pas) (.seq (.setS 2 3 (.var 0)) (.seq (.ifS (.cmp .ne (.blt .len (.var 3)) (.kix sizesC (.var 2))) (.ret (.lit (.bl false))) .pas) (.seq (.set 1 (.get (.dct (.cons (.lit (.str [102, 101, 119])) (.cons (.lst (.cons (.lit (.int 2)) .nil)) (.cons (.lit (.str [114, 105, 103, 104, 116])) (.cons (.lst (.cons (.lit (.int 0)) (.cons (.lit (.int 1)) .nil))) (.cons (.lit (.str [108, 101, 102, 116])) (.cons (.lst (.cons (.lit (.int 1)) (.cons (.lit (.int 0)) .nil))) (.cons (.lit (.str [98, 111, 116, 104])) (.cons (.lst (.cons (.lit (.int 1)) (.cons (.lit (.int 0)) (.cons (.lit (.int 1)) .nil)))) .nil))))))))) (.var 2) (.lst (.cons (.lit (.int 1)) .nil)))) (.ret (.blt .all (.comp (.call ct (.cons (.var 4) (.cons (.var 5) .nil))) (.tp [4, 5]) (.zip (.var 3) (.var 1)) .nil)))))))
/-- the least lengths of a piece's parts -/
def leastsOf (a : List Nat) : List Nat := if a = [114, 105, 103, 104, 116] then [0, 1] else if a = [108, 101, 102, 116] then [1, 0] else if a = [98, 111, 116, 104] then [1, 0, 1] else [1]
/-- pieces: a word, its parts -/
structure Pc (a : List Nat) (ps : List (List D)) : Prop where
  wd : a = [114, 105, 103, 104, 116] ∨ a = [98, 111, 116, 104] ∨ a = [114, 111, 117, 110, 100]
  ln : ps.length = (leastsOf a).length
  sg : ∀ p ∈ ps, Sgs p
  le : ∀ (i : Nat) (p : List D) (n : Nat), ps[i]? = some p → (leastsOf a)[i]? = some n → n ≤ p.length
  mx : ∀ p ∈ ps, p.length ≤ 1000
theorem piece_pl {a : List Nat} {ps : List (List D)} (h : Pc a ps) : (D.tup (.str a :: ps.map .tup)).pl = true ∧ (D.tup (.str a :: ps.map .tup)).dep ≤ 64 := by
  have h1 : (D.str a).pl = true := by rcases h.wd with rfl | rfl | rfl <;> decide +kernel
  have h2 : D.pls (ps.map .tup) = true := pls_all.mpr fun d hd => by
    obtain ⟨p, hp, rfl⟩ := List.mem_map.mp hd
    simp only [D.pl]
    exact (row_of (h.sg p hp)).pl
  have h3 : D.deps (ps.map .tup) ≤ 41 := deps_le.mpr fun d hd => by
    obtain ⟨p, hp, rfl⟩ := List.mem_map.mp hd
    simp only [D.dep]
    have := (row_of (h.sg p hp)).dp
    omega
  refine ⟨by simp only [D.pl, D.pls, Bool.and_eq_true]; exact ⟨by simpa only [D.pl] using h1, h2⟩, ?_⟩
  simp only [D.dep, D.deps]
  omega
theorem zipD_len : ∀ xs ys : List D, (zipD xs ys).length ≤ xs.length
  | [], _ => Nat.le_refl _
  | _ :: _, [] => Nat.zero_le _
  | x :: xs, y :: ys => by rw [zipD, List.length_cons, List.length_cons]; exact Nat.succ_le_succ (zipD_len xs ys)
theorem zipD_mem : ∀ {xs ys : List D} {d : D}, d ∈ zipD xs ys → ∃ (j : Nat) (x y : D), xs[j]? = some x ∧ ys[j]? = some y ∧ d = .tup [x, y]
  | [], _, _, h => by simp [zipD] at h
  | _ :: _, [], _, h => by simp [zipD] at h
  | x :: xs, y :: ys, d, h => by
    rw [zipD] at h
    rcases List.mem_cons.mp
        h with rfl | h
    · exact ⟨0, x, y, rfl, rfl, rfl⟩
    · obtain ⟨j, x', y', h1, h2, h3⟩ := zipD_mem h
      exact ⟨j + 1, x', y', h1, h2, h3⟩
def ShapedOk (prg : List Df) (i : Nat) : Prop := ∀ (k : Nat) (a : List Nat) (ps : List (List D)) (M : Hm), Pc a ps → Ret (callAt prg (k + 4) i [.tup (.str a :: ps.map .tup)] M) fun d M' => d = .bl true ∧ M' = M
theorem shaped_ok {prg : List Df} {i ct : Nat} (hi : prg[i]? = some ⟨6, 1, p_shaped ct⟩) (ht : TupOk prg ct) : ShapedOk prg i := by
  intro k a ps M hp
  refine Ret_call hi (Ret_run rfl ?_)
  (simp only [p_shaped, List.map_cons, List.map_nil, List.length_cons, List.length_nil, List.replicate, List.cons_append, List.nil_append, Nat.reduceAdd, Nat.reduceSub])
  have lm : lim = 16777216 := rfl
  obtain ⟨hpl, hdp⟩ := piece_pl hp
  have e1 : isiM (.tup (.str a :: ps.map .tup)) .tuple M = some true := rfl
  have e2 : isiM (.str a) .str M = some true := rfl
  have e3 : cmpM .eq (.tup (.str a :: ps.map .tup)) (.tup []) M = some false := by
    rw [cmp_eq (eq_pl hpl rfl hdp (by decide))]
    simp
  have e4 : idxM (.tup (.str a :: ps.map .tup)) (.int 0) M = some (.str a) := idx_ix 0 rfl
  have e5 : kixM sizesC (.str a) = some (.int (leastsOf a).length) := by rcases hp.wd with rfl | rfl | rfl <;> decide
  rw [x_guard]
  simp only [t_or, t_not, t_isi, w_isi, w_var, vS_some, List.getElem?_cons_zero, e1, cS_some, kS_bl, Bool.not_true, Bool.false_eq_true, if_false, t_cmp, w_cmp, w_tup, w_nil, Ret_newT, e3, w_idx, w_lit, e4, dS_some, e2, t_kin, w_kin, e5, kxS_some]
  refine ⟨by decide, ?_⟩
  rw [x_seq, x_setS, w_var]
  simp only [vS_some, List.getElem?_cons_zero, stS_tup, List.set_cons_succ, List.set_cons_zero]
  have hM1 : (M ++ [MO.lst (ps.map .tup)])[M.length]? = some (.lst (ps.map .tup)) := last_at
  have e6 : ∀ Φ : D → Hm → Prop, Ret (bltM .len (.ref M.length) (M ++ [MO.lst (ps.map .tup)])) Φ ↔ Φ (.int ps.length) (M ++ [MO.lst (ps.map .tup)]) := fun Φ => by
    rw [len_lst hM1, List.length_map]
  rw [x_guard]
  simp only [t_cmp, w_cmp, w_blt_var, w_kix, w_var, vS_some, List.getElem?_cons_zero, List.getElem?_cons_succ, e6, e5, kxS_some, cmp_neI, hp.ln, decide_true, Bool.not_true, cS_some, kS_bl, Bool.false_eq_true, if_false]
  rw [x_seq, x_set, w_get, w_dct]
  simp only [w_cons, w_nil, w_lit, w_lst, Ret_newL, w_var, vS_some, List.getElem?_cons_zero, List.getElem?_cons_succ]
  refine ⟨by decide, by decide, by decide, by decide, ?_⟩
  simp only [List.length_append, List.length_singleton, List.append_assoc, List.cons_append, List.nil_append]
  have dd : ∀ (b1 b2 b3 b4 : D) (N : Hm) (Φ : D → Hm → Prop), Ret (dctD [.str [102, 101, 119], b1, .str [114, 105, 103, 104, 116], b2, .str [108, 101, 102, 116], b3, .str [98, 111, 116, 104], b4] N) Φ ↔
      Φ (.ref N.length) (N ++ [.dct [(.str [102, 101, 119], b1), (.str [114, 105, 103, 104, 116], b2), (.str [108, 101, 102, 116], b3), (.str [98, 111, 116, 104], b4)]]) := fun b1 b2 b3 b4 N Φ => by
    exact Iff.rfl
  rw [dd]
  refine ⟨?_, by decide, ?_⟩
  · simp [isDct]
  have gg : ∀ (b1 b2 b3 b4 z : D) (d : Nat) (N : Hm) (Φ : D → Hm → Prop), N[d]? = some (.dct [(.str [102, 101, 119], b1), (.str [114, 105, 103, 104, 116], b2), (.str [108, 101, 102, 116], b3), (.str [98, 111, 116, 104], b4)]) →
      (Ret (getM (.ref d) (.str a) z N) Φ ↔ Φ (if a = [114, 105, 103, 104, 116] then b2 else if a = [98, 111, 116, 104] then b4 else z) N) := fun b1 b2 b3 b4 z d N Φ h => by
    rcases hp.wd with rfl | rfl | rfl <;> (unfold getM; simp only [dctM, h]; exact Iff.rfl)
  simp only [List.length_append, List.append_assoc, List.cons_append, List.nil_append, List.length_cons, List.length_nil, Nat.reduceAdd]
  rw [gg _ _ _ _ _ _ _ _ (by rw [List.getElem?_append_right (by omega), Nat.add_sub_cancel_left]; rfl)]
  have fin : ∀ (r : Nat) (Z : Hm), (M ++ Z)[M.length]? = some (.lst (ps.map .tup)) → (M ++ Z)[r]? = some (.lst ((leastsOf a).map fun (n : Nat) => D.int (n : Int))) →
      Wp (ex (callAt prg (k + 3)) (.ret (.blt .all (.comp (.call ct (.cons (.var 4) (.cons (.var 5) .nil))) (.tp [4, 5]) (.zip (.var 3) (.var 1)) .nil))) [some (.tup (.str a :: ps.map .tup)), some (.ref r), some (.str a), some (.ref M.length), none, none] (M ++ Z))
        (fun x M1 => Ret (leave M .non M1) fun d M' => d = .bl true ∧ M' = M) (fun d M1 => Ret (leave M d M1) fun d M' => d = .bl true ∧ M' = M) (fun _ _ => False) (fun _ _ => False) := fun r Z h1 h2 => by
    rw [x_ret, w_bltC, s_zip]
    simp only [w_var, vS_some, List.getElem?_cons_zero, List.getElem?_cons_succ]
    have hz : zipW (M ++ Z) (.ref M.length) (.ref r) = some ⟨zipD (ps.map .tup) ((leastsOf a).map fun (n : Nat) => D.int (n : Int)), [(M.length, .lst (ps.map .tup)), (r, .lst ((leastsOf a).map fun (n : Nat) => D.int (n : Int)))]⟩ := by simp only [zipW, h1, h2]
    rw [hz, sS_some]
    have lz : (zipD (ps.map .tup) ((leastsOf a).map fun (n : Nat) => D.int (n : Int))).length ≤ 3 := by
      refine Nat.le_trans (zipD_len _ _) ?_
      rw [List.length_map, hp.ln]
      rcases hp.wd with rfl | rfl | rfl <;> decide
    refine Ret_dmap (f := fun _ => .bl true) (ds := zipD (ps.map .tup) ((leastsOf a).map fun (n : Nat) => D.int (n : Int))) (by omega) (fun d hd => ?_) ?_ rfl (by simp [Wk.ok, h1, h2])
    · obtain ⟨j, x, y, hx, hy, rfl⟩ := zipD_mem hd
      rw [List.getElem?_map, Option.map_eq_some_iff] at hx hy
      obtain ⟨p, hx, rfl⟩ := hx
      obtain ⟨n, hy, rfl⟩ := hy
      refine ⟨_, rfl, ?_⟩
      rw [w_call, w_cons]
      have hpm := List.mem_of_getElem? hx
      simp only [w_cons, w_nil, w_var, vS_some, List.zip, List.zipWith, List.foldl, List.set_cons_zero, List.set_cons_succ, List.getElem?_cons_zero, List.getElem?_cons_succ]
      exact (ht k n p (M ++ Z) (hp.sg p hpm) (hp.le j p n hx hy) (hp.mx p hpm)).mono fun d M' h => h
    · rw [show ∀ l : List D, (l.map fun _ => D.bl true) = (l.map fun _ => true).map D.bl from fun l => by simp]
      simp only [bltL, allBls_map, Ret_ok]
      rw [leave_drop rfl, Ret_ok]
      exact ⟨by simp, rfl⟩
  rw [List.set_cons_succ, List.set_cons_zero]
  have g : ∀ (Z : Hm) (n : Nat), (M ++ Z)[M.length + n]? = Z[n]? := fun Z n => by rw [List.getElem?_append_right (by omega), Nat.add_sub_cancel_left]
  rcases hp.wd with rfl | rfl | rfl
  · rw [if_pos rfl]
    exact fin _ _ (g _ 0) (g _ 2)
  · rw [if_neg (by decide), if_pos rfl]
    exact fin _ _ (g _ 0) (g _ 4)
  · rw [if_neg (by decide), if_neg (by decide)]
    exact fin _ _ (g _ 0) (g _ 6)
def p_piece (cs cr cl cb : Nat) : S :=
  (.seq (.ifS (.notE (.call cs (.cons (.var 0) .nil))) (.ret (.lit (.bl false))) .pas) (.seq (.setS 1 3 (.var 0)) (.seq (.ifS (.cmp .eq (.var 1) (.lit (.str [114, 105, 103, 104, 116]))) (.ret (.cmp .eq (.call cr (.cons (.idx (.var 3) (.lit (.int 0))) (.cons (.idx (.var 3) (.lit (.int 1))) .nil))) (.var 0))) .pas) (.seq (.ifS (.cmp .eq (.var 1) (.lit (.str [108, 101, 102, 116]))) (.ret (.cmp .eq (.call cl (.cons (.idx (.var 3) (.lit (.int 0))) (.cons (.idx (.var 3) (.lit (.int 1))) .nil))) (.var 0))) .pas) (.seq (.ifS (.cmp .eq (.var 1) (.lit (.str [98, 111, 116, 104]))) (.ret (.cmp .eq (.call cb (.cons (.idx (.var 3) (.lit (.int 0))) (.cons (.idx (.var 3) (.lit (.int 1))) (.cons (.idx (.var 3) (.lit (.int 2))) .nil)))) (.var 0))) .pas) (.seq (.ifS (.cmp .eq (.var 1) (.lit (.str [114, 111, 117, 110, 100]))) (.ret (.cmp .eq (.call cb (.cons (.idx (.var 3) (.lit (.int 0))) (.cons (.tup .nil) (.cons (.idx (.var 3) (.lit (.int 0))) .nil)))) (.var 0))) .pas) (.seq (.ifS (.cmp .eq (.var 1) (.lit (.str [101, 118, 101, 110]))) (.seq (.set 2 (.comp (.blt .repr (.var 4)) (.nm 4) (.seq (.idx (.var 3) (.lit (.int 0)))) .nil)) (.ret (.cmp .eq (.var 2) (.blt .sorted nope)))) .pas) (.ret (.lit (.bl true))))))))))
theorem idx_li {M : Hm} {a : Nat} {ds : List D} (h : M[a]? = some (.lst ds)) (n : Nat) {x : D} (e : ds[n]? = some x) : idxM (.ref a) (.int ((n : Nat) : Int)) M = some x := by
  rw [idx_lst h]
  unfold L2.atI
  rw [ix_lit n (List.getElem?_eq_some_iff.mp e).1]
  exact e
theorem piece_start {prg : List Df} {i cs cr cl cb : Nat} (hi : prg[i]? = some ⟨6, 1, p_piece cs cr cl cb⟩) (hs : ShapedOk prg cs) (k : Nat) (a : List Nat) (ps : List (List D)) (M : Hm) (hp : Pc a ps)
    (h : ∀ s, p_piece cs cr cl cb = .seq (.ifS (.notE (.call cs (.cons (.var 0) .nil))) (.ret (.lit (.bl false))) .pas) (.seq (.setS 1 3 (.var 0)) s) → Wp (ex (callAt prg (k + 4)) s [some (.tup (.str a :: ps.map .tup)), some (.str a), none, some (.ref M.length), none, none] (M ++ [.lst (ps.map .tup)]))
      (fun x M1 => Ret (leave M .non M1) fun d M' => d = .bl true ∧ M' = M) (fun d M1 => Ret (leave M d M1) fun d M' => d = .bl true ∧ M' = M) (fun _ _ => False) (fun _ _ => False)) :
    Ret (callAt prg (k + 5) i [.tup (.str a :: ps.map .tup)] M) fun d M' => d = .bl true ∧ M' = M := by
  refine Ret_call hi (Ret_run rfl ?_)
  have h := h _ rfl
  (simp only [p_piece, List.map_cons, List.map_nil, List.length_cons, List.length_nil, List.replicate, List.cons_append, List.nil_append, Nat.reduceAdd, Nat.reduceSub])
  rw [x_guard, t_not, t_call, w_call, w_cons]
  simp only [w_nil, w_var, vS_some, List.getElem?_cons_zero]
  refine (hs k a ps M hp).mono fun d M' z => ?_
  obtain ⟨rfl, rfl⟩ := z
  simp only [kS_bl, Bool.not_true, Bool.false_eq_true, if_false]
  rw [x_seq, x_setS, w_var]
  simp only [vS_some, List.getElem?_cons_zero, stS_tup, List.set_cons_succ, List.set_cons_zero]
  exact h
theorem streq {a b : List Nat} {M : Hm} : cmpM .eq (.str a) (.str b) M = some (a == b) := by simp [cmpM, eqM, D.atom, D.peq]
theorem piece_right {prg : List Df} {i cs cr cl cb cg : Nat} (hi : prg[i]? = some ⟨6, 1, p_piece cs cr cl cb⟩) (hs : ShapedOk prg cs) (hr : prg[cr]? = some ⟨2, 2, p_right cg⟩) (hg : RightedOk prg cg) (k : Nat) (p1 p2 : List D) (M : Hm)
    (s1 : Sgs p1) (s2 : Sgs p2) (c : Can p1 p2) (l1 : p1.length ≤ 1000) (l2 : p2.length ≤ 1000) : Ret (callAt prg (k + 5) i [.tup [rightS, .tup p1, .tup p2]] M) fun d M' => d = .bl true ∧ M' = M := by
  have hp : Pc [114, 105, 103, 104, 116] [p1, p2] := ⟨.inl rfl, rfl, by simp; exact ⟨s1, s2⟩, fun i p n h1 h2 => by
    match i, h1, h2 with
    | 0, h1, h2 => cases h1; cases h2; exact Nat.zero_le _
    | 1, h1, h2 => cases h1; cases h2; exact c.1.pos, by simp; exact ⟨l1, l2⟩⟩
  refine piece_start hi hs k [114, 105, 103, 104, 116] [p1, p2] M hp fun s e => ?_
  cases e
  have hM : (M ++ [MO.lst ([p1, p2].map D.tup)])[M.length]? = some (.lst ([p1, p2].map D.tup)) := last_at
  obtain ⟨hpl, hdp⟩ := piece_pl hp
  rw [x_guard]
  simp only [t_cmp, w_cmp, w_var, w_lit, vS_some, List.getElem?_cons_zero, List.getElem?_cons_succ, streq, cS_some, kS_bl]
  rw [if_pos (by decide), w_call, w_cons]
  simp only [w_cons, w_nil, w_idx, w_var, w_lit, vS_some, List.getElem?_cons_zero, List.getElem?_cons_succ]
  have i0 : idxM (.ref M.length) (.int 0) (M ++ [MO.lst ([p1, p2].map D.tup)]) = some (.tup p1) := idx_li hM 0 rfl
  have i1 : idxM (.ref M.length) (.int 1) (M ++ [MO.lst ([p1, p2].map D.tup)]) = some (.tup p2) := idx_li hM 1 rfl
  simp only [i0, i1, dS_some]
  refine (right_ok hr hg (k + 1) p1 p2 _ (row_of s1) (row_of s2) c.1.1 (by omega) (by omega)).mono fun d M' z => ?_
  obtain ⟨rfl, rfl⟩ := z
  have ce : ∀ N, cmpM .eq (.tup [rightS, .tup p1, .tup p2]) (.tup (.str [114, 105, 103, 104, 116] :: [p1, p2].map .tup)) N = some true := fun N => (cmp_eq (eq_pl hpl hpl hdp hdp)).trans (by simp)
  rw [c.righted, ce, cS_some, leave_drop rfl, Ret_ok]
  exact ⟨rfl, rfl⟩
theorem piece_bothp {prg : List Df} {i cs cr cl cb : Nat} (hi : prg[i]? = some ⟨6, 1, p_piece cs cr cl cb⟩) (hs : ShapedOk prg cs) (hb : BothpOk prg cb) (k : Nat) (v u w : List D) (d : D) (M : Hm)
    (s1 : Sgs v) (s2 : Sgs u) (s3 : Sgs w) (nv : v ≠ []) (nw : w ≠ []) (l1 : v.length ≤ 1000) (l2 : u.length ≤ 1000) (l3 : w.length ≤ 1000) (h : IsB v u w d) : Ret (callAt prg (k + 5) i [d] M) fun d M' => d = .bl true ∧ M' = M := by
  rcases id h with ⟨t, v1, u1, w1, B, rfl⟩ | ⟨t, v1, r, B, L, rfl⟩
  · have z1 : Sgs v1 := fun d hd => s1 d (B.mv d hd)
    have z2 : Sgs u1 := fun d hd => s2 d (B.mu d hd)
    have z3 : Sgs w1 := fun d hd => (B.mw d hd).elim (s2 d) (s3 d)
    have n1 := B.nv
    have n2 := B.nu
    have n3 := B.nw
    have hp : Pc [98, 111, 116, 104] [v1, u1, w1] := ⟨.inr (.inl rfl), rfl, by simp; exact ⟨z1, z2, z3⟩, fun i p n h1 h2 => by
      match i, h1, h2 with
      | 0, h1, h2 => cases h1; cases h2; exact B.pv.pos
      | 1, h1, h2 => cases h1; cases h2; exact Nat.zero_le _
      | 2, h1, h2 => cases h1; cases h2; exact B.cu.1.pos, by simp; exact ⟨by omega, by omega, by omega⟩⟩
    refine piece_start hi hs k [98, 111, 116, 104] [v1, u1, w1] M hp fun s e => ?_
    cases e
    have hM : (M ++ [MO.lst ([v1, u1, w1].map D.tup)])[M.length]? = some (.lst ([v1, u1, w1].map D.tup)) := last_at
    obtain ⟨hpl, hdp⟩ := piece_pl hp
    rw [x_guard]
    simp only [t_cmp, w_cmp, w_var, w_lit, vS_some, List.getElem?_cons_zero, List.getElem?_cons_succ, streq, cS_some, kS_bl]
    rw [if_neg (by decide), x_guard]
    simp only [t_cmp, w_cmp, w_var, w_lit, vS_some, List.getElem?_cons_zero, List.getElem?_cons_succ, streq, cS_some, kS_bl]
    rw [if_neg (by decide), x_guard]
    simp only [t_cmp, w_cmp, w_var, w_lit, vS_some, List.getElem?_cons_zero, List.getElem?_cons_succ, streq, cS_some, kS_bl]
    rw [if_pos (by decide), w_call, w_cons]
    simp only [w_cons, w_nil, w_idx, w_var, w_lit, vS_some, List.getElem?_cons_zero, List.getElem?_cons_succ]
    have i0 : idxM (.ref M.length) (.int 0) (M ++ [MO.lst ([v1, u1, w1].map D.tup)]) = some (.tup v1) := idx_li hM 0 rfl
    have i1 : idxM (.ref M.length) (.int 1) (M ++ [MO.lst ([v1, u1, w1].map D.tup)]) = some (.tup u1) := idx_li hM 1 rfl
    have i2 : idxM (.ref M.length) (.int 2) (M ++ [MO.lst ([v1, u1, w1].map D.tup)]) = some (.tup w1) := idx_li hM 2 rfl
    simp only [i0, i1, i2, dS_some]
    refine (hb k v1 u1 w1 _ z1 z2 z3 B.pv.1 B.cu.1.1 (by omega) (by omega) (by omega)).mono fun d M' z => ?_
    obtain ⟨hd, rfl⟩ := z
    cases (B.again nv nw).one z1 s1 hd h
    have ce : ∀ N, cmpM .eq (.tup [bothS, .tup v1, .tup u1, .tup w1]) (.tup (.str [98, 111, 116, 104] :: [v1, u1, w1].map .tup)) N = some true := fun N => (cmp_eq (eq_pl hpl hpl hdp hdp)).trans (by simp)
    rw [ce, cS_some, leave_drop rfl, Ret_ok]
    exact ⟨rfl, rfl⟩
  · obtain ⟨b, hb1, rfl, _⟩ := id L
    have n1 := B.nv
    have zr : Sgs (rotn b v1) := fun d hd => s1 d (B.mv d (rotn_mem d hd))
    have pr := B.pv.rotn (Nat.le_of_lt hb1)
    have lr : (rotn b v1).length = v1.length := rotn_len
    have T := B.again (b := b) (x := []) nv nw hb1 fun i => gon_nil i
    generalize hrr : rotn b v1 = r at *
    have hp : Pc [114, 111, 117, 110, 100] [r] := ⟨.inr (.inr rfl), rfl, by simp; exact zr, fun i p n h1 h2 => by
      match i, h1, h2 with
      | 0, h1, h2 => cases h1; cases h2; exact pr.pos, by simp; omega⟩
    refine piece_start hi hs k [114, 111, 117, 110, 100] [r] M hp fun s e => ?_
    cases e
    have hM : (M ++ [MO.lst ([r].map D.tup)])[M.length]? = some (.lst ([r].map D.tup)) := last_at
    obtain ⟨hpl, hdp⟩ := piece_pl hp
    rw [x_guard]
    simp only [t_cmp, w_cmp, w_var, w_lit, vS_some, List.getElem?_cons_zero, List.getElem?_cons_succ, streq, cS_some, kS_bl]
    rw [if_neg (by decide), x_guard]
    simp only [t_cmp, w_cmp, w_var, w_lit, vS_some, List.getElem?_cons_zero, List.getElem?_cons_succ, streq, cS_some, kS_bl]
    rw [if_neg (by decide), x_guard]
    simp only [t_cmp, w_cmp, w_var, w_lit, vS_some, List.getElem?_cons_zero, List.getElem?_cons_succ, streq, cS_some, kS_bl]
    rw [if_neg (by decide), x_guard]
    simp only [t_cmp, w_cmp, w_var, w_lit, vS_some, List.getElem?_cons_zero, List.getElem?_cons_succ, streq, cS_some, kS_bl]
    rw [if_pos (by decide), w_call, w_cons]
    simp only [w_cons, w_nil, w_idx, w_tup, w_var, w_lit, vS_some, List.getElem?_cons_zero, List.getElem?_cons_succ]
    have i0 : idxM (.ref M.length) (.int 0) (M ++ [MO.lst ([r].map D.tup)]) = some (.tup r) := idx_li hM 0 rfl
    simp only [i0, dS_some, Ret_newT]
    refine ⟨by decide, ?_⟩
    refine (hb k r [] r _ zr (fun d hd => by cases hd) zr pr.1 pr.1 (by omega) (by simp) (by omega)).mono fun d M' z => ?_
    obtain ⟨hd, rfl⟩ := z
    cases T.one zr s1 hd h
    have ce : ∀ N, cmpM .eq (.tup [roundS, .tup r]) (.tup (.str [114, 111, 117, 110, 100] :: [r].map .tup)) N = some true := fun N => (cmp_eq (eq_pl hpl hpl hdp hdp)).trans (by simp)
    rw [ce, cS_some, leave_drop rfl, Ret_ok]
    exact ⟨rfl, rfl⟩
end Mi

/-! Ot: the same row told otherwise. -/
namespace Mi
open PySem
def p_otherwise (t : Nat) : S :=
  (.seq (.set 3 (.call t (.cons (.var 0) (.cons (.bin .add (.bin .mul (.lit (.int 2)) (.blt .len (.var 2))) (.lit (.int 1))) .nil)))) (.seq (.set 4 (.bin .mod (.var 3) (.blt .len (.var 2)))) (.ret (.tup (.cons (.bin .add (.var 1) (.slc (.bin .mul (.var 2) (.lit (.int 3))) .no (.so (.var 3)))) (.cons (.bin .mul (.bin .add (.slc (.var 2) (.so (.var 4)) .no) (.slc (.var 2) .no (.so (.var 4)))) (.bin .add (.lit (.int 1)) (.call t (.cons (.var 0) (.cons (.lit (.int 3)) .nil))))) .nil))))))
def OtherOk (prg : List Df) (i : Nat) : Prop := ∀ (k p c : Nat) (b : Int) (u v : List D) (M : Hm), Pen M p c b → b + 2 < 2 ^ 30 → v ≠ [] → u.length ≤ 100 → v.length ≤ 100 → Sgs u → Sgs v →
  Ret (callAt prg (k + 3) i [.ref p, .tup u, .tup v] M) fun d M' => ∃ q m : Nat, q ≤ 2 * v.length ∧ m ≤ 2 ∧ d = .tup [.tup (u ++ (pow 3 v).take q), .tup (pow (m + 1) (rotn (q % v.length) v))] ∧ Pst p M M' ∧ Pen M' p c (b + 2)
theorem other_ok {prg : List Df} {i t : Nat} (hi : prg[i]? = some ⟨5, 3, p_otherwise t⟩) (ht : TakeOk prg t) : OtherOk prg i := by
  intro k p c b u v M pen hb hne lu lv su sv
  have hp := List.length_pos_iff.mpr hne
  refine Ret_call hi (Ret_run rfl ?_)
  (simp only [p_otherwise, List.map_cons, List.map_nil, List.length_cons, List.length_nil, List.replicate, List.cons_append, List.nil_append, Nat.reduceAdd, Nat.reduceSub])
  have lm : lim = 16777216 := rfl
  have e2 : (2 : Int).natAbs.log2 = 1 := by decide
  have l1 : ((v.length : Int)).natAbs.log2 < 64 := small_log (by omega)
  rw [x_seq, x_set]
  simp only [w_call, w_cons, w_nil, w_var, w_lit, w_bin, w_blt_var, vS_some, List.getElem?_cons_zero, List.getElem?_cons_succ, len_tup, Ret_mul, Ret_add]
  refine ⟨by omega, ?_⟩
  have l2 : (2 * (v.length : Int) + 1).natAbs.log2 < 64 := small_log (by omega)
  refine (ht k p c b _ M pen (by omega) (by omega) (by omega)).mono fun d M1 h => ?_
  obtain ⟨q, o1, rfl, q0, q1, rfl, pen1⟩ := h
  obtain ⟨q, rfl⟩ := Int.eq_ofNat_of_zero_le q0
  rw [List.set_cons_succ, List.set_cons_succ, List.set_cons_succ, List.set_cons_zero, x_seq, x_set]
  simp only [w_bin, w_blt_var, w_var, vS_some, List.getElem?_cons_zero, List.getElem?_cons_succ, len_tup, Ret_mod]
  refine ⟨by omega, ?_⟩
  have em : (q : Int) % (v.length : Int) = ((q % v.length : Nat) : Int) := by rw [Int.natCast_emod]
  have hm := Nat.mod_lt q hp
  rw [em, List.set_cons_succ, List.set_cons_succ, List.set_cons_succ, List.set_cons_succ, List.set_cons_zero, x_ret, w_tup, w_cons]
  simp only [w_bin, w_slc, w_no, w_so, w_var, w_lit, vS_some, List.getElem?_cons_zero, List.getElem?_cons_succ]
  rw [Ret_mulT (by decide) (by decide), show rep (3 : Int) v = pow 3 v from rep_pow (n := 3)]
  refine ⟨by show v.length * 3 ≤ lim; omega, ?_⟩
  rw [oS_int]
  refine ⟨by omega, ?_⟩
  rw [slc_tup, cut_upto (by rw [pow_len]; omega), Ret_addT]
  refine ⟨by rw [List.length_take, pow_len]; omega, ?_⟩
  rw [w_cons]
  simp only [w_bin, w_slc, w_no, w_so, w_call, w_cons, w_nil, w_var, w_lit, vS_some, List.getElem?_cons_zero, List.getElem?_cons_succ, oS_int, slc_tup]
  refine ⟨by omega,
      by omega, ?_⟩
  rw [cut_from (by omega), cut_upto (by omega), Ret_addT]
  refine ⟨by rw [List.length_drop, List.length_take]; omega, ?_⟩
  refine (ht k p c _ 3 _ pen1 (by omega) (by decide) (by decide)).mono fun d M2 h => ?_
  obtain ⟨m, o2, rfl, m0, m1, rfl, pen2⟩ := h
  obtain ⟨m, rfl⟩ := Int.eq_ofNat_of_zero_le m0
  have er : v.drop (q % v.length) ++ v.take (q % v.length) = rotn (q % v.length) v := rfl
  rw [Ret_add, er, Ret_mulT (by omega) (by omega), show (1 : Int) + (m : Int) = ((m + 1 : Nat) : Int) by omega, rep_pow, Int.toNat_natCast]
  have lr : (rotn (q % v.length) v).length = v.length := rotn_len
  have lpw : v.length * (m + 1) ≤ 100 * 3 := Nat.mul_le_mul (by omega) (by omega)
  refine ⟨by rw [lr]; omega, ?_⟩
  rw [Ret_newT]
  refine ⟨by show 2 ≤ lim; decide, ?_⟩
  have st : Pst p M ((M.set p o1).set p o2) := Pst.trans ⟨o1, rfl⟩ ⟨o2, rfl⟩
  rw [leave_eq st.len, Ret_ok]
  exact ⟨q, m, by omega, by omega, rfl, st, pen2.le (by omega)⟩
end Mi

/-! Du: a stretch of the row, looked at sign by sign. -/
namespace Mi
open PySem
theorem mapMo_len {α β : Type} {f : α → Option β} : ∀ {l : List α} {r : List β}, l.mapM f = some r → r.length = l.length
  | [], r, h => by simp at h; subst h; rfl
  | a :: l, r, h => by
    rw [List.mapM_cons] at h
    simp only [Option.bind_eq_bind, Option.bind_eq_some_iff, Option.pure_def, Option.some.injEq] at h
    obtain ⟨b, _, s, h2, rfl⟩ := h
    rw [List.length_cons, List.length_cons, mapMo_len h2]
theorem eq_nl {M : Hm} {i j : Nat} {a : List D} (h1 : M[i]? = some (.lst a)) (h2 : M[j]? = some (.lst [])) : cmpM .eq (.ref i) (.ref j) M = some a.isEmpty := by
  show eqM M (.ref i) (.ref j) = _
  unfold eqM
  simp only [D.atom, Bool.and_self, Bool.false_eq_true, if_false]
  cases h : dataEq M (.ref i) (.ref j) with
  | none => simp only [empM, h1, h2, List.isEmpty_nil, Bool.or_true, if_true, Bool.and_true]
  | some k =>
    simp only [dataEq, pyM, h1, h2, Option.bind_eq_some_iff, Option.map_eq_some_iff] at h
    obtain ⟨p, ⟨ps, e1, rfl⟩, q, ⟨qs, e2, rfl⟩, e3⟩ := h
    simp at e2
    subst e2
    split at e3
    · cases e3
      have := mapMo_len e1
      simp only [PyData.eqv]
      cases ps <;> cases a <;> simp_all [PyData.eqvAll]
    · cases e3
/-- a list of those numbers of a stretch at which something fails -/
theorem Ret_fails {F : Caller} {σ : Sl} {M : Hm} {Φ : List D → Hm → Prop} {i : Nat} {tst : Sl → Hm → R Bool} {lo hi : Int} (hl : (rngD lo hi).length ≤ lim) (ok : Nat → Bool)
    (ht : ∀ j : Nat, lo + j < hi → Ret (tst (σ.set i (some (.int (lo + j)))) M) fun k M' => k = !ok j ∧ M' = M) (hi2 : ∀ j : Nat, lo + j < hi → Ret (ev F (.var i) (σ.set i (some (.int (lo + j)))) M) fun d M' => d = .int (lo + j) ∧ M' = M)
    (h : ∀ acc, (acc = [] ↔ ∀ j : Nat, lo + j < hi → ok j = true) → Φ acc M) : Ret (compW (.nm i) tst (fun σ1 M2 => ev F (.var i) σ1 M2) ⟨rngD lo hi, []⟩ σ M) Φ := by
  refine Ret_comp (fun n acc M' => M' = M ∧ (acc = [] ↔ ∀ j, j < n → ok j = true)) hl ⟨rfl, by simp⟩ ?_ ?_
  · rintro n d acc M' hd ⟨rfl, ha⟩
    obtain ⟨rfl, hlt⟩ := rng_at hd
    refine ⟨wk_free, _, set_nm, ?_⟩
    refine (ht n hlt).mono fun k M2 z => ?_
    obtain ⟨rfl, rfl⟩ := z
    cases hk : ok n with
    | true =>
      simp only [Bool.not_true,
          Bool.false_eq_true, if_false]
      refine ⟨trivial, ha.trans ⟨fun z j hj => ?_, fun z j hj => z j (by omega)⟩⟩
      by_cases e : j = n
      · rw [e]; exact hk
      · exact z j (by omega)
    | false =>
      simp only
          [Bool.not_false, if_true]
      refine (hi2 n hlt).mono fun y M3 z => ?_
      obtain ⟨rfl, rfl⟩ := z
      rw [leave_id, Ret_ok]
      refine ⟨rfl, by simp, fun z => ?_⟩
      have := z n (by omega)
      rw [hk] at this
      cases this
  · rintro acc M' ⟨rfl, ha⟩
    refine ⟨wk_free, h acc (ha.trans ⟨fun z j hj => z j ?_, fun z j hj => z j ?_⟩)⟩
    · rw [rng_len]; omega
    · rw [rng_len] at hj; omega
def p_goes : S :=
  (.ret (.cmp .eq (.comp (.var 3) (.nm 3) (.rng (.var 2) (.var 1)) (.cons (.cmp .ne (.idx (.var 0) (.bin .sub (.bin .sub (.var 1) (.lit (.int 1))) (.var 3))) (.idx (.var 0) (.bin .add (.bin .sub (.bin .sub (.var 1) (.lit (.int 1))) (.var 3)) (.var 2)))) .nil)) (.lst .nil)))
def p_comes : S :=
  (.ret (.cmp .eq (.comp (.var 3) (.nm 3) (.rng (.var 1) (.bin .sub (.blt .len (.var 0)) (.var 2))) (.cons (.cmp .ne (.idx (.var 0) (.var 3)) (.idx (.var 0) (.bin .add (.var 3) (.var 2)))) .nil)) (.lst .nil)))
/-- the signs ahead of a go on by r -/
def Goes (f : List D) (a r : Nat) : Prop := ∀ j, j + r < a → f[j]? = f[j + r]?
def GoesOk (prg : List Df) (i : Nat) : Prop := ∀ (k a r : Nat) (f : List D) (M : Hm), Row0 f → f.length ≤ 100000 → a ≤ f.length → r ≤ 1000 → Ret (callAt prg (k + 1) i [.tup f, .int a, .int r] M) fun d M' => ∃ b : Bool, d = .bl b ∧ (b = true ↔ Goes f a r) ∧ M' = M
def ComesOk (prg : List Df) (i : Nat) : Prop := ∀ (k a r : Nat) (f : List D) (M : Hm), Row0 f → f.length ≤ 100000 → a ≤ f.length → r ≤ 1000 → Ret (callAt prg (k + 1) i [.tup f, .int a, .int r] M) fun d M' => ∃ b : Bool, d = .bl b ∧ (b = true ↔ Per f r a) ∧ M' = M
theorem at_row {f : List D} {n : Nat} (h : n < f.length) (M : Hm) : ∃ x, f[n]? = some x ∧ x ∈ f ∧ idxM (.tup f) (.int ((n : Nat) : Int)) M = some x :=
  ⟨_, List.getElem?_eq_getElem h, List.getElem_mem h, idx_ix n (List.getElem?_eq_getElem h)⟩
theorem cmp_row {f : List D} (hf : Row0 f) {x y : D} (hx : x ∈ f) (hy : y ∈ f) (M : Hm) : cmpM .ne x y M = some (!decide (x = y)) := cmp_ne (eq_one hf hf hx hy)
theorem goes_ok {prg : List Df} {i : Nat} (hi : prg[i]? = some ⟨4, 3, p_goes⟩) : GoesOk prg i := by
  intro k a r f M hf hl ha hr
  refine Ret_call hi (Ret_run rfl ?_)
  (simp only [p_goes, List.map_cons, List.map_nil, List.length_cons, List.length_nil, List.replicate, List.cons_append, List.nil_append, Nat.reduceAdd, Nat.reduceSub])
  have lm : lim = 16777216 := rfl
  rw [x_ret, w_cmp, w_comp, s_rng]
  simp only [w_var, vS_some, List.getElem?_cons_zero, List.getElem?_cons_succ, rS_int]
  refine ⟨by omega, ?_⟩
  refine Ret_fails (by rw [rng_len]; omega) (fun j => decide (f[a - 1 - (r + j)]? = f[a - 1 - (r + j) + r]?)) (fun j hj => ?_) (fun j hj => ?_) fun acc hacc => ?_
  · obtain ⟨x, x1, x2, x3⟩ := at_row (f := f) (n := a - 1 - (r + j)) (by omega) M
    obtain ⟨y, y1, y2, y3⟩ := at_row (f := f) (n := a - 1 - (r + j) + r) (by omega) M
    have e1 : (a : Int) - 1 - ((r : Int) + j) = ((a - 1 - (r + j) : Nat) : Int) := by omega
    have e2 : ((a - 1 - (r + j) : Nat) : Int) + (r : Int) = ((a - 1 - (r + j) + r : Nat) : Int) := by omega
    rw [a_cons, t_cmp, w_cmp]
    simp only [w_idx, w_bin, w_var, w_lit, vS_some, List.set_cons_succ, List.set_cons_zero, List.getElem?_cons_zero, List.getElem?_cons_succ, Ret_sub, Ret_add, e1, e2, x3, y3, dS_some, cmp_row hf x2 y2, cS_some, kS_bl, a_nil]
    rw [x1, y1]
    simp only [Option.some.injEq]
    split
    · rename_i z; exact ⟨z.symm, trivial⟩
    · rename_i z; exact ⟨(Bool.eq_false_iff.mpr z).symm, trivial⟩
  · rw [w_var]
    simp only [vS_some, List.set_cons_succ, List.set_cons_zero, List.getElem?_cons_zero, List.getElem?_cons_succ]
    exact ⟨trivial, trivial⟩
  · rw [w_lst, w_nil, Ret_newL]
    refine ⟨by decide, ?_⟩
    rw [eq_nl (at_app last_at) last_at, cS_some, List.append_assoc, leave_drop rfl, Ret_ok]
    refine ⟨_, rfl, ?_, rfl⟩
    rw [List.isEmpty_iff, hacc]
    constructor
    · intro z j hj
      have := of_decide_eq_true (z (a - 1 - r - j) (by omega))
      rwa [show a - 1 - (r + (a - 1 - r - j)) = j by omega] at this
    · intro z j hj
      refine decide_eq_true (z _ (by omega))
theorem comes_ok {prg : List Df} {i : Nat} (hi : prg[i]? = some ⟨4, 3, p_comes⟩) : ComesOk prg i := by
  intro k a r f M hf hl ha hr
  refine Ret_call hi (Ret_run rfl ?_)
  (simp only [p_comes, List.map_cons, List.map_nil, List.length_cons, List.length_nil, List.replicate, List.cons_append, List.nil_append, Nat.reduceAdd, Nat.reduceSub])
  have lm : lim = 16777216 := rfl
  rw [x_ret, w_cmp, w_comp, s_rng]
  simp only [w_var, w_bin, w_blt_var, len_tup, Ret_sub, vS_some, List.getElem?_cons_zero, List.getElem?_cons_succ, rS_int]
  refine ⟨by omega, ?_⟩
  refine Ret_fails (by rw [rng_len]; omega) (fun j => decide (f[a + j]? = f[a + j + r]?)) (fun j hj => ?_) (fun j hj => ?_) fun acc hacc => ?_
  · obtain ⟨x, x1, x2, x3⟩ := at_row (f := f) (n := a + j) (by omega) M
    obtain ⟨y, y1, y2, y3⟩ := at_row (f := f) (n := a + j + r) (by omega) M
    have e1 : (a : Int) + (j : Int) = ((a + j : Nat) : Int) := by omega
    have e2 : ((a + j : Nat) : Int) + (r : Int) = ((a + j + r : Nat) : Int) := by omega
    rw [a_cons, t_cmp, w_cmp]
    simp only [w_idx, w_bin, w_var, w_lit, vS_some, List.set_cons_succ, List.set_cons_zero, List.getElem?_cons_zero, List.getElem?_cons_succ, Ret_sub, Ret_add, e1, e2, x3, y3, dS_some, cmp_row hf x2 y2, cS_some, kS_bl, a_nil]
    rw [x1, y1]
    simp only [Option.some.injEq]
    split
    · rename_i z; exact ⟨z.symm, trivial⟩
    · rename_i z; exact ⟨(Bool.eq_false_iff.mpr z).symm, trivial⟩
  · rw [w_var]
    simp only [vS_some, List.set_cons_succ, List.set_cons_zero, List.getElem?_cons_zero, List.getElem?_cons_succ]
    exact ⟨trivial, trivial⟩
  · rw [w_lst, w_nil, Ret_newL]
    refine ⟨by decide, ?_⟩
    rw [eq_nl (at_app last_at) last_at, cS_some, List.append_assoc, leave_drop rfl, Ret_ok]
    refine ⟨_, rfl, ?_, rfl⟩
    rw [List.isEmpty_iff, hacc]
    constructor
    · intro z j hj hj2
      have := of_decide_eq_true (z (j - a) (by omega))
      rwa [show a + (j - a) = j by omega] at this
    · intro z j hj
      refine decide_eq_true (z _ (by omega) (by omega))
end Mi

/-! So: the turnings of a round, sorted. -/
namespace Mi
open PySem
theorem leave_pair {M : Hm} {ts : List D} {j : Int} (l : D.lows M.length ts = true) : leave M (.tup [.ref M.length, .int j]) (M ++ [.lst ts]) = ok (.tup [.ref M.length, .int j]) (M ++ [.lst ts]) := by
  unfold leave
  rw [if_neg (by rw [List.length_append, List.length_singleton]; omega)]
  have r : dd ((D.tup [.ref M.length, .int j]).refs M.length) = [M.length] := by
    simp only [D.refs, D.refss, if_neg (Nat.lt_irrefl _)]
    rfl
  rw [r]
  have c : cuts M (M ++ [.lst ts]) [M.length] = true := by
    unfold cuts
    rw [kept_of kept_app]
    simp [MO.low, l]
  simp only [c, if_true, D.ren, D.rens, place, if_neg (Nat.lt_irrefl _)]
  unfold pick
  simp [List.idxOf]
def turnP (ring : List D) (k : Nat) : PyData := .tuple [.list ((rotn k ring).map txP), .int (k : Int)]
theorem dataLt_trans {a b c : PyData} (h1 : PySem.W.dataLt b a = false) (h2 : PySem.W.dataLt c b = false) : PySem.W.dataLt c a = false := by
  cases h : PySem.W.dataLt c a with
  | false => rfl
  | true =>
    rcases PyProof.Rows.lex_negTrans (O := PyProof.Rows.itemOrd) _ (PySem.W.keyToks b) _ h with z | z
    · exact absurd (h2.symm.trans z) Bool.false_ne_true
    · exact absurd (h1.symm.trans z) Bool.false_ne_true
theorem dataLt_asym {a b : PyData} (h1 : PySem.W.dataLt a b = true) : PySem.W.dataLt b a = false := by
  cases h : PySem.W.dataLt b a with
  | false => rfl
  | true =>
    have := PyProof.Rows.lex_trans (O := PyProof.Rows.itemOrd) _ _ _ h1 h
    exact absurd ((PyProof.Rows.lex_irrefl (O := PyProof.Rows.itemOrd) _).symm.trans this) Bool.false_ne_true
theorem alike_txt : ∀ v w : List D, PySem.W.alikeAll (v.map txP) (w.map txP) = true
  | [], w => by cases w <;> rfl
  | d :: r, [] => rfl
  | d :: r, e :: t => by simp only [List.map_cons, PySem.W.alikeAll, alike_txt r t, Bool.and_true]; rfl
theorem turnP_lt {ring : List D} {k b : Nat} (h : PySem.W.dataLt (turnP ring k) (turnP ring b) = false) : lx (Tk (rotn k ring)) (Tk (rotn b ring)) = false := by
  cases hl : lx (Tk (rotn k ring)) (Tk (rotn b ring)) with
  | false => rfl
  | true =>
    have a1 : PySem.W.alike (.list ((rotn k ring).map txP)) (.list ((rotn b ring).map txP)) = true := by simp only [PySem.W.alike, alike_txt]
    unfold turnP at h
    rw [PySem.W.dataLt_pair a1 (by simp only [PySem.W.alike])] at h
    split at h
    · rename_i he
      have := (PySem.W.toks_eqv _ _ a1).1 he
      simp only [PySem.W.keyToks] at this
      have e : Tk (rotn k ring) = Tk (rotn b ring) := this
      rw [e] at hl
      exact absurd ((PyProof.Rows.lex_irrefl (O := PyProof.Rows.itemOrd) _).symm.trans hl) Bool.false_ne_true
    · rw [PySem.W.dataLt_list] at h
      exact absurd (h.symm.trans hl) Bool.false_ne_true
theorem shaped_txt {v : List D} (hv : Sgs v) : PyData.canLayAll0 (v.map txP) = true ∧ PyData.depthAll (v.map txP) = 0 := by
  induction v with
  | nil => exact ⟨rfl, rfl⟩
  | cons d r ih =>
    obtain ⟨h1, h2⟩ := ih fun x hx => hv x (List.mem_cons_of_mem _ hx)
    constructor
    · simp only [List.map_cons, PyData.canLayAll0, Bool.and_eq_true]
      exact ⟨tx_ok (hv d List.mem_cons_self), h1⟩
    · simp only [List.map_cons, PyData.depthAll, h2]
      rfl
theorem turns_sortOk {ring : List D} (h : Sgs ring) (n : Nat) : sortOk ((List.range n).map (turnP ring)) = true := by
  have sh : ∀ k, SeqAt.shaped (turnP ring k) = true ∧ (turnP ring k).depth ≤ 60 := fun k => by
    obtain ⟨h1, h2⟩ := shaped_txt (v := rotn k ring) fun d hd => h d (rotn_mem d hd)
    have hd : (turnP ring k).depth ≤ 60 := by simp [turnP, PyData.depth, PyData.depthAll, h2]
    refine ⟨?_, hd⟩
    unfold SeqAt.shaped
    simp only [Bool.and_eq_true,
        decide_eq_true_eq]
    exact ⟨by simp [turnP, PyData.canLay0, PyData.canLayAll0, h1], by omega⟩
  unfold sortOk
  simp only [Bool.and_eq_true, List.all_eq_true, Bool.or_eq_true, decide_eq_true_eq]
  refine ⟨⟨fun p hp => ?_, fun p hp q hq => ?_⟩, .inl fun p hp => ?_⟩
  · obtain ⟨k, _, rfl⟩ := List.mem_map.mp hp
    exact sh k
  · obtain ⟨k, _, rfl⟩ := List.mem_map.mp hp
    obtain ⟨k', _, rfl⟩ := List.mem_map.mp hq
    simp only [turnP, PySem.W.alike, PySem.W.alikeAll, alike_txt, Bool.and_self]
  · obtain ⟨k, _, rfl⟩ := List.mem_map.mp hp
    rfl
/-- the first of the sorted turnings is a least one -/
theorem sort_first {ring : List D} (f : Nat → D) (n : Nat) (hn : 0 < n) : ∃ b rest, b < n ∧ sortD ((List.range n).map f) ((List.range n).map (turnP ring)) = f b :: rest ∧ ∀ k, k < n → lx (Tk (rotn k ring)) (Tk (rotn b ring)) = false := by
  have ez : ((List.range n).map f).zip ((List.range n).map (turnP ring)) = (List.range n).map fun k => (f k, turnP ring k) := by
    rw [List.zip_map']
  unfold sortD
  rw [ez]
  have perm := List.mergeSort_perm ((List.range n).map fun k => (f k, turnP ring k)) (PySem.W.dataLe false fun b => b.2)
  have srt := List.pairwise_mergeSort (le := PySem.W.dataLe false fun b : D × PyData => b.2) (fun a b c h1 h2 => by
    rw [PySem.W.dataLe_eq] at h1 h2 ⊢
    simp only [cond_false, Bool.not_eq_true'] at h1 h2 ⊢
    exact dataLt_trans h1 h2) (fun a b => by
    rw [PySem.W.dataLe_eq]
    simp only [cond_false, Bool.or_eq_true, Bool.not_eq_true']
    cases h : PySem.W.dataLt b.2 a.2 with
    | false => exact .inl rfl
    | true => exact .inr (dataLt_asym h)) ((List.range n).map fun k => (f k, turnP ring k))
  generalize hL : ((List.range n).map fun k => (f k, turnP ring k)).mergeSort (PySem.W.dataLe false fun b => b.2) = L at *
  cases L with
  | nil =>
    have := perm.length_eq
    simp at this
    omega
  | cons x rest =>
    obtain ⟨b, hb, rfl⟩ := List.mem_map.mp (perm.mem_iff.mp List.mem_cons_self)
    have hb := List.mem_range.mp hb
    refine ⟨b, rest.map (·.1), hb, rfl, fun k hk => turnP_lt ?_⟩
    have hm : (f k, turnP ring k) ∈ (f b, turnP ring b) :: rest := perm.mem_iff.mpr (List.mem_map.mpr ⟨k, List.mem_range.mpr hk, rfl⟩)
    rcases List.mem_cons.mp
        hm with e | hm
    · have : turnP ring k = turnP ring b := congrArg Prod.snd e
      rw [this]
      exact PyProof.Rows.lex_irrefl (O := PyProof.Rows.itemOrd) _
    · have := (List.pairwise_cons.mp srt).1 _ hm
      rw [PySem.W.dataLe_eq] at this
      simpa using this
def e_turns : E := (.blt .sorted (.comp (.tup (.cons (.comp (.blt .repr (.var 13)) (.nm 13) (.seq (.bin .add (.slc (.var 10) (.so (.var 12)) .no) (.slc (.var 10) .no (.so (.var 12))))) .nil) (.cons (.var 12) .nil))) (.nm 12) (.rng (.lit (.int 0)) (.blt .len (.var 10))) .nil))
theorem turns_ok {F : Caller} {M : Hm} {Φ : D → Hm → Prop} {ring : List D} (x0 x1 x2 x3 x4 x5 x6 x7 x8 x9 x11 x12 x13 : Option D) (hS : Sgs ring) (hne : ring ≠ []) (hl : ring.length ≤ 1000)
    (h : ∀ (Z : Hm) (r x b : Nat) (rest : List D), (M ++ Z)[r]? = some (.lst (.tup [.ref x, .int (b : Int)] :: rest)) → b < ring.length → (∀ k, k < ring.length → lx (Tk (rotn k ring)) (Tk (rotn b ring)) = false) → Φ (.ref r) (M ++ Z)) :
    Ret (ev F e_turns [x0, x1, x2, x3, x4, x5, x6, x7, x8, x9, some (.tup ring), x11, x12, x13] M) Φ := by
  have hp := List.length_pos_iff.mpr hne
  have lm : lim = 16777216 := rfl
  unfold e_turns
  rw [w_bltC, s_rng]
  simp only [w_lit, w_blt_var, w_var, vS_some, List.getElem?_cons_zero, List.getElem?_cons_succ, len_tup, rS_int]
  refine ⟨by omega, ?_⟩
  refine Ret_comp (fun j acc M' => M' = M ++ (List.range j).map (fun k => MO.lst ((rotn k ring).map txD)) ∧ acc = (List.range j).map (fun k => D.tup [.ref (M.length + k), .int (k : Int)])) (by rw [rng_len]; omega) ⟨by simp, rfl⟩ ?_ ?_
  · rintro j d acc M' hd ⟨rfl, rfl⟩
    obtain ⟨rfl, hlt⟩ := rng_at hd
    refine ⟨wk_free, _, set_nm, ?_⟩
    have ej : (0 : Int) + (j : Int) = (j : Int) := by omega
    have hj : j ≤ ring.length := by omega
    have lM : (M ++ (List.range j).map (fun k => MO.lst ((rotn k ring).map txD))).length = M.length + j := by simp
    rw [a_nil, if_pos rfl, ej]
    simp only [List.set_cons_succ, List.set_cons_zero]
    rw [w_tup, w_cons, w_comp, s_seq]
    simp only [w_bin, w_slc, w_so, w_no, w_var, vS_some, List.getElem?_cons_zero, List.getElem?_cons_succ, oS_int, slc_tup]
    refine ⟨by omega,
        by omega, ?_⟩
    rw [cut_from hj, cut_upto hj, Ret_addT]
    refine ⟨by rw [List.length_drop, List.length_take]; omega, ?_⟩
    show Ret _ _
    refine Ret_dmap (f := txD) (ds := rotn j ring) (by rw [rotn_len]; omega) (fun d hd => ⟨_, set_nm, ?_⟩) ?_ rfl wk_free
    · rw [w_blt_var, w_var]
      simp only [vS_some, List.set_cons_succ, List.set_cons_zero, List.getElem?_cons_zero, List.getElem?_cons_succ]
      rw [(hS d (rotn_mem d hd)).repr, Ret_ok]
      exact ⟨rfl, rfl⟩
    · simp only [w_cons, w_nil, w_var, vS_some, List.getElem?_cons_zero, List.getElem?_cons_succ, Ret_newT]
      refine ⟨by show 2 ≤ lim; decide, ?_⟩
      rw [leave_pair (lows_of fun x hx => by obtain ⟨d, _, rfl⟩ := List.mem_map.mp hx; rfl), Ret_ok, lM]
      refine ⟨?_, ?_⟩
      · rw [List.range_succ, List.map_append, ← List.append_assoc]
        rfl
      · rw [List.range_succ, List.map_append]
        rfl
  · rintro acc M' ⟨rfl, rfl⟩
    refine ⟨wk_free, ?_⟩
    have en : (rngD 0 (ring.length : Int)).length = ring.length := by rw [rng_len]; omega
    simp only [en]
    have pm : ∀ N : Hm, N = M ++ (List.range ring.length).map (fun k => MO.lst ((rotn k ring).map txD)) → ((List.range ring.length).map (fun k => D.tup [.ref (M.length + k), .int (k : Int)])).mapM (pyM N 62) = some ((List.range ring.length).map (turnP ring)) := fun N hN => by
      have one : ∀ k, k < ring.length → pyM N 62 (.tup [.ref (M.length + k), .int (k : Int)]) = some (turnP ring k) := fun k hk => by
        have hg : N[M.length + k]? = some (.lst ((rotn k ring).map txD)) := by
          rw [hN, List.getElem?_append_right (by omega), Nat.add_sub_cancel_left, List.getElem?_map, List.getElem?_range hk]
          rfl
        have py : ∀ {v : List D} (n : Nat), (v.map txD).mapM (pyM N n) = some (v.map txP) := fun {v} n => by
          induction v with
          | nil => rfl
          | cons d r ih =>
            rw [List.map_cons, List.mapM_cons, ih]
            have : pyM N n (txD d) = some (txP d) := by cases n <;> rfl
            rw [this]
            rfl
        simp only [pyM, hg, py, List.mapM_cons, List.mapM_nil, Option.map_some, D.py]
        rfl
      have gen : ∀ l : List Nat, (∀ k ∈ l, k < ring.length) → (l.map (fun k => D.tup [.ref (M.length + k), .int (k : Int)])).mapM (pyM N 62) = some (l.map (turnP ring)) := fun l => by
        induction l with
        | nil => intro _; rfl
        | cons k r ih =>
          intro hk
          rw [List.map_cons, List.mapM_cons, one k (hk k List.mem_cons_self), ih fun x hx => hk x (List.mem_cons_of_mem _ hx)]
          rfl
      exact gen _ fun k hk => List.mem_range.mp hk
    obtain ⟨b, rest, hb, hs, hm⟩ := sort_first (ring := ring) (fun k => D.tup [.ref (M.length + k), .int (k : Int)]) ring.length hp
    simp only [bltL]
    rw [pm _ rfl]
    simp only []
    rw [if_pos ⟨turns_sortOk hS _, by simp; omega⟩, Ret_ok, hs, List.append_assoc]
    refine h _ _ (M.length + b) b rest ?_ hb hm
    rw [← List.append_assoc]
    exact last_at
end Mi

/-! Db: both sides, found sign by sign. -/
namespace Mi
open PySem
/-- the stretch -/
def lineOf (N : Nat) (v u w : List D) : List D := pow N v ++ u ++ pow N w
theorem line_len {N : Nat} {v u w : List D} : (lineOf N v u w).length = N * v.length + u.length + N * w.length := by
  unfold lineOf
  rw [List.length_append, List.length_append, pow_len, pow_len]
theorem line_left {N : Nat} {v u w : List D} (hv : v ≠ []) {i : Nat} (h : i < N * v.length) : (lineOf N v u w)[i]? = lp v i := by
  unfold lineOf
  rw [List.append_assoc, List.getElem?_append_left (by rw [pow_len]; exact h), pow_get hv N i h]
  rfl
theorem line_right {N : Nat} {v u w : List D} (hw : w ≠ []) {i : Nat} (h : i < u.length + N * w.length) : (lineOf N v u w)[N * v.length + i]? = gon u w i := by
  unfold lineOf gon
  rw [List.append_assoc, List.getElem?_append_right (by rw [pow_len]; omega), pow_len, Nat.add_sub_cancel_left]
  split
  · rename_i hi; rw [List.getElem?_append_left hi]
  · rename_i hi
    rw [List.getElem?_append_right (by omega), pow_get hw N _ (by omega)]
theorem root_per {v : List D} (hv : v ≠ []) : PerN (lp v) (rootOf v).length := fun j => by rw [← lp_root hv, ← lp_root hv]; exact lp_per _ j
theorem goes_line {N m : Nat} {v u w : List D} (hv : v ≠ []) (hN : 1 ≤ N) (hm : m ≤ (lineOf N v u w).length) : Goes (lineOf N v u w) m (rootOf v).length ↔ ∀ j, j < m → (lineOf N v u w)[j]? = lp v j := by
  have hp := List.length_pos_iff.mpr (rootOf_ne hv)
  have hl := rootOf_len (w := v)
  have hv1 : 1 * v.length ≤ N * v.length := Nat.mul_le_mul_right _ hN
  constructor
  · intro h j
    induction j using Nat.strongRecOn with
    | _ j ih =>
      intro hj
      by_cases hjp : j < (rootOf v).length
      · exact line_left hv (by omega)
      · have := h (j - (rootOf v).length) (by omega)
        rw [show j - (rootOf v).length + (rootOf v).length = j by omega, ih _ (by omega) (by omega)] at this
        rw [← this, ← root_per hv, show j - (rootOf v).length + (rootOf v).length = j by omega]
  · intro h j hj
    rw [h j (by omega), h _ hj, root_per hv]
theorem goes_far {N i : Nat} {v u w : List D} (hv : v ≠ []) (hw : w ≠ []) (hN : 1 ≤ N) (hi : i ≤ u.length + N * w.length) : Goes (lineOf N v u w) (N * v.length + i) (rootOf v).length ↔ ∀ j, j < i → gon u w j = lp v j := by
  rw [goes_line hv hN (by rw [line_len]; omega)]
  have sh : ∀ j, lp v (N * v.length + j) = lp v j := fun j => by rw [Nat.add_comm, Nat.mul_comm]; exact (lp_per v).mul N j
  constructor
  · intro h j hj
    have := h (N * v.length + j) (by omega)
    rwa [line_right hw (by omega), sh] at this
  · intro h j hj
    by_cases hjn : j < N * v.length
    · exact line_left hv hjn
    · obtain ⟨x, rfl⟩ : ∃ x, j = N * v.length + x := ⟨j - N * v.length, by omega⟩
      rw [line_right hw (by omega), sh]
      exact h x (by omega)
theorem per_all {v : List D} (hv : v ≠ []) {r : Nat} (h : ∀ j, j < v.length → lp v j = lp v (j + r)) : PerN (lp v) r := fun j => by
  have hm := Nat.mod_lt j (List.length_pos_iff.mpr hv)
  have e := Nat.mod_add_div j v.length
  have := h _ hm
  rw [← (lp_per v).mul (j / v.length) (j % v.length), ← (lp_per v).mul (j / v.length) (j % v.length + r)] at this
  rw [show j % v.length + r + v.length * (j / v.length) = j + r by omega, e] at this
  exact this.symm
theorem goes_left {N r : Nat} {v u w : List D} (hv : v ≠ []) (hN : 2 ≤ N) (hr : r ≤ v.length) : Goes (lineOf N v u w) (N * v.length) r ↔ PerN (lp v) r := by
  have h2 : 2 * v.length ≤ N * v.length := Nat.mul_le_mul_right _ hN
  constructor
  · intro h
    refine per_all hv fun j hj => ?_
    have := h j (by omega)
    rwa [line_left hv (by omega), line_left hv (by omega)] at this
  · intro h j hj
    rw [line_left hv (by omega), line_left hv hj, h]
theorem per_right {N r : Nat} {v u w : List D} (hw : w ≠ []) (hN : 2 ≤ N) (hr : r ≤ w.length) : Per (lineOf N v u w) r (N * v.length + u.length) ↔ PerN (lp w) r := by
  have h2 : 2 * w.length ≤ N * w.length := Nat.mul_le_mul_right _ hN
  have g : ∀ j, j < N * w.length → (lineOf N v u w)[N * v.length + u.length + j]? = lp w j := fun j hj => by
    rw [Nat.add_assoc, line_right hw (by omega), Nat.add_comm u.length j, gon_tail]
  constructor
  · intro h
    refine per_all hw fun j hj => ?_
    have := h (N * v.length + u.length + j) (by omega) (by rw [line_len]; omega)
    rwa [g _ (by omega), Nat.add_assoc, g _ (by omega)] at this
  · intro h j hj hj2
    rw [line_len] at hj2
    obtain ⟨x, rfl⟩ : ∃ x, j = N * v.length + u.length + x := ⟨j - (N * v.length + u.length), by omega⟩
    rw [g _ (by omega), Nat.add_assoc _ x r, g _ (by omega), h]
/-- the first of a stretch of numbers at which something holds -/
theorem Ret_first {F : Caller} {σ : Sl} {M : Hm} {Φ : List D → Hm → Prop} {i : Nat} {tst : Sl → Hm → R Bool} {p n : Nat} (P : Nat → Prop) (hn : n ≤ 1000) (h1 : 1 ≤ p) (h2 : p ≤ n) (hp : P p) (hmin : ∀ r, 1 ≤ r → r < p → ¬ P r)
    (ht : ∀ r : Nat, 1 ≤ r → r ≤ n → Ret (tst (σ.set i (some (.int (r : Int)))) M) fun k M' => (k = true ↔ P r) ∧ M' = M) (hv : ∀ r : Nat, Ret (ev F (.var i) (σ.set i (some (.int (r : Int)))) M) fun d M' => d = .int (r : Int) ∧ M' = M)
    (h : ∀ rest, Φ (.int (p : Int) :: rest) M) : Ret (compW (.nm i) tst (fun σ1 M2 => ev F (.var i) σ1 M2) ⟨rngD 1 ((n : Int) + 1), []⟩ σ M) Φ := by
  have lm : lim = 16777216 := rfl
  refine Ret_comp (fun j acc M' => M' = M ∧ ((acc = [] ∧ 1 + j ≤ p) ∨ ∃ rest, acc = .int (p : Int) :: rest)) (by rw [rng_len]; omega) ⟨rfl, .inl ⟨rfl, h1⟩⟩ ?_ ?_
  · rintro j d acc M' hd ⟨rfl, ha⟩
    obtain ⟨rfl, hlt⟩ := rng_at hd
    have ej : (1 : Int) + (j : Int) = ((1 + j : Nat) : Int) := by omega
    rw [ej]
    refine ⟨wk_free, _, set_nm, ?_⟩
    refine (ht (1 + j) (by omega) (by omega)).mono fun k M2 z => ?_
    obtain ⟨hk, rfl⟩ := z
    cases k with
    | true =>
      have hPj := hk.mp rfl
      simp only [if_true]
      refine (hv (1 + j)).mono fun y M3 z => ?_
      obtain ⟨rfl, rfl⟩ := z
      rw [leave_id, Ret_ok]
      refine ⟨rfl, .inr ?_⟩
      rcases ha with ⟨rfl, hj⟩ | ⟨rest, rfl⟩
      · have : 1 + j = p := Nat.le_antisymm hj (Nat.le_of_not_lt fun z => hmin _ (by omega) z hPj)
        exact ⟨[], by rw [this]; rfl⟩
      · exact ⟨_, rfl⟩
    | false =>
      simp only [Bool.false_eq_true,
          if_false]
      refine ⟨trivial, ?_⟩
      rcases ha with ⟨rfl, hj⟩ | ⟨rest, rfl⟩
      · refine .inl ⟨rfl, ?_⟩
        have : 1 + j ≠ p := fun z => by
          rw [z] at hk
          exact Bool.false_ne_true (hk.mpr hp)
        omega
      · exact .inr ⟨rest, rfl⟩
  · rintro acc M' ⟨rfl, ha⟩
    refine ⟨wk_free, ?_⟩
    rw [rng_len] at ha
    rcases ha with ⟨_, hj⟩ | ⟨rest, rfl⟩
    · omega
    · exact h rest
def p_due (cg cc : Nat) : S :=
  (.seq (.set 3 (.bin .add (.bin .mul (.lit (.int 2)) (.bin .add (.blt .len (.var 0)) (.blt .len (.var 2)))) (.blt .len (.var 1)))) (.seq (.set 4 (.bin .add (.bin .add (.bin .mul (.var 0) (.var 3)) (.var 1)) (.bin .mul (.var 2) (.var 3)))) (.seq (.set 5 (.bin .mul (.blt .len (.var 0)) (.var 3))) (.seq (.set 6 (.comp (.var 10) (.nm 10) (.rng (.lit (.int 1)) (.bin .add (.blt .len (.var 0)) (.lit (.int 1)))) (.cons (.call cg (.cons (.var 4) (.cons (.var 5) (.cons (.var 10) .nil)))) .nil))) (.seq (.set 7 (.comp (.var 10) (.nm 10) (.rng (.lit (.int 1)) (.bin .add (.blt .len (.var 2)) (.lit (.int 1)))) (.cons (.call cc (.cons (.var 4) (.cons (.bin .add (.var 5) (.blt .len (.var 1))) (.cons (.var 10) .nil)))) .nil))) (.seq (.ifS (.call cg (.cons (.var 4) (.cons (.blt .len (.var 4)) (.cons (.idx (.var 6) (.lit (.int 0))) .nil)))) (.seq (.set 10 (.slc (.var 4) .no (.so (.idx (.var 6) (.lit (.int 0)))))) (.seq (.set 11 e_turns) (.ret (.tup (.cons (.lit (.str [114, 111, 117, 110, 100])) (.cons (.bin .add (.slc (.var 10) (.so (.idx (.idx (.var 11) (.lit (.int 0))) (.lit (.int 1)))) .no) (.slc (.var 10) .no (.so (.idx (.idx (.var 11) (.lit (.int 0))) (.lit (.int 1)))))) .nil)))))) .pas) (.seq (.set 8 (.var 5)) (.seq (.whl (.call cg (.cons (.var 4) (.cons (.bin .add (.var 8) (.lit (.int 1))) (.cons (.idx (.var 6) (.lit (.int 0))) .nil)))) (.set 8 (.bin .add (.var 8) (.lit (.int 1))))) (.seq (.set 9 (.var 8)) (.seq (.whl (.notE (.call cc (.cons (.var 4) (.cons (.var 9) (.cons (.idx (.var 7) (.lit (.int 0))) .nil))))) (.set 9 (.bin .add (.var 9) (.lit (.int 1))))) (.ret (.tup (.cons (.lit (.str [98, 111, 116, 104])) (.cons (.slc (.var 4) (.so (.bin .sub (.var 8) (.idx (.var 6) (.lit (.int 0))))) (.so (.var 8))) (.cons (.slc (.var 4) (.so (.var 8)) (.so (.var 9))) (.cons (.slc (.var 4) (.so (.var 9)) (.so (.bin .add (.var 9) (.idx (.var 7) (.lit (.int 0)))))) .nil))))))))))))))))
def IsDue (v u w : List D) (d : D) : Prop := (∃ t v1 u1 w1, BoT v u w t v1 u1 w1 ∧ d = .tup [bothS, .tup v1, .tup u1, .tup w1]) ∨ ∃ t v1 r, BoF v u w t v1 ∧ Least (rootOf v) r ∧ d = .tup [roundS, .tup r]
def DueOk (prg : List Df) (i : Nat) : Prop := ∀ (k : Nat) (v u w : List D) (M : Hm), Sgs v → Sgs u → Sgs w → v ≠ [] → w ≠ [] → v.length ≤ 20 → u.length ≤ 20 → w.length ≤ 20 → Ret (callAt prg (k + 2) i [.tup v, .tup u, .tup w] M) fun d M' => IsDue v u w d ∧ M' = M
theorem due_ok {prg : List Df} {i cg cc : Nat} (hi : prg[i]? = some ⟨14, 3, p_due cg cc⟩) (hg : GoesOk prg cg) (hc : ComesOk prg cc) : DueOk prg i := by
  intro k v u w M sv su sw nv nw lv lu lw
  refine Ret_call hi (Ret_run rfl ?_)
  (simp only [p_due, List.map_cons, List.map_nil, List.length_cons, List.length_nil, List.replicate, List.cons_append, List.nil_append, Nat.reduceAdd, Nat.reduceSub])
  have lm : lim = 16777216 := rfl
  have pv := List.length_pos_iff.mpr nv
  have pw := List.length_pos_iff.mpr nw
  have e2 : (2 : Int).natAbs.log2 = 1 := by decide
  have l1 : ((v.length : Int) + (w.length : Int)).natAbs.log2 < 64 := small_log (by omega)
  rw [x_seq, x_set]
  simp only [w_bin, w_lit, w_blt_var, w_var, vS_some, List.getElem?_cons_zero, List.getElem?_cons_succ, len_tup, Ret_mul, Ret_add]
  refine ⟨by omega, ?_⟩
  have eN : 2 * ((v.length : Int) + (w.length : Int)) + (u.length : Int) = ((2 * (v.length + w.length) + u.length : Nat) : Int) := by omega
  rw [eN]
  generalize hN : 2 * (v.length + w.length) + u.length = N
  have hN2 : 2 ≤ N := by omega
  have hN100 : N ≤ 100 := by omega
  have nv1 : v.length * N ≤ 20 * 100 := Nat.mul_le_mul lv hN100
  have nw1 : w.length * N ≤ 20 * 100 := Nat.mul_le_mul lw hN100
  have cv : N * v.length = v.length * N := Nat.mul_comm _ _
  have cw : N * w.length = w.length * N := Nat.mul_comm _ _
  simp only [List.set_cons_succ, List.set_cons_zero]
  rw [x_seq, x_set]
  simp only [w_bin, w_var, vS_some, List.getElem?_cons_zero, List.getElem?_cons_succ]
  rw [Ret_mulT (by omega) (by omega), rep_pow, Int.toNat_natCast]
  refine ⟨by omega, ?_⟩
  rw [Ret_addT]
  refine ⟨by rw [pow_len]; omega, ?_⟩
  rw [Ret_mulT (by omega) (by omega), rep_pow, Int.toNat_natCast]
  refine ⟨by omega, ?_⟩
  rw [Ret_addT]
  refine ⟨by rw [List.length_append, pow_len, pow_len]; omega, ?_⟩
  have el : pow N v ++ u ++ pow N w = lineOf N v u w := rfl
  rw [el]
  have hL : (lineOf N v u w).length = N * v.length + u.length + N * w.length := line_len
  have hrow : Row0 (lineOf N v u w) := ((row_of fun d hd => sv d (mem_pow (n := N) d hd)).app (row_of su)).app (row_of fun d hd => sw d (mem_pow (n := N) d hd))
  have hgf := fun i => goes_far (N := N) (i := i) (u := u) nv nw (by omega)
  have hgl := fun r => goes_left (N := N) (r := r) (u := u) (w := w) nv hN2
  have hpr := fun r => per_right (N := N) (r := r) (v := v) (u := u) nw hN2
  have hll := fun i => line_left (N := N) (u := u) (w := w) (i := i) nv
  have hlr := fun i => line_right (N := N) (v := v) (u := u) (i := i) nw
  generalize lineOf N v u w = line at *
  simp only [List.set_cons_succ, List.set_cons_zero]
  rw [x_seq, x_set]
  simp only [w_bin, w_blt_var, w_var, vS_some, List.getElem?_cons_zero, List.getElem?_cons_succ, len_tup, Ret_mul]
  have ln1 : ((v.length : Int)).natAbs.log2 < 64 := small_log (by omega)
  have ln2 : ((N : Int)).natAbs.log2 < 64 := small_log (by omega)
  refine ⟨by omega, ?_⟩
  have es : (v.length : Int) * (N : Int) = ((N * v.length : Nat) : Int) := by rw [cv]; push_cast; rfl
  rw [es]
  generalize hsm : N * v.length = seam at *
  simp only [List.set_cons_succ, List.set_cons_zero]
  have rp := List.length_pos_iff.mpr (rootOf_ne nv)
  have rq := List.length_pos_iff.mpr (rootOf_ne nw)
  have rpl := rootOf_len (w := v)
  have rql := rootOf_len (w := w)
  rw [x_seq, x_set, w_comp, s_rng]
  simp only [w_bin, w_lit, w_blt_var, w_var, vS_some, List.getElem?_cons_zero, List.getElem?_cons_succ, len_tup, Ret_add, rS_int]
  refine ⟨by omega, ?_⟩
  refine Ret_first (p := (rootOf v).length) (n := v.length) (fun r => PerN (lp v) r) (by omega) rp rpl (root_per nv) (fun r h1 h2 h3 => by have := root_le_per nv h1 h3; omega) (fun r h1 h2 => ?_) (fun r => ?_) fun rest6 => ?_
  · rw [a_cons, t_call, w_call, w_cons]
    simp only [w_cons, w_nil, w_var, vS_some, List.set_cons_succ, List.set_cons_zero, List.getElem?_cons_zero, List.getElem?_cons_succ]
    refine (hg k seam r line M hrow (by omega) (by omega) (by omega)).mono fun d M' z => ?_
    obtain ⟨b, rfl, hb, rfl⟩ := z
    rw [kS_bl]
    rw [hgl r h2] at hb
    cases b with
    | true => simp only [if_true]; rw [a_nil]; exact ⟨hb, rfl⟩
    | false => simp only [Bool.false_eq_true, if_false]; exact ⟨by simpa using hb, trivial⟩
  · rw [w_var]
    exact ⟨rfl, rfl⟩
  simp only [List.set_cons_succ, List.set_cons_zero]
  rw [x_seq, x_set, w_comp, s_rng]
  simp only [w_bin, w_lit, w_blt_var, w_var, vS_some, List.getElem?_cons_zero, List.getElem?_cons_succ, len_tup, Ret_add, rS_int]
  refine ⟨by omega, ?_⟩
  refine Ret_first (p := (rootOf w).length) (n := w.length) (fun r => PerN (lp w) r) (by omega) rq rql (root_per nw) (fun r h1 h2 h3 => by have := root_le_per nw h1 h3; omega) (fun r h1 h2 => ?_) (fun r => ?_) fun rest7 => ?_
  · rw [a_cons, t_call, w_call, w_cons]
    simp only [w_cons, w_nil, w_bin, w_blt_var, w_var, vS_some, List.set_cons_succ, List.set_cons_zero, List.getElem?_cons_zero, List.getElem?_cons_succ, len_tup, Ret_add]
    rw [show (seam : Int) + (u.length : Int) = ((seam + u.length : Nat) : Int) by omega]
    refine (hc k (seam + u.length) r line _ hrow (by omega) (by omega) (by omega)).mono fun d M' z => ?_
    obtain ⟨b, rfl, hb, rfl⟩ := z
    rw [kS_bl]
    rw [hpr r h2] at hb
    cases b with
    | true => simp only [if_true]; rw [a_nil]; exact ⟨hb, rfl⟩
    | false => simp only [Bool.false_eq_true, if_false]; exact ⟨by simpa using hb, trivial⟩
  · rw [w_var]
    exact ⟨rfl, rfl⟩
  simp only [List.set_cons_succ, List.set_cons_zero]
  have g6 : (M ++ [MO.lst (.int ((rootOf v).length : Int) :: rest6)] ++ [MO.lst (.int ((rootOf w).length : Int) :: rest7)])[M.length]? = some (.lst (.int ((rootOf v).length : Int) :: rest6)) := at_app last_at
  have g7 : (M ++ [MO.lst (.int ((rootOf v).length : Int) :: rest6)] ++ [MO.lst (.int ((rootOf w).length : Int) :: rest7)])[(M ++ [MO.lst (.int ((rootOf v).length : Int) :: rest6)]).length]? = some (.lst (.int ((rootOf w).length : Int) :: rest7)) := last_at
  rw [List.append_assoc] at g6 g7 ⊢
  generalize hM2 : M ++ ([MO.lst (.int ((rootOf v).length : Int) :: rest6)] ++ [MO.lst (.int ((rootOf w).length : Int) :: rest7)]) = M2 at *
  generalize (M ++ [MO.lst (.int ((rootOf v).length : Int) :: rest6)]).length = a7 at *
  have i6 : idxM (.ref M.length) (.int 0) M2 = some (.int ((rootOf v).length : Int)) := idx_li g6 0 rfl
  have i7 : idxM (.ref a7) (.int 0) M2 = some (.int ((rootOf w).length : Int)) := idx_li g7 0 rfl
  rw [x_ifp, t_call, w_call, w_cons]
  simp only [w_cons, w_nil, w_idx, w_lit, w_blt_var, w_var, vS_some, List.getElem?_cons_zero, List.getElem?_cons_succ, len_tup, i6, dS_some]
  refine (hg k line.length (rootOf v).length line M2 hrow (by omega) (Nat.le_refl _) (by omega)).mono fun d M' z => ?_
  obtain ⟨bg, rfl, hbg, rfl⟩ := z
  rw [kS_bl]
  have hbw : bg = true ↔ ∀ j, j < u.length + N * w.length → gon u w j = lp v j := by
    rw [hbg, hL, Nat.add_assoc, hgf _ (Nat.le_refl _)]
  have wN : N ≤ N * w.length := Nat.le_mul_of_pos_right _ pw
  rcases both_spec (u := u) nv nw with ⟨t, v1, u1, w1, B⟩ | ⟨t, v1, B⟩
  · have hbf : bg = false := by
      cases bg with
      | false => rfl
      | true => exact absurd (hbw.mp rfl t (by have := B.lt; omega)) B.df
    subst hbf
    simp only [Bool.false_eq_true,
        if_false]
    have tl := B.lt
    rw [x_seq, x_set, w_var]
    simp only [vS_some, List.getElem?_cons_zero, List.getElem?_cons_succ, List.set_cons_succ, List.set_cons_zero]
    rw [x_seq, x_whl]
    refine Wp_while (fun n σ Mc => ∃ i, n + i = t ∧ Mc = M' ∧ σ = [some (.tup v), some (.tup u), some (.tup w), some (.int (N : Int)), some (.tup line), some (.int (seam : Int)), some (.ref M.length), some (.ref a7), some (.int ((seam + i : Nat) : Int)), none, none, none, none, none]) t ⟨0, rfl, rfl, rfl⟩ ?_
    rintro n σ Mc ⟨i, hni, rfl, rfl⟩
    rw [t_call, w_call, w_cons]
    simp only [w_cons, w_nil, w_bin, w_idx, w_lit, w_var, vS_some, List.getElem?_cons_zero, List.getElem?_cons_succ, Ret_add, i6, dS_some]
    rw [show ((seam + i : Nat) : Int) + 1 = ((seam + (i + 1) : Nat) : Int) by omega]
    refine (hg k (seam + (i + 1)) (rootOf v).length line Mc hrow (by omega) (by omega) (by omega)).mono fun d M3 z => ?_
    obtain ⟨b3, rfl, hb3, rfl⟩ := z
    rw [hgf (i + 1) (by omega)] at hb3
    rw [kS_bl]
    have hit : b3 = true ↔ i < t := by
      rw [hb3]
      constructor
      · intro h
        refine Nat.lt_of_le_of_ne (by omega) fun z => ?_
        have := h i (by omega)
        rw [z] at this
        exact B.df this
      · intro h j hj
        exact B.sm j (by omega)
    cases b3 with
    | true =>
      simp only [if_true]
      have := hit.mp rfl
      refine ⟨n - 1, by omega, ?_⟩
      rw [x_set]
      simp only [w_bin, w_lit, w_var, vS_some, List.getElem?_cons_zero, List.getElem?_cons_succ, Ret_add, List.set_cons_succ, List.set_cons_zero]
      rw [leaveS_same rfl]
      exact ⟨i + 1, by omega, rfl, by rw [show ((seam + i : Nat) : Int) + 1 = ((seam + (i + 1) : Nat) : Int) by omega]⟩
    | false =>
      simp only [Bool.false_eq_true,
          if_false]
      have hit2 : i = t := by
        have : ¬ i < t := fun z => Bool.false_ne_true (hit.mpr z)
        omega
      subst hit2
      clear hit hb3
      rw [x_seq, x_set, w_var]
      simp only [vS_some, List.getElem?_cons_zero, List.getElem?_cons_succ, List.set_cons_succ, List.set_cons_zero]
      -- the stretch from the seam on
      have lF : (line.drop (seam + i)).length = u.length + N * w.length - i := by rw [List.length_drop, hL]; omega
      have w3 : 3 ≤ N * w.length + 100 := by omega
      have big : u1.length + 2 * w1.length ≤ u.length + N * w.length - i := by
        have n1 := B.nu
        have n2 := B.nw
        by_cases hw1 : w.length = 1
        · rw [hw1, Nat.mul_one]
          omega
        · have : N * 2 ≤ N * w.length := Nat.mul_le_mul_left _ (by omega)
          omega
      have eF : line.drop (seam + i) = far u1 w1 (u.length + N * w.length - i) := by
        refine List.ext_getElem?
            fun j => ?_
        by_cases hj : j < u.length + N * w.length - i
        · rw [List.getElem?_drop, far_get B.cu.1.1 hj, B.lu, Nat.add_assoc, hlr _ (by omega), Nat.add_comm i j]
        · rw [List.getElem?_eq_none (by omega), List.getElem?_eq_none (by rw [far_len B.cu.1.1]; omega)]
      obtain ⟨f1, f2, f3, f4, f5, f6, f7⟩ := righted_first (u := u1) (n := u.length + N * w.length - i) B.cu.1.1 big
      rw [B.cu.righted, ← eF] at f4 f5 f6 f7
      rw [B.cu.1.root] at f5 f6 f7
      simp only [B.nwr] at f4 f5 f6 f7
      have perF : ∀ a, a ≤ u.length + N * w.length - i → (Per line (rootOf w).length (seam + i + a) ↔ Per (line.drop (seam + i)) (rootOf w).length a) := fun a ha => by
        constructor
        · intro h j hj hj2
          rw [lF] at hj2
          rw [List.getElem?_drop, List.getElem?_drop, h (seam + i + j) (by omega) (by omega)]
          congr 1
          omega
        · intro h j hj hj2
          have := h (j - (seam + i)) (by omega) (by omega)
          rw [List.getElem?_drop, List.getElem?_drop, show seam + i + (j - (seam + i)) = j by omega, show seam + i + (j - (seam + i) + (rootOf w).length) = j + (rootOf w).length by omega] at this
          exact this
      have nu1 := B.nu
      rw [x_seq, x_whl]
      refine Wp_while (fun n σ Mc => ∃ a, n + a = u1.length ∧ Mc = M3 ∧ σ = [some (.tup v), some (.tup u), some (.tup w), some (.int (N : Int)), some (.tup line), some (.int (seam : Int)), some (.ref M.length), some (.ref a7), some (.int ((seam + i : Nat) : Int)), some (.int ((seam + i + a : Nat) : Int)), none, none, none, none]) u1.length ⟨0, rfl, rfl, rfl⟩ ?_
      rintro n σ Mc ⟨a, hna, rfl, rfl⟩
      rw [t_not, t_call, w_call, w_cons]
      simp only [w_cons, w_nil, w_bin, w_idx, w_lit, w_var, vS_some, List.getElem?_cons_zero, List.getElem?_cons_succ, i7, dS_some]
      refine (hc k (seam + i + a) (rootOf w).length line Mc hrow (by omega) (by omega) (by omega)).mono fun d M4 z => ?_
      obtain ⟨b4, rfl, hb4, rfl⟩ := z
      rw [perF a (by omega)] at hb4
      rw [kS_bl]
      cases b4 with
      | false =>
        have hlt : a < u1.length := by
          refine Nat.lt_of_le_of_ne (by omega) fun z => ?_
          rw [z] at hb4
          exact Bool.false_ne_true (hb4.mpr f6)
        simp only
            [Bool.not_false, if_true]
        refine ⟨n - 1, by omega, ?_⟩
        rw [x_set]
        simp only [w_bin, w_lit, w_var, vS_some, List.getElem?_cons_zero, List.getElem?_cons_succ, Ret_add, List.set_cons_succ, List.set_cons_zero]
        rw [leaveS_same rfl]
        exact ⟨a + 1, by omega, rfl, by rw [show ((seam + i + a : Nat) : Int) + 1 = ((seam + i + (a + 1) : Nat) : Int) by omega]⟩
      | true =>
        have hae : a = u1.length := by
          have := f7 a
          have h9 := hb4.mp rfl
          by_cases hlt : a < u1.length
          · exact absurd h9 (this hlt)
          · omega
        subst hae
        simp only [Bool.not_true,
            Bool.false_eq_true, if_false]
        have vseam : v.length ≤ seam := by
          rw [← hsm]
          exact Nat.le_mul_of_pos_left _ (by omega)
        have eV : (line.drop (seam + i - (rootOf v).length)).take (rootOf v).length = v1 := by
          refine List.ext_getElem?
              fun j => ?_
          by_cases hj : j < (rootOf v).length
          · have gl := ((hgf i (by omega)).mpr B.sm)
            rw [List.getElem?_take_of_lt hj, List.getElem?_drop]
            have h8 : ∀ x, x < seam + i → line[x]? = lp v x := fun x hx => by
              by_cases hxs : x < seam
              · exact hll x hxs
              · obtain ⟨y, rfl⟩ : ∃ y, x = seam + y := ⟨x - seam, by omega⟩
                rw [hlr y (by omega), B.sm y (by omega), ← hsm, Nat.add_comm, Nat.mul_comm]
                exact ((lp_per v).mul N y).symm
            rw [h8 _ (by omega), ← root_per nv, show seam + i - (rootOf v).length + j + (rootOf v).length = (j + i) + seam by omega, ← hsm, Nat.mul_comm N, (lp_per v).mul, ← B.lv]
            unfold lp
            rw [Nat.mod_eq_of_lt (by rw [B.nvr]; exact hj)]
          · rw [List.getElem?_eq_none (by rw [List.length_take]; omega), List.getElem?_eq_none (by rw [B.nvr]; omega)]
        rw [x_ret, w_tup, w_cons, w_lit, w_cons]
        simp only [w_cons, w_bin, w_slc, w_so, w_nil, w_idx, w_lit, w_var, vS_some, List.getElem?_cons_zero, List.getElem?_cons_succ, Ret_sub, Ret_add, i6, i7, dS_some, oS_int, slc_tup]
        have c1 : ((seam + i : Nat) : Int) - ((rootOf v).length : Int) = ((seam + i - (rootOf v).length : Nat) : Int) := by omega
        have c2 : ((seam + i + u1.length : Nat) : Int) + ((rootOf w).length : Int) = ((seam + i + u1.length + (rootOf w).length : Nat) : Int) := by omega
        rw [c1, c2, cut_part (by omega) (by omega), cut_part (by omega) (by omega), cut_part (by omega) (by have := B.nwr; omega)]
        rw [show seam + i - (seam + i - (rootOf v).length) = (rootOf v).length by omega, eV, Nat.add_sub_cancel_left, Nat.add_sub_cancel_left, f4, ← List.drop_drop, f5]
        refine ⟨by omega, by omega, by omega, by omega, by omega, by omega, ?_⟩
        rw [Ret_newT]
        refine ⟨by show 4 ≤ lim; decide, ?_⟩
        rw [← hM2, leave_drop, Ret_ok]
        · exact ⟨.inl ⟨i, v1, u1, w1, B, rfl⟩, rfl⟩
        · have z1 := Sgn.rowlow (v := v1) (fun d hd => sv d (B.mv d hd)) M.length
          have z2 := Sgn.rowlow (v := u1) (fun d hd => su d (B.mu d hd)) M.length
          have z3 := Sgn.rowlow (v := w1) (fun d hd => (B.mw d hd).elim (su d) (sw d)) M.length
          simp only [D.low] at z1 z2 z3
          simp only [D.low, D.lows, z1, z2, z3, Bool.and_self]
  · have hbt : bg = true := hbw.mpr fun j _ => B.sm j
    subst hbt
    simp only [if_true]
    have er : line.take (rootOf v).length = rootOf v := by
      refine List.ext_getElem? fun i => ?_
      by_cases hi : i < (rootOf v).length
      · have h1 : 1 * v.length ≤ seam := by rw [← hsm]; exact Nat.mul_le_mul_right _ (by omega)
        rw [List.getElem?_take_of_lt hi, hll i (by omega), ← lp_root nv]
        unfold lp
        rw [Nat.mod_eq_of_lt hi]
      · rw [List.getElem?_eq_none (by rw [List.length_take]; omega), List.getElem?_eq_none (by omega)]
    rw [x_seq, x_set, w_slc]
    simp only [w_no, w_so, w_idx, w_lit, w_var, vS_some, List.getElem?_cons_zero, List.getElem?_cons_succ, i6, dS_some, oS_int, slc_tup]
    refine ⟨by omega, ?_⟩
    rw [cut_upto (by omega), er]
    simp only [List.set_cons_succ, List.set_cons_zero]
    have sr : Sgs (rootOf v) := fun d hd => sv d (rootOf_mem d hd)
    rw [x_seq, x_set]
    refine turns_ok _ _ _ _ _ _ _ _ _ _ _ _ _ sr (rootOf_ne nv) (by omega) fun Z r x b rest hr hb hm => ?_
    simp only [List.set_cons_succ, List.set_cons_zero]
    have i11 : idxM (.ref r) (.int 0) (M' ++ Z) = some (.tup [.ref x, .int (b : Int)]) := idx_li hr 0 rfl
    have i12 : ∀ Nn, idxM (.tup [.ref x, .int (b : Int)]) (.int 1) Nn = some (.int (b : Int)) := fun _ => rfl
    rw [x_ret, w_tup, w_cons, w_lit, w_cons]
    simp only [w_bin, w_slc, w_no, w_so, w_nil, w_idx, w_lit, w_var, vS_some, List.getElem?_cons_zero, List.getElem?_cons_succ, i11, i12, dS_some, oS_int, slc_tup]
    refine ⟨by omega,
        by omega, ?_⟩
    rw [cut_from (by omega), cut_upto (by omega), Ret_addT]
    refine ⟨by rw [List.length_drop, List.length_take]; omega, ?_⟩
    rw [show (rootOf v).drop b ++ (rootOf v).take b = rotn b (rootOf v) from rfl, Ret_newT]
    refine ⟨by show 2 ≤ lim; decide, ?_⟩
    rw [← hM2, List.append_assoc, leave_drop, Ret_ok]
    · exact ⟨.inr ⟨t, v1, _, B, ⟨b, hb, rfl, hm⟩, rfl⟩, rfl⟩
    · have := Sgn.rowlow (v := rotn b (rootOf v)) (fun d hd => sr d (rotn_mem d hd)) M.length
      simp only [D.low] at this
      simp only [D.low, D.lows, this, Bool.and_self]
end Mi

namespace Mi
open PySem PySem.Spec
    PyProof.Rows L2
abbrev pgm : Program := PySem.Challenge.pw_everbetween_k22_rounds_to_both_sides
def top (i : Nat) : Stmt := pgm.main.body.getD i (.Pass ⟨0, 0, 0, 0⟩)
/-! 0 is_of 0:thing 1:signs 2:sign -/
def d_is_of : S :=
  (.seq (.ifS (.orE (.notE (.isi (.var 0) [.str])) (.notE (.chn .lt .le (.lit (.int 0)) (.blt .len (.var 0)) (.lit (.int 8))))) (.ret (.lit (.bl false))) .pas) (.ret (.blt .all (.comp (.cmp .isin (.var 2) (.var 1)) (.nm 2) (.seq (.var 0)) .nil))))
/-! 1 is_letter 0:thing -/
def d_is_letter : S :=
  (.ret (.call 0 (.cons (.var 0) (.cons (.lit (.str [97, 98, 99, 100, 101, 102, 103, 104, 105, 106, 107, 108, 109, 110, 111, 112, 113, 114, 115, 116, 117, 118, 119, 120, 121, 122])) .nil))))
/-! 2 is_number 0:thing -/
def d_is_number : S :=
  (.ret (.andE (.isi (.var 0) [.int]) (.notE (.isi (.var 0) [.bool]))))
/-! 3 root_of 0:word 1:size -/
def d_root_of : S :=
  (.seq (.forS (.nm 1) (.rng (.lit (.int 1)) (.blt .len (.var 0))) (.ifS (.andE (.cmp .eq (.bin .mod (.blt .len (.var 0)) (.var 1)) (.lit (.int 0))) (.cmp .eq (.bin .mul (.slc (.var 0) .no (.so (.var 1))) (.bin .fdiv (.blt .len (.var 0)) (.var 1))) (.var 0))) (.ret (.slc (.var 0) .no (.so (.var 1)))) .pas)) (.ret (.var 0)))
/-! 4 righted 0:u 1:v -/
def d_righted : S :=
  (.seq (.set 1 (.call 3 (.cons (.var 1) .nil))) (.seq (.whl (.andE (.cmp .ne (.var 0) (.tup .nil)) (.cmp .eq (.idx (.var 0) (.neg (.lit (.int 1)))) (.idx (.var 1) (.neg (.lit (.int 1)))))) (.setP 0 1 (.slc (.var 0) .no (.so (.neg (.lit (.int 1))))) (.bin .add (.slc (.var 1) (.so (.neg (.lit (.int 1)))) .no) (.slc (.var 1) .no (.so (.neg (.lit (.int 1)))))))) (.ret (.tup (.cons (.var 0) (.cons (.var 1) .nil))))))
/-! 5 lefted 0:v 1:u -/
def d_lefted : S :=
  (.seq (.set 0 (.call 3 (.cons (.var 0) .nil))) (.seq (.whl (.andE (.cmp .ne (.var 1) (.tup .nil)) (.cmp .eq (.idx (.var 1) (.lit (.int 0))) (.idx (.var 0) (.lit (.int 0))))) (.setP 0 1 (.bin .add (.slc (.var 0) (.so (.lit (.int 1))) .no) (.slc (.var 0) .no (.so (.lit (.int 1))))) (.slc (.var 1) (.so (.lit (.int 1))) .no))) (.ret (.tup (.cons (.var 0) (.cons (.var 1) .nil))))))
/-! 6 turned_least 0:v 1:texts 2:best 3:k -/
def d_turned_least : S :=
  (.seq (.set 2 (.lit (.int 0))) (.seq (.forS (.nm 3) (.rng (.lit (.int 1)) (.blt .len (.var 0))) (.ifS (.cmp .lt (.bin .add (.slc (.var 1) (.so (.var 3)) .no) (.slc (.var 1) .no (.so (.var 3)))) (.bin .add (.slc (.var 1) (.so (.var 2)) .no) (.slc (.var 1) .no (.so (.var 2))))) (.set 2 (.var 3)) .pas)) (.ret (.bin .add (.slc (.var 0) (.so (.var 2)) .no) (.slc (.var 0) .no (.so (.var 2)))))))
/-! 7 bothed 0:v 1:u 2:w 3:turn -/
def d_bothed : S :=
  (.seq (.setT [1, 2] (.call 4 (.cons (.var 1) (.cons (.var 2) .nil)))) (.seq (.set 0 (.call 3 (.cons (.var 0) .nil))) (.seq (.forS (.nm 3) (.rng (.lit (.int 0)) (.bin .add (.bin .add (.blt .len (.var 1)) (.blt .len (.var 0))) (.blt .len (.var 2)))) (.seq (.ifS (.cmp .ne (.idx (.orE (.var 1) (.var 2)) (.lit (.int 0))) (.idx (.var 0) (.lit (.int 0)))) (.ret (.tup (.cons (.lit (.str [98, 111, 116, 104])) (.cons (.var 0) (.cons (.var 1) (.cons (.var 2) .nil)))))) .pas) (.seq (.ifS (.cmp .eq (.var 1) (.tup .nil)) (.set 2 (.bin .add (.slc (.var 2) (.so (.lit (.int 1))) .no) (.slc (.var 2) .no (.so (.lit (.int 1)))))) .pas) (.setP 0 1 (.bin .add (.slc (.var 0) (.so (.lit (.int 1))) .no) (.slc (.var 0) .no (.so (.lit (.int 1))))) (.slc (.var 1) (.so (.lit (.int 1))) .no))))) (.ret (.tup (.cons (.lit (.str [114, 111, 117, 110, 100])) (.cons (.var 0) .nil)))))))
/-! 8 right_piece 0:u 1:v -/
def d_right_piece : S :=
  (.ret (.bin .add (.tup (.cons (.lit (.str [114, 105, 103, 104, 116])) .nil)) (.call 4 (.cons (.var 0) (.cons (.var 1) .nil)))))
/-! 9 left_piece 0:v 1:u -/
def d_left_piece : S :=
  (.ret (.bin .add (.tup (.cons (.lit (.str [108, 101, 102, 116])) .nil)) (.call 5 (.cons (.var 0) (.cons (.var 1) .nil)))))
/-! 10 both_piece 0:v 1:u 2:w 3:found 4:sign -/
def d_both_piece : S :=
  (.seq (.set 3 (.call 7 (.cons (.var 0) (.cons (.var 1) (.cons (.var 2) .nil))))) (.seq (.ifS (.cmp .eq (.idx (.var 3) (.lit (.int 0))) (.lit (.str [98, 111, 116, 104]))) (.ret (.var 3)) .pas) (.ret (.tup (.cons (.lit (.str [114, 111, 117, 110, 100])) (.cons (.call 6 (.cons (.idx (.var 3) (.lit (.int 1))) (.cons (.comp (.blt .repr (.var 4)) (.nm 4) (.seq (.idx (.var 3) (.lit (.int 1)))) .nil) .nil))) .nil))))))
/-! 11 is_tuple_of_signs 0:thing 1:least 2:sign -/
def d_is_tuple_of_signs : S :=
  (.seq (.ifS (.orE (.notE (.isi (.var 0) [.tuple])) (.cmp .lt (.blt .len (.var 0)) (.var 1))) (.ret (.lit (.bl false))) .pas) (.ret (.blt .all (.comp (.orE (.call 1 (.cons (.var 2) .nil)) (.andE (.call 2 (.cons (.var 2) .nil)) (.cmp .ge (.var 2) (.lit (.int 0))))) (.nm 2) (.seq (.var 0)) .nil))))
/-! 12 is_shaped 0:thing 1:leasts 2:word 3:parts 4:part 5:least -/
def d_is_shaped : S :=
  (.seq (.ifS (.orE (.notE (.isi (.var 0) [.tuple])) (.orE (.cmp .eq (.var 0) (.tup .nil)) (.orE (.notE (.isi (.idx (.var 0) (.lit (.int 0))) [.str])) (.kin [([102, 101, 119], (.int 1)), ([114, 105, 103, 104, 116], (.int 2)), ([108, 101, 102, 116], (.int 2)), ([98, 111, 116, 104], (.int 3)), ([114, 111, 117, 110, 100], (.int 1)), ([101, 118, 101, 110], (.int 1))] (.idx (.var 0) (.lit (.int 0))) true)))) (.ret (.lit (.bl false))) .pas) (.seq (.setS 2 3 (.var 0)) (.seq (.ifS (.cmp .ne (.blt .len (.var 3)) (.kix [([102, 101, 119], (.int 1)), ([114, 105, 103, 104, 116], (.int 2)), ([108, 101, 102, 116], (.int 2)), ([98, 111, 116, 104], (.int 3)), ([114, 111, 117, 110, 100], (.int 1)), ([101, 118, 101, 110], (.int 1))] (.var 2))) (.ret (.lit (.bl false))) .pas) (.seq (.set 1 (.get (.dct (.cons (.lit (.str [102, 101, 119])) (.cons (.lst (.cons (.lit (.int 2)) .nil)) (.cons (.lit (.str [114, 105, 103, 104, 116])) (.cons (.lst (.cons (.lit (.int 0)) (.cons (.lit (.int 1)) .nil))) (.cons (.lit (.str [108, 101, 102, 116])) (.cons (.lst (.cons (.lit (.int 1)) (.cons (.lit (.int 0)) .nil))) (.cons (.lit (.str [98, 111, 116, 104])) (.cons (.lst (.cons (.lit (.int 1)) (.cons (.lit (.int 0)) (.cons (.lit (.int 1)) .nil)))) .nil))))))))) (.var 2) (.lst (.cons (.lit (.int 1)) .nil)))) (.ret (.blt .all (.comp (.call 11 (.cons (.var 4) (.cons (.var 5) .nil))) (.tp [4, 5]) (.zip (.var 3) (.var 1)) .nil)))))))
/-! 13 is_piece 0:thing 1:word 2:texts 3:parts 4:sign 5:text NOPE -/
def d_is_piece : S :=
  (.seq (.ifS (.notE (.call 12 (.cons (.var 0) .nil))) (.ret (.lit (.bl false))) .pas) (.seq (.setS 1 3 (.var 0)) (.seq (.ifS (.cmp .eq (.var 1) (.lit (.str [114, 105, 103, 104, 116]))) (.ret (.cmp .eq (.call 8 (.cons (.idx (.var 3) (.lit (.int 0))) (.cons (.idx (.var 3) (.lit (.int 1))) .nil))) (.var 0))) .pas) (.seq (.ifS (.cmp .eq (.var 1) (.lit (.str [108, 101, 102, 116]))) (.ret (.cmp .eq (.call 9 (.cons (.idx (.var 3) (.lit (.int 0))) (.cons (.idx (.var 3) (.lit (.int 1))) .nil))) (.var 0))) .pas) (.seq (.ifS (.cmp .eq (.var 1) (.lit (.str [98, 111, 116, 104]))) (.ret (.cmp .eq (.call 10 (.cons (.idx (.var 3) (.lit (.int 0))) (.cons (.idx (.var 3) (.lit (.int 1))) (.cons (.idx (.var 3) (.lit (.int 2))) .nil)))) (.var 0))) .pas) (.seq (.ifS (.cmp .eq (.var 1) (.lit (.str [114, 111, 117, 110, 100]))) (.ret (.cmp .eq (.call 10 (.cons (.idx (.var 3) (.lit (.int 0))) (.cons (.tup .nil) (.cons (.idx (.var 3) (.lit (.int 0))) .nil)))) (.var 0))) .pas) (.seq (.ifS (.cmp .eq (.var 1) (.lit (.str [101, 118, 101, 110]))) (.seq (.set 2 (.comp (.blt .repr (.var 4)) (.nm 4) (.seq (.idx (.var 3) (.lit (.int 0)))) .nil)) (.ret (.cmp .eq (.var 2) (.blt .sorted nope)))) .pas) (.ret (.lit (.bl true))))))))))
/-! 14 _law_spread 0:_law_cell 1:_law_at 2:_law_primes 3:_law_one 4:_law_two 5:_law_three -/
def d_law_spread : S :=
  (.seq (.ifS (.cmp .ge (.var 0) (.bin .pow (.lit (.int 10)) (.lit (.int 18)))) (.ret (.var 0)) .pas) (.seq (.set 2 (.lst (.cons (.lit (.int 2147483629)) (.cons (.lit (.int 2147483587)) (.cons (.lit (.int 2147483579)) (.cons (.lit (.int 2147483563)) (.cons (.lit (.int 2147483549)) (.cons (.lit (.int 2147483543)) (.cons (.lit (.int 2147483497)) (.cons (.lit (.int 2147483489)) .nil)))))))))) (.seq (.set 3 (.bin .mod (.bin .pow (.bin .add (.bin .add (.bin .mul (.bin .mod (.var 0) (.lit (.int 1000000007))) (.bin .add (.bin .mul (.lit (.int 2)) (.var 1)) (.lit (.int 69069)))) (.bin .mul (.var 1) (.lit (.int 40503)))) (.lit (.int 977))) (.lit (.int 3))) (.idx (.var 2) (.bin .mod (.var 1) (.lit (.int 8)))))) (.seq (.set 4 (.bin .mod (.bin .pow (.bin .add (.bin .add (.bin .mul (.var 3) (.bin .add (.var 1) (.lit (.int 3)))) (.bin .mod (.var 0) (.lit (.int 65537)))) (.lit (.int 5))) (.lit (.int 5))) (.idx (.var 2) (.bin .mod (.bin .add (.var 1) (.lit (.int 5))) (.lit (.int 8)))))) (.seq (.set 5 (.bin .mod (.bin .pow (.bin .add (.bin .add (.var 4) (.bin .mod (.var 3) (.lit (.int 1009)))) (.var 1)) (.lit (.int 3))) (.idx (.var 2) (.bin .mod (.bin .add (.var 1) (.lit (.int 7))) (.lit (.int 8)))))) (.ret (.bin .add (.bin .mul (.bin .add (.bin .mul (.var 3) (.lit (.int 2147483647))) (.var 4)) (.lit (.int 2147483647))) (.var 5))))))))
/-! 15 _law_open 0:_law_script 1:_law_cells 2:_law_k 3:_law_cell -/
def d_law_open : S :=
  (.seq (.set 1 (.blt .list (.slc (.var 0) .no (.so (.lit (.int 12)))))) (.seq (.forS (.tp [2, 3]) (.enum (.slc (.var 0) (.so (.lit (.int 12))) (.so (.lit (.int 63))))) (.setI (.var 1) (.bin .mod (.var 2) (.lit (.int 12))) (.bin .add (.idx (.var 1) (.bin .mod (.var 2) (.lit (.int 12)))) (.var 3)))) (.ret (.lst (.cons (.var 1) (.cons (.lit (.int 0)) (.cons (.lit (.int 0)) .nil)))))))
/-! 16 _law_take 0:_law_pen 1:_law_many 2:_law_found 3:_law_at 4:_law_cell -/
def d_law_take : S :=
  (.seq (.ifS (.cmp .lt (.idx (.var 0) (.lit (.int 2))) (.var 1)) (.seq (.set 3 (.idx (.var 0) (.lit (.int 1)))) (.seq (.set 4 (.lit (.int 0))) (.seq (.ifS (.cmp .lt (.var 3) (.blt .len (.idx (.var 0) (.lit (.int 0))))) (.set 4 (.idx (.idx (.var 0) (.lit (.int 0))) (.var 3))) (.ifS (.cmp .gt (.blt .len (.idx (.var 0) (.lit (.int 0)))) (.lit (.int 0))) (.set 4 (.bin .mod (.idx (.idx (.var 0) (.lit (.int 0))) (.bin .mod (.bin .add (.bin .mul (.var 3) (.lit (.int 5))) (.lit (.int 3))) (.blt .len (.idx (.var 0) (.lit (.int 0)))))) (.bin .add (.bin .pow (.lit (.int 10)) (.lit (.int 17))) (.var 3)))) .pas)) (.seq (.setI (.var 0) (.lit (.int 1)) (.bin .add (.var 3) (.lit (.int 1)))) (.setI (.var 0) (.lit (.int 2)) (.call 14 (.cons (.var 4) (.cons (.var 3) .nil)))))))) .pas) (.seq (.set 2 (.bin .mod (.idx (.var 0) (.lit (.int 2))) (.var 1))) (.seq (.setI (.var 0) (.lit (.int 2)) (.bin .fdiv (.idx (.var 0) (.lit (.int 2))) (.var 1))) (.ret (.var 2)))))
/-! 17 _law_pick 0:_law_pen 1:_law_some -/
def d_law_pick : S :=
  (.ret (.idx (.var 1) (.call 16 (.cons (.var 0) (.cons (.blt .len (.var 1)) .nil)))))
/-! 18 _law_some_letters 0:_law_pen 1:_law_many 2:_law_small 3:_law_stem 4:_law_at 5:_law_first 6:_law_k -/
def d_law_some_letters : S :=
  (.seq (.set 2 (.lit (.str [97, 98, 99, 100, 101, 102, 103, 104, 105, 106, 107, 108, 109, 110, 111, 112, 113, 114, 115, 116, 117, 118, 119, 120, 121, 122]))) (.seq (.set 3 (.join (.lit (.str [])) (.comp (.idx (.var 2) (.call 16 (.cons (.var 0) (.cons (.lit (.int 26)) .nil)))) (.nm 6) (.rng (.lit (.int 0)) (.call 16 (.cons (.var 0) (.cons (.lit (.int 8)) .nil)))) .nil))) (.seq (.set 4 (.call 16 (.cons (.var 0) (.cons (.bin .add (.blt .len (.var 3)) (.lit (.int 1))) .nil)))) (.seq (.set 5 (.call 16 (.cons (.var 0) (.cons (.lit (.int 26)) .nil)))) (.seq (.ifS (.cmp .eq (.call 16 (.cons (.var 0) (.cons (.lit (.int 3)) .nil))) (.lit (.int 0))) (.ret (.comp (.bin .mul (.idx (.var 2) (.bin .mod (.bin .add (.var 5) (.bin .mul (.lit (.int 5)) (.var 6))) (.lit (.int 26)))) (.bin .add (.lit (.int 1)) (.bin .mod (.bin .add (.var 4) (.bin .mul (.lit (.int 3)) (.var 6))) (.lit (.int 8))))) (.nm 6) (.rng (.lit (.int 0)) (.var 1)) .nil)) .pas) (.ret (.comp (.bin .add (.bin .add (.slc (.var 3) .no (.so (.var 4))) (.idx (.var 2) (.bin .mod (.bin .add (.var 5) (.bin .mul (.lit (.int 5)) (.var 6))) (.lit (.int 26))))) (.slc (.var 3) (.so (.var 4)) .no)) (.nm 6) (.rng (.lit (.int 0)) (.var 1)) .nil)))))))
/-! 19 _law_same 0:_law_found 1:_law_due -/
def d_law_same : S :=
  (.ret (.cmp .eq (.blt .repr (.var 0)) (.blt .repr (.var 1))))
/-! 20 _law_some_row 0:_law_pen 1:_law_signs 2:_law_least 3:_law_most 4:_law_k -/
def d_law_some_row : S :=
  (.ret (.blt .tuple (.comp (.call 17 (.cons (.var 0) (.cons (.var 1) .nil))) (.nm 4) (.rng (.lit (.int 0)) (.bin .add (.var 2) (.call 16 (.cons (.var 0) (.cons (.bin .add (.bin .sub (.var 3) (.var 2)) (.lit (.int 1))) .nil))))) .nil)))
/-! 21 _law_some_signs 0:_law_pen 1:_law_some 2:_law_k -/
def d_law_some_signs : S :=
  (.seq (.set 1 (.bin .add (.call 18 (.cons (.var 0) (.cons (.lit (.int 3)) .nil))) (.lst (.cons (.lit (.int 0)) (.cons (.lit (.int 1)) (.cons (.lit (.int 2)) (.cons (.lit (.int 10)) (.cons (.call 16 (.cons (.var 0) (.cons (.bin .pow (.lit (.int 10)) (.lit (.int 30))) .nil))) .nil)))))))) (.ret (.comp (.idx (.var 1) (.bin .mod (.bin .add (.call 16 (.cons (.var 0) (.cons (.lit (.int 8)) .nil))) (.bin .mul (.lit (.int 3)) (.var 2))) (.lit (.int 8)))) (.nm 2) (.rng (.lit (.int 0)) (.bin .add (.lit (.int 2)) (.call 16 (.cons (.var 0) (.cons (.lit (.int 3)) .nil))))) .nil)))
/-! 22 _law_goes 0:_law_line 1:_law_at 2:_law_ring 3:_law_k -/
def d_law_goes : S :=
  (.ret (.cmp .eq (.comp (.var 3) (.nm 3) (.rng (.var 2) (.var 1)) (.cons (.cmp .ne (.idx (.var 0) (.bin .sub (.bin .sub (.var 1) (.lit (.int 1))) (.var 3))) (.idx (.var 0) (.bin .add (.bin .sub (.bin .sub (.var 1) (.lit (.int 1))) (.var 3)) (.var 2)))) .nil)) (.lst .nil)))
/-! 23 _law_comes 0:_law_line 1:_law_at 2:_law_ring 3:_law_k -/
def d_law_comes : S :=
  (.ret (.cmp .eq (.comp (.var 3) (.nm 3) (.rng (.var 1) (.bin .sub (.blt .len (.var 0)) (.var 2))) (.cons (.cmp .ne (.idx (.var 0) (.var 3)) (.idx (.var 0) (.bin .add (.var 3) (.var 2)))) .nil)) (.lst .nil)))
/-! 24 _law_due_both 0:_law_v 1:_law_u 2:_law_w 3:_law_many 4:_law_line 5:_law_seam 6:_law_lefts 7:_law_rights 8:_law_at 9:_law_start 10:_law_ring 11:_law_turns 12:_law_k 13:_law_sign -/
def d_law_due_both : S :=
  (.seq (.set 3 (.bin .add (.bin .mul (.lit (.int 2)) (.bin .add (.blt .len (.var 0)) (.blt .len (.var 2)))) (.blt .len (.var 1)))) (.seq (.set 4 (.bin .add (.bin .add (.bin .mul (.var 0) (.var 3)) (.var 1)) (.bin .mul (.var 2) (.var 3)))) (.seq (.set 5 (.bin .mul (.blt .len (.var 0)) (.var 3))) (.seq (.set 6 (.comp (.var 10) (.nm 10) (.rng (.lit (.int 1)) (.bin .add (.blt .len (.var 0)) (.lit (.int 1)))) (.cons (.call 22 (.cons (.var 4) (.cons (.var 5) (.cons (.var 10) .nil)))) .nil))) (.seq (.set 7 (.comp (.var 10) (.nm 10) (.rng (.lit (.int 1)) (.bin .add (.blt .len (.var 2)) (.lit (.int 1)))) (.cons (.call 23 (.cons (.var 4) (.cons (.bin .add (.var 5) (.blt .len (.var 1))) (.cons (.var 10) .nil)))) .nil))) (.seq (.ifS (.call 22 (.cons (.var 4) (.cons (.blt .len (.var 4)) (.cons (.idx (.var 6) (.lit (.int 0))) .nil)))) (.seq (.set 10 (.slc (.var 4) .no (.so (.idx (.var 6) (.lit (.int 0)))))) (.seq (.set 11 (.blt .sorted (.comp (.tup (.cons (.comp (.blt .repr (.var 13)) (.nm 13) (.seq (.bin .add (.slc (.var 10) (.so (.var 12)) .no) (.slc (.var 10) .no (.so (.var 12))))) .nil) (.cons (.var 12) .nil))) (.nm 12) (.rng (.lit (.int 0)) (.blt .len (.var 10))) .nil))) (.ret (.tup (.cons (.lit (.str [114, 111, 117, 110, 100])) (.cons (.bin .add (.slc (.var 10) (.so (.idx (.idx (.var 11) (.lit (.int 0))) (.lit (.int 1)))) .no) (.slc (.var 10) .no (.so (.idx (.idx (.var 11) (.lit (.int 0))) (.lit (.int 1)))))) .nil)))))) .pas) (.seq (.set 8 (.var 5)) (.seq (.whl (.call 22 (.cons (.var 4) (.cons (.bin .add (.var 8) (.lit (.int 1))) (.cons (.idx (.var 6) (.lit (.int 0))) .nil)))) (.set 8 (.bin .add (.var 8) (.lit (.int 1))))) (.seq (.set 9 (.var 8)) (.seq (.whl (.notE (.call 23 (.cons (.var 4) (.cons (.var 9) (.cons (.idx (.var 7) (.lit (.int 0))) .nil))))) (.set 9 (.bin .add (.var 9) (.lit (.int 1))))) (.ret (.tup (.cons (.lit (.str [98, 111, 116, 104])) (.cons (.slc (.var 4) (.so (.bin .sub (.var 8) (.idx (.var 6) (.lit (.int 0))))) (.so (.var 8))) (.cons (.slc (.var 4) (.so (.var 8)) (.so (.var 9))) (.cons (.slc (.var 4) (.so (.var 9)) (.so (.bin .add (.var 9) (.idx (.var 7) (.lit (.int 0)))))) .nil))))))))))))))))
/-! 25 law 0:_law_script 1:_law_pen 2:_law_turn 3:_law_signs 4:_law_v 5:_law_w 6:_law_u 7:_law_way 8:_law_found 9:_law_at -/
def d_law : S :=
  (.seq (.set 1 (.call 15 (.cons (.var 0) .nil))) (.seq (.forS (.nm 2) (.rng (.lit (.int 0)) (.lit (.int 8))) (.seq (.set 3 (.call 21 (.cons (.var 1) .nil))) (.seq (.set 4 (.call 20 (.cons (.var 1) (.cons (.var 3) (.cons (.lit (.int 1)) (.cons (.lit (.int 3)) .nil)))))) (.seq (.set 5 (.call 20 (.cons (.var 1) (.cons (.var 3) (.cons (.lit (.int 1)) (.cons (.lit (.int 3)) .nil)))))) (.seq (.ifS (.cmp .eq (.call 16 (.cons (.var 1) (.cons (.lit (.int 2)) .nil))) (.lit (.int 0))) (.seq (.set 9 (.call 16 (.cons (.var 1) (.cons (.blt .len (.var 4)) .nil)))) (.set 5 (.bin .mul (.bin .add (.slc (.var 4) (.so (.var 9)) .no) (.slc (.var 4) .no (.so (.var 9)))) (.bin .add (.lit (.int 1)) (.call 16 (.cons (.var 1) (.cons (.lit (.int 2)) .nil))))))) .pas) (.seq (.set 6 (.call 20 (.cons (.var 1) (.cons (.var 3) (.cons (.lit (.int 0)) (.cons (.lit (.int 3)) .nil)))))) (.seq (.set 7 (.call 16 (.cons (.var 1) (.cons (.lit (.int 4)) .nil)))) (.seq (.ifS (.cmp .eq (.var 7) (.lit (.int 0))) (.set 6 (.slc (.bin .mul (.var 4) (.lit (.int 4))) .no (.so (.call 16 (.cons (.var 1) (.cons (.bin .add (.bin .mul (.lit (.int 2)) (.blt .len (.var 4))) (.lit (.int 1))) .nil)))))) .pas) (.seq (.ifS (.cmp .eq (.var 7) (.lit (.int 1))) (.set 6 (.bin .add (.var 6) (.slc (.bin .mul (.var 5) (.lit (.int 4))) (.so (.bin .sub (.bin .mul (.lit (.int 4)) (.blt .len (.var 5))) (.call 16 (.cons (.var 1) (.cons (.bin .add (.bin .mul (.lit (.int 2)) (.blt .len (.var 5))) (.lit (.int 1))) .nil))))) .no))) .pas) (.seq (.set 4 (.bin .mul (.var 4) (.bin .add (.lit (.int 1)) (.call 16 (.cons (.var 1) (.cons (.lit (.int 2)) .nil)))))) (.seq (.set 8 (.call 10 (.cons (.var 4) (.cons (.var 6) (.cons (.var 5) .nil))))) (.ifS (.orE (.notE (.call 19 (.cons (.var 8) (.cons (.call 24 (.cons (.var 4) (.cons (.var 6) (.cons (.var 5) .nil)))) .nil)))) (.isB (.call 13 (.cons (.var 8) .nil)) true true)) (.ret (.lit (.bl false))) .pas)))))))))))) (.ret (.lit (.bl true)))))
def r_is_of : Row := ⟨"is_of", top 3, ["thing", "signs", "sign"], 2⟩
def r_is_letter : Row := ⟨"is_letter", top 4, ["thing"], 1⟩
def r_is_number : Row := ⟨"is_number", top 5, ["thing"], 1⟩
def r_root_of : Row := ⟨"root_of", top 8, ["word", "size"], 1⟩
def r_righted : Row := ⟨"righted", top 9, ["u", "v"], 2⟩
def r_lefted : Row := ⟨"lefted", top 10, ["v", "u"], 2⟩
def r_turned_least : Row := ⟨"turned_least", top 11, ["v", "texts", "best", "k"], 2⟩
def r_bothed : Row := ⟨"bothed", top 12, ["v", "u", "w", "turn"], 3⟩
def r_right_piece : Row := ⟨"right_piece", top 13, ["u", "v"], 2⟩
def r_left_piece : Row := ⟨"left_piece", top 14, ["v", "u"], 2⟩
def r_both_piece : Row := ⟨"both_piece", top 15, ["v", "u", "w", "found", "sign"], 3⟩
def r_is_tuple_of_signs : Row := ⟨"is_tuple_of_signs", top 16, ["thing", "least", "sign"], 2⟩
def r_is_shaped : Row := ⟨"is_shaped", top 17, ["thing", "leasts", "word", "parts", "part", "least"], 1⟩
def r_is_piece : Row := ⟨"is_piece", top 18, ["thing", "word", "texts", "parts", "sign", "text"], 1⟩
def r_law_spread : Row := ⟨"_law_spread", top 20, ["_law_cell", "_law_at", "_law_primes", "_law_one", "_law_two", "_law_three"], 2⟩
def r_law_open : Row := ⟨"_law_open", top 21, ["_law_script", "_law_cells", "_law_k", "_law_cell"], 1⟩
def r_law_take : Row := ⟨"_law_take", top 22, ["_law_pen", "_law_many", "_law_found", "_law_at", "_law_cell"], 2⟩
def r_law_pick : Row := ⟨"_law_pick", top 23, ["_law_pen", "_law_some"], 2⟩
def r_law_some_letters : Row := ⟨"_law_some_letters", top 24, ["_law_pen", "_law_many", "_law_small", "_law_stem", "_law_at", "_law_first", "_law_k"], 2⟩
def r_law_same : Row := ⟨"_law_same", top 25, ["_law_found", "_law_due"], 2⟩
def r_law_some_row : Row := ⟨"_law_some_row", top 26, ["_law_pen", "_law_signs", "_law_least", "_law_most", "_law_k"], 4⟩
def r_law_some_signs : Row := ⟨"_law_some_signs", top 27, ["_law_pen", "_law_some", "_law_k"], 1⟩
def r_law_goes : Row := ⟨"_law_goes", top 28, ["_law_line", "_law_at", "_law_ring", "_law_k"], 3⟩
def r_law_comes : Row := ⟨"_law_comes", top 29, ["_law_line", "_law_at", "_law_ring", "_law_k"], 3⟩
def r_law_due_both : Row := ⟨"_law_due_both", top 30, ["_law_v", "_law_u", "_law_w", "_law_many", "_law_line", "_law_seam", "_law_lefts", "_law_rights", "_law_at", "_law_start", "_law_ring", "_law_turns", "_law_k", "_law_sign"], 3⟩
def r_law : Row := ⟨"law", top 31, ["_law_script", "_law_pen", "_law_turn", "_law_signs", "_law_v", "_law_w", "_law_u", "_law_way", "_law_found", "_law_at"], 1⟩
def rows : List Row := [r_is_of, r_is_letter, r_is_number, r_root_of, r_righted, r_lefted, r_turned_least, r_bothed, r_right_piece, r_left_piece, r_both_piece, r_is_tuple_of_signs, r_is_shaped, r_is_piece, r_law_spread, r_law_open, r_law_take, r_law_pick, r_law_some_letters, r_law_same, r_law_some_row, r_law_some_signs, r_law_goes, r_law_comes, r_law_due_both, r_law]
def prg : List Df := [⟨3, 2, d_is_of⟩, ⟨1, 1, d_is_letter⟩, ⟨1, 1, d_is_number⟩, ⟨2, 1, d_root_of⟩, ⟨2, 2, d_righted⟩, ⟨2, 2, d_lefted⟩, ⟨4, 2, d_turned_least⟩, ⟨4, 3, d_bothed⟩, ⟨2, 2, d_right_piece⟩, ⟨2, 2, d_left_piece⟩, ⟨5, 3, d_both_piece⟩, ⟨3, 2, d_is_tuple_of_signs⟩, ⟨6, 1, d_is_shaped⟩, ⟨6, 1, d_is_piece⟩, ⟨6, 2, d_law_spread⟩, ⟨4, 1, d_law_open⟩, ⟨5, 2, d_law_take⟩, ⟨2, 2, d_law_pick⟩, ⟨7, 2, d_law_some_letters⟩, ⟨2, 2, d_law_same⟩, ⟨5, 4, d_law_some_row⟩, ⟨3, 1, d_law_some_signs⟩, ⟨4, 3, d_law_goes⟩, ⟨4, 3, d_law_comes⟩, ⟨14, 3, d_law_due_both⟩, ⟨10, 1, d_law⟩]
def gn : Gn := ⟨[("is_of", 0), ("is_letter", 1), ("is_number", 2), ("root_of", 3), ("righted", 4), ("lefted", 5), ("turned_least", 6), ("bothed", 7), ("right_piece", 8), ("left_piece", 9), ("both_piece", 10), ("is_tuple_of_signs", 11), ("is_shaped", 12), ("is_piece", 13), ("_law_spread", 14), ("_law_open", 15), ("_law_take", 16), ("_law_pick", 17), ("_law_some_letters", 18), ("_law_same", 19), ("_law_some_row", 20), ("_law_some_signs", 21), ("_law_goes", 22), ("_law_comes", 23), ("_law_due_both", 24), ("law", 25)], [("SMALL", (.str [97, 98, 99, 100, 101, 102, 103, 104, 105, 106, 107, 108, 109, 110, 111, 112, 113, 114, 115, 116, 117, 118, 119, 120, 121, 122])), ("MOST_SIGNS", (.int 8))], [2, 1, 1, 1, 2, 2, 2, 3, 2, 2, 3, 2, 1, 1, 2, 1, 2, 2, 2, 2, 4, 1, 3, 3, 3, 1], [("SIZES", [([102, 101, 119], (.int 1)), ([114, 105, 103, 104, 116], (.int 2)), ([108, 101, 102, 116], (.int 2)), ([98, 111, 116, 104], (.int 3)), ([114, 111, 117, 110, 100], (.int 1)), ([101, 118, 101, 110], (.int 1))])]⟩
theorem t_is_of : trRow gn r_is_of = some d_is_of ∧ scopeOk r_is_of = true := ⟨by kernel_rfl, by kernel_rfl⟩
theorem b_is_of : Simple r_is_of := fun _ _ _ _ _ _ us h => match us, h with | [_, _], _ => rfl
theorem t_is_letter : trRow gn r_is_letter = some d_is_letter ∧ scopeOk r_is_letter = true := ⟨by kernel_rfl, by kernel_rfl⟩
theorem b_is_letter : Simple r_is_letter := fun _ _ _ _ _ _ us h => match us, h with | [_], _ => rfl
theorem t_is_number : trRow gn r_is_number = some d_is_number ∧ scopeOk r_is_number = true := ⟨by kernel_rfl, by kernel_rfl⟩
theorem b_is_number : Simple r_is_number := fun _ _ _ _ _ _ us h => match us, h with | [_], _ => rfl
theorem t_root_of : trRow gn r_root_of = some d_root_of ∧ scopeOk r_root_of = true := ⟨by kernel_rfl, by kernel_rfl⟩
theorem b_root_of : Simple r_root_of := fun _ _ _ _ _ _ us h => match us, h with | [_], _ => rfl
theorem t_righted : trRow gn r_righted = some d_righted ∧ scopeOk r_righted = true := ⟨by kernel_rfl, by kernel_rfl⟩
theorem b_righted : Simple r_righted := fun _ _ _ _ _ _ us h => match us, h with | [_, _], _ => rfl
theorem t_lefted : trRow gn r_lefted = some d_lefted ∧ scopeOk r_lefted = true := ⟨by kernel_rfl, by kernel_rfl⟩
theorem b_lefted : Simple r_lefted := fun _ _ _ _ _ _ us h => match us, h with | [_, _], _ => rfl
theorem t_turned_least : trRow gn r_turned_least = some d_turned_least ∧ scopeOk r_turned_least = true := ⟨by kernel_rfl, by kernel_rfl⟩
theorem b_turned_least : Simple r_turned_least := fun _ _ _ _ _ _ us h => match us, h with | [_, _], _ => rfl
theorem t_bothed : trRow gn r_bothed = some d_bothed ∧ scopeOk r_bothed = true := ⟨by kernel_rfl, by kernel_rfl⟩
theorem b_bothed : Simple r_bothed := fun _ _ _ _ _ _ us h => match us, h with | [_, _, _], _ => rfl
theorem t_right_piece : trRow gn r_right_piece = some d_right_piece ∧ scopeOk r_right_piece = true := ⟨by kernel_rfl, by kernel_rfl⟩
theorem b_right_piece : Simple r_right_piece := fun _ _ _ _ _ _ us h => match us, h with | [_, _], _ => rfl
theorem t_left_piece : trRow gn r_left_piece = some d_left_piece ∧ scopeOk r_left_piece = true := ⟨by kernel_rfl, by kernel_rfl⟩
theorem b_left_piece : Simple r_left_piece := fun _ _ _ _ _ _ us h => match us, h with | [_, _], _ => rfl
theorem t_both_piece : trRow gn r_both_piece = some d_both_piece ∧ scopeOk r_both_piece = true := ⟨by kernel_rfl, by kernel_rfl⟩
theorem b_both_piece : Simple r_both_piece := fun _ _ _ _ _ _ us h => match us, h with | [_, _, _], _ => rfl
theorem t_is_tuple_of_signs : trRow gn r_is_tuple_of_signs = some d_is_tuple_of_signs ∧ scopeOk r_is_tuple_of_signs = true := ⟨by kernel_rfl, by kernel_rfl⟩
theorem b_is_tuple_of_signs : Simple r_is_tuple_of_signs := fun _ _ _ _ _ _ us h => match us, h with | [_, _], _ => rfl
theorem t_is_shaped : trRow gn r_is_shaped = some d_is_shaped ∧ scopeOk r_is_shaped = true := ⟨by kernel_rfl, by kernel_rfl⟩
theorem b_is_shaped : Simple r_is_shaped := fun _ _ _ _ _ _ us h => match us, h with | [_], _ => rfl
theorem t_is_piece : trRow gn r_is_piece = some d_is_piece ∧ scopeOk r_is_piece = true := ⟨by kernel_rfl, by kernel_rfl⟩
theorem b_is_piece : Simple r_is_piece := fun _ _ _ _ _ _ us h => match us, h with | [_], _ => rfl
theorem t_law_spread : trRow gn r_law_spread = some d_law_spread ∧ scopeOk r_law_spread = true := ⟨by kernel_rfl, by kernel_rfl⟩
theorem b_law_spread : Simple r_law_spread := fun _ _ _ _ _ _ us h => match us, h with | [_, _], _ => rfl
theorem t_law_open : trRow gn r_law_open = some d_law_open ∧ scopeOk r_law_open = true := ⟨by kernel_rfl, by kernel_rfl⟩
theorem b_law_open : Simple r_law_open := fun _ _ _ _ _ _ us h => match us, h with | [_], _ => rfl
theorem t_law_take : trRow gn r_law_take = some d_law_take ∧ scopeOk r_law_take = true := ⟨by kernel_rfl, by kernel_rfl⟩
theorem b_law_take : Simple r_law_take := fun _ _ _ _ _ _ us h => match us, h with | [_, _], _ => rfl
theorem t_law_pick : trRow gn r_law_pick = some d_law_pick ∧ scopeOk r_law_pick = true := ⟨by kernel_rfl, by kernel_rfl⟩
theorem b_law_pick : Simple r_law_pick := fun _ _ _ _ _ _ us h => match us, h with | [_, _], _ => rfl
theorem t_law_some_letters : trRow gn r_law_some_letters = some d_law_some_letters ∧ scopeOk r_law_some_letters = true := ⟨by kernel_rfl, by kernel_rfl⟩
theorem b_law_some_letters : Simple r_law_some_letters := fun _ _ _ _ _ _ us h => match us, h with | [_, _], _ => rfl
theorem t_law_same : trRow gn r_law_same = some d_law_same ∧ scopeOk r_law_same = true := ⟨by kernel_rfl, by kernel_rfl⟩
theorem b_law_same : Simple r_law_same := fun _ _ _ _ _ _ us h => match us, h with | [_, _], _ => rfl
theorem t_law_some_row : trRow gn r_law_some_row = some d_law_some_row ∧ scopeOk r_law_some_row = true := ⟨by kernel_rfl, by kernel_rfl⟩
theorem b_law_some_row : Simple r_law_some_row := fun _ _ _ _ _ _ us h => match us, h with | [_, _, _, _], _ => rfl
theorem t_law_some_signs : trRow gn r_law_some_signs = some d_law_some_signs ∧ scopeOk r_law_some_signs = true := ⟨by kernel_rfl, by kernel_rfl⟩
theorem b_law_some_signs : Simple r_law_some_signs := fun _ _ _ _ _ _ us h => match us, h with | [_], _ => rfl
theorem t_law_goes : trRow gn r_law_goes = some d_law_goes ∧ scopeOk r_law_goes = true := ⟨by kernel_rfl, by kernel_rfl⟩
theorem b_law_goes : Simple r_law_goes := fun _ _ _ _ _ _ us h => match us, h with | [_, _, _], _ => rfl
theorem t_law_comes : trRow gn r_law_comes = some d_law_comes ∧ scopeOk r_law_comes = true := ⟨by kernel_rfl, by kernel_rfl⟩
theorem b_law_comes : Simple r_law_comes := fun _ _ _ _ _ _ us h => match us, h with | [_, _, _], _ => rfl
theorem t_law_due_both : trRow gn r_law_due_both = some d_law_due_both ∧ scopeOk r_law_due_both = true := ⟨by kernel_rfl, by kernel_rfl⟩
theorem b_law_due_both : Simple r_law_due_both := fun _ _ _ _ _ _ us h => match us, h with | [_, _, _], _ => rfl
theorem t_law : trRow gn r_law = some d_law ∧ scopeOk r_law = true := ⟨by kernel_rfl, by kernel_rfl⟩
theorem b_law : Simple r_law := fun _ _ _ _ _ _ us h => match us, h with | [_], _ => rfl
theorem prg_mk {w : World} {K : PySem.W.Frag} {h : Heap} {mg : Str → Option Value} (X : K.In h) (N : h.Ns mainGlobals mg)
    (f0 : HasFn K "is_of" (top 3))
    (f1 : HasFn K "is_letter" (top 4))
    (f2 : HasFn K "is_number" (top 5))
    (f3 : HasFn K "root_of" (top 8))
    (f4 : HasFn K "righted" (top 9))
    (f5 : HasFn K "lefted" (top 10))
    (f6 : HasFn K "turned_least" (top 11))
    (f7 : HasFn K "bothed" (top 12))
    (f8 : HasFn K "right_piece" (top 13))
    (f9 : HasFn K "left_piece" (top 14))
    (f10 : HasFn K "both_piece" (top 15))
    (f11 : HasFn K "is_tuple_of_signs" (top 16))
    (f12 : HasFn K "is_shaped" (top 17))
    (f13 : HasFn K "is_piece" (top 18))
    (f14 : HasFn K "_law_spread" (top 20))
    (f15 : HasFn K "_law_open" (top 21))
    (f16 : HasFn K "_law_take" (top 22))
    (f17 : HasFn K "_law_pick" (top 23))
    (f18 : HasFn K "_law_some_letters" (top 24))
    (f19 : HasFn K "_law_same" (top 25))
    (f20 : HasFn K "_law_some_row" (top 26))
    (f21 : HasFn K "_law_some_signs" (top 27))
    (f22 : HasFn K "_law_goes" (top 28))
    (f23 : HasFn K "_law_comes" (top 29))
    (f24 : HasFn K "_law_due_both" (top 30))
    (f25 : HasFn K "law" (top 31))
    (z0 : PySem.W.nsIn K mainGlobals "len" = some none)
    (z1 : PySem.W.nsIn K mainGlobals "repr" = some none)
    (z2 : PySem.W.nsIn K mainGlobals "tuple" = some none)
    (z3 : PySem.W.nsIn K mainGlobals "list" = some none)
    (z4 : PySem.W.nsIn K mainGlobals "sum" = some none)
    (z5 : PySem.W.nsIn K mainGlobals "all" = some none)
    (z6 : PySem.W.nsIn K mainGlobals "any" = some none)
    (z7 : PySem.W.nsIn K mainGlobals "int" = some none)
    (z8 : PySem.W.nsIn K mainGlobals "max" = some none)
    (z9 : PySem.W.nsIn K mainGlobals "min" = some none)
    (z10 : PySem.W.nsIn K mainGlobals "range" = some none)
    (z11 : PySem.W.nsIn K mainGlobals "enumerate" = some none)
    (z12 : PySem.W.nsIn K mainGlobals "zip" = some none)
    (z13 : PySem.W.nsIn K mainGlobals "isinstance" = some none)
    (z14 : PySem.W.nsIn K mainGlobals "bool" = some none)
    (z15 : PySem.W.nsIn K mainGlobals "str" = some none)
    (z16 : PySem.W.nsIn K mainGlobals "dict" = some none)
    (z17 : PySem.W.nsIn K mainGlobals "sorted" = some none)
    (c0 : HasCn K "SMALL" (.str [97, 98, 99, 100, 101, 102, 103, 104, 105, 106, 107, 108, 109, 110, 111, 112, 113, 114, 115, 116, 117, 118, 119, 120, 121, 122]))
    (c1 : HasCn K "MOST_SIGNS" (.int 8))
    (d0 : HasDc K w "SIZES" [([102, 101, 119], (.int 1)), ([114, 105, 103, 104, 116], (.int 2)), ([108, 101, 102, 116], (.int 2)), ([98, 111, 116, 104], (.int 3)), ([114, 111, 117, 110, 100], (.int 1)), ([101, 118, 101, 110], (.int 1))]) :
    Prg pgm w K mg gn rows prg :=
  prg_of X N ⟨⟨f0, b_is_of, t_is_of.2, t_is_of.1, rfl, rfl, rfl⟩, ⟨f1, b_is_letter, t_is_letter.2, t_is_letter.1, rfl, rfl, rfl⟩, ⟨f2, b_is_number, t_is_number.2, t_is_number.1, rfl, rfl, rfl⟩, ⟨f3, b_root_of, t_root_of.2, t_root_of.1, rfl, rfl, rfl⟩, ⟨f4, b_righted, t_righted.2, t_righted.1, rfl, rfl, rfl⟩, ⟨f5, b_lefted, t_lefted.2, t_lefted.1, rfl, rfl, rfl⟩, ⟨f6, b_turned_least, t_turned_least.2, t_turned_least.1, rfl, rfl, rfl⟩, ⟨f7, b_bothed, t_bothed.2, t_bothed.1, rfl, rfl, rfl⟩, ⟨f8, b_right_piece, t_right_piece.2, t_right_piece.1, rfl, rfl, rfl⟩, ⟨f9, b_left_piece, t_left_piece.2, t_left_piece.1, rfl, rfl, rfl⟩, ⟨f10, b_both_piece, t_both_piece.2, t_both_piece.1, rfl, rfl, rfl⟩, ⟨f11, b_is_tuple_of_signs, t_is_tuple_of_signs.2, t_is_tuple_of_signs.1, rfl, rfl, rfl⟩, ⟨f12, b_is_shaped, t_is_shaped.2, t_is_shaped.1, rfl, rfl, rfl⟩, ⟨f13, b_is_piece, t_is_piece.2, t_is_piece.1, rfl, rfl, rfl⟩, ⟨f14, b_law_spread, t_law_spread.2, t_law_spread.1, rfl, rfl, rfl⟩, ⟨f15, b_law_open, t_law_open.2, t_law_open.1, rfl, rfl, rfl⟩, ⟨f16, b_law_take, t_law_take.2, t_law_take.1, rfl, rfl, rfl⟩, ⟨f17, b_law_pick, t_law_pick.2, t_law_pick.1, rfl, rfl, rfl⟩, ⟨f18, b_law_some_letters, t_law_some_letters.2, t_law_some_letters.1, rfl, rfl, rfl⟩, ⟨f19, b_law_same, t_law_same.2, t_law_same.1, rfl, rfl, rfl⟩, ⟨f20, b_law_some_row, t_law_some_row.2, t_law_some_row.1, rfl, rfl, rfl⟩, ⟨f21, b_law_some_signs, t_law_some_signs.2, t_law_some_signs.1, rfl, rfl, rfl⟩, ⟨f22, b_law_goes, t_law_goes.2, t_law_goes.1, rfl, rfl, rfl⟩, ⟨f23, b_law_comes, t_law_comes.2, t_law_comes.1, rfl, rfl, rfl⟩, ⟨f24, b_law_due_both, t_law_due_both.2, t_law_due_both.1, rfl, rfl, rfl⟩, ⟨f25, b_law, t_law.2, t_law.1, rfl, rfl, rfl⟩, trivial⟩ (by decide +kernel) (List.forall_mem_cons.mpr ⟨c0, List.forall_mem_cons.mpr ⟨c1, fun p hp => by cases hp⟩⟩) (List.forall_mem_cons.mpr ⟨d0, fun p hp => by cases hp⟩) (bls_of X N z0 z1 z2 z3 z4 z5 z6 z7 z8 z9 z10 z11 z12 z13 z14 z15 z16 z17)
end Mi

/-! N22: the law. -/
namespace Mi
open PySem
def Pl (d : D) : Prop := d.pl = true ∧ d.dep ≤ 64
theorem Pl.eq {a b : D} (ha : Pl a) (hb : Pl b) (M : Hm) : cmpM .eq a b M = some (decide (a = b)) := cmp_eq (eq_pl ha.1 hb.1 ha.2 hb.2)
theorem Pl.ne {a b : D} (ha : Pl a) (hb : Pl b) (M : Hm) : cmpM .ne a b M = some (!decide (a = b)) := cmp_ne (eq_pl ha.1 hb.1 ha.2 hb.2)
theorem pl_rows {a : List Nat} {ps : List (List D)} (ha : (D.str a).pl = true) (h : ∀ p ∈ ps, Sgs p) : Pl (.tup (.str a :: ps.map .tup)) := by
  have h2 : D.pls (ps.map .tup) = true := pls_all.mpr fun d hd => by
    obtain ⟨p, hp, rfl⟩ := List.mem_map.mp hd
    simp only [D.pl]
    exact (row_of (h p hp)).pl
  have h3 : D.deps (ps.map .tup) ≤ 41 := deps_le.mpr fun d hd => by
    obtain ⟨p, hp, rfl⟩ := List.mem_map.mp hd
    simp only [D.dep]
    have := (row_of (h p hp)).dp
    omega
  refine ⟨by simp only [D.pl, D.pls, Bool.and_eq_true]; exact ⟨by simpa only [D.pl] using ha, h2⟩, ?_⟩
  simp only [D.dep, D.deps]
  omega
theorem pl_right {a b : List D} (ha : Sgs a) (hb : Sgs b) : Pl (.tup [rightS, .tup a, .tup b]) := pl_rows (ps := [a, b]) (by decide +kernel) (by simp; exact ⟨ha, hb⟩)
theorem pl_left {a b : List D} (ha : Sgs a) (hb : Sgs b) : Pl (.tup [leftS, .tup a, .tup b]) := pl_rows (ps := [a, b]) (by decide +kernel) (by simp; exact ⟨ha, hb⟩)
theorem pl_isb {v u w : List D} {d : D} (s1 : Sgs v) (s2 : Sgs u) (s3 : Sgs w) (h : IsB v u w d) : Pl d := by
  rcases h with ⟨t, v1, u1, w1, B, rfl⟩ | ⟨t, v1, r, B, ⟨b, hb, rfl, _⟩, rfl⟩
  · exact pl_rows (ps := [v1, u1, w1]) (by decide +kernel) (by simp; exact ⟨fun d hd => s1 d (B.mv d hd), fun d hd => s2 d (B.mu d hd), fun d hd => (B.mw d hd).elim (s2 d) (s3 d)⟩)
  · exact pl_rows (ps := [rotn b v1]) (by decide +kernel) (by simp; exact fun d hd => s1 d (B.mv d (rotn_mem d hd)))
theorem Sgs.rev {v : List D} (h : Sgs v) : Sgs v.reverse := fun d hd => h d (List.mem_reverse.mp hd)
theorem Sgs.app {v w : List D} (h : Sgs v) (g : Sgs w) : Sgs (v ++ w) := fun d hd => (List.mem_append.mp hd).elim (h d) (g d)
theorem Sgs.pow {v : List D} {n : Nat} (h : Sgs v) : Sgs (pow n v) := fun d hd => h d (mem_pow d hd)
theorem Sgs.take {v : List D} {n : Nat} (h : Sgs v) : Sgs (v.take n) := fun d hd => h d (List.mem_of_mem_take hd)
theorem Sgs.rotn {v : List D} {n : Nat} (h : Sgs v) : Sgs (rotn n v) := fun d hd => h d (rotn_mem d hd)
theorem rev_tup {l : List D} {M : Hm} {Φ : D → Hm → Prop} : Ret (revM (.tup l) M) Φ ↔ Φ (.tup l.reverse) M := Iff.rfl

theorem hro : RootOk prg 3 := root_ok rfl
theorem hri : RightedOk prg 4 := righted_ok (c := 3) rfl hro
theorem htu : TurnOk prg 6 := turned_ok rfl
theorem hbo : BothOk prg 7 := bothed_ok (cr := 4) (c0 := 3) rfl hri hro
theorem hbp : BothpOk prg 10 := bothp_ok (cb := 7) (ct := 6) rfl hbo htu
theorem hlet : LetOk prg 1 := let_ok (c := 0) rfl rfl
theorem hnum : NumOk prg 2 := isnum_ok rfl
theorem htp : TupOk prg 11 := tup_ok (cl := 1) (cn := 2) rfl hlet hnum
theorem hsh : ShapedOk prg 12 := shaped_ok (ct := 11) rfl htp
theorem hsp : SpreadOk prg 14 := spread8_ok rfl
theorem hta : TakeOk prg 16 := take_ok (s := 14) rfl hsp
theorem hpk : PickOk prg 17 := pick_ok (t := 16) rfl hta
theorem hlt' : LettersOk prg 18 := letters_ok (t := 16) rfl hta
theorem hgo : GoesOk prg 22 := goes_ok rfl
theorem hco : ComesOk prg 23 := comes_ok rfl
theorem hdu : DueOk prg 24 := due_ok (cg := 22) (cc := 23) rfl hgo hco
theorem due_eq {v u w : List D} {d d' : D} (sv : Sgs v) (nv : v ≠ []) (h : IsB v u w d) (h' : IsDue v u w d') : d = d' := by
  rcases h with ⟨t, v1, u1, w1, B, rfl⟩ | ⟨t, v1, r, B, L, rfl⟩
  · rcases h' with ⟨t', v1', u1', w1', C, rfl⟩ | ⟨t', v1', r', C, L', rfl⟩
    · have := B.eq.symm.trans C.eq
      simp only [Prod.mk.injEq, true_and] at this
      obtain ⟨rfl, rfl, rfl⟩ := this
      rfl
    · have := B.eq.symm.trans C.eq
      simp at this
  · rcases h' with ⟨t', v1', u1', w1', C, rfl⟩ | ⟨t', v1', r', C, L', rfl⟩
    · have := B.eq.symm.trans C.eq
      simp at this
    · have hl := List.length_pos_iff.mpr nv
      have hk : ∃ k, ∀ i, lp (rootOf v) i = lp v1 (i + k) := ⟨v.length * t - t, fun i => by
        have : t ≤ v.length * t := Nat.le_mul_of_pos_left t hl
        rw [B.lv, lp_root nv, show i + (v.length * t - t) + t = i + v.length * t by omega, (lp_per v).mul]⟩
      rw [Least.one (fun d hd => sv d (B.mv d hd)) (fun d hd => sv d (rootOf_mem d hd)) B.pv (prim_root nv) hk L L']
theorem szs_le {l : List D} (h : Sgs l) : D.szs l ≤ 112 * l.length := by
  induction l with
  | nil => exact Nat.zero_le _
  | cons d r ih =>
    have := (h d List.mem_cons_self).facts.2.2.1
    have := ih fun y hy => h y (List.mem_cons_of_mem _ hy)
    simp only [D.szs, List.length_cons]
    omega
theorem shw_isb {v u w : List D} {d : D} (s1 : Sgs v) (s2 : Sgs u) (s3 : Sgs w) (l1 : v.length ≤ 100) (l2 : u.length ≤ 100) (l3 : w.length ≤ 100) (h : IsB v u w d) : Shw d := by
  have p := pl_isb s1 s2 s3 h
  refine ⟨p.1, p.2, ?_⟩
  have lm : lim = 16777216 := rfl
  rcases h with ⟨t, v1, u1, w1, B, rfl⟩ | ⟨t, v1, r, B, ⟨b, hb, rfl, _⟩, rfl⟩
  · have z1 := szs_le (l := v1) fun d hd => s1 d (B.mv d hd)
    have z2 := szs_le (l := u1) fun d hd => s2 d (B.mu d hd)
    have z3 := szs_le (l := w1) fun d hd => (B.mw d hd).elim (s2 d) (s3 d)
    have n1 := B.nv
    have n2 := B.nu
    have n3 := B.nw
    simp only [D.sz, D.szs, bothS, List.length_cons, List.length_nil]
    omega
  · have z1 := szs_le (l := rotn b v1) fun d hd => s1 d (B.mv d (rotn_mem d hd))
    have n1 := B.nv
    have n2 : (rotn b v1).length = v1.length := rotn_len
    simp only [D.sz, D.szs, roundS, List.length_cons, List.length_nil]
    omega
def q3 : S :=
  (.seq (.set 4 (.bin .mul (.var 4) (.bin .add (.lit (.int 1)) (.call 16 (.cons (.var 1) (.cons (.lit (.int 2)) .nil)))))) (.seq (.set 8 (.call 10 (.cons (.var 4) (.cons (.var 6) (.cons (.var 5) .nil))))) (.ifS (.orE (.notE (.call 19 (.cons (.var 8) (.cons (.call 24 (.cons (.var 4) (.cons (.var 6) (.cons (.var 5) .nil)))) .nil)))) (.isB (.call 13 (.cons (.var 8) .nil)) true true)) (.ret (.lit (.bl false))) .pas)))
def q2 : S :=
  (.seq (.ifS (.cmp .eq (.var 7) (.lit (.int 1))) (.set 6 (.bin .add (.var 6) (.slc (.bin .mul (.var 5) (.lit (.int 4))) (.so (.bin .sub (.bin .mul (.lit (.int 4)) (.blt .len (.var 5))) (.call 16 (.cons (.var 1) (.cons (.bin .add (.bin .mul (.lit (.int 2)) (.blt .len (.var 5))) (.lit (.int 1))) .nil))))) .no))) .pas) (.seq (.set 4 (.bin .mul (.var 4) (.bin .add (.lit (.int 1)) (.call 16 (.cons (.var 1) (.cons (.lit (.int 2)) .nil)))))) (.seq (.set 8 (.call 10 (.cons (.var 4) (.cons (.var 6) (.cons (.var 5) .nil))))) (.ifS (.orE (.notE (.call 19 (.cons (.var 8) (.cons (.call 24 (.cons (.var 4) (.cons (.var 6) (.cons (.var 5) .nil)))) .nil)))) (.isB (.call 13 (.cons (.var 8) .nil)) true true)) (.ret (.lit (.bl false))) .pas))))
def q1 : S :=
  (.seq (.ifS (.cmp .eq (.var 7) (.lit (.int 0))) (.set 6 (.slc (.bin .mul (.var 4) (.lit (.int 4))) .no (.so (.call 16 (.cons (.var 1) (.cons (.bin .add (.bin .mul (.lit (.int 2)) (.blt .len (.var 4))) (.lit (.int 1))) .nil)))))) .pas) (.seq (.ifS (.cmp .eq (.var 7) (.lit (.int 1))) (.set 6 (.bin .add (.var 6) (.slc (.bin .mul (.var 5) (.lit (.int 4))) (.so (.bin .sub (.bin .mul (.lit (.int 4)) (.blt .len (.var 5))) (.call 16 (.cons (.var 1) (.cons (.bin .add (.bin .mul (.lit (.int 2)) (.blt .len (.var 5))) (.lit (.int 1))) .nil))))) .no))) .pas) (.seq (.set 4 (.bin .mul (.var 4) (.bin .add (.lit (.int 1)) (.call 16 (.cons (.var 1) (.cons (.lit (.int 2)) .nil)))))) (.seq (.set 8 (.call 10 (.cons (.var 4) (.cons (.var 6) (.cons (.var 5) .nil))))) (.ifS (.orE (.notE (.call 19 (.cons (.var 8) (.cons (.call 24 (.cons (.var 4) (.cons (.var 6) (.cons (.var 5) .nil)))) .nil)))) (.isB (.call 13 (.cons (.var 8) .nil)) true true)) (.ret (.lit (.bl false))) .pas)))))
section
variable {N : Sl → Hm → Prop} {R : D → Hm → Prop} {B C : Sl → Hm → Prop}
theorem st3 (p c : Nat) (b : Int) (M : Hm) (u v w : List D) (x0 x2 x3 x7 x8 x9 : Option D) (pen : Pen M p c b) (hb : b + 100 < 2 ^ 30) (su : Sgs u) (sv : Sgs v) (sw : Sgs w) (nv : v ≠ []) (nw : w ≠ []) (lu : u.length ≤ 16) (lv : v.length ≤ 3) (lw : w.length ≤ 6)
    (hN : ∀ M' y4 y5 y6 y7 y8 y9, Pst p M M' → Pen M' p c (b + 1) → N [x0, some (.ref p), x2, x3, y4, y5, y6, y7, y8, y9] M') :
    Wp (ex (callAt prg 59) q3 [x0, some (.ref p), x2, x3, some (.tup v), some (.tup w), some (.tup u), x7, x8, x9] M) N R B C := by
  unfold q3
  have lm : lim = 16777216 := rfl
  have hv := List.length_pos_iff.mpr nv
  rw [x_seq, x_set]
  simp only [w_bin, w_lit, w_call, w_cons, w_nil, w_var, vS_some, List.getElem?_cons_zero, List.getElem?_cons_succ]
  refine (hta 57 p c b 2 M pen (by omega) (by decide) (by decide)).mono fun d M1 h => ?_
  obtain ⟨m, o1, rfl, m0, m1, rfl, pen1⟩ := h
  have st1 : Pst p M (M.set p o1) := ⟨o1, rfl⟩
  obtain ⟨m, rfl⟩ := Int.eq_ofNat_of_zero_le m0
  rw [Ret_add, Ret_mulT (by omega) (by omega), show (1 : Int) + (m : Int) = ((m + 1 : Nat) : Int) by omega, rep_pow, Int.toNat_natCast]
  have lpw : v.length * (m + 1) ≤ 3 * 2 := Nat.mul_le_mul lv (by omega)
  refine ⟨by omega, ?_⟩
  have sv2 : Sgs (pow (m + 1) v) := sv.pow
  have lv2 : (pow (m + 1) v).length ≤ 6 := by rw [pow_len, Nat.mul_comm]; exact lpw
  have nv2 : pow (m + 1) v ≠ [] := fun z => by
    have h1 := pow_len (n := m + 1) (x := v)
    have h2 : 0 < (m + 1) * v.length := Nat.mul_pos (Nat.succ_pos _) hv
    rw [z, List.length_nil] at h1
    omega
  generalize pow (m + 1) v = v' at *
  generalize M.set p o1 = M1 at *
  simp only [List.set_cons_succ, List.set_cons_zero]
  rw [x_seq, x_set]
  simp only [w_call, w_cons, w_nil, w_var, vS_some, List.getElem?_cons_zero, List.getElem?_cons_succ]
  refine (hbp 55 v' u w M1 sv2 su sw nv2 nw (by omega) (by omega) (by omega)).mono fun d M2 h => ?_
  obtain ⟨hd, rfl⟩ := h
  simp only [List.set_cons_succ, List.set_cons_zero]
  rw [x_if, t_or, t_not, t_call, w_call, w_cons]
  simp only [w_call, w_cons, w_nil, w_var, vS_some, List.getElem?_cons_zero, List.getElem?_cons_succ]
  refine (hdu 57 v' u w M2 sv2 su sw nv2 nw (by omega) (by omega) (by omega)).mono fun d' M3 h => ?_
  obtain ⟨hd', rfl⟩ := h
  cases due_eq sv2 nv2 hd hd'
  refine (same_ok (i := 19) (prg := prg) rfl 58 d M3 (shw_isb sv2 su sw (by omega) (by omega) (by omega) hd)).mono fun r M4 h => ?_
  obtain ⟨rfl, rfl⟩ := h
  rw [kS_bl]
  simp only [Bool.not_true,
      Bool.false_eq_true, if_false]
  rw [t_isB, w_isB, w_call, w_cons]
  simp only [w_nil, w_var, vS_some, List.getElem?_cons_zero, List.getElem?_cons_succ]
  refine (piece_bothp (i := 13) (cs := 12) (cr := 8) (cl := 9) (cb := 10) (prg := prg) rfl hsh hbp 54 v' u w d M4 sv2 su sw nv2 nw (by omega) (by omega) (by omega) hd).mono fun r M5 h => ?_
  obtain ⟨rfl, rfl⟩ := h
  rw [bS_bl, kS_bl]
  simp only [decide_true, bne_self_eq_false, Bool.false_eq_true, if_false]
  rw [x_pas]
  exact hN _ _ _ _ _ _ _ st1 pen1
theorem st2 (p c : Nat) (b : Int) (M : Hm) (u v w : List D) (way : Int) (x0 x2 x3 x8 x9 : Option D) (pen : Pen M p c b) (hb : b + 200 < 2 ^ 30) (su : Sgs u) (sv : Sgs v) (sw : Sgs w) (nv : v ≠ []) (nw : w ≠ []) (lu : u.length ≤ 3 ∨ way ≠ 1 ∧ u.length ≤ 16) (lv : v.length ≤ 3) (lw : w.length ≤ 6)
    (hN : ∀ M' y4 y5 y6 y7 y8 y9, Pst p M M' → Pen M' p c (b + 2) → N [x0, some (.ref p), x2, x3, y4, y5, y6, y7, y8, y9] M') :
    Wp (ex (callAt prg 59) q2 [x0, some (.ref p), x2, x3, some (.tup v), some (.tup w), some (.tup u), some (.int way), x8, x9] M) N R B C := by
  unfold q2
  have lm : lim = 16777216 := rfl
  have hw := List.length_pos_iff.mpr nw
  rw [x_seq, x_if, t_cmp, w_cmp]
  simp only [w_lit, w_var, vS_some, List.getElem?_cons_zero, List.getElem?_cons_succ, cmp_eqI, cS_some, kS_bl]
  split
  · rename_i hw1
    have hw1 := of_decide_eq_true hw1
    have lu3 : u.length ≤ 3 := lu.elim id fun h => absurd hw1 h.1
    have e2 : (2 : Int).natAbs.log2 = 1 := by decide
    have e4 : (4 : Int).natAbs.log2 = 2 := by decide
    have l1 : ((w.length : Int)).natAbs.log2 < 64 := small_log (by omega)
    have l2 : (2 * (w.length : Int) + 1).natAbs.log2 < 64 := small_log (by omega)
    rw [x_set]
    simp only [w_bin, w_slc, w_so, w_no, w_lit, w_call, w_cons, w_nil, w_blt_var, w_var, vS_some, List.getElem?_cons_zero, List.getElem?_cons_succ, len_tup]
    rw [Ret_mulT (by decide) (by decide), show rep (4 : Int) w = pow 4 w from rep_pow (n := 4)]
    refine ⟨by show w.length * 4 ≤ lim; omega, ?_⟩
    simp only [Ret_mul, Ret_add]
    refine ⟨by omega,
        by omega, ?_⟩
    refine (hta 57 p c b _ M pen (by omega) (by omega) (by omega)).mono fun d M1 h => ?_
    obtain ⟨m, o1, rfl, m0, m1, rfl, pen1⟩ := h
    obtain ⟨m, rfl⟩ := Int.eq_ofNat_of_zero_le m0
    have st1 : Pst p M (M.set p o1) := ⟨o1, rfl⟩
    rw [Ret_sub, oS_int]
    refine ⟨by omega, ?_⟩
    have es : 4 * (w.length : Int) - (m : Int) = ((4 * w.length - m : Nat) : Int) := by omega
    rw [slc_tup, es, cut_from (by rw [pow_len]; omega), Ret_addT]
    refine ⟨by rw [List.length_drop, pow_len]; omega, ?_⟩
    simp only [List.set_cons_succ, List.set_cons_zero]
    refine st3 p c (b + 1) _ _ v w x0 x2 x3 _ x8 x9 pen1 (by omega) (su.app fun d hd => sw d (mem_pow d (List.mem_of_mem_drop hd))) sv sw nv nw (by rw [List.length_append, List.length_drop, pow_len]; omega) lv lw fun M' y4 y5 y6 y7 y8 y9 h1 h2 => ?_
    exact hN M' y4 y5 y6 y7 y8 y9 (st1.trans h1) (h2.le (by omega))
  · rw [x_pas]
    exact st3 p c b M u v w x0 x2 x3 _ x8 x9 pen (by omega) su sv sw nv nw (by rcases lu with h | h; omega; exact h.2) lv lw fun M' y4 y5 y6 y7 y8 y9 h1 h2 => hN M' y4 y5 y6 y7 y8 y9 h1 (h2.le (by omega))
theorem st1 (p c : Nat) (b : Int) (M : Hm) (u v w : List D) (way : Int) (x0 x2 x3 x8 x9 : Option D) (pen : Pen M p c b) (hb : b + 300 < 2 ^ 30) (su : Sgs u) (sv : Sgs v) (sw : Sgs w) (nv : v ≠ []) (nw : w ≠ []) (lu : u.length ≤ 3) (lv : v.length ≤ 3) (lw : w.length ≤ 6)
    (hN : ∀ M' y4 y5 y6 y7 y8 y9, Pst p M M' → Pen M' p c (b + 3) → N [x0, some (.ref p), x2, x3, y4, y5, y6, y7, y8, y9] M') :
    Wp (ex (callAt prg 59) q1 [x0, some (.ref p), x2, x3, some (.tup v), some (.tup w), some (.tup u), some (.int way), x8, x9] M) N R B C := by
  unfold q1
  have lm : lim = 16777216 := rfl
  have hv := List.length_pos_iff.mpr nv
  rw [x_seq, x_if, t_cmp, w_cmp]
  simp only [w_lit, w_var, vS_some, List.getElem?_cons_zero, List.getElem?_cons_succ, cmp_eqI, cS_some, kS_bl]
  split
  · rename_i hw1
    have hw1 := of_decide_eq_true hw1
    have e2 : (2 : Int).natAbs.log2 = 1 := by decide
    have l1 : ((v.length : Int)).natAbs.log2 < 64 := small_log (by omega)
    have l2 : (2 * (v.length : Int) + 1).natAbs.log2 < 64 := small_log (by omega)
    rw [x_set]
    simp only [w_bin, w_slc, w_so, w_no, w_lit, w_call, w_cons, w_nil, w_blt_var, w_var, vS_some, List.getElem?_cons_zero, List.getElem?_cons_succ, len_tup]
    rw [Ret_mulT (by decide) (by decide), show rep (4 : Int) v = pow 4 v from rep_pow (n := 4)]
    refine ⟨by show v.length * 4 ≤ lim; omega, ?_⟩
    simp only [Ret_mul, Ret_add]
    refine ⟨by omega, ?_⟩
    refine (hta 57 p c b _ M pen (by omega) (by omega) (by omega)).mono fun d M1 h => ?_
    obtain ⟨m, o1, rfl, m0, m1, rfl, pen1⟩ := h
    obtain ⟨m, rfl⟩ := Int.eq_ofNat_of_zero_le m0
    have st1 : Pst p M (M.set p o1) := ⟨o1, rfl⟩
    rw [oS_int]
    refine ⟨by omega, ?_⟩
    rw [slc_tup, cut_upto (by rw [pow_len]; omega)]
    simp only [List.set_cons_succ, List.set_cons_zero]
    refine st2 p c (b + 1) _ _ v w way x0 x2 x3 x8 x9 pen1 (by omega) (fun d hd => sv d (mem_pow d (List.mem_of_mem_take hd))) sv sw nv nw (.inr ⟨by omega, by rw [List.length_take]; omega⟩) lv lw fun M' y4 y5 y6 y7 y8 y9 h1 h2 => ?_
    exact hN M' y4 y5 y6 y7 y8 y9 (st1.trans h1) (h2.le (by omega))
  · rw [x_pas]
    exact st2 p c b M u v w way x0 x2 x3 x8 x9 pen (by omega) su sv sw nv nw (.inl lu) lv lw fun M' y4 y5 y6 y7 y8 y9 h1 h2 => hN M' y4 y5 y6 y7 y8 y9 h1 (h2.le (by omega))
end
def q0 : S :=
  (.seq (.set 6 (.call 20 (.cons (.var 1) (.cons (.var 3) (.cons (.lit (.int 0)) (.cons (.lit (.int 3)) .nil)))))) (.seq (.set 7 (.call 16 (.cons (.var 1) (.cons (.lit (.int 4)) .nil)))) (.seq (.ifS (.cmp .eq (.var 7) (.lit (.int 0))) (.set 6 (.slc (.bin .mul (.var 4) (.lit (.int 4))) .no (.so (.call 16 (.cons (.var 1) (.cons (.bin .add (.bin .mul (.lit (.int 2)) (.blt .len (.var 4))) (.lit (.int 1))) .nil)))))) .pas) (.seq (.ifS (.cmp .eq (.var 7) (.lit (.int 1))) (.set 6 (.bin .add (.var 6) (.slc (.bin .mul (.var 5) (.lit (.int 4))) (.so (.bin .sub (.bin .mul (.lit (.int 4)) (.blt .len (.var 5))) (.call 16 (.cons (.var 1) (.cons (.bin .add (.bin .mul (.lit (.int 2)) (.blt .len (.var 5))) (.lit (.int 1))) .nil))))) .no))) .pas) (.seq (.set 4 (.bin .mul (.var 4) (.bin .add (.lit (.int 1)) (.call 16 (.cons (.var 1) (.cons (.lit (.int 2)) .nil)))))) (.seq (.set 8 (.call 10 (.cons (.var 4) (.cons (.var 6) (.cons (.var 5) .nil))))) (.ifS (.orE (.notE (.call 19 (.cons (.var 8) (.cons (.call 24 (.cons (.var 4) (.cons (.var 6) (.cons (.var 5) .nil)))) .nil)))) (.isB (.call 13 (.cons (.var 8) .nil)) true true)) (.ret (.lit (.bl false))) .pas)))))))
theorem st0 {N : Sl → Hm → Prop} {R : D → Hm → Prop} {B C : Sl → Hm → Prop} (p c q : Nat) (b : Int) (M : Hm) (ds v w : List D) (x0 x2 x6 x7 x8 x9 : Option D) (pen : Pen M p c b) (hb : b + 400 < 2 ^ 30) (hq : M[q]? = some (.lst ds)) (hqp : q ≠ p) (hds : ds ≠ []) (ld : ds.length ≤ 100) (sd : Sgs ds) (sv : Sgs v) (sw : Sgs w) (nv : v ≠ []) (nw : w ≠ []) (lv : v.length ≤ 3) (lw : w.length ≤ 6)
    (hN : ∀ M' y4 y5 y6 y7 y8 y9, Pst p M M' → Pen M' p c (b + 30) → N [x0, some (.ref p), x2, some (.ref q), y4, y5, y6, y7, y8, y9] M') :
    Wp (ex (callAt prg 59) q0 [x0, some (.ref p), x2, some (.ref q), some (.tup v), some (.tup w), x6, x7, x8, x9] M) N R B C := by
  unfold q0
  rw [x_seq, x_set]
  simp only [w_call, w_cons, w_nil, w_var, w_lit, vS_some, List.getElem?_cons_zero, List.getElem?_cons_succ]
  refine (some_row_ok (i := 20) (t := 16) (pk := 17) (prg := prg) rfl hta hpk 55 p c q 0 3 _ _ ds pen (by omega) hq hqp hds (by omega) (by decide) (by decide) fun x hx => (sd x hx).facts.2.2.2).mono fun d M1 h => ?_
  obtain ⟨u, rfl, _, lu, hu, st, pen1⟩ := h
  simp only [List.set_cons_succ, List.set_cons_zero]
  rw [x_seq, x_set]
  simp only [w_call, w_cons, w_nil, w_var, w_lit, vS_some, List.getElem?_cons_zero, List.getElem?_cons_succ]
  refine (hta 57 p c _ 4 M1 pen1 (by omega) (by decide) (by decide)).mono fun d M2 h => ?_
  obtain ⟨way, o2, rfl, m0, m1, rfl, pen2⟩ := h
  simp only [List.set_cons_succ, List.set_cons_zero]
  exact st1 p c _ _ u v w way x0 x2 _ x8 x9 pen2 (by omega) (fun d hd => sd d (hu d hd)) sv sw nv nw lu lv lw fun M' y4 y5 y6 y7 y8 y9 h1 h2 => hN M' y4 y5 y6 y7 y8 y9 (st.trans (Pst.trans ⟨o2, rfl⟩ h1)) (h2.le (by omega))
theorem law_true (ns : List Int) (h1 : ns.length ≤ 63) (h2 : ∀ z ∈ ns, Builtin.Int.intBits z ≤ 1048576) : ∃ M, callAt prg 60 25 [.rol ns] [] = some (.ok (.bl true) M) := by
  have main : Ret (callAt prg 60 25 [.rol ns] []) fun d _ => d = .bl true := by
    refine Ret_call (k := 59) (f := ⟨10, 1, d_law⟩) rfl (Ret_run rfl ?_)
    (simp only [d_law, List.map_cons, List.map_nil, List.length_cons, List.length_nil, List.replicate, List.cons_append, List.nil_append, Nat.reduceAdd, Nat.reduceSub])
    have lm : lim = 16777216 := rfl
    rw [x_seq, x_set]
    simp only [w_call, w_cons, w_nil, w_var, vS_some, List.getElem?_cons_zero]
    refine (open_ok (o := 15) (prg := prg) rfl 58 ns).mono fun d M0 h => ?_
    obtain ⟨p, c, rfl, pen0⟩ := h
    obtain ⟨pl, cl⟩ := pen0.lt
    rw [List.set_cons_succ, List.set_cons_zero, x_seq, x_for, s_rng]
    simp only [w_lit, rS_int]
    refine ⟨by decide, ?_⟩
    refine Wp_for (fun j σ M => ∃ x2 x3 x4 x5 x6 x7 x8 x9, σ = [some (.rol ns), some (.ref p), x2, x3, x4, x5, x6, x7, x8, x9] ∧ M0.length ≤ M.length ∧ Pen M p c (400 * j)) 0 ⟨_, _, _, _, _, _, _, _, rfl, Nat.le_refl _, by rw [show (400 : Int) * ((0 : Nat) : Int) = 0 from rfl]; exact pen0⟩ ?_ ?_
    · rintro j d σ M hd ⟨x2, x3, x4, x5, x6, x7, x8, x9, rfl, hM, pen⟩
      obtain ⟨rfl, hlt'⟩ := rng_at hd
      refine ⟨wk_free, _, set_nm, ?_⟩
      rw [Nat.zero_add] at pen
      simp only [List.set_cons_succ, List.set_cons_zero]
      rw [x_seq, x_set]
      simp only [w_call, w_cons, w_nil, w_var, vS_some, List.getElem?_cons_zero, List.getElem?_cons_succ]
      refine (some_signs_ok (i := 21) (t := 16) (l := 18) (prg := prg) rfl hta Mi.hlt' 55 p c _ M pen (by omega)).mono fun d M' h => ?_
      obtain ⟨M1, ds, rfl, rfl, st1, pen1, n2, n4, hS⟩ := h
      have hds : ds ≠ [] := fun z => by rw [z] at n2; simp at n2
      have hq1 : (M1 ++ [MO.lst ds])[M.length]? = some (.lst ds) := by rw [← st1.len]; exact last_at
      have hqp : M.length ≠ p := by have := pen.lt.1; omega
      have lows : ∀ x ∈ ds, ∀ n, x.low n = true := fun x hx => (hS x hx).facts.2.2.2
      simp only [List.set_cons_succ, List.set_cons_zero]
      rw [x_seq, x_set]
      simp only [w_call, w_cons, w_nil, w_var, w_lit, vS_some, List.getElem?_cons_zero, List.getElem?_cons_succ]
      refine (some_row_ok (i := 20) (t := 16) (pk := 17) (prg := prg) rfl hta hpk 55 p c M.length 1 3 _ _ ds pen1.app (by omega) hq1 hqp hds (by omega) (by decide) (by decide) lows).mono fun d M2 h => ?_
      obtain ⟨v0, rfl, v1, v4, hv0, st2, pen2⟩ := h
      have hq2 := (st2.get hqp).trans hq1
      simp only [List.set_cons_succ, List.set_cons_zero]
      rw [x_seq, x_set]
      simp only [w_call, w_cons, w_nil, w_var, w_lit, vS_some, List.getElem?_cons_zero, List.getElem?_cons_succ]
      refine (some_row_ok (i := 20) (t := 16) (pk := 17) (prg := prg) rfl hta hpk 55 p c M.length 1 3 _ _ ds pen2 (by omega) hq2 hqp hds (by omega) (by decide) (by decide) lows).mono fun d M3 h => ?_
      obtain ⟨w0, rfl, w1, w4, hw0, st3', pen3⟩ := h
      have hq3 := (st3'.get hqp).trans hq2
      simp only [List.set_cons_succ, List.set_cons_zero]
      rw [x_seq, x_if, t_cmp, w_cmp]
      simp only [w_call, w_cons, w_nil, w_var, w_lit, vS_some, List.getElem?_cons_zero, List.getElem?_cons_succ]
      refine (hta 57 p c _ 2 M3 pen3 (by omega) (by decide) (by decide)).mono fun d M4 h => ?_
      obtain ⟨n, o4, rfl, _, _, rfl, pen4⟩ := h
      have st4 : Pst p M3 (M3.set p o4) := ⟨o4, rfl⟩
      have hq4 := (st4.get hqp).trans hq3
      have st14 := (st2.trans st3').trans st4
      have nv : v0 ≠ [] := fun z => by rw [z] at v1; simp at v1
      have nw : w0 ≠ [] := fun z => by rw [z] at w1; simp at w1
      have sv : Sgs v0 := fun d h => hS d (hv0 d h)
      have sw : Sgs w0 := fun d h => hS d (hw0 d h)
      have fin : ∀ (x4 x5 x6 x7 x8 x9 : Option D) (Mz : Hm), Pst p (M3.set p o4) Mz → Pen Mz p c (400 * j + 40 + 20 + 20 + 1 + 200) →
          ∃ y2 y3 y4 y5 y6 y7 y8 y9, (leaveS M0 [some (.rol ns), some (.ref p), some (.int (0 + (j : Int))), some (.ref M.length), x4, x5, x6, x7, x8, x9] Mz).1 = [some (.rol ns), some (.ref p), y2, y3, y4, y5, y6, y7, y8, y9] ∧
            M0.length ≤ (leaveS M0 [some (.rol ns), some (.ref p), some (.int (0 + (j : Int))), some (.ref M.length), x4, x5, x6, x7, x8, x9] Mz).2.length ∧
            Pen (leaveS M0 [some (.rol ns), some (.ref p), some (.int (0 + (j : Int))), some (.ref M.length), x4, x5, x6, x7, x8, x9] Mz).2 p c (400 * ((0 + j + 1 : Nat) : Int)) := fun x4 x5 x6 x7 x8 x9 Mz stz penz => by
        have lM : M0.length ≤ Mz.length := by rw [stz.len, st14.len, List.length_append, st1.len]; omega
        obtain ⟨f, hf, q1, q2, q3⟩ := leaveS_low (M0 := M0) (M := Mz) (σ := [some (.rol ns), some (.ref p), some (.int (0 + (j : Int))), some (.ref M.length), x4, x5, x6, x7, x8, x9]) lM
        have e : ∀ x : Option D, ∃ y, ∀ r, slRen f (x :: r) = y :: slRen f r := fun x => by
          cases x with
          | none => exact ⟨none, fun r => rfl⟩
          | some d => exact ⟨some (d.ren f), fun r => rfl⟩
        obtain ⟨y4, e4⟩ := e x4
        obtain ⟨y5, e5⟩ := e x5
        obtain ⟨y6, e6⟩ := e x6
        obtain ⟨y7, e7⟩ := e x7
        obtain ⟨y8, e8⟩ := e x8
        obtain ⟨y9, e9⟩ := e x9
        have q1' := q1
        simp only [slRen, e4, e5, e6, e7, e8, e9, D.ren, hf p pl] at q1'
        refine ⟨_, _, _, _, _, _, _, _, q1', q3, ?_⟩
        obtain ⟨cells, a, q, h1, h2, h3, h4, h5, h6⟩ := penz
        exact ⟨cells, a, q, by rw [q2 p pl]; exact h1, by rw [q2 c cl]; exact h2, h3, h4, by omega, h6⟩
      rw [cmp_eqI, cS_some, kS_bl]
      split
      · have l1 : ((v0.length : Int)).natAbs.log2 < 64 := small_log (by omega)
        rw [x_seq, x_set]
        simp only [w_call, w_cons, w_nil, w_blt_var, w_var, w_lit, vS_some, List.getElem?_cons_zero, List.getElem?_cons_succ, len_tup]
        refine (hta 57 p c _ _ _ pen4 (by omega) (by omega) (by omega)).mono fun d M5 h => ?_
        obtain ⟨at', o5, rfl, a0, a1, rfl, pen5⟩ := h
        obtain ⟨at', rfl⟩ := Int.eq_ofNat_of_zero_le a0
        simp only [List.set_cons_succ, List.set_cons_zero]
        rw [x_set]
        simp only [w_bin, w_slc, w_so, w_no, w_call, w_cons, w_nil, w_lit, w_var, vS_some, List.getElem?_cons_zero, List.getElem?_cons_succ, oS_int, slc_tup]
        refine ⟨by omega,
            by omega, ?_⟩
        rw [cut_from (by omega), cut_upto (by omega), Ret_addT]
        refine ⟨by rw [List.length_drop, List.length_take]; omega, ?_⟩
        refine (hta 57 p c _ 2 _ pen5 (by omega) (by decide) (by decide)).mono fun d M6 h => ?_
        obtain ⟨m, o6, rfl, m0, m1, rfl, pen6⟩ := h
        obtain ⟨m, rfl⟩ := Int.eq_ofNat_of_zero_le m0
        have er : v0.drop at' ++ v0.take at' = rotn at' v0 := rfl
        have lr : (rotn at' v0).length = v0.length := rotn_len
        rw [Ret_add, er, Ret_mulT (by omega) (by omega), show (1 : Int) + (m : Int) = ((m + 1 : Nat) : Int) by omega, rep_pow, Int.toNat_natCast]
        have lpw : v0.length * (m + 1) ≤ 3 * 2 := Nat.mul_le_mul v4 (by omega)
        refine ⟨by rw [lr]; omega, ?_⟩
        simp only [List.set_cons_succ, List.set_cons_zero]
        have st56 : Pst p (M3.set p o4) (((M3.set p o4).set p o5).set p o6) := Pst.trans ⟨o5, rfl⟩ ⟨o6, rfl⟩
        have nw2 : pow (m + 1) (rotn at' v0) ≠ [] := fun z => by
          have h1 := pow_len (n := m + 1) (x := rotn at' v0)
          have h2 : 0 < (m + 1) * v0.length := Nat.mul_pos (Nat.succ_pos _) (by omega)
          rw [z, lr, List.length_nil] at h1
          omega
        exact st0 p c M.length _ _ ds v0 _ _ _ _ _ _ _ pen6 (by omega) ((st56.get hqp).trans hq4) hqp hds (by omega) hS sv (sv.rotn.pow) nv nw2 v4 (by rw [pow_len, lr, Nat.mul_comm]; omega) fun Mz y4 y5 y6 y7 y8 y9 stz penz => fin _ _ _ _ _ _ _ (st56.trans stz) (penz.le (by omega))
      · rw [x_pas]
        exact st0 p c M.length _ _ ds v0 w0 _ _ _ _ _ _ pen4 (by omega) hq4 hqp hds (by omega) hS sv sw nv nw v4 (by omega) fun Mz y4 y5 y6 y7 y8 y9 stz penz => fin _ _ _ _ _ _ _ stz (penz.le (by omega))
    · rintro σ M ⟨x2, x3, x4, x5, x6, x7, x8, x9, rfl, hM, pen⟩
      refine ⟨wk_free, ?_⟩
      rw [x_ret, w_lit]
      show Ret (leave [] (.bl true) M) _
      rw [leave_low (M0 := []) (p := fun _ => False) ⟨Nat.zero_le _, fun i hi => absurd hi (Nat.not_lt_zero i)⟩ rfl, Ret_ok]
  obtain ⟨d, M, e, rfl⟩ := main.ex
  exact ⟨M, e⟩
end Mi

namespace Mi
open PySem PySem.Spec
    PyProof.Rows L2
theorem law_walk {q : Program} {loose : List Str} {XP : (Str → Option Value) → Heap → Prop} {YP : World → Heap → Prop} {d : DefRec} {K : Params → PySem.W.Frag} (hn : PySem.Challenge.rw_everbetween_k22_rounds_to_both_sides.most = some 63) (hdf : d.params.defaults = []) (hd : d.name = "law") (hq : importsNone q = true)
    (hY : ∀ (w : World) (h : Heap), YP w h → (K w.params).In h) (F : ∀ (w : World) (mg : Str → Option Value) (h : Heap), (K w.params).In h → h.Ns mainGlobals mg → Prg pgm w (K w.params) mg gn rows prg) :
    PySem.W.WalkO q loose XP YP PySem.Challenge.rw_everbetween_k22_rounds_to_both_sides.row.toRowW d [] (fun f vs => PySem.call f vs) :=
  walk_G (l := PySem.Challenge.rw_everbetween_k22_rounds_to_both_sides) (n := 63) (k := 60) (i := 25) (r := r_law) hn (by decide) hdf ⟨rfl, by decide, by decide⟩ hq hY rfl hd.symm rfl F fun ns h1 h2 => law_true ns h1 h2
end Mi
open PySem PySem.W
    PyProof.Rows
set_option
    maxRecDepth 100000 in
set_option maxHeartbeats 0 in
theorem PySem.Challenge.cw_everbetween_k22_rounds_to_both_sides_holds : PySem.Challenge.rw_everbetween_k22_rounds_to_both_sides.Holds := by
  w_on; o_law; k_head;
      (case hw => w_witness2)
  k_fill
  refine Mi.law_walk rfl rfl rfl (by decide +kernel) (fun w h Y => PySem.W.kIn_of Y) ?F
  case F =>
    intro w mg h X N
    refine' Mi.prg_mk X N (Mi.hasFn ?a0 ?l0 ?c0 ?k0) (Mi.hasFn ?a1 ?l1 ?c1 ?k1) (Mi.hasFn ?a2 ?l2 ?c2 ?k2) (Mi.hasFn ?a3 ?l3 ?c3 ?k3) (Mi.hasFn ?a4 ?l4 ?c4 ?k4) (Mi.hasFn ?a5 ?l5 ?c5 ?k5) (Mi.hasFn ?a6 ?l6 ?c6 ?k6) (Mi.hasFn ?a7 ?l7 ?c7 ?k7) (Mi.hasFn ?a8 ?l8 ?c8 ?k8) (Mi.hasFn ?a9 ?l9 ?c9 ?k9) (Mi.hasFn ?a10 ?l10 ?c10 ?k10) (Mi.hasFn ?a11 ?l11 ?c11 ?k11) (Mi.hasFn ?a12 ?l12 ?c12 ?k12) (Mi.hasFn ?a13 ?l13 ?c13 ?k13) (Mi.hasFn ?a14 ?l14 ?c14 ?k14) (Mi.hasFn ?a15 ?l15 ?c15 ?k15) (Mi.hasFn ?a16 ?l16 ?c16 ?k16) (Mi.hasFn ?a17 ?l17 ?c17 ?k17) (Mi.hasFn ?a18 ?l18 ?c18 ?k18) (Mi.hasFn ?a19 ?l19 ?c19 ?k19) (Mi.hasFn ?a20 ?l20 ?c20 ?k20) (Mi.hasFn ?a21 ?l21 ?c21 ?k21) (Mi.hasFn ?a22 ?l22 ?c22 ?k22) (Mi.hasFn ?a23 ?l23 ?c23 ?k23) (Mi.hasFn ?a24 ?l24 ?c24 ?k24) (Mi.hasFn ?a25 ?l25 ?c25 ?k25) ?z0 ?z1 ?z2 ?z3 ?z4 ?z5 ?z6 ?z7 ?z8 ?z9 ?z10 ?z11 ?z12 ?z13 ?z14 ?z15 ?z16 ?z17 (Mi.hasStr (s := "abcdefghijklmnopqrstuvwxyz") ?e0 (by decide +kernel)) (Mi.hasInt ?e1) (Mi.hasDc ?dg0 ?dh0 ?di0 ?dj0 (List.forall_mem_cons.mpr ⟨Mi.keyInt (s := "few") ?dm0_0 (by decide +kernel), List.forall_mem_cons.mpr ⟨Mi.keyInt (s := "right") ?dm0_1 (by decide +kernel), List.forall_mem_cons.mpr ⟨Mi.keyInt (s := "left") ?dm0_2 (by decide +kernel), List.forall_mem_cons.mpr ⟨Mi.keyInt (s := "both") ?dm0_3 (by decide +kernel), List.forall_mem_cons.mpr ⟨Mi.keyInt (s := "round") ?dm0_4 (by decide +kernel), List.forall_mem_cons.mpr ⟨Mi.keyInt (s := "even") ?dm0_5 (by decide +kernel), fun p hp => by cases hp⟩⟩⟩⟩⟩⟩))
    (case a0 => k_is); (case l0 => k_is); (case c0 => k_is); (case k0 => k_is)
    (case a1 => k_is); (case l1 => k_is);
        (case c1 => k_is); (case k1 => k_is)
    (case a2 => k_is); (case l2 => k_is);
        (case c2 => k_is); (case k2 => k_is)
    (case a3 => k_is); (case l3 => k_is);
        (case c3 => k_is); (case k3 => k_is)
    (case a4 => k_is); (case l4 => k_is);
        (case c4 => k_is); (case k4 => k_is)
    (case a5 => k_is); (case l5 => k_is); (case c5 => k_is); (case k5 => k_is)
    (case a6 => k_is); (case l6 => k_is); (case c6 => k_is); (case k6 => k_is)
    (case a7 => k_is); (case l7 => k_is); (case c7 => k_is); (case k7 => k_is)
    (case a8 => k_is); (case l8 => k_is); (case c8 => k_is); (case k8 => k_is)
    (case a9 => k_is); (case l9 => k_is); (case c9 => k_is); (case k9 => k_is)
    (case a10 => k_is); (case l10 => k_is); (case c10 => k_is); (case k10 => k_is)
    (case a11 => k_is); (case l11 => k_is); (case c11 => k_is); (case k11 => k_is)
    (case a12 => k_is); (case l12 => k_is); (case c12 => k_is); (case k12 => k_is)
    (case a13 => k_is); (case l13 => k_is); (case c13 => k_is); (case k13 => k_is)
    (case a14 => k_is); (case l14 => k_is); (case c14 => k_is); (case k14 => k_is)
    (case a15 => k_is); (case l15 => k_is); (case c15 => k_is); (case k15 => k_is)
    (case a16 => k_is); (case l16 => k_is); (case c16 => k_is); (case k16 => k_is)
    (case a17 => k_is); (case l17 => k_is); (case c17 => k_is); (case k17 => k_is)
    (case a18 => k_is); (case l18 => k_is); (case c18 => k_is); (case k18 => k_is)
    (case a19 => k_is); (case l19 => k_is); (case c19 => k_is); (case k19 => k_is)
    (case a20 => k_is); (case l20 => k_is); (case c20 => k_is); (case k20 => k_is)
    (case a21 => k_is); (case l21 => k_is); (case c21 => k_is); (case k21 => k_is)
    (case a22 => k_is); (case l22 => k_is); (case c22 => k_is); (case k22 => k_is)
    (case a23 => k_is); (case l23 => k_is); (case c23 => k_is); (case k23 => k_is)
    (case a24 => k_is); (case l24 => k_is); (case c24 => k_is); (case k24 => k_is)
    (case a25 => k_is); (case l25 => k_is); (case c25 => k_is); (case k25 => k_is)
    (case z0 => k_is); (case z1 => k_is); (case z2 => k_is); (case z3 => k_is); (case z4 => k_is); (case z5 => k_is); (case z6 => k_is); (case z7 => k_is); (case z8 => k_is); (case z9 => k_is); (case z10 => k_is); (case z11 => k_is); (case z12 => k_is); (case z13 => k_is); (case z14 => k_is); (case z15 => k_is); (case z16 => k_is); (case z17 => k_is)
    (case e0 => k_is)
    (case e1 => k_is)
    (case dg0 => k_is); (case dh0 => k_is); (case di0 => k_keys); (case dj0 => decide +kernel)
    (case dm0_0 => k_is)
    (case dm0_1 => k_is)
    (case dm0_2 => k_is)
    (case dm0_3 => k_is)
    (case dm0_4 => k_is)
    (case dm0_5 => k_is)
