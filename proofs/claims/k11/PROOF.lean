import PyProof.Rows.All
import Wide.All
import OpenK.AllK
import Wide.FinOn
import HandS.ForMost
import HandS.Exc
import HandS.TupAny
import HandS.TupMul
import HandS.Wide
import HandS.Flow
import HandS.Style
import HandS.Gcd
import HandS.SetFor
import HandS.IsInst
import HandS.TupLe
import PyProof.ReprRoads
import PyProof.RowDictHeap
import HandS.SortRule
import HandS.SortInts
import HandS.Conv
import HandS.RevTup
import HandS.ExcOwn
import KE.KDictList
import HandS.ListItems
import KE.GoesNew
import HandS.DictComp
import KE.KRevSl
import HandS.Dict
import HandS.Strs
import HandS.Defaults
import KE.KStateDown
import HandS.Ends
import HandS.More
import HandS.Words
import HandS.WordsExc
import HandS.Head0
import HandS.Head1
import HandS.Head2
import HandS.HeadEnd
import HandS.HeadHook1
import HandS.HeadHook2
import PySem.Challenge.RW_seatssure_k11_whole_counts_and_shares
set_option linter.all false
set_option Elab.async false
set_option maxRecDepth 100000
/-! PMa: a small language of Python's values and steps, with plain evaluation: data are trees, lists that change are cells of a store. -/
namespace PM
open PySem L2

/-- a value: data as trees; ref n: the n-th cell -/
inductive D where
  | non | bl (b : Bool) | int (i : Int) | str (s : Str)
  | tup (ds : List D) | lst (ds : List D) | dic (kvs : List (D × D)) | ref (n : Nat) | scr (ns : List Int)
  deriving Inhabited

/-- what changes: lists, dicts by keys (intsOf, texts), dicts by tuples; a dict is locked while it is walked -/
inductive Cell where
  | lst (ds : List D)
  | dK (lk : Bool) (kvs : List (Key × D))
  | dT (lk : Bool) (kvs : List (List Key × D))
  deriving Inhabited
abbrev Store := List Cell

mutual
def D.beq : D → D → Bool
  | .non, .non => true
  | .bl a, .bl b => decide (a = b)
  | .int a, .int b => decide (a = b)
  | .str a, .str b => decide (a = b)
  | .tup a, .tup b => D.beqs a b
  | .lst a, .lst b => D.beqs a b
  | .dic a, .dic b => D.beqk a b
  | .ref a, .ref b => decide (a = b)
  | .scr a, .scr b => decide (a = b)
  | _, _ => false
termination_by structural x => x
def D.beqs : List D → List D → Bool
  | [], [] => true
  | x :: xs, y :: ys => D.beq x y && D.beqs xs ys
  | _, _ => false
termination_by structural x => x
def D.beqk : List (D × D) → List (D × D) → Bool
  | [], [] => true
  | (x, u) :: xs, (y, v) :: ys => D.beq x y && (D.beq u v && D.beqk xs ys)
  | _, _ => false
termination_by structural x => x
end

mutual
theorem D.beq_eq : ∀ (x y : D), D.beq x y = true → x = y := by
  intro x
  cases x with
  | non => intro y h; cases y <;> first | rfl | exact absurd (show false = true from h) (by decide)
  | bl a => intro y h; cases y <;> first | exact absurd (show false = true from h) (by decide) | (rw [of_decide_eq_true h])
  | int a => intro y h; cases y <;> first | exact absurd (show false = true from h) (by decide) | (rw [of_decide_eq_true h])
  | str a => intro y h; cases y <;> first | exact absurd (show false = true from h) (by decide) | (rw [of_decide_eq_true h])
  | ref a => intro y h; cases y <;> first | exact absurd (show false = true from h) (by decide) | (rw [of_decide_eq_true h])
  | scr a => intro y h; cases y <;> first | exact absurd (show false = true from h) (by decide) | (rw [of_decide_eq_true h])
  | tup a =>
    intro y h
    cases y with
    | tup b => rw [D.beqs_eq a b h]
    | _ => exact absurd (show false = true from h) (by decide)
  | lst a =>
    intro y h
    cases y with
    | lst b => rw [D.beqs_eq a b h]
    | _ => exact absurd (show false = true from h) (by decide)
  | dic a =>
    intro y h
    cases y with
    | dic b => rw [D.beqk_eq a b h]
    | _ => exact absurd (show false = true from h) (by decide)
theorem D.beqs_eq : ∀ (x y : List D), D.beqs x y = true → x = y
  | [], [], _ => rfl
  | [], _ :: _, h => absurd (show false = true from h) (by decide)
  | _ :: _, [], h => absurd (show false = true from h) (by decide)
  | x :: xs, y :: ys, h => by
    have h' : (D.beq x y && D.beqs xs ys) = true := h
    rw [Bool.and_eq_true] at h'
    rw [D.beq_eq x y h'.1, D.beqs_eq xs ys h'.2]
theorem D.beqk_eq : ∀ (x y : List (D × D)), D.beqk x y = true → x = y
  | [], [], _ => rfl
  | [], _ :: _, h => absurd (show false = true from h) (by decide)
  | _ :: _, [], h => absurd (show false = true from h) (by decide)
  | (x, u) :: xs, (y, v) :: ys, h => by
    have h' : (D.beq x y && (D.beq u v && D.beqk xs ys)) = true := h
    rw [Bool.and_eq_true, Bool.and_eq_true] at h'
    rw [D.beq_eq x y h'.1, D.beq_eq u v h'.2.1, D.beqk_eq xs ys h'.2.2]
end
mutual
theorem D.beq_refl : ∀ x : D, D.beq x x = true := by
  intro x
  cases x with
  | non => rfl
  | bl a => exact decide_eq_true rfl
  | int a => exact decide_eq_true rfl
  | str a => exact decide_eq_true rfl
  | ref a => exact decide_eq_true rfl
  | scr a => exact decide_eq_true rfl
  | tup a => exact D.beqs_refl a
  | lst a => exact D.beqs_refl a
  | dic a => exact D.beqk_refl a
theorem D.beqs_refl : ∀ x : List D, D.beqs x x = true
  | [] => rfl
  | x :: xs => by
    show (D.beq x x && D.beqs xs xs) = true
    rw [D.beq_refl x, D.beqs_refl xs]; rfl
theorem D.beqk_refl : ∀ x : List (D × D), D.beqk x x = true
  | [] => rfl
  | (x, u) :: xs => by
    show (D.beq x x && (D.beq u u && D.beqk xs xs)) = true
    rw [D.beq_refl x, D.beq_refl u, D.beqk_refl xs]; rfl
end
instance : DecidableEq D := fun x y => if h : D.beq x y = true then .isTrue (D.beq_eq x y h) else .isFalse fun e => h (e ▸ D.beq_refl x)
instance : DecidableEq Cell := fun a b => match a, b with
  | .lst x, .lst y => if h : x = y then .isTrue (by rw [h]) else .isFalse fun e => h (by cases e; rfl)
  | .dK l x, .dK m y => if h : l = m ∧ x = y then .isTrue (by rw [h.1, h.2]) else .isFalse fun e => h (by cases e; exact ⟨rfl, rfl⟩)
  | .dT l x, .dT m y => if h : l = m ∧ x = y then .isTrue (by rw [h.1, h.2]) else .isFalse fun e => h (by cases e; exact ⟨rfl, rfl⟩)
  | .lst _, .dK _ _ => .isFalse fun e => nomatch e
  | .lst _, .dT _ _ => .isFalse fun e => nomatch e
  | .dK _ _, .lst _ => .isFalse fun e => nomatch e
  | .dK _ _, .dT _ _ => .isFalse fun e => nomatch e
  | .dT _ _, .lst _ => .isFalse fun e => nomatch e
  | .dT _ _, .dK _ _ => .isFalse fun e => nomatch e

mutual
/-- no cell within -/
def D.pure : D → Bool
  | .non | .bl _ | .int _ | .str _ => true
  | .tup ds | .lst ds => D.pures ds
  | .dic kvs => D.purek kvs
  | .ref _ | .scr _ => false
termination_by structural x => x
def D.pures : List D → Bool
  | [] => true
  | d :: ds => D.pure d && D.pures ds
termination_by structural x => x
def D.purek : List (D × D) → Bool
  | [] => true
  | (k, v) :: r => D.pure k && (D.pure v && D.purek r)
termination_by structural x => x
end
mutual
/-- as the library's data -/
def D.py : D → PyData
  | .non | .ref _ | .scr _ => .none
  | .bl b => .bool b
  | .int i => .int i
  | .str s => .str s
  | .tup ds => .tuple (D.pys ds)
  | .lst ds => .list (D.pys ds)
  | .dic kvs => .dict (D.pyk kvs)
termination_by structural x => x
def D.pys : List D → List PyData
  | [] => []
  | d :: ds => D.py d :: D.pys ds
termination_by structural x => x
def D.pyk : List (D × D) → List (PyData × PyData)
  | [] => []
  | (k, v) :: r => (D.py k, D.py v) :: D.pyk r
termination_by structural x => x
end

/-- what a step ends with -/
inductive Res (α : Type) where
  | ok (a : α) (M : Store)
  | ex (c : Nat) (v : D) (M : Store)
  | no
def Res.bind {α β : Type} : Res α → (α → Store → Res β) → Res β
  | .ok a M, f => f a M
  | .ex c v M, _ => .ex c v M
  | .no, _ => .no
@[simp] theorem ok_bind {α β : Type} (a : α) (M : Store) (f : α → Store → Res β) : (Res.ok a M).bind f = f a M := rfl
@[simp] theorem ex_bind {α β : Type} (c : Nat) (v : D) (M : Store) (f : α → Store → Res β) : (Res.ex c v M : Res α).bind f = .ex c v M := rfl
@[simp] theorem no_bind {α β : Type} (f : α → Store → Res β) : (Res.no : Res α).bind f = .no := rfl
theorem bind_assoc {α β γ : Type} (r : Res α) (f : α → Store → Res β) (g : β → Store → Res γ) : (r.bind f).bind g = r.bind fun a M => (f a M).bind g := by cases r <;> rfl
def optR {α : Type} (o : Option α) (M : Store) : Res α := match o with
  | some a => .ok a M
  | none => .no
@[simp] theorem optR_some {α : Type} (a : α) (M : Store) : optR (some a) M = .ok a M := rfl
@[simp] theorem optR_none {α : Type} (M : Store) : optR (none : Option α) M = .no := rfl
def Res.some? {α : Type} : Res α → Prop
  | .no => False
  | _ => True

/-! ### values -/
/-- a list or a tuple, whatever holds it -/
def seqOf (d : D) (M : Store) : Option (List D) := match d with
  | .tup ds => some ds
  | .lst ds => some ds
  | .scr ns => some (ns.map D.int)
  | .ref n => match M[n]? with
    | some (.lst ds) => some ds
    | _ => none
  | _ => none
/-- a cell's list as a tree -/
def res (d : D) (M : Store) : D := match d with
  | .ref n => match M[n]? with
    | some (.lst ds) => .lst ds
    | _ => .ref n
  | d => d
def lstOf (d : D) (M : Store) : Option (List D) := match d with
  | .tup _ => none
  | d => seqOf d M
def tru (d : D) (M : Store) : Option Bool := match d with
  | .non => some false
  | .bl b => some b
  | .int i => some (i != 0)
  | .str s => if s.length ≤ sizeLine then some ((s.length : Int) != 0) else none
  | .tup ds => some (!ds.isEmpty)
  | .lst ds => some (!ds.isEmpty)
  | .ref n => match M[n]? with
    | some (.lst ds) => some (!ds.isEmpty)
    | _ => none
  | _ => none
def intsOf : List D → Option (List Int)
  | [] => some []
  | .int i :: r => (intsOf r).map (i :: ·)
  | _ => none
def blsOf : List D → Option (List Bool)
  | [] => some []
  | .bl b :: r => (blsOf r).map (b :: ·)
  | _ => none
def small (i : Int) : Bool := decide (-(2 ^ 64) < i) && decide (i < 2 ^ 64)
def mulOk (i j : Int) : Bool := small i || (small j || decide (i.natAbs.log2 + j.natAbs.log2 < 1000000))
def divOk (j : Int) : Bool := decide (0 < j) && decide (j.natAbs.log2 < 9000)
def lineOk (n : Nat) : Bool := decide (n ≤ sizeLine)
def addD (x y : D) (M : Store) : Option D := match x, y with
  | .int i, .int j => some (.int (i + j))
  | .str s, .str t => if lineOk (s.length + t.length) then some (.str (s ++ t)) else none
  | .tup a, .tup b => if lineOk (a.length + b.length) then some (.tup (a ++ b)) else none
  | .lst a, .lst b => if lineOk (a.length + b.length) then some (.lst (a ++ b)) else none
  | _, _ => none
def subD (x y : D) : Option D := match x, y with
  | .int i, .int j => some (.int (i - j))
  | _, _ => none
def mulD (x y : D) : Option D := match x, y with
  | .int i, .int j => if mulOk i j then some (.int (i * j)) else none
  | .tup a, .int k => if decide (2 ≤ k ∧ k ≤ 1000 ∧ a.length ≤ 1000) && !a.isEmpty then some (.tup (List.replicate k.toNat a).flatten) else none
  | _, _ => none
def fdivD (x y : D) : Option D := match x, y with
  | .int i, .int j => if divOk j then some (.int (i / j)) else none
  | _, _ => none
def modD (x y : D) : Option D := match x, y with
  | .int i, .int j => if 0 < j then some (.int (i % j)) else none
  | _, _ => none
def powD (x y : D) : Option D := match x, y with
  | .int i, .int j => if 0 ≤ j ∧ j ≤ 200 ∧ i.natAbs < 2 ^ 3000 then some (.int (i ^ j.toNat)) else none
  | _, _ => none
def negD (x : D) : Option D := match x with
  | .int i => some (.int (-i))
  | _ => none
/-- data that == compares -/
def eqOk (d : D) : Bool := d.pure && SeqAt.shaped d.py
def eqD (x y : D) : Option Bool := if eqOk x && eqOk y then some (PyData.eqv x.py y.py) else none
inductive Cmp where
  | eq | ne | lt | le | gt | ge | isN | notN | isB (b : Bool) | notB (b : Bool) | inn | notIn
  deriving DecidableEq
def flat (d : D) : Bool := match d with
  | .non | .bl _ | .int _ | .str _ => true
  | _ => false
def toKey : D → Option Key
  | .int i => some (.inl i)
  | .str s => some (.inr s)
  | _ => none
def toKeys : List D → Option (List Key)
  | [] => some []
  | d :: r => match toKey d, toKeys r with
    | some k, some ks => some (k :: ks)
    | _, _ => none
def valOf {κ : Type} [DecidableEq κ] (kvs : List (κ × D)) (k : κ) : Option D := (kvs.find? fun kv => decide (kv.1 = k)).map (·.2)
def putOf {κ : Type} [DecidableEq κ] (kvs : List (κ × D)) (k : κ) (v : D) : List (κ × D) :=
  if (kvs.any fun kv => decide (kv.1 = k)) = true then kvs.map fun kv => if kv.1 = k then (kv.1, v) else kv else kvs ++ [(k, v)]
/-- x in y -/
def inD (x y : D) (M : Store) : Option Bool := match y with
  | .ref n => match M[n]? with
    | some (.lst ds) => if flat x && ds.all flat then some (ds.any fun d => PyData.eqv d.py x.py) else none
    | some (.dK _ kvs) => (toKey x).map fun k => (valOf kvs k).isSome
    | some (.dT _ kvs) => match x with
      | .tup ds => (toKeys ds).map fun k => (valOf kvs k).isSome
      | _ => none
    | _ => none
  | .tup ds | .lst ds => if flat x && ds.all flat then some (ds.any fun d => PyData.eqv d.py x.py) else none
  | _ => none
def ltI (x y : D) : Option (Int × Int) := match x, y with
  | .int i, .int j => some (i, j)
  | _, _ => none
def ltD (x y : D) : Option Bool := match x, y with
  | .int i, .int j => some (decide (i < j))
  | .tup a, .tup b => match intsOf a, intsOf b with
    | some a, some b => some (HT.lexLt a b)
    | _, _ => none
  | _, _ => none
def cmpD (c : Cmp) (x y : D) (M : Store) : Option Bool := match c with
  | .eq => eqD (res x M) (res y M)
  | .ne => (eqD (res x M) (res y M)).map (!·)
  | .lt => ltD x y
  | .le => (ltI x y).map fun p => decide (p.1 ≤ p.2)
  | .gt => (ltI x y).map fun p => decide (p.2 < p.1)
  | .ge => (ltI x y).map fun p => decide (p.2 ≤ p.1)
  | .isN => if y = .non then some (decide (x = .non)) else none
  | .notN => if y = .non then some (!decide (x = .non)) else none
  | .isB b => match x with
    | .bl c => some (decide (c = b))
    | _ => none
  | .notB b => match x with
    | .bl c => some (!decide (c = b))
    | _ => none
  | .inn => inD x y M
  | .notIn => (inD x y M).map (!·)
/-- o[i] -/
def ixD (o i : D) (M : Store) : Option D := match o, i with
  | .tup ds, .int k => atI ds k
  | .lst ds, .int k => atI ds k
  | .scr ns, .int k => (atI ns k).map D.int
  | .ref n, k => match M[n]? with
    | some (.lst ds) => match k with
      | .int k => atI ds k
      | _ => none
    | some (.dK _ kvs) => (toKey k).bind fun q => valOf kvs q
    | some (.dT _ kvs) => match k with
      | .tup ks => (toKeys ks).bind fun q => valOf kvs q
      | _ => none
    | _ => none
  | _, _ => none
def cutD (ds : List D) (lo hi : Option Int) : List D := (ds.drop (HT.sIx ds.length 0 lo)).take (HT.sIx ds.length ds.length hi - HT.sIx ds.length 0 lo)
def slD (o : D) (lo hi : Option Int) (M : Store) : Option D := match o with
  | .tup ds => some (.tup (cutD ds lo hi))
  | .lst ds => some (.lst (cutD ds lo hi))
  | .scr ns => some (.lst (cutD (ns.map D.int) lo hi))
  | .ref n => match M[n]? with
    | some (.lst ds) => some (.lst (cutD ds lo hi))
    | _ => none
  | _ => none
inductive Ty where
  | int | bool | str | tup | lst | dict
  deriving DecidableEq
def isa (d : D) (t : Ty) (M : Store) : Option Bool := match d with
  | .non => some false
  | .bl _ => some (t == .bool || t == .int)
  | .int _ => some (t == .int)
  | .str _ => some (t == .str)
  | .tup _ => some (t == .tup)
  | .lst _ | .scr _ => some (t == .lst)
  | .dic _ => some (t == .dict)
  | .ref n => match M[n]? with
    | some (.lst _) => some (t == .lst)
    | some (.dK _ _) => some (t == .dict)
    | some (.dT false _) => some (t == .dict)
    | _ => none
def topOk : D → Bool
  | .dic _ => false
  | _ => true
def reprOk (d : D) : Bool := d.pure && (topOk d && (d.py.showable && (d.py.leavesShort 700 && (decide (702 * d.py.bulk + 700 ≤ sizeLine) && decide (d.py.depth ≤ 60)))))
/-- built-ins by name -/
inductive BI where
  | len | sum | abs | int | repr | all | any | max | min | tuple | listF | listC | sorted | gcd | str | isa (t : Ty)
  deriving DecidableEq
def absI (i : Int) : Int := if i < 0 then -i else i
def maxI (i j : Int) : Int := if j > i then j else i
def minI (i j : Int) : Int := if j < i then j else i
def foldMax : List Int → Option Int
  | [] => none
  | i :: r => some (r.foldl maxI i)
def foldMin : List Int → Option Int
  | [] => none
  | i :: r => some (r.foldl minI i)
/-- x put in behind all that are not above it -/
def insL (x : List Int) : List (List Int) → List (List Int)
  | [] => [x]
  | y :: r => if HT.lexLt x y then x :: y :: r else y :: insL x r
def sortL (l : List (List Int)) : List (List Int) := l.foldl (fun acc x => insL x acc) []
def insI (x : Int) : List Int → List Int
  | [] => [x]
  | y :: r => if x < y then x :: y :: r else y :: insI x r
def sortI (l : List Int) : List Int := l.foldl (fun acc x => insI x acc) []
/-- tuples of ints, none empty -/
def tupInts : List D → Option (List (List Int))
  | [] => some []
  | .tup ds :: r => match intsOf ds, tupInts r with
    | some (i :: l), some ls => some ((i :: l) :: ls)
    | _, _ => none
  | _ => none
def tupI (l : List Int) : D := .tup (l.map D.int)
def bi (b : BI) (as : List D) (M : Store) : Res D := match b, as with
  | .len, [x] => match x with
    | .str s => if lineOk s.length then .ok (.int s.length) M else .no
    | x => optR ((seqOf x M).map fun ds => .int ds.length) M
  | .sum, [x] => optR (((seqOf x M).bind intsOf).map fun ns => .int ns.sum) M
  | .abs, [.int i] => .ok (.int (absI i)) M
  | .int, [.int i] => .ok (.int i) M
  | .int, [.bl b] => .ok (.int (if b then 1 else 0)) M
  | .repr, [x] => let y := res x M; if reprOk y then .ok (.str y.py.shown) M else .no
  | .all, [x] => optR (((lstOf x M).bind blsOf).map fun bs => .bl (bs.all id)) M
  | .any, [x] => optR (((lstOf x M).bind blsOf).map fun bs => .bl (bs.any id)) M
  | .max, [x] => optR (((seqOf x M).bind intsOf).bind fun ns => (foldMax ns).map .int) M
  | .min, [x] => optR (((seqOf x M).bind intsOf).bind fun ns => (foldMin ns).map .int) M
  | .max, [.int i, .int j] => .ok (.int (maxI i j)) M
  | .min, [.int i, .int j] => .ok (.int (minI i j)) M
  | .tuple, [x] => optR ((seqOf x M).map .tup) M
  | .listF, [x] => optR ((seqOf x M).map .lst) M
  | .listC, [x] => match seqOf x M with
    | some ds => if D.pures ds then .ok (.ref M.length) (M ++ [.lst ds]) else .no
    | none => .no
  | .sorted, [x] => match lstOf x M with
    | some ds => match intsOf ds with
      | some ns => .ok (.lst ((sortI ns).map .int)) M
      | none => match tupInts ds with
        | some ls => .ok (.lst ((sortL ls).map tupI)) M
        | none => .no
    | none => .no
  | .gcd, [.int i, .int j] => .ok (.int (Nat.gcd i.natAbs j.natAbs : Nat)) M
  | .str, [.int i] => if decide (i.natAbs.log2 < 1920) then .ok (.str (toString i)) M else .no
  | .isa t, [x] => optR ((isa x t M).map .bl) M
  | _, _ => .no
/-- methods of lists and dicts -/
inductive MI where
  | append | extend | pop | popAt | count
  deriving DecidableEq
def countI (ns : List Int) (k : Int) : Nat := ns.count k
def mi (m : MI) (o : D) (as : List D) (M : Store) : Res D := match o with
  | .ref n => match m, M[n]?, as with
    | .append, some (.lst ds), [x] => if D.pure x && decide (ds.length < sizeLine) then .ok .non (M.set n (.lst (ds ++ [x]))) else .no
    | .extend, some (.lst ds), [.lst xs] => if D.pures xs && lineOk (ds.length + xs.length) then .ok .non (M.set n (.lst (ds ++ xs))) else .no
    | .pop, some (.lst ds), [] => match ds[ds.length - 1]? with
      | some d => .ok d (M.set n (.lst ds.dropLast))
      | none => .no
    | .popAt, some (.lst ds), [.int i] => match ixN ds.length i with
      | some k => match ds[k]? with
        | some d => .ok d (M.set n (.lst (ds.eraseIdx k)))
        | none => .no
      | none => .no
    | .count, some (.lst ds), [.int k] => match intsOf ds with
      | some ns => .ok (.int (countI ns k)) M
      | none => .no
    | _, _, _ => .no
  | .lst ds => match m, as with
    | .count, [.int k] => match intsOf ds with
      | some ns => .ok (.int (countI ns k)) M
      | none => .no
    | _, _ => .no
  | _ => .no
/-- o[i] = v -/
def setD (o i v : D) (M : Store) : Option Store := if D.pure v then (match o with
  | .ref n => match M[n]? with
    | some (.lst ds) => match i with
      | .int k => (ixN ds.length k).map fun j => M.set n (.lst (ds.set j v))
      | _ => none
    | some (.dK false kvs) => (toKey i).bind fun q => if kvs.length < sizeLine then some (M.set n (.dK false (putOf kvs q v))) else none
    | some (.dT false kvs) => match i with
      | .tup ks => (toKeys ks).bind fun q => if kvs.length < sizeLine then some (M.set n (.dT false (putOf kvs q v))) else none
      | _ => none
    | _ => none
  | _ => none) else none

/-- sorted(set(l)) of ints -/
def uniqI : List Int → List Int
  | [] => []
  | x :: r => match uniqI r with
    | y :: l => if x = y then y :: l else x :: y :: l
    | [] => [x]
def setI (ns : List Int) : List Int := uniqI (sortI ns)
def srsD (x : D) (M : Store) : Res D := match (lstOf x M).bind intsOf with
  | some ns => if decide (ns.length ≤ 4000) && decide ((setI ns).length < 64) then .ok (.lst ((setI ns).map .int)) M else .no
  | none => .no

/-! ### the language -/
/-- targets: a name, a tuple of targets -/
inductive MT where
  | nm (i : Nat)
  | tp (ts : List MT)
inductive Kd where
  | frz | cell
  deriving DecidableEq
mutual
inductive ME where
  | c (d : D) | var (i : Nat) | glo (x : Nat)
  | add (a b : ME) | sub (a b : ME) | mul (a b : ME) | fdiv (a b : ME) | mod (a b : ME) | pow (a b : ME) | neg (a : ME)
  | not (a : ME) | and (es : List ME) | or (es : List ME) | ife (t a b : ME)
  | cmp (c : Cmp) (a b : ME) | chain (c1 : Cmp) (c2 : Cmp) (a b e : ME)
  | tup (es : List ME) | lst (k : Kd) (es : List ME) | dct
  /-- {} and {"k": a} as data -/
  | dis0 | dis1 (s : Str) (a : ME)
  /-- sorted(set(a)) -/
  | srs (a : ME)
  | ix (a i : ME) | sl (a : ME) (lo hi : Option ME) | rev (a : ME)
  | call (f : Nat) (es : List ME)
  | bi (b : BI) (es : List ME)
  | me (m : MI) (o : ME) (es : List ME)
  | comp (k : Kd) (e : ME) (t : MT) (it : MIt) (ifs : List ME) (own : List Nat)
  | dcomp (a b : ME) (t : MT) (it : MIt) (ifs : List ME) (own : List Nat)
  | ofIt (b : BI) (it : MIt)
  /-- what the language says nothing of -/
  | stk
inductive MIt where
  | seq (e : ME) | rng1 (a : ME) | rng2 (a b : ME) | enum (e : ME) | zip (es : List ME) | keys (e : ME) | items (e : ME) | vals (e : ME)
end
inductive MS where
  | asg (t : MT) (e : ME) | setI (o i v : ME) | ex (e : ME) | ret (e : ME) | retN
  | if_ (t : ME) (a b : List MS) | for_ (t : MT) (it : MIt) (b : List MS) | while_ (t : ME) (b : List MS)
  /-- over the keys of the dict of slot i -/
  | forK (t : MT) (i : Nat) (b : List MS)
  | raise_ (c : Nat) (e : ME) | pass | brk | cnt | stk

abbrev EnvD := List (Option D)
abbrev Fns := Nat → List D → Store → Res D
/-- what is walked: the items; the cells that must stand still -/
structure Src where
  items : List D
  still : List (Nat × Cell) := []
def Src.ok (s : Src) (M : Store) : Bool := s.still.all fun p => decide (M[p.1]? = some p.2)
mutual
def stoT : MT → D → EnvD → Option EnvD
  | .nm i, d, env => if i < env.length then some (env.set i (some d)) else none
  | .tp ts, d, env => match d with
    | .tup ds => stoTs ts ds env
    | _ => none
termination_by structural t => t
def stoTs : List MT → List D → EnvD → Option EnvD
  | [], [], env => some env
  | t :: ts, d :: ds, env => (stoT t d env).bind fun env' => stoTs ts ds env'
  | _, _, _ => none
termination_by structural t => t
end
def wipeD (env : EnvD) : List Nat → EnvD
  | [] => env
  | v :: vs => (wipeD env vs).set v none
def rangeD (lo : Int) (n : Nat) : List D := (List.range n).map fun (i : Nat) => D.int (lo + (i : Int))
def noEx {α : Type} : Res α → Res α
  | .ok a M => .ok a M
  | _ => .no
/-- the list of a comprehension -/
def compL (f : D → Store → Res (Option D)) (s : Src) : List D → Store → Res (List D)
  | [], M => if s.ok M then .ok [] M else .no
  | x :: xs, M => if s.ok M then (noEx (f x M)).bind fun o M1 => (compL f s xs M1).bind fun ys M2 => match o with
      | some y => .ok (y :: ys) M2
      | none => .ok ys M2
    else .no
/-- the dict of a comprehension -/
def compD (f : D → Store → Res (Option (D × D))) (s : Src) : List D → List (Key × D) → Store → Res (List (Key × D))
  | [], acc, M => if s.ok M then .ok acc M else .no
  | x :: xs, acc, M => if s.ok M then (noEx (f x M)).bind fun o M1 => match o with
      | some (k, v) => match toKey k with
        | some q => if D.pure v && decide (acc.length < sizeLine) then compD f s xs (putOf acc q v) M1 else .no
        | none => .no
      | none => compD f s xs acc M1
    else .no
def zipD : List (List D) → List (List D)
  | [] => []
  | [xs] => xs.map fun x => [x]
  | xs :: r => List.zipWith (fun x l => x :: l) xs (zipD r)
def srcSeq (d : D) (M : Store) : Option Src := match d with
  | .tup ds => some ⟨ds, []⟩
  | .lst ds => some ⟨ds, []⟩
  | .ref n => match M[n]? with
    | some (.lst ds) => some ⟨ds, [(n, .lst ds)]⟩
    | _ => none
  | _ => none
def srcZip : List D → Store → Option (List (List D) × List (Nat × Cell))
  | [], _ => some ([], [])
  | d :: ds, M => match srcSeq d M, srcZip ds M with
    | some s, some (l, st) => some (s.items :: l, s.still ++ st)
    | _, _ => none
def kD : Key → D
  | .inl i => .int i
  | .inr s => .str s

/-! ### evaluation -/
section
variable (F : Fns) (G : List D)
mutual
def evE : ME → EnvD → Store → Res D
  | .c d, _, M => .ok d M
  | .var i, env, M => optR (env[i]?).join M
  | .glo x, _, M => optR (G[x]?) M
  | .add a b, env, M => (evE a env M).bind fun x M => (evE b env M).bind fun y M => optR (addD (res x M) (res y M) M) M
  | .sub a b, env, M => (evE a env M).bind fun x M => (evE b env M).bind fun y M => optR (subD x y) M
  | .mul a b, env, M => (evE a env M).bind fun x M => (evE b env M).bind fun y M => optR (mulD x y) M
  | .fdiv a b, env, M => (evE a env M).bind fun x M => (evE b env M).bind fun y M => optR (fdivD x y) M
  | .mod a b, env, M => (evE a env M).bind fun x M => (evE b env M).bind fun y M => optR (modD x y) M
  | .pow a b, env, M => (evE a env M).bind fun x M => (evE b env M).bind fun y M => optR (powD x y) M
  | .neg a, env, M => (evE a env M).bind fun x M => optR (negD x) M
  | .not a, env, M => (evE a env M).bind fun x M => (optR (tru x M) M).bind fun b M => .ok (.bl (!b)) M
  | .and es, env, M => evAnd es env M
  | .or es, env, M => evOr es env M
  | .ife t a b, env, M => (evE t env M).bind fun x M => (optR (tru x M) M).bind fun c M => if c then evE a env M else evE b env M
  | .cmp c a b, env, M => (evE a env M).bind fun x M => (evE b env M).bind fun y M => optR ((cmpD c x y M).map .bl) M
  | .chain c1 c2 a b e, env, M => (evE a env M).bind fun x M => (evE b env M).bind fun y M => (optR (cmpD c1 x y M) M).bind fun k M =>
      if k then (evE e env M).bind fun z M => optR ((cmpD c2 y z M).map .bl) M else .ok (.bl false) M
  | .tup es, env, M => (evEs es env M).bind fun ds M => if lineOk ds.length then .ok (.tup ds) M else .no
  | .lst .frz es, env, M => (evEs es env M).bind fun ds M => if lineOk ds.length then .ok (.lst ds) M else .no
  | .lst .cell es, env, M => (evEs es env M).bind fun ds M => if lineOk ds.length && D.pures ds then .ok (.ref M.length) (M ++ [.lst ds]) else .no
  | .dct, _, M => .ok (.ref M.length) (M ++ [.dK false []])
  | .dis0, _, M => .ok (.dic []) M
  | .srs a, env, M => (evE a env M).bind fun x M => srsD x M
  | .dis1 s a, env, M => (evE a env M).bind fun x M => if x.pure then .ok (.dic [(.str s, x)]) M else .no
  | .ix a i, env, M => (evE a env M).bind fun x M => (evE i env M).bind fun y M => optR (ixD x y M) M
  | .sl a lo hi, env, M => (evE a env M).bind fun x M => (evO lo env M).bind fun l M => (evO hi env M).bind fun h M => optR (slD x l h M) M
  | .rev a, env, M => (evE a env M).bind fun x M => match x with
      | .tup ds => .ok (.tup ds.reverse) M
      | _ => .no
  | .call f es, env, M => (evEs es env M).bind fun ds M => F f ds M
  | .bi b es, env, M => (evEs es env M).bind fun ds M => bi b ds M
  | .me m o es, env, M => (evE o env M).bind fun x M => if (lstOf x M).isSome = true then (evEs es env M).bind fun ds M => mi m x ds M else .no
  | .comp k e t it ifs own, env, M => (evIt it env M).bind fun s M =>
      (compL (fun x M => match stoT t x (wipeD env own) with
        | none => .no
        | some env' => (evIfs ifs env' M).bind fun b M => if b then (evE e env' M).bind fun y M => .ok (some y) M else .ok none M) s s.items M).bind fun ds M =>
        if lineOk s.items.length then (match k with
          | .frz => .ok (.lst ds) M
          | .cell => if D.pures ds then .ok (.ref M.length) (M ++ [.lst ds]) else .no) else .no
  | .dcomp a b t it ifs own, env, M => (evIt it env M).bind fun s M =>
      (compD (fun x M => match stoT t x (wipeD env own) with
        | none => .no
        | some env' => (evIfs ifs env' M).bind fun c M => if c then (evE a env' M).bind fun y M => (evE b env' M).bind fun z M => .ok (some (y, z)) M else .ok none M) s s.items [] M).bind fun kvs M => .ok (.ref M.length) (M ++ [.dK false kvs])
  | .stk, _, _ => .no
  | .ofIt b it, env, M => (evIt it env M).bind fun s M => if s.ok M && decide (s.items.length ≤ 16777216) then (match b with
      | .listF => .ok (.lst s.items) M
      | .listC => if D.pures s.items then .ok (.ref M.length) (M ++ [.lst s.items]) else .no
      | .tuple => .ok (.tup s.items) M
      | _ => .no) else .no
termination_by structural e => e
def evEs : List ME → EnvD → Store → Res (List D)
  | [], _, M => .ok [] M
  | e :: es, env, M => (evE e env M).bind fun x M => (evEs es env M).bind fun xs M => .ok (x :: xs) M
termination_by structural es => es
def evAnd : List ME → EnvD → Store → Res D
  | [], _, _ => .no
  | [e], env, M => evE e env M
  | e :: es, env, M => (evE e env M).bind fun x M => (optR (tru x M) M).bind fun b M => if b then evAnd es env M else .ok x M
termination_by structural es => es
def evOr : List ME → EnvD → Store → Res D
  | [], _, _ => .no
  | [e], env, M => evE e env M
  | e :: es, env, M => (evE e env M).bind fun x M => (optR (tru x M) M).bind fun b M => if b then .ok x M else evOr es env M
termination_by structural es => es
def evIfs : List ME → EnvD → Store → Res Bool
  | [], _, M => .ok true M
  | e :: es, env, M => (evE e env M).bind fun x M => (optR (tru x M) M).bind fun b M => if b then evIfs es env M else .ok false M
termination_by structural es => es
def evO : Option ME → EnvD → Store → Res (Option Int)
  | none, _, M => .ok none M
  | some e, env, M => (evE e env M).bind fun x M => match x with
      | .int i => .ok (some i) M
      | _ => .no
termination_by structural es => es
def evIt : MIt → EnvD → Store → Res Src
  | .seq e, env, M => (evE e env M).bind fun x M => optR (srcSeq x M) M
  | .rng1 a, env, M => (evE a env M).bind fun x M => match x with
      | .int n => if decide (-(2 ^ 60) < n ∧ n < 2 ^ 60) then .ok ⟨rangeD 0 n.toNat, []⟩ M else .no
      | _ => .no
  | .rng2 a b, env, M => (evE a env M).bind fun x M => (evE b env M).bind fun y M => match x, y with
      | .int i, .int j => if decide (-(2 ^ 60) < i ∧ i < 2 ^ 60 ∧ -(2 ^ 60) < j ∧ j < 2 ^ 60) then .ok ⟨rangeD i (j - i).toNat, []⟩ M else .no
      | _, _ => .no
  | .enum e, env, M => (evE e env M).bind fun x M => match srcSeq x M with
      | some s => .ok ⟨(s.items.zipIdx).map fun p => .tup [.int (p.2 : Nat), p.1], s.still⟩ M
      | none => .no
  | .zip es, env, M => (evEs es env M).bind fun ds M => match srcZip ds M with
      | some (l, st) => .ok ⟨(zipD l).map .tup, st⟩ M
      | none => .no
  | .keys _, _, _ => .no
  | .items _, _, _ => .no
  | .vals e, env, M => (evE e env M).bind fun x M => match x with
      | .ref n => match M[n]? with
        | some (.dK false kvs) => .ok ⟨kvs.map (·.2), []⟩ M
        | _ => .no
      | _ => .no
termination_by structural it => it
end
/-- how a statement ends -/
inductive Flw where
  | next (env : EnvD) | ret (d : D) | brk (env : EnvD) | cnt (env : EnvD)
/-- a loop's turns -/
def forL (f : D → EnvD → Store → Res Flw) (s : Src) : List D → EnvD → Store → Res Flw
  | [], env, M => if s.ok M then .ok (.next env) M else .no
  | x :: xs, env, M => if s.ok M then (f x env M).bind fun r M1 => match r with
      | .next env' => forL f s xs env' M1
      | .cnt env' => forL f s xs env' M1
      | .brk env' => .ok (.next env') M1
      | .ret d => .ok (.ret d) M1
    else .no
/-- n turns of a while at most -/
def whN (t : EnvD → Store → Res Bool) (f : EnvD → Store → Res Flw) : Nat → EnvD → Store → Res Flw
  | 0, _, _ => .no
  | n + 1, env, M => (t env M).bind fun b M1 => if b then (f env M1).bind fun r M2 => match r with
      | .next env' => whN t f n env' M2
      | .cnt env' => whN t f n env' M2
      | .brk env' => .ok (.next env') M2
      | .ret d => .ok (.ret d) M2
    else .ok (.next env) M1
open Classical in
noncomputable def whL (t : EnvD → Store → Res Bool) (f : EnvD → Store → Res Flw) (env : EnvD) (M : Store) : Res Flw :=
  if h : ∃ n, (whN t f n env M).some? then whN t f h.choose env M else .no
/-- .. while the dict at n was locked -/
def lockR (n : Nat) (kvs : List (Key × D)) : Res Flw → Res Flw
  | .ok fl M => if M[n]? = some (.dK true kvs) then .ok fl (M.set n (.dK false kvs)) else .no
  | _ => .no
def dictAt (d : Option D) (M : Store) : Option (Nat × List (Key × D)) := match d with
  | some (.ref n) => match M[n]? with
    | some (.dK false kvs) => some (n, kvs)
    | _ => none
  | _ => none
mutual
noncomputable def evS : MS → EnvD → Store → Res Flw
  | .asg t e, env, M => (evE F G e env M).bind fun x M => optR ((stoT t x env).map .next) M
  | .setI o i v, env, M => (evE F G v env M).bind fun x M => (evE F G o env M).bind fun y M => (evE F G i env M).bind fun z M => match setD y z x M with
      | some M' => .ok (.next env) M'
      | none => .no
  | .ex e, env, M => (evE F G e env M).bind fun _ M => .ok (.next env) M
  | .ret e, env, M => (evE F G e env M).bind fun x M => .ok (.ret x) M
  | .retN, _, M => .ok (.ret .non) M
  | .if_ t a b, env, M => (evE F G t env M).bind fun x M => (optR (tru x M) M).bind fun c M => if c then evSs a env M else evSs b env M
  | .for_ t it b, env, M => (evIt F G it env M).bind fun s M => forL (fun x env M => match stoT t x env with
      | none => .no
      | some env' => evSs b env' M) s s.items env M
  | .forK t i b, env, M => match dictAt (env[i]?).join M with
    | none => .no
    | some (n, kvs) => lockR n kvs (forL (fun x env M => match stoT t x env with
      | none => .no
      | some env' => evSs b env' M) ⟨kvs.map fun p => kD p.1, [(n, .dK true kvs)]⟩ (kvs.map fun p => kD p.1) env (M.set n (.dK true kvs)))
  | .while_ t b, env, M => whL (fun env M => (evE F G t env M).bind fun x M => optR (tru x M) M) (fun env M => evSs b env M) env M
  | .raise_ c e, env, M => (evE F G e env M).bind fun x M => .ex c x M
  | .pass, env, M => .ok (.next env) M
  | .brk, env, M => .ok (.brk env) M
  | .cnt, env, M => .ok (.cnt env) M
  | .stk, _, _ => .no
termination_by structural s => s
noncomputable def evSs : List MS → EnvD → Store → Res Flw
  | [], env, M => .ok (.next env) M
  | s :: ss, env, M => (evS s env M).bind fun r M => match r with
      | .next env' => evSs ss env' M
      | r => .ok r M
termination_by structural s => s
end
end
/-- what a def does with what it hands back: data alone (its own cells are dropped), its own list as data, its cells as they are -/
inductive RM where
  | data | frz | keep
  deriving DecidableEq
structure FnD where
  ps : Nat
  N : Nat
  rm : RM := .data
  body : List MS
def fin (rm : RM) (n : Nat) (d : D) (M : Store) : Res D := match rm with
  | .data => if d.pure then .ok d (M.take n) else .no
  | .frz => match d with
    | .ref i => if i < n then .no else (match M[i]? with
      | some (.lst ds) => .ok (.lst ds) (M.take n)
      | _ => .no)
    | d => if d.pure then .ok d (M.take n) else .no
  | .keep => .ok d M
/-- the defs, so many calls deep -/
noncomputable def callF (T : List FnD) (G : List D) : Nat → Fns
  | 0 => fun _ _ _ => .no
  | k + 1 => fun f ds M => match T[f]? with
    | none => .no
    | some fd => if ds.length = fd.ps then (match evSs (callF T G k) G fd.body (ds.map some ++ List.replicate (fd.N - fd.ps) none) M with
      | .ok (.ret d) M' => fin fd.rm M.length d M'
      | .ok (.next _) M' => fin fd.rm M.length .non M'
      | .ok _ _ => .no
      | .ex c v M' => if v.pure then .ex c v (M'.take M.length) else .no
      | .no => .no) else .no
end PM

/-! PMb: how the small language's values and cells lie in the layer's abstract heap; readings from evaluation. -/
namespace PM
open PySem L2

/-- what stands still for ever; what each cell occupies -/
structure Wd where
  Fz : Hp
  ow : List (List Addr)
section
variable (K : PySem.W.Frag)
mutual
def Rep (w : Wd) : D → V → Prop
  | .non, v => v = .non
  | .bl b, v => v = .bl b
  | .int i, v => v = .int i
  | .str s, v => v = .str s
  | .tup ds, v => ∃ a vs, v = .ref a ∧ w.Fz a = some (.tup vs) ∧ Reps w ds vs
  | .lst ds, v => ∃ a vs, v = .ref a ∧ w.Fz a = some (.lst vs) ∧ Reps w ds vs
  | .scr ns, v => ∃ a, v = .ref a ∧ SqL K w.Fz a (ns.map V.int)
  | .dic kvs, v => ∃ a l, v = .ref a ∧ w.Fz a = some (.dK l) ∧ RepK w kvs l
  | .ref n, v => ∃ a as, v = .ref a ∧ w.ow[n]? = some (a :: as)
termination_by structural d => d
def Reps (w : Wd) : List D → List V → Prop
  | [], vs => vs = []
  | d :: ds, vs => ∃ v r, vs = v :: r ∧ Rep w d v ∧ Reps w ds r
termination_by structural d => d
def RepK (w : Wd) : List (D × D) → List (Key × V) → Prop
  | [], l => l = []
  | (k, d) :: r, l => ∃ q v l', l = (q, v) :: l' ∧ toKey k = some q ∧ Rep w d v ∧ RepK w r l'
termination_by structural d => d
end
def KvOk {κ : Type} (w : Wd) : List (κ × D) → List (κ × V) → Prop
  | [], l => l = []
  | (k, d) :: r, l => ∃ v l', l = (k, v) :: l' ∧ Rep K w d v ∧ KvOk w r l'
/-- the frozen part alone -/
def Wd.fz (w : Wd) : Wd := ⟨w.Fz, []⟩
def CellOk (w : Wd) (H : Hp) (as : List Addr) : Cell → Prop
  | .lst ds => ∃ a vs, as = [a] ∧ H a = some (.lst vs) ∧ Reps K w.fz ds vs
  | .dK lk kvs => ∃ a l, as = [a] ∧ (if lk = true then ∃ o, H a = some (.frz o (.dK l)) else H a = some (.dK l)) ∧ KvOk K w.fz kvs l
  | .dT lk kvs => ∃ a l, as = [a] ∧ (if lk = true then ∃ o, H a = some (.frz o (.dT l)) else H a = some (.dT l)) ∧ KvOk K w.fz kvs l
def Imm : HO → Prop
  | .lst _ => True
  | .tup _ => True
  | .frz _ _ => True
  | .dK _ => True
  | _ => False
structure Ok (H : Hp) (w : Wd) (M : Store) : Prop where
  sub : ∀ a o, w.Fz a = some o → H a = some o
  imm : ∀ a o, w.Fz a = some o → Imm o
  len : w.ow.length = M.length
  cell : ∀ (n : Nat) (c : Cell) (as : List Addr), M[n]? = some c → w.ow[n]? = some as → CellOk K w H as c
  nd : w.ow.flatten.Nodup
  dis : ∀ a, a ∈ w.ow.flatten → w.Fz a = none
end
structure Grow (H : Hp) (w : Wd) (H' : Hp) (w' : Wd) : Prop where
  fz : ∀ a o, w.Fz a = some o → w'.Fz a = some o
  ow : ∃ l, w'.ow = w.ow ++ l
  new : ∀ a, a ∈ w'.ow.flatten → a ∈ w.ow.flatten ∨ H a = none
  fnew : ∀ a o, w'.Fz a = some o → w.Fz a = some o ∨ H a = none
  keep : ∀ a o, H a = some o → a ∉ w.ow.flatten → H' a = some o
  there : ∀ a, H' a = none → H a = none
  lk : ∀ a o u, H a = some (.frz o u) → H' a = some (.frz o u)

section
variable {K : PySem.W.Frag} {H H1 H2 : Hp} {w w1 w2 : Wd} {M : Store}
theorem Grow.refl : Grow H w H w := ⟨fun _ _ h => h, ⟨[], (List.append_nil _).symm⟩, fun _ h => .inl h, fun _ _ h => .inl h, fun _ _ h _ => h, fun _ h => h, fun _ _ _ h => h⟩
theorem Grow.flat (g : Grow H w H1 w1) {a : Addr} (h : a ∈ w.ow.flatten) : a ∈ w1.ow.flatten := by
  obtain ⟨l, e⟩ := g.ow
  rw [e, List.flatten_append]
  exact List.mem_append_left _ h
theorem Grow.trans (g : Grow H w H1 w1) (h : Grow H1 w1 H2 w2) : Grow H w H2 w2 where
  fz := fun a o e => h.fz a o (g.fz a o e)
  ow := by
    obtain ⟨l, e⟩ := g.ow
    obtain ⟨l', e'⟩ := h.ow
    exact ⟨l ++ l', by rw [e', e, List.append_assoc]⟩
  new := fun a ha => by
    rcases h.new a ha with z | z
    · exact g.new a z
    · exact .inr (g.there a z)
  fnew := fun a o ha => by
    rcases h.fnew a o ha with z | z
    · exact g.fnew a o z
    · exact .inr (g.there a z)
  keep := fun a o e hw => by
    refine h.keep a o (g.keep a o e hw) fun z => ?_
    rcases g.new a z with q | q
    · exact hw q
    · rw [e] at q; cases q
  there := fun a e => g.there a (h.there a e)
  lk := fun a o u e => h.lk a o u (g.lk a o u e)
theorem SqT.mono (h : ∀ a o, w.Fz a = some o → w1.Fz a = some o) {a : Addr} {xs : List V} (s : SqT K w.Fz a xs) : SqT K w1.Fz a xs := by
  rcases s with s | s
  · rcases s with s | ⟨o, s⟩
    · exact .inl (.inl (h _ _ s))
    · exact .inl (.inr ⟨o, h _ _ s⟩)
  · exact .inr s
theorem SqL.mono (h : ∀ a o, w.Fz a = some o → w1.Fz a = some o) {a : Addr} {xs : List V} (s : SqL K w.Fz a xs) : SqL K w1.Fz a xs := by
  rcases s with s | s
  · rcases s with s | ⟨o, s⟩
    · exact .inl (.inl (h _ _ s))
    · exact .inl (.inr ⟨o, h _ _ s⟩)
  · exact .inr s
mutual
theorem Rep.mono (h : ∀ a o, w.Fz a = some o → w1.Fz a = some o) (ho : ∃ l, w1.ow = w.ow ++ l) : ∀ (d : D) (v : V), Rep K w d v → Rep K w1 d v
  | .non, _, r => r
  | .bl _, _, r => r
  | .int _, _, r => r
  | .str _, _, r => r
  | .tup ds, v, ⟨a, vs, e, s, r⟩ => ⟨a, vs, e, h _ _ s, Reps.mono h ho ds vs r⟩
  | .lst ds, v, ⟨a, vs, e, s, r⟩ => ⟨a, vs, e, h _ _ s, Reps.mono h ho ds vs r⟩
  | .scr ns, v, ⟨a, e, s⟩ => ⟨a, e, SqL.mono h s⟩
  | .dic kvs, v, ⟨a, l, e, s, r⟩ => ⟨a, l, e, h _ _ s, RepK.mono h ho kvs l r⟩
  | .ref n, v, ⟨a, as, e, q⟩ => by
    obtain ⟨l, el⟩ := ho
    refine ⟨a, as, e, ?_⟩
    rw [el, List.getElem?_append_left (List.getElem?_eq_some_iff.mp q).1]
    exact q
termination_by structural d => d
theorem Reps.mono (h : ∀ a o, w.Fz a = some o → w1.Fz a = some o) (ho : ∃ l, w1.ow = w.ow ++ l) : ∀ (ds : List D) (vs : List V), Reps K w ds vs → Reps K w1 ds vs
  | [], _, r => r
  | d :: ds, vs, ⟨v, r, e, p, q⟩ => ⟨v, r, e, Rep.mono h ho d v p, Reps.mono h ho ds r q⟩
termination_by structural ds => ds
theorem RepK.mono (h : ∀ a o, w.Fz a = some o → w1.Fz a = some o) (ho : ∃ l, w1.ow = w.ow ++ l) : ∀ (ks : List (D × D)) (l : List (Key × V)), RepK K w ks l → RepK K w1 ks l
  | [], _, r => r
  | (k, d) :: ks, l, ⟨q, v, l', e, t, p, r⟩ => ⟨q, v, l', e, t, Rep.mono h ho d v p, RepK.mono h ho ks l' r⟩
termination_by structural ks => ks
end
theorem Rep.grow (g : Grow H w H1 w1) {d : D} {v : V} (r : Rep K w d v) : Rep K w1 d v := Rep.mono g.fz g.ow d v r
theorem Reps.grow (g : Grow H w H1 w1) {ds : List D} {vs : List V} (r : Reps K w ds vs) : Reps K w1 ds vs := Reps.mono g.fz g.ow ds vs r
theorem KvOk.mono {κ : Type} (h : ∀ a o, w.Fz a = some o → w1.Fz a = some o) (ho : ∃ l, w1.ow = w.ow ++ l) : ∀ (kvs : List (κ × D)) (l : List (κ × V)), KvOk K w kvs l → KvOk K w1 kvs l
  | [], _, r => r
  | (k, d) :: r, l, ⟨v, l', e, p, q⟩ => ⟨v, l', e, Rep.mono h ho d v p, KvOk.mono h ho r l' q⟩
theorem fz_ow (w w1 : Wd) : ∃ l, w1.fz.ow = w.fz.ow ++ l := ⟨[], rfl⟩
mutual
/-- data without cells hang on the frozen part alone -/
theorem Rep.drop (h : ∀ a o, w.Fz a = some o → w1.Fz a = some o) : ∀ (d : D) (v : V), d.pure = true → Rep K w d v → Rep K w1 d v
  | .non, _, _, r => r
  | .bl _, _, _, r => r
  | .int _, _, _, r => r
  | .str _, _, _, r => r
  | .tup ds, v, p, ⟨a, vs, e, s, r⟩ => ⟨a, vs, e, h _ _ s, Reps.drop h ds vs p r⟩
  | .lst ds, v, p, ⟨a, vs, e, s, r⟩ => ⟨a, vs, e, h _ _ s, Reps.drop h ds vs p r⟩
  | .scr ns, v, _, ⟨a, e, s⟩ => ⟨a, e, SqL.mono h s⟩
  | .dic kvs, v, p, ⟨a, l, e, s, r⟩ => ⟨a, l, e, h _ _ s, RepK.drop h kvs l p r⟩
  | .ref n, v, p, _ => absurd (show false = true from p) (by decide)
termination_by structural d => d
theorem Reps.drop (h : ∀ a o, w.Fz a = some o → w1.Fz a = some o) : ∀ (ds : List D) (vs : List V), D.pures ds = true → Reps K w ds vs → Reps K w1 ds vs
  | [], _, _, r => r
  | d :: ds, vs, p, ⟨v, r, e, p1, q⟩ => by
    have p' : (D.pure d && D.pures ds) = true := p
    rw [Bool.and_eq_true] at p'
    exact ⟨v, r, e, Rep.drop h d v p'.1 p1, Reps.drop h ds r p'.2 q⟩
termination_by structural ds => ds
theorem RepK.drop (h : ∀ a o, w.Fz a = some o → w1.Fz a = some o) : ∀ (ks : List (D × D)) (l : List (Key × V)), D.purek ks = true → RepK K w ks l → RepK K w1 ks l
  | [], _, _, r => r
  | (k, d) :: ks, l, p, ⟨q, v, l', e, t, p1, r⟩ => by
    have p' : (D.pure k && (D.pure d && D.purek ks)) = true := p
    rw [Bool.and_eq_true, Bool.and_eq_true] at p'
    exact ⟨q, v, l', e, t, Rep.drop h d v p'.2.1 p1, RepK.drop h ks l' p'.2.2 r⟩
termination_by structural ks => ks
end
theorem CellOk.mono (h : ∀ a o, w.Fz a = some o → w1.Fz a = some o) {as : List Addr} {c : Cell} (hk : ∀ a o, a ∈ as → H a = some o → H1 a = some o) (r : CellOk K w H as c) : CellOk K w1 H1 as c := by
  cases c with
  | lst ds =>
    obtain ⟨a, vs, e, q, r⟩ := r
    exact ⟨a, vs, e, hk a _ (by rw [e]; exact List.mem_singleton_self a) q, Reps.mono (w := w.fz) (w1 := w1.fz) h ⟨[], rfl⟩ ds vs r⟩
  | dK lk kvs =>
    obtain ⟨a, l, e, q, r⟩ := r
    refine ⟨a, l, e, ?_, KvOk.mono (w := w.fz) (w1 := w1.fz) h ⟨[], rfl⟩ kvs l r⟩
    have hk := fun o => hk a o (by rw [e]; exact List.mem_singleton_self a)
    cases lk with
    | true =>
      obtain ⟨o, q⟩ := q
      exact ⟨o, hk _ q⟩
    | false => exact hk _ q
  | dT lk kvs =>
    obtain ⟨a, l, e, q, r⟩ := r
    refine ⟨a, l, e, ?_, KvOk.mono (w := w.fz) (w1 := w1.fz) h ⟨[], rfl⟩ kvs l r⟩
    have hk := fun o => hk a o (by rw [e]; exact List.mem_singleton_self a)
    cases lk with
    | true =>
      obtain ⟨o, q⟩ := q
      exact ⟨o, hk _ q⟩
    | false => exact hk _ q

/-! ### new objects -/
def Wd.addF (w : Wd) (p : Addr) (o : HO) : Wd := ⟨upd w.Fz p o, w.ow⟩
def Wd.addC (w : Wd) (p : Addr) : Wd := ⟨w.Fz, w.ow ++ [[p]]⟩
theorem Ok.notin (k : Ok K H w M) {p : Addr} (hp : H p = none) : p ∉ w.ow.flatten := fun hm => by
  obtain ⟨as, h1, h2⟩ := List.mem_flatten.mp hm
  obtain ⟨n, hn, e⟩ := List.getElem_of_mem h1
  have hl : n < M.length := by rw [← k.len]; exact hn
  have c := k.cell n M[n] as (List.getElem?_eq_getElem hl) (by rw [List.getElem?_eq_getElem hn, e])
  cases hc : M[n] with
  | lst ds =>
    rw [hc] at c
    obtain ⟨a, vs, e2, q, _⟩ := c
    rw [e2] at h2
    rw [List.mem_singleton.mp h2, q] at hp; cases hp
  | dK lk kvs =>
    rw [hc] at c
    obtain ⟨a, l, e2, q, _⟩ := c
    rw [e2] at h2
    have ea := List.mem_singleton.mp h2
    cases lk with
    | true => obtain ⟨o, q⟩ := q; rw [ea, q] at hp; cases hp
    | false => rw [ea, show H a = _ from q] at hp; cases hp
  | dT lk kvs =>
    rw [hc] at c
    obtain ⟨a, l, e2, q, _⟩ := c
    rw [e2] at h2
    have ea := List.mem_singleton.mp h2
    cases lk with
    | true => obtain ⟨o, q⟩ := q; rw [ea, q] at hp; cases hp
    | false => rw [ea, show H a = _ from q] at hp; cases hp
theorem Ok.fzn (k : Ok K H w M) {p : Addr} (hp : H p = none) : w.Fz p = none := by
  cases e : w.Fz p with
  | none => rfl
  | some o => rw [k.sub p o e] at hp; cases hp
theorem Ok.cellMem (k : Ok K H w M) {n : Nat} {as : List Addr} {a : Addr} (e : w.ow[n]? = some as) (h : a ∈ as) : a ∈ w.ow.flatten :=
  List.mem_flatten.mpr ⟨as, List.mem_of_getElem? e, h⟩
/-- a new object beside all -/
theorem Ok.beside (k : Ok K H w M) {p : Addr} (hp : H p = none) (o : HO) : Ok K (upd H p o) w M where
  sub := fun a u e => by
    rw [upd_ne (fun z => by rw [z, k.fzn hp] at e; cases e)]
    exact k.sub a u e
  imm := k.imm
  len := k.len
  cell := fun n c as e1 e2 => CellOk.mono (fun _ _ h => h) (fun a u ha q => by rw [upd_ne (ne_of_none q hp)]; exact q) (k.cell n c as e1 e2)
  nd := k.nd
  dis := k.dis
theorem grow_upd (k : Ok K H w M) {p : Addr} (hp : H p = none) (o : HO) : Grow H w (upd H p o) w where
  fz := fun _ _ h => h
  ow := ⟨[], (List.append_nil _).symm⟩
  new := fun _ h => .inl h
  fnew := fun _ _ h => .inl h
  keep := fun a u e _ => by rw [upd_ne (ne_of_none e hp)]; exact e
  lk := fun a _ _ e => by rw [upd_ne (ne_of_none e hp)]; exact e
  there := fun a e => by
    by_cases z : a = p
    · rw [z]; exact hp
    · rw [upd_ne z] at e; exact e
/-- .. that stands still -/
theorem Ok.addF (k : Ok K H w M) {p : Addr} (hp : H p = none) {o : HO} (ho : Imm o) : Ok K (upd H p o) (w.addF p o) M where
  sub := fun a u e => by
    by_cases z : a = p
    · subst z
      have e' : upd w.Fz a o a = some u := e
      rw [upd_same] at e'; rw [upd_same]; exact e'
    · have e' : upd w.Fz p o a = some u := e
      rw [upd_ne z] at e'; rw [upd_ne z]; exact k.sub a u e'
  imm := fun a u e => by
    by_cases z : a = p
    · subst z
      have e' : upd w.Fz a o a = some u := e
      rw [upd_same] at e'; cases e'; exact ho
    · have e' : upd w.Fz p o a = some u := e
      rw [upd_ne z] at e'; exact k.imm a u e'
  len := k.len
  cell := fun n c as e1 e2 => CellOk.mono (w1 := w.addF p o) (fun a u h => by
      show upd w.Fz p o a = some u
      rw [upd_ne (fun z => by rw [z, k.fzn hp] at h; cases h)]; exact h) (fun a u ha q => by rw [upd_ne (ne_of_none q hp)]; exact q) (k.cell n c as e1 e2)
  nd := k.nd
  dis := fun a ha => by
    show upd w.Fz p o a = none
    rw [upd_ne (fun z : a = p => k.notin hp (by rw [← z]; exact ha))]
    exact k.dis a ha
theorem grow_addF (k : Ok K H w M) {p : Addr} (hp : H p = none) (o : HO) : Grow H w (upd H p o) (w.addF p o) where
  fz := fun a u h => by
    show upd w.Fz p o a = some u
    rw [upd_ne (fun z => by rw [z, k.fzn hp] at h; cases h)]; exact h
  ow := ⟨[], (List.append_nil _).symm⟩
  new := fun _ h => .inl h
  fnew := fun a u h => by
    by_cases z : a = p
    · rw [z]; exact .inr hp
    · have e' : upd w.Fz p o a = some u := h
      rw [upd_ne z] at e'; exact .inl e'
  keep := fun a u e _ => by rw [upd_ne (ne_of_none e hp)]; exact e
  lk := fun a _ _ e => by rw [upd_ne (ne_of_none e hp)]; exact e
  there := fun a e => by
    by_cases z : a = p
    · rw [z]; exact hp
    · rw [upd_ne z] at e; exact e
/-- .. that is a cell -/
theorem Ok.addC (k : Ok K H w M) {p : Addr} (hp : H p = none) {o : HO} {c : Cell} (hc : CellOk K w (upd H p o) [p] c) : Ok K (upd H p o) (w.addC p) (M ++ [c]) where
  sub := (k.beside hp o).sub
  imm := k.imm
  len := by
    show (w.ow ++ [[p]]).length = _
    rw [List.length_append, List.length_append, k.len]; rfl
  cell := fun n c' as e1 e2 => by
    have e2 : (w.ow ++ [[p]])[n]? = some as := e2
    by_cases hn : n < M.length
    · rw [List.getElem?_append_left hn] at e1
      rw [List.getElem?_append_left (by rw [k.len]; exact hn)] at e2
      exact CellOk.mono (fun _ _ h => h) (fun a u ha q => by rw [upd_ne (ne_of_none q hp)]; exact q) (k.cell n c' as e1 e2)
    · have hn : M.length ≤ n := Nat.le_of_not_lt hn
      rw [List.getElem?_append_right hn] at e1
      rw [List.getElem?_append_right (by rw [k.len]; exact hn), k.len] at e2
      obtain ⟨j, hj⟩ : ∃ j, j = n - M.length := ⟨_, rfl⟩
      rw [← hj] at e1 e2
      cases j with
      | zero =>
        simp at e1 e2
        subst e1; subst e2
        exact hc
      | succ j => simp at e1
  nd := by
    show (w.ow ++ [[p]]).flatten.Nodup
    rw [List.flatten_append, List.nodup_append]
    refine ⟨k.nd, by simp, fun a ha b hb z => ?_⟩
    have hb : b = p := by simpa using hb
    exact k.notin hp (by rw [← hb, ← z]; exact ha)
  dis := fun a ha => by
    have ha : a ∈ (w.ow ++ [[p]]).flatten := ha
    rw [List.flatten_append] at ha
    rcases List.mem_append.mp ha with ha | ha
    · exact k.dis a ha
    · have ha : a = p := by simpa using ha
      rw [ha]; exact k.fzn hp
theorem grow_addC (k : Ok K H w M) {p : Addr} (hp : H p = none) (o : HO) : Grow H w (upd H p o) (w.addC p) where
  fz := fun _ _ h => h
  ow := ⟨[[p]], rfl⟩
  new := fun a ha => by
    have ha : a ∈ (w.ow ++ [[p]]).flatten := ha
    rw [List.flatten_append] at ha
    rcases List.mem_append.mp ha with ha | ha
    · exact .inl ha
    · have ha : a = p := by simpa using ha
      rw [ha]; exact .inr hp
  fnew := fun _ _ h => .inl h
  keep := fun a u e _ => by rw [upd_ne (ne_of_none e hp)]; exact e
  there := (grow_upd k hp o).there
  lk := (grow_upd k hp o).lk
/-- a cell is written -/
theorem flat_inj {α : Type} : ∀ {l : List (List α)}, l.flatten.Nodup → ∀ {m n : Nat} {xs ys : List α} {a : α}, l[m]? = some xs → l[n]? = some ys → a ∈ xs → a ∈ ys → m = n
  | [], _, m, _, _, _, _, h, _, _, _ => by simp at h
  | x :: l, nd, m, n, xs, ys, a, h1, h2, h3, h4 => by
    rw [List.flatten_cons, List.nodup_append] at nd
    obtain ⟨_, n2, dj⟩ := nd
    cases m with
    | zero =>
      cases n with
      | zero => rfl
      | succ n =>
        simp at h1 h2
        subst h1
        exact absurd rfl (dj a h3 a (List.mem_flatten.mpr ⟨ys, List.mem_of_getElem? h2, h4⟩))
    | succ m =>
      cases n with
      | zero =>
        simp at h1 h2
        subst h2
        exact absurd rfl (dj a h4 a (List.mem_flatten.mpr ⟨xs, List.mem_of_getElem? h1, h3⟩))
      | succ n =>
        have := flat_inj n2 (m := m) (n := n) (by simpa using h1) (by simpa using h2) h3 h4
        rw [this]
theorem Ok.set (k : Ok K H w M) {n : Nat} {p : Addr} {o : HO} {c : Cell} (e : w.ow[n]? = some [p]) (hc : CellOk K w (upd H p o) [p] c) : Ok K (upd H p o) w (M.set n c) where
  sub := fun a u q => by
    rw [upd_ne (fun z => by rw [z, k.dis p (k.cellMem e (List.mem_singleton_self p))] at q; cases q)]
    exact k.sub a u q
  imm := k.imm
  len := by rw [List.length_set]; exact k.len
  cell := fun m c' as e1 e2 => by
    by_cases hm : m = n
    · subst hm
      have hl : m < M.length := by
        rw [← k.len]; exact (List.getElem?_eq_some_iff.mp e).1
      rw [List.getElem?_set_self hl] at e1
      cases e1
      rw [e] at e2; cases e2
      exact hc
    · rw [List.getElem?_set_ne (Ne.symm hm)] at e1
      refine CellOk.mono (fun _ _ h => h) (fun a u ha q => ?_) (k.cell m c' as e1 e2)
      rw [upd_ne (fun z => hm (flat_inj k.nd e2 e ha (by rw [z]; exact List.mem_singleton_self p)))]
      exact q
  nd := k.nd
  dis := k.dis
theorem nfz {H : Hp} {p : Addr} {v : HO} (h : H p = some v) (hv : ∀ o u, v ≠ .frz o u) : ∀ o u, H p ≠ some (.frz o u) := fun o u z => by
  rw [h] at z
  exact hv o u (Option.some.inj z)
theorem grow_set (k : Ok K H w M) {n : Nat} {p : Addr} (o : HO) (e : w.ow[n]? = some [p]) (hn : ∀ o u, H p ≠ some (.frz o u)) : Grow H w (upd H p o) w where
  fz := fun _ _ h => h
  ow := ⟨[], (List.append_nil _).symm⟩
  new := fun _ h => .inl h
  fnew := fun _ _ h => .inl h
  keep := fun a u q hw => by
    rw [upd_ne (fun z => hw (by rw [z]; exact k.cellMem e (List.mem_singleton_self p)))]
    exact q
  lk := fun a o' u q => by rw [upd_ne (fun z => hn o' u (by rw [← z]; exact q))]; exact q
  there := fun a q => by
    by_cases z : a = p
    · rw [z, upd_same] at q; cases q
    · rw [upd_ne z] at q; exact q
end
end PM

/-! PMc: readings of the small language's expressions; each is a rule of the layer. -/
namespace PM
open PySem L2

/-- an error of the class cls with its own dict at dd: the value x -/
def ExcIs (K : PySem.W.Frag) (ca : Nat → Addr) (H : Hp) (w : Wd) (c : Nat) (x : D) (cls : Value) (dd : Option Addr) : Prop :=
  cls = .ref (ca c) ∧ ∃ d v, dd = some d ∧ H d = some (.xd [("value", v)]) ∧ Rep K w x v ∧ d ∉ w.ow.flatten ∧ w.Fz d = none
section
variable (K : PySem.W.Frag) (ca : Nat → Addr) (W : Value → Option Addr → Hp → Prop)
/-- behind a step: whatever heap has come -/
def After {α : Type} (H : Hp) (w : Wd) (r : Res α) (P : α → Store → Hp → Wd → Prop) : Prop := match r with
  | .ok a M' => ∀ H' w', Grow H w H' w' → Ok K H' w' M' → P a M' H' w'
  | .ex c x M' => ∀ H' w' cls dd, Grow H w H' w' → Ok K H' w' M' → ExcIs K ca H' w' c x cls dd → W cls dd H'
  | .no => False
end
section
variable {K : PySem.W.Frag} {ca : Nat → Addr} {W : Value → Option Addr → Hp → Prop} {H H1 : Hp} {w w1 : Wd} {M : Store} {α β : Type}
theorem After.imp {r : Res α} {P P' : α → Store → Hp → Wd → Prop} (h : After K ca W H w r P) (hp : ∀ a M' H' w', Grow H w H' w' → Ok K H' w' M' → P a M' H' w' → P' a M' H' w') : After K ca W H w r P' := by
  cases r with
  | ok a M' => exact fun H' w' g k => hp a M' H' w' g k (h H' w' g k)
  | ex c x M' => exact h
  | no => exact h
theorem After.grow {r : Res α} {P : α → Store → Hp → Wd → Prop} (g : Grow H w H1 w1) (h : After K ca W H w r P) : After K ca W H1 w1 r P := by
  cases r with
  | ok a M' => exact fun H' w' g' k => h H' w' (g.trans g') k
  | ex c x M' => exact fun H' w' cls dd g' k e => h H' w' cls dd (g.trans g') k e
  | no => exact h
theorem After.bind {r : Res α} {f : α → Store → Res β} {P : β → Store → Hp → Wd → Prop} (h : After K ca W H w (r.bind f) P) : After K ca W H w r fun a M1 H1 w1 => After K ca W H1 w1 (f a M1) P := by
  cases r with
  | ok a M' => exact fun H' w' g k => After.grow g (show After K ca W H w (f a M') P from h)
  | ex c x M' => exact h
  | no => exact h
theorem After.here {a : α} {P : α → Store → Hp → Wd → Prop} (k : Ok K H w M) (h : After K ca W H w (.ok a M) P) : P a M H w := h H w .refl k
theorem After.opt {o : Option α} {P : α → Store → Hp → Wd → Prop} (k : Ok K H w M) (h : After K ca W H w (optR o M) P) : ∃ a, o = some a ∧ P a M H w := by
  cases o with
  | none => exact False.elim h
  | some a => exact ⟨a, rfl, h H w .refl k⟩
theorem After.optG {o : Option α} {P : α → Store → Hp → Wd → Prop} (h : After K ca W H w (optR o M) P) : ∃ a, o = some a ∧ ∀ H' w', Grow H w H' w' → Ok K H' w' M → P a M H' w' := by
  cases o with
  | none => exact False.elim h
  | some a => exact ⟨a, rfl, h⟩
end

/-- the text that is read: its defs, constants, written part -/
structure Cc where
  K : PySem.W.Frag
  mg : Str → Option Value
  ca : Nat → Addr
  F : Fns
  G : List D
  fns : List Str
  gls : List Str
  free : List Str
structure EnvOk (K : PySem.W.Frag) (w : Wd) (env : EnvD) (σ : St) : Prop where
  len : env.length = σ.length
  get : ∀ (i : Nat) (d : D), env[i]? = some (some d) → ∃ v, σ[i]? = some (some v) ∧ Rep K w d v
theorem EnvOk.grow {K : PySem.W.Frag} {w w' : Wd} {env : EnvD} {σ : St} {H H' : Hp} (e : EnvOk K w env σ) (g : Grow H w H' w') : EnvOk K w' env σ :=
  ⟨e.len, fun i d h => let ⟨v, h1, h2⟩ := e.get i d h; ⟨v, h1, h2.grow g⟩⟩
theorem EnvOk.set {K : PySem.W.Frag} {w : Wd} {env : EnvD} {σ : St} {i : Nat} {d : D} {v : V} (e : EnvOk K w env σ) (r : Rep K w d v) : EnvOk K w (env.set i (some d)) (σ.set i (some v)) := by
  refine ⟨by rw [List.length_set, List.length_set]; exact e.len, fun j d' h => ?_⟩
  by_cases hj : i = j
  · subst hj
    have hl : i < env.length := by
      have := (List.getElem?_eq_some_iff.mp h).1
      rwa [List.length_set] at this
    rw [List.getElem?_set_self hl] at h
    cases h
    exact ⟨v, by rw [List.getElem?_set_self (by rw [← e.len]; exact hl)], r⟩
  · rw [List.getElem?_set_ne hj] at h
    obtain ⟨v', h1, h2⟩ := e.get j d' h
    exact ⟨v', by rw [List.getElem?_set_ne hj]; exact h1, h2⟩
theorem EnvOk.wipe {K : PySem.W.Frag} {w : Wd} {env : EnvD} {σ : St} (e : EnvOk K w env σ) : ∀ own : List Nat, EnvOk K w (wipeD env own) (L2.wipe σ own)
  | [] => e
  | i :: own => by
    have ih := EnvOk.wipe e own
    refine ⟨by show (List.set _ _ _).length = (List.set _ _ _).length; rw [List.length_set, List.length_set]; exact ih.len, fun j d h => ?_⟩
    have h : ((wipeD env own).set i none)[j]? = some (some d) := h
    show ∃ v, ((L2.wipe σ own).set i none)[j]? = some (some v) ∧ _
    by_cases hj : i = j
    · subst hj
      have hl := (List.getElem?_eq_some_iff.mp h).1
      rw [List.length_set] at hl
      rw [List.getElem?_set_self hl] at h
      cases h
    · rw [List.getElem?_set_ne hj] at h
      rw [List.getElem?_set_ne hj]
      exact ih.get j d h

section
variable (C : Cc) (W : WX)
/-- how the reading of a step begins and ends -/
def Rd0 {α : Type} (ev : EnvD → Store → Res α) (σ : St) (H : Hp) (P : α → Store → Hp → Wd → EnvD → Prop) : Prop :=
  ∃ env M w, Ok C.K H w M ∧ EnvOk C.K w env σ ∧ After C.K C.ca (fun c d H => W c d σ H) H w (ev env M) fun a M' H' w' => P a M' H' w' env
def tE (e : ME) : TE := fun σ H Q => Rd0 C W (evE C.F C.G e) σ H fun d _ H' w' _ => ∀ v, Rep C.K w' d v → Q v H'
def tT (e : ME) : TT := fun σ H Q => Rd0 C W (fun env M => (evE C.F C.G e env M).bind fun x M => optR (tru x M) M) σ H fun b _ H' _ _ => Q b H'
def tA (es : List ME) : TA := fun σ H Q => Rd0 C W (evEs C.F C.G es) σ H fun ds _ H' w' _ => ∀ vs, Reps C.K w' ds vs → Q vs H'
end
section
variable {C : Cc} {W : WX} {σ : St} {H : Hp} {α β : Type}
/-- a step, then another one -/
theorem Rd0.bind {ev : EnvD → Store → Res α} {f : α → EnvD → Store → Res β} {P : β → Store → Hp → Wd → EnvD → Prop} (h : Rd0 C W (fun env M => (ev env M).bind fun a M => f a env M) σ H P) :
    Rd0 C W ev σ H fun a M' H' w' env => After C.K C.ca (fun c d H => W c d σ H) H' w' (f a env M') fun b M2 H2 w2 => P b M2 H2 w2 env :=
  let ⟨env, M, w, k, e, h⟩ := h
  ⟨env, M, w, k, e, h.bind⟩
theorem Rd0.imp {ev : EnvD → Store → Res α} {P P' : α → Store → Hp → Wd → EnvD → Prop} (h : Rd0 C W ev σ H P)
    (hp : ∀ a M' H' w' env, Ok C.K H' w' M' → EnvOk C.K w' env σ → P a M' H' w' env → P' a M' H' w' env) : Rd0 C W ev σ H P' :=
  let ⟨env, M, w, k, e, h⟩ := h
  ⟨env, M, w, k, e, h.imp fun a M' H' w' g k' hP => hp a M' H' w' env k' (e.grow g) hP⟩
/-- .. the other one read by its own -/
theorem Rd0.of {ev : EnvD → Store → Res α} {P : α → Store → Hp → Wd → EnvD → Prop} {env : EnvD} {M : Store} {w : Wd} (k : Ok C.K H w M) (e : EnvOk C.K w env σ) (h : After C.K C.ca (fun c d H => W c d σ H) H w (ev env M) fun a M' H' w' => P a M' H' w' env) :
    Rd0 C W ev σ H P := ⟨env, M, w, k, e, h⟩
end
theorem peMono {X : Cx} {e : Expr} {t t' : TE} (h : PE X e t) (ht : ∀ σ H Q, t' σ H Q → t σ H Q) : PE X e t' := ⟨fun pins s σ H Q I q => h.run pins s σ H Q I (ht σ H Q q)⟩
theorem ptMono {X : Cx} {e : Expr} {t t' : TT} (h : PT X e t) (ht : ∀ σ H Q, t' σ H Q → t σ H Q) : PT X e t' := ⟨fun pins s σ H Q I q => h.run pins s σ H Q I (ht σ H Q q)⟩
theorem paMono {X : Cx} {e : List Expr} {t t' : TA} (h : PA X e t) (ht : ∀ σ H Q, t' σ H Q → t σ H Q) : PA X e t' := ⟨fun pos pins s σ H Q I q => h.run pos pins s σ H Q I (ht σ H Q q)⟩

/-- two expressions, then a step on their values -/
theorem two {C : Cc} {W : WX} {a b : ME} {f : D → D → Store → Res D} {σ : St} {H : Hp} {Q : VK} {r : R2}
    (h : Rd0 C W (fun env M => (evE C.F C.G a env M).bind fun x M => (evE C.F C.G b env M).bind fun y M => f x y M) σ H fun d _ H' w' _ => ∀ v, Rep C.K w' d v → Q v H')
    (hf : ∀ x y vx vy M H' w', Ok C.K H' w' M → Rep C.K w' x vx → Rep C.K w' y vy → After C.K C.ca (fun c d H => W c d σ H) H' w' (f x y M) (fun d _ H2 w2 => ∀ v, Rep C.K w2 d v → Q v H2) → r vx vy H' Q) :
    tOp r (tE C W a) (tE C W b) σ H Q := by
  refine (h.bind (f := fun x env M => (evE C.F C.G b env M).bind fun y M => f x y M)).imp fun x M1 H1 w1 env k1 e1 h1 v rv => ?_
  refine ⟨env, M1, w1, k1, e1, h1.bind.imp fun y M2 H2 w2 g2 k2 h2 u ru => ?_⟩
  exact hf x y v u M2 H2 w2 k2 (rv.grow g2) ru h2
theorem one {C : Cc} {W : WX} {a : ME} {f : D → Store → Res D} {σ : St} {H : Hp} {Q : VK} {r : V → Hp → VK → Prop}
    (h : Rd0 C W (fun env M => (evE C.F C.G a env M).bind fun x M => f x M) σ H fun d _ H' w' _ => ∀ v, Rep C.K w' d v → Q v H')
    (hf : ∀ x vx M H' w', Ok C.K H' w' M → Rep C.K w' x vx → After C.K C.ca (fun c d H => W c d σ H) H' w' (f x M) (fun d _ H2 w2 => ∀ v, Rep C.K w2 d v → Q v H2) → r vx H' Q) :
    tE C W a σ H fun x H1 => r x H1 Q := by
  refine (h.bind (f := fun x env M => f x M)).imp fun x M1 H1 w1 env k1 e1 h1 v rv => hf x v M1 H1 w1 k1 rv h1

/-! ### ints and the like -/
section
variable {C : Cc} {W : WX} {X : Cx} {a b : ME} {ea eb : Expr} {pos : Pos}
theorem Rep.int {K : PySem.W.Frag} {w : Wd} {i : Int} {v : V} (h : Rep K w (.int i) v) : v = .int i := h
theorem pe_mint {op : Operator} {g : ME → ME → ME} {f : D → D → Option D} {P : Int → Int → Prop} {φ : Int → Int → Int}
    (hev : ∀ env M, evE C.F C.G (g a b) env M = (evE C.F C.G a env M).bind fun x M => (evE C.F C.G b env M).bind fun y M => optR (f x y) M)
    (hr : OpR X (binaryOp op) (rI P fun i j => .int (φ i j))) (hf : ∀ x y d, f x y = some d → ∃ i j, x = .int i ∧ y = .int j ∧ P i j ∧ d = .int (φ i j))
    (ha : PE X ea (tE C W a)) (hb : PE X eb (tE C W b)) : PE X (.BinOp ea op eb pos) (tE C W (g a b)) := by
  refine peMono (pe_op hr ha hb) fun σ H Q h => ?_
  have h' : Rd0 C W (fun env M => (evE C.F C.G a env M).bind fun x M => (evE C.F C.G b env M).bind fun y M => optR (f x y) M) σ H fun d _ H' w' _ => ∀ v, Rep C.K w' d v → Q v H' := by
    obtain ⟨env, M, w, k, e, h⟩ := h
    exact ⟨env, M, w, k, e, by rw [hev] at h; exact h⟩
  refine two h' fun x y vx vy M H' w' k rx ry h => ?_
  obtain ⟨d, e, q⟩ := h.opt k
  obtain ⟨i, j, rfl, rfl, p, rfl⟩ := hf x y d e
  exact ⟨i, j, rx, ry, p, q _ rfl⟩
end

theorem Reps.len {K : PySem.W.Frag} {w : Wd} : ∀ {ds : List D} {vs : List V}, Reps K w ds vs → vs.length = ds.length
  | [], _, r => by rw [show _ = [] from r]; rfl
  | d :: ds, vs, ⟨v, r, e, _, q⟩ => by rw [e, List.length_cons, List.length_cons, Reps.len q]
theorem Reps.at {K : PySem.W.Frag} {w : Wd} : ∀ {ds : List D} {vs : List V} {i : Nat} {d : D}, Reps K w ds vs → ds[i]? = some d → ∃ v, vs[i]? = some v ∧ Rep K w d v
  | [], _, _, _, _, h => by simp at h
  | x :: ds, vs, 0, d, ⟨v, r, e, p, _⟩, h => by
    simp at h
    subst h
    exact ⟨v, by rw [e]; rfl, p⟩
  | x :: ds, vs, i + 1, d, ⟨v, r, e, _, q⟩, h => by
    obtain ⟨u, h1, h2⟩ := Reps.at q (i := i) (d := d) (by simpa using h)
    exact ⟨u, by rw [e]; simpa using h1, h2⟩
theorem Reps.append {K : PySem.W.Frag} {w : Wd} : ∀ {ds es : List D} {vs us : List V}, Reps K w ds vs → Reps K w es us → Reps K w (ds ++ es) (vs ++ us)
  | [], _, _, _, r, s => by rw [show _ = [] from r]; exact s
  | d :: ds, es, vs, us, ⟨v, r, e, p, q⟩, s => ⟨v, r ++ us, by rw [e]; rfl, p, Reps.append q s⟩
theorem Reps.take {K : PySem.W.Frag} {w : Wd} : ∀ {ds : List D} {vs : List V} (n : Nat), Reps K w ds vs → Reps K w (ds.take n) (vs.take n)
  | _, _, 0, _ => by simp [Reps]
  | [], vs, n + 1, r => by rw [show vs = [] from r]; exact rfl
  | d :: ds, vs, n + 1, ⟨v, r, e, p, q⟩ => ⟨v, r.take n, by rw [e]; rfl, p, Reps.take n q⟩
theorem Reps.drop' {K : PySem.W.Frag} {w : Wd} : ∀ {ds : List D} {vs : List V} (n : Nat), Reps K w ds vs → Reps K w (ds.drop n) (vs.drop n)
  | _, _, 0, r => r
  | [], vs, n + 1, r => by rw [show vs = [] from r]; exact rfl
  | d :: ds, vs, n + 1, ⟨v, r, e, p, q⟩ => by
    rw [e]
    exact Reps.drop' n q
theorem Reps.reps {K : PySem.W.Frag} {w : Wd} : ∀ {ds : List D} {vs : List V} (k : Nat), Reps K w ds vs → Reps K w (List.replicate k ds).flatten (List.replicate k vs).flatten
  | _, _, 0, _ => rfl
  | ds, vs, k + 1, r => by
    rw [List.replicate_succ, List.replicate_succ, List.flatten_cons, List.flatten_cons]
    exact r.append (Reps.reps k r)
theorem Reps.snoc {K : PySem.W.Frag} {w : Wd} {ds : List D} {vs : List V} {d : D} {v : V} (r : Reps K w ds vs) (p : Rep K w d v) : Reps K w (ds ++ [d]) (vs ++ [v]) := r.append ⟨v, [], rfl, p, rfl⟩
theorem Reps.ints {K : PySem.W.Frag} {w : Wd} : ∀ {ds : List D} {vs : List V} {ns : List Int}, Reps K w ds vs → intsOf ds = some ns → vs = ns.map V.int
  | [], vs, ns, r, h => by
    rw [show vs = [] from r]
    cases h
    rfl
  | .int i :: ds, vs, ns, ⟨v, r, e, p, q⟩, h => by
    have h : (intsOf ds).map (i :: ·) = some ns := h
    cases e1 : intsOf ds with
    | none => rw [e1] at h; cases h
    | some l =>
      rw [e1] at h
      cases h
      rw [e, Reps.ints q e1, show v = .int i from p]
      rfl
  | .non :: _, _, _, _, h => by cases h
  | .bl _ :: _, _, _, _, h => by cases h
  | .str _ :: _, _, _, _, h => by cases h
  | .tup _ :: _, _, _, _, h => by cases h
  | .lst _ :: _, _, _, _, h => by cases h
  | .dic _ :: _, _, _, _, h => by cases h
  | .ref _ :: _, _, _, _, h => by cases h
  | .scr _ :: _, _, _, _, h => by cases h
theorem Reps.bls {K : PySem.W.Frag} {w : Wd} : ∀ {ds : List D} {vs : List V} {ns : List Bool}, Reps K w ds vs → blsOf ds = some ns → vs = ns.map V.bl
  | [], vs, ns, r, h => by
    rw [show vs = [] from r]
    cases h
    rfl
  | .bl i :: ds, vs, ns, ⟨v, r, e, p, q⟩, h => by
    have h : (blsOf ds).map (i :: ·) = some ns := h
    cases e1 : blsOf ds with
    | none => rw [e1] at h; cases h
    | some l =>
      rw [e1] at h
      cases h
      rw [e, Reps.bls q e1, show v = .bl i from p]
      rfl
  | .non :: _, _, _, _, h => by cases h
  | .int _ :: _, _, _, _, h => by cases h
  | .str _ :: _, _, _, _, h => by cases h
  | .tup _ :: _, _, _, _, h => by cases h
  | .lst _ :: _, _, _, _, h => by cases h
  | .dic _ :: _, _, _, _, h => by cases h
  | .ref _ :: _, _, _, _, h => by cases h
  | .scr _ :: _, _, _, _, h => by cases h
theorem Reps.ofInts {K : PySem.W.Frag} {w : Wd} : ∀ (ns : List Int), Reps K w (ns.map D.int) (ns.map V.int)
  | [] => rfl
  | n :: ns => ⟨.int n, ns.map V.int, rfl, rfl, Reps.ofInts ns⟩
/-- a frozen tuple, list: as the heap has it -/
theorem Ok.sqT {K : PySem.W.Frag} {H : Hp} {w : Wd} {M : Store} (k : Ok K H w M) {a : Addr} {xs : List V} (s : w.Fz a = some (.tup xs)) : SqT K H a xs := .inl (.inl (k.sub _ _ s))
theorem Ok.sqL {K : PySem.W.Frag} {H : Hp} {w : Wd} {M : Store} (k : Ok K H w M) {a : Addr} {xs : List V} (s : SqL K w.Fz a xs) : SqL K H a xs := by
  rcases s with s | s
  · rcases s with s | ⟨o, s⟩
    · exact .inl (.inl (k.sub _ _ s))
    · exact .inl (.inr ⟨o, k.sub _ _ s⟩)
  · exact .inr s
/-- a cell's own object -/
theorem Ok.cellAt {K : PySem.W.Frag} {H : Hp} {w : Wd} {M : Store} (k : Ok K H w M) {n : Nat} {v : V} {c : Cell} (r : Rep K w (.ref n) v) (e : M[n]? = some c) : ∃ a as, v = .ref a ∧ w.ow[n]? = some (a :: as) ∧ CellOk K w H (a :: as) c :=
  let ⟨a, as, e1, e2⟩ := r
  ⟨a, as, e1, e2, k.cell n c _ e e2⟩
theorem Ok.lstAt {K : PySem.W.Frag} {H : Hp} {w : Wd} {M : Store} (k : Ok K H w M) {n : Nat} {v : V} {ds : List D} (r : Rep K w (.ref n) v) (e : M[n]? = some (.lst ds)) :
    ∃ a vs, v = .ref a ∧ w.ow[n]? = some [a] ∧ H a = some (.lst vs) ∧ Reps K w.fz ds vs ∧ Reps K w ds vs := by
  obtain ⟨a, as, e1, e2, a', vs, e3, h, q⟩ := k.cellAt r e
  cases e3
  exact ⟨a, vs, e1, e2, h, q, Reps.mono (w := w.fz) (w1 := w) (fun _ _ h => h) ⟨w.ow, rfl⟩ ds vs q⟩
/-- what seqOf reads, as the heap has it -/
theorem Ok.seq {K : PySem.W.Frag} {H : Hp} {w : Wd} {M : Store} (k : Ok K H w M) {d : D} {v : V} {ds : List D} (r : Rep K w d v) (e : seqOf d M = some ds) :
    ∃ a vs, v = .ref a ∧ (SqL K H a vs ∨ SqT K H a vs) ∧ Reps K w ds vs := by
  cases d with
  | tup xs =>
    cases e
    obtain ⟨a, vs, e1, s, q⟩ := r
    exact ⟨a, vs, e1, .inr (k.sqT s), q⟩
  | lst xs =>
    cases e
    obtain ⟨a, vs, e1, s, q⟩ := r
    exact ⟨a, vs, e1, .inl (.inl (.inl (k.sub _ _ s))), q⟩
  | scr ns =>
    cases e
    obtain ⟨a, e1, s⟩ := r
    exact ⟨a, _, e1, .inl (k.sqL s), Reps.ofInts ns⟩
  | ref n =>
    have e : (match M[n]? with
      | some (.lst ds) => some ds
      | _ => none) = some ds := e
    cases q : M[n]? with
    | none => rw [q] at e; cases e
    | some c =>
      rw [q] at e
      cases c with
      | lst l =>
        cases e
        obtain ⟨a, vs, e1, _, h, _, q2⟩ := k.lstAt r q
        exact ⟨a, vs, e1, .inl (.inl (.inl h)), q2⟩
      | dK _ _ => cases e
      | dT _ _ => cases e
  | non => cases e
  | bl _ => cases e
  | int _ => cases e
  | str _ => cases e
  | dic _ => cases e
theorem emp_iff {α β : Type} {xs : List α} {ys : List β} (h : xs.length = ys.length) : (!xs.isEmpty) = !ys.isEmpty := by
  cases xs <;> cases ys <;> first | rfl | simp at h
theorem Ok.tru {K : PySem.W.Frag} {H : Hp} {w : Wd} {M : Store} (k : Ok K H w M) {d : D} {v : V} {b : Bool} (r : Rep K w d v) (e : tru d M = some b) : TruV K v H b := by
  cases d with
  | non => cases e; rw [show v = .non from r]; rfl
  | bl c => cases e; rw [show v = .bl _ from r]; rfl
  | int i => cases e; rw [show v = .int i from r]; rfl
  | str s =>
    rw [show v = .str s from r]
    have e : (if s.length ≤ sizeLine then some ((s.length : Int) != 0) else none) = some b := e
    by_cases hs : s.length ≤ sizeLine
    · rw [if_pos hs] at e
      cases e
      exact ⟨hs, rfl⟩
    · rw [if_neg hs] at e; cases e
  | tup ds =>
    cases e
    obtain ⟨a, vs, e1, s, q⟩ := r
    rw [e1]
    exact .inr (.inl ⟨vs, k.sqT s, (emp_iff q.len).symm⟩)
  | lst ds =>
    cases e
    obtain ⟨a, vs, e1, s, q⟩ := r
    rw [e1]
    exact .inl ⟨vs, .inl (.inl (k.sub _ _ s)), (emp_iff q.len).symm⟩
  | scr ns => cases e
  | dic _ => cases e
  | ref n =>
    have e : (match M[n]? with
      | some (.lst ds) => some (!ds.isEmpty)
      | _ => none) = some b := e
    cases q : M[n]? with
    | none => rw [q] at e; cases e
    | some c =>
      rw [q] at e
      cases c with
      | lst l =>
        cases e
        obtain ⟨a, vs, e1, _, h, _, q2⟩ := k.lstAt r q
        rw [e1]
        exact .inl ⟨vs, .inl (.inl h), (emp_iff q2.len).symm⟩
      | dK _ _ => cases e
      | dT _ _ => cases e
/-- a new frozen thing -/
theorem newT {K : PySem.W.Frag} {H : Hp} {w : Wd} {M : Store} {ds : List D} {vs : List V} {Q : VK} {P : Hp → Wd → Prop} (k : Ok K H w M) (r : Reps K w ds vs) (h : ∀ H' w', Grow H w H' w' → Ok K H' w' M → ∀ v, Rep K w' (.tup ds) v → Q v H') :
    ∀ p, H p = none → Q (.ref p) (upd H p (.tup vs)) := fun p hp =>
  h _ (w.addF p (.tup vs)) (grow_addF k hp _) (k.addF hp trivial) _ ⟨p, vs, rfl, (show upd w.Fz p (.tup vs) p = _ from upd_same), r.grow (grow_addF k hp (.tup vs))⟩
theorem newL {K : PySem.W.Frag} {H : Hp} {w : Wd} {M : Store} {ds : List D} {vs : List V} {Q : VK} (k : Ok K H w M) (r : Reps K w ds vs) (h : ∀ H' w', Grow H w H' w' → Ok K H' w' M → ∀ v, Rep K w' (.lst ds) v → Q v H') :
    ∀ p, H p = none → Q (.ref p) (upd H p (.lst vs)) := fun p hp =>
  h _ (w.addF p (.lst vs)) (grow_addF k hp _) (k.addF hp trivial) _ ⟨p, vs, rfl, (show upd w.Fz p (.lst vs) p = _ from upd_same), r.grow (grow_addF k hp (.lst vs))⟩
theorem newC {K : PySem.W.Frag} {H : Hp} {w : Wd} {M : Store} {ds : List D} {vs : List V} {Q : VK} (k : Ok K H w M) (r : Reps K w ds vs) (pu : D.pures ds = true) (h : ∀ H' w', Grow H w H' w' → Ok K H' w' (M ++ [.lst ds]) → ∀ v, Rep K w' (.ref M.length) v → Q v H') :
    ∀ p, H p = none → Q (.ref p) (upd H p (.lst vs)) := fun p hp => by
  refine h _ (w.addC p) (grow_addC k hp _) (k.addC hp ⟨p, vs, rfl, upd_same, Reps.drop (w := w) (w1 := w.fz) (fun _ _ h => h) ds vs pu r⟩) _ ⟨p, [], rfl, ?_⟩
  show (w.ow ++ [[p]])[M.length]? = _
  rw [← k.len, List.getElem?_append_right (Nat.le_refl _), Nat.sub_self]
  rfl
end PM

/-! PMd: one rule for each form of expression. -/
namespace PM
open PySem L2
section
variable {C : Cc} {W : WX} {X : Cx} {a b e : ME} {ea eb ee : Expr} {pos : Pos} {σ : St} {H : Hp} {M : Store} {w : Wd}
theorem Ok.resL {K : PySem.W.Frag} (k : Ok K H w M) {x : D} {v : V} {ds : List D} (r : Rep K w x v) (e : res x M = .lst ds) : ∃ a vs, v = .ref a ∧ H a = some (.lst vs) ∧ Reps K w ds vs := by
  cases x with
  | lst xs =>
    have e : D.lst xs = .lst ds := e
    cases e
    obtain ⟨a, vs, e1, s, q⟩ := r
    exact ⟨a, vs, e1, k.sub _ _ s, q⟩
  | ref n =>
    have e : (match M[n]? with
      | some (.lst ds) => D.lst ds
      | _ => .ref n) = .lst ds := e
    cases q : M[n]? with
    | none => rw [q] at e; cases e
    | some c =>
      rw [q] at e
      cases c with
      | lst l =>
        cases e
        obtain ⟨a, vs, e1, _, h, _, q2⟩ := k.lstAt r q
        exact ⟨a, vs, e1, h, q2⟩
      | dK _ _ => cases e
      | dT _ _ => cases e
  | _ => cases e
theorem res_own {x d : D} (e : res x M = d) (h : ∀ ds, d ≠ .lst ds) : x = d := by
  cases x with
  | ref n =>
    have e : (match M[n]? with
      | some (.lst ds) => D.lst ds
      | _ => .ref n) = d := e
    cases q : M[n]? with
    | none => rw [q] at e; exact e
    | some c =>
      rw [q] at e
      cases c with
      | lst l => exact absurd e.symm (h l)
      | dK _ _ => exact e
      | dT _ _ => exact e
  | _ => exact e
def rAddAll (K : PySem.W.Frag) : R2 := fun x y H Q => rI0 (fun i j => .int (i + j)) x y H Q ∨ ((∃ i j, x = .str i ∧ y = .str j ∧ i.length + j.length ≤ sizeLine ∧ Q (.str (i ++ j)) H) ∨ (rCatA K x y H Q ∨ rCat x y H Q))
theorem op_addAll (hK : X.K = C.K) : OpR X (binaryOp .Add) (rAddAll C.K) := op_add.or (op_add_str.or (OpR.or (hK ▸ op_catA) op_cat))
theorem Rep.nil_tup {K : PySem.W.Frag} {ds : List D} {vs : List V} (q : Reps K w ds vs) (h : vs = []) : ds = [] := by
  have := q.len
  rw [h] at this
  exact List.eq_nil_of_length_eq_zero this.symm
theorem pe_Add (hK : X.K = C.K) (ha : PE X ea (tE C W a)) (hb : PE X eb (tE C W b)) : PE X (.BinOp ea .Add eb pos) (tE C W (.add a b)) := by
  refine peMono (pe_op (op_addAll hK) ha hb) fun σ H Q h => ?_
  refine two (C := C) (W := W) (f := fun x y M => optR (addD (res x M) (res y M) M) M) h fun x y vx vy M H' w' k rx ry h => ?_
  obtain ⟨d, e, q⟩ := h.opt k
  cases hx : res x M with
  | int i =>
    cases hy : res y M with
    | int j =>
      rw [hx, hy] at e
      cases e
      rw [res_own hx (by intro _ z; cases z)] at rx
      rw [res_own hy (by intro _ z; cases z)] at ry
      exact .inl ⟨i, j, rx, ry, q _ rfl⟩
    | _ => rw [hx, hy] at e; cases e
  | str s =>
    cases hy : res y M with
    | str t =>
      rw [hx, hy] at e
      have e : (if lineOk (s.length + t.length) = true then some (D.str (s ++ t)) else none) = some d := e
      by_cases hl : lineOk (s.length + t.length) = true
      · rw [if_pos hl] at e
        cases e
        rw [res_own hx (by intro _ z; cases z)] at rx
        rw [res_own hy (by intro _ z; cases z)] at ry
        exact .inr (.inl ⟨s, t, rx, ry, of_decide_eq_true hl, q _ rfl⟩)
      · rw [if_neg hl] at e; cases e
    | _ => rw [hx, hy] at e; cases e
  | tup xs =>
    cases hy : res y M with
    | tup ys =>
      rw [hx, hy] at e
      have e : (if lineOk (xs.length + ys.length) = true then some (D.tup (xs ++ ys)) else none) = some d := e
      by_cases hl : lineOk (xs.length + ys.length) = true
      · rw [if_pos hl] at e
        cases e
        rw [res_own hx (by intro _ z; cases z)] at rx
        rw [res_own hy (by intro _ z; cases z)] at ry
        obtain ⟨a1, vs1, e1, s1, q1⟩ := rx
        obtain ⟨a2, vs2, e2, s2, q2⟩ := ry
        refine .inr (.inr (.inl ⟨a1, a2, vs1, vs2, e1, e2, k.sqT s1, k.sqT s2, ?_, fun hn => ?_, fun _ hn => ?_, fun _ _ => newT (P := fun _ _ => True) k (q1.append q2) ?_⟩))
        · rw [q1.len, q2.len]; exact of_decide_eq_true hl
        · have z := Rep.nil_tup q1 hn
          subst z
          exact q _ ⟨a2, vs2, rfl, s2, q2⟩
        · have z := Rep.nil_tup q2 hn
          subst z
          rw [List.append_nil] at q
          exact q _ ⟨a1, vs1, rfl, s1, q1⟩
        · intro H2 w2 g k2 v r
          exact (After.grow g h) |> fun h' => by
            have h' : After C.K C.ca (fun c d H => W c d σ H) H2 w2 (optR (addD (res x M) (res y M) M) M) fun d x H2 w2 => ∀ (v : V), Rep C.K w2 d v → Q v H2 := h'
            rw [hx, hy] at h'
            have e' : addD (.tup xs) (.tup ys) M = some (.tup (xs ++ ys)) := if_pos hl
            rw [e'] at h'
            exact h'.here k2 v r
      · rw [if_neg hl] at e; cases e
    | _ => rw [hx, hy] at e; cases e
  | lst xs =>
    cases hy : res y M with
    | lst ys =>
      rw [hx, hy] at e
      have e : (if lineOk (xs.length + ys.length) = true then some (D.lst (xs ++ ys)) else none) = some d := e
      by_cases hl : lineOk (xs.length + ys.length) = true
      · rw [if_pos hl] at e
        cases e
        obtain ⟨a1, vs1, e1, s1, q1⟩ := k.resL rx hx
        obtain ⟨a2, vs2, e2, s2, q2⟩ := k.resL ry hy
        refine .inr (.inr (.inr ⟨a1, a2, vs1, vs2, e1, e2, s1, s2, ?_, newL k (q1.append q2) ?_⟩))
        · rw [q1.len, q2.len]; exact of_decide_eq_true hl
        · intro H2 w2 g k2 v r
          have h' := After.grow g h
          rw [hx, hy] at h'
          have e' : addD (.lst xs) (.lst ys) M = some (.lst (xs ++ ys)) := if_pos hl
          rw [e'] at h'
          exact h'.here k2 v r
      · rw [if_neg hl] at e; cases e
    | _ => rw [hx, hy] at e; cases e
  | _ =>
    cases hy : res y M <;> (rw [hx, hy] at e; cases e)

/-! ### constants, names -/
theorem tE_ok {e : ME} {d : D} {σ : St} {H : Hp} {Q : VK} (hev : ∀ env M, evE C.F C.G e env M = .ok d M) (h : tE C W e σ H Q) : ∃ w M, Ok C.K H w M ∧ ∀ H' w', Grow H w H' w' → Ok C.K H' w' M → ∀ v, Rep C.K w' d v → Q v H' := by
  obtain ⟨env, M, w, k, _, h⟩ := h
  rw [hev] at h
  exact ⟨w, M, k, h⟩
theorem pe_Int {i : Int} {j : Nat} : PE X (.Constant (.int i) j pos) (tE C W (.c (.int i))) := peMono pe_int fun σ H Q h => by
  obtain ⟨w, M, k, h⟩ := tE_ok (fun _ _ => rfl) h
  exact h H w .refl k _ rfl
theorem pe_Bl {b : Bool} {j : Nat} : PE X (.Constant (.bool b) j pos) (tE C W (.c (.bl b))) := peMono pe_bl fun σ H Q h => by
  obtain ⟨w, M, k, h⟩ := tE_ok (fun _ _ => rfl) h
  exact h H w .refl k _ rfl
theorem pe_Non {j : Nat} : PE X (.Constant .none j pos) (tE C W (.c .non)) := peMono pe_non fun σ H Q h => by
  obtain ⟨w, M, k, h⟩ := tE_ok (fun _ _ => rfl) h
  exact h H w .refl k _ rfl
theorem pe_Str {x : Str} {j : Nat} : PE X (.Constant (.str x) j pos) (tE C W (.c (.str x))) := peMono pe_str fun σ H Q h => by
  obtain ⟨w, M, k, h⟩ := tE_ok (fun _ _ => rfl) h
  exact h H w .refl k _ rfl
theorem pe_Var {i : Nat} {x : Str} (hN : X.N[i]? = some x) (hv : Vis X.env.scope x) (hd : (x == ("__debug__" : Str)) = false) (hcd : (x == ("__classdict__" : Str)) = false) : PE X (.Name x pos) (tE C W (.var i)) :=
  peMono (pe_var hN hv hd hcd) fun σ H Q h => by
    obtain ⟨env, M, w, k, eo, h⟩ := h
    have h : After C.K C.ca (fun c d H => W c d σ H) H w (optR (env[i]?).join M) fun d _ H' w' => ∀ v, Rep C.K w' d v → Q v H' := h
    obtain ⟨d, e, q⟩ := h.optG
    have e2 : env[i]? = some (some d) := by
      cases z : env[i]? with
      | none => rw [z] at e; cases e
      | some o => rw [z] at e; exact congrArg some e
    obtain ⟨v, h1, h2⟩ := eo.get i d e2
    exact ⟨v, h1, q H w .refl k v h2⟩
theorem pe_Glo {i : Nat} {x : Str} {u : Value} {v : V} {d : D} (hg : Gl X x) (hm : X.mg x = some u) (r : RelV v u) (hd : (x == ("__debug__" : Str)) = false) (hi : C.G[i]? = some d) (hr : ∀ w, Rep C.K w d v) : PE X (.Name x pos) (tE C W (.glo i)) :=
  peMono (pe_glob hg hm r hd) fun σ H Q h => by
    obtain ⟨w, M, k, h⟩ := tE_ok (d := d) (fun env M => by show optR (C.G[i]?) M = _; rw [hi]; rfl) h
    exact h H w .refl k _ (hr w)
/-! ### int operators -/
theorem int_of {x y d : D} {f : Int → Int → Option D} (e : (match x, y with
    | .int i, .int j => f i j
    | _, _ => none) = some d) : ∃ i j, x = .int i ∧ y = .int j ∧ f i j = some d := by
  cases x with
  | int i =>
    cases y with
    | int j => exact ⟨i, j, rfl, rfl, e⟩
    | _ => cases e
  | _ => cases e
theorem pe_Sub (ha : PE X ea (tE C W a)) (hb : PE X eb (tE C W b)) : PE X (.BinOp ea .Sub eb pos) (tE C W (.sub a b)) :=
  peMono (pe_op op_sub ha hb) fun σ H Q h => two (C := C) (W := W) (f := fun x y M => optR (subD x y) M) h fun x y vx vy M H' w' k rx ry h => by
    obtain ⟨d, e, q⟩ := h.optG
    obtain ⟨i, j, rfl, rfl, e2⟩ := int_of (f := fun i j => some (D.int (i - j))) (x := x) (y := y) (d := d) e
    cases e2
    exact ⟨i, j, rx, ry, q H' w' .refl k _ rfl⟩
theorem small_iff {i : Int} : small i = true ↔ (-(2 ^ 64) < i ∧ i < 2 ^ 64) := by
  unfold small
  rw [Bool.and_eq_true, decide_eq_true_eq, decide_eq_true_eq]
def rMulI : R2 := fun x y H Q => rI CMul (fun i j => .int (i * j)) x y H Q ∨ rI CMulW (fun i j => .int (i * j)) x y H Q
theorem op_mulI : OpR X (binaryOp .Mult) rMulI := op_mul.or op_mulW
theorem mulOk_of {i j : Int} (h : mulOk i j = true) : CMul i j ∨ CMulW i j := by
  unfold mulOk at h
  rw [Bool.or_eq_true, Bool.or_eq_true] at h
  rcases h with h | h | h
  · exact .inl (.inl (small_iff.mp h))
  · exact .inl (.inr (small_iff.mp h))
  · exact .inr (show i.natAbs.log2 + j.natAbs.log2 < 1000000 from of_decide_eq_true h)
theorem divOk_of {j : Int} (h : divOk j = true) (i : Int) : CDivW i j := by
  unfold divOk at h
  rw [Bool.and_eq_true] at h
  exact ⟨of_decide_eq_true h.1, of_decide_eq_true h.2⟩
theorem pe_Fdiv (ha : PE X ea (tE C W a)) (hb : PE X eb (tE C W b)) : PE X (.BinOp ea .FloorDiv eb pos) (tE C W (.fdiv a b)) :=
  peMono (pe_op op_fdivW ha hb) fun σ H Q h => two (C := C) (W := W) (f := fun x y M => optR (fdivD x y) M) h fun x y vx vy M H' w' k rx ry h => by
    obtain ⟨d, e, q⟩ := h.optG
    obtain ⟨i, j, rfl, rfl, e2⟩ := int_of (f := fun i j => if divOk j = true then some (D.int (i / j)) else none) (x := x) (y := y) (d := d) e
    by_cases hj : divOk j = true
    · rw [if_pos hj] at e2
      cases e2
      exact ⟨i, j, rx, ry, divOk_of hj i, q H' w' .refl k _ rfl⟩
    · rw [if_neg hj] at e2; cases e2
theorem pe_Mod (ha : PE X ea (tE C W a)) (hb : PE X eb (tE C W b)) : PE X (.BinOp ea .Mod eb pos) (tE C W (.mod a b)) :=
  peMono (pe_op op_mod ha hb) fun σ H Q h => two (C := C) (W := W) (f := fun x y M => optR (modD x y) M) h fun x y vx vy M H' w' k rx ry h => by
    obtain ⟨d, e, q⟩ := h.optG
    obtain ⟨i, j, rfl, rfl, e2⟩ := int_of (f := fun i j => if 0 < j then some (D.int (i % j)) else none) (x := x) (y := y) (d := d) e
    by_cases hj : 0 < j
    · rw [if_pos hj] at e2
      cases e2
      exact ⟨i, j, rx, ry, hj, q H' w' .refl k _ rfl⟩
    · rw [if_neg hj] at e2; cases e2
def CPowB (i j : Int) : Prop := 0 ≤ j ∧ j ≤ 200 ∧ i.natAbs < 2 ^ 3000
theorem op_powB : OpR X (binaryOp .Pow) (rI CPowB fun i j => .int (i ^ j.toNat)) := opI fun i j _ _ _ _ _ hc q => by
  have h0 : (0 : Int) ≤ j := hc.1
  have h1 : j ≤ 200 := hc.2.1
  refine PyProof.Rows.pow_int h0 ?_ q
  have hb : Builtin.Int.intBits i ≤ 3000 := by
    unfold Builtin.Int.intBits
    split
    · omega
    · have := PySem.Flt.log2_lt_of (n := i.natAbs) (k := 3000) (by decide) hc.2.2
      omega
  have h2 : (Builtin.Int.intBits i : Int) * j ≤ 3000 * 200 := Int.mul_le_mul (by omega) h1 h0 (by omega)
  omega
theorem pe_Pow (ha : PE X ea (tE C W a)) (hb : PE X eb (tE C W b)) : PE X (.BinOp ea .Pow eb pos) (tE C W (.pow a b)) :=
  peMono (pe_op op_powB ha hb) fun σ H Q h => two (C := C) (W := W) (f := fun x y M => optR (powD x y) M) h fun x y vx vy M H' w' k rx ry h => by
    obtain ⟨d, e, q⟩ := h.optG
    obtain ⟨i, j, rfl, rfl, e2⟩ := int_of (f := fun i j => if 0 ≤ j ∧ j ≤ 200 ∧ i.natAbs < 2 ^ 3000 then some (D.int (i ^ j.toNat)) else none) (x := x) (y := y) (d := d) e
    by_cases hj : 0 ≤ j ∧ j ≤ 200 ∧ i.natAbs < 2 ^ 3000
    · rw [if_pos hj] at e2
      cases e2
      exact ⟨i, j, rx, ry, hj, q H' w' .refl k _ rfl⟩
    · rw [if_neg hj] at e2; cases e2
theorem pe_Neg (ha : PE X ea (tE C W a)) : PE X (.UnaryOp .USub ea pos) (tE C W (.neg a)) :=
  peMono (pe_un un_neg ha) fun σ H Q h => one (C := C) (W := W) (f := fun x M => optR (negD x) M) h fun x vx M H' w' k rx h => by
    obtain ⟨d, e, q⟩ := h.optG
    cases x with
    | int i =>
      cases e
      exact ⟨i, rx, q H' w' .refl k _ rfl⟩
    | _ => cases e
theorem op_mul_D {x y d : D} (e : mulD x y = some d) : (∃ i j, x = .int i ∧ y = .int j ∧ mulOk i j = true ∧ d = .int (i * j)) ∨
    (∃ a k, x = .tup a ∧ y = .int k ∧ (decide (2 ≤ k ∧ k ≤ 1000 ∧ a.length ≤ 1000) && !a.isEmpty) = true ∧ d = .tup (List.replicate k.toNat a).flatten) := by
  cases x with
  | int i =>
    cases y with
    | int j =>
      have e2 : (if mulOk i j = true then some (D.int (i * j)) else none) = some d := e
      by_cases hj : mulOk i j = true
      · rw [if_pos hj] at e2
        cases e2
        exact .inl ⟨i, j, rfl, rfl, hj, rfl⟩
      · rw [if_neg hj] at e2; cases e2
    | _ => cases e
  | tup a =>
    cases y with
    | int k =>
      have e2 : (if (decide (2 ≤ k ∧ k ≤ 1000 ∧ a.length ≤ 1000) && !a.isEmpty) = true then some (D.tup (List.replicate k.toNat a).flatten) else none) = some d := e
      by_cases hj : (decide (2 ≤ k ∧ k ≤ 1000 ∧ a.length ≤ 1000) && !a.isEmpty) = true
      · rw [if_pos hj] at e2
        cases e2
        exact .inr ⟨a, k, rfl, rfl, hj, rfl⟩
      · rw [if_neg hj] at e2; cases e2
    | _ => cases e
  | _ => cases e
theorem pe_Mul (hK : X.K = C.K) (ha : PE X ea (tE C W a)) (hb : PE X eb (tE C W b)) : PE X (.BinOp ea .Mult eb pos) (tE C W (.mul a b)) := by
  have hop : OpR X (binaryOp .Mult) (fun x y H Q => rMulI x y H Q ∨ rRepT C.K x y H Q) := op_mulI.or (hK ▸ op_repT)
  refine peMono (pe_op hop ha hb) fun σ H Q h => two (C := C) (W := W) (f := fun x y M => optR (mulD x y) M) h fun x y vx vy M H' w' k rx ry h => ?_
  obtain ⟨d, e, q⟩ := h.optG
  rcases op_mul_D e with ⟨i, j, rfl, rfl, hm, rfl⟩ | ⟨l, j, rfl, rfl, hm, rfl⟩
  · rcases mulOk_of hm with z | z
    · exact .inl (.inl ⟨i, j, rx, ry, z, q H' w' .refl k _ rfl⟩)
    · exact .inl (.inr ⟨i, j, rx, ry, z, q H' w' .refl k _ rfl⟩)
  · obtain ⟨a1, vs, e1, s1, q1⟩ := rx
    rw [Bool.and_eq_true] at hm
    obtain ⟨h1, h2, h3⟩ := of_decide_eq_true hm.1
    refine .inr ⟨a1, j, vs, e1, ry, k.sqT s1, fun z => ?_, h1, h2, by rw [q1.len]; exact h3, newT (P := fun _ _ => True) k (q1.reps j.toNat) q⟩
    have z2 := Rep.nil_tup q1 z
    rw [z2] at hm
    exact absurd hm.2 (by decide)
/-! ### truth, tests -/
theorem tT_of {t : TT} {σ : St} {H : Hp} {Q : Bool → Hp → Prop} (h : tT C W e σ H Q) (ht : ∀ σ H Q, (tE C W e σ H fun x H' => ∃ k, TruV C.K x H' k ∧ Q k H') → t σ H Q) : t σ H Q := by
  refine ht σ H Q ?_
  refine (Rd0.bind (f := fun x env M => optR (tru x M) M) h).imp fun x M1 H1 w1 env k1 e1 h1 v rv => ?_
  obtain ⟨b, e2, q⟩ := h1.optG
  exact ⟨b, k1.tru rv e2, q H1 w1 .refl k1⟩
theorem pt_Val (hK : X.K = C.K) (ha : PE X ee (tE C W e)) (he : ∀ whole, PySem.isTrue ee X.env whole = (do let v ← whole; standAt ee.pos; holding [v] (truthy v))) : PT X ee (tT C W e) :=
  ptMono (pt_truth ha he) fun σ H Q h => by
    rw [hK]
    exact tT_of h fun σ H Q q => q
theorem pe_Not (hK : X.K = C.K) (ha : PE X ea (tE C W a)) : PE X (.UnaryOp .Not ea pos) (tE C W (.not a)) :=
  peMono (pe_notT ha) fun σ H Q h => by
    rw [hK]
    refine one (C := C) (W := W) (r := fun x H1 Q => ∃ k, TruV C.K x H1 k ∧ Q (.bl (!k)) H1) (f := fun x M => (optR (tru x M) M).bind fun b M => .ok (.bl (!b)) M) h fun x vx M H' w' k rx h => ?_
    obtain ⟨b, e2, q⟩ := h.bind.optG
    exact ⟨b, k.tru rx e2, (q H' w' .refl k).here k _ rfl⟩
theorem pt_Not (ha : PT X ea (tT C W a)) : PT X (.UnaryOp .Not ea pos) (tT C W (.not a)) :=
  ptMono (pt_not ha) fun σ H Q h => by
    obtain ⟨env, M, w, k, eo, h⟩ := h
    have h2 : After C.K C.ca (fun c d H => W c d σ H) H w (((evE C.F C.G a env M).bind fun x M => (optR (tru x M) M).bind fun b M => .ok (.bl (!b)) M).bind fun x M => optR (tru x M) M) fun b _ H' _ => Q b H' := h
    have e : (((evE C.F C.G a env M).bind fun x M => (optR (tru x M) M).bind fun b M => .ok (.bl (!b)) M).bind fun x M => optR (tru x M) M) = ((evE C.F C.G a env M).bind fun x M => optR (tru x M) M).bind fun b M => .ok (!b) M := by
      rw [bind_assoc, bind_assoc]
      congr 1
      funext x M1
      cases tru x M1 <;> rfl
    rw [e] at h2
    exact ⟨env, M, w, k, eo, h2.bind.imp fun b M1 H1 w1 g k1 h => h.here k1⟩
theorem pe_Ife (hc : PT X ee (tT C W e)) (ha : PE X ea (tE C W a)) (hb : PE X eb (tE C W b)) : PE X (.IfExp ee ea eb pos) (tE C W (.ife e a b)) :=
  peMono (pe_ifExp hc ha hb) fun σ H Q h => by
    obtain ⟨env, M, w, k, eo, h⟩ := h
    refine ⟨env, M, w, k, eo, ?_⟩
    have h2 : After C.K C.ca (fun c d H => W c d σ H) H w ((evE C.F C.G e env M).bind fun x M => (optR (tru x M) M).bind fun c M => if c then evE C.F C.G a env M else evE C.F C.G b env M) fun d _ H' w' => ∀ v, Rep C.K w' d v → Q v H' := h
    have h3 := After.bind (r := (evE C.F C.G e env M).bind fun x M => optR (tru x M) M) (f := fun c M => if c then evE C.F C.G a env M else evE C.F C.G b env M) (by
      cases hx : evE C.F C.G e env M with
      | ok x M1 =>
        rw [hx] at h2
        exact h2
      | ex c v M1 => rw [hx] at h2; exact h2
      | no => rw [hx] at h2; exact h2)
    refine h3.imp fun c M1 H1 w1 g1 k1 h => ?_
    cases c with
    | true =>
      rw [if_pos rfl] at h ⊢
      exact ⟨env, M1, w1, k1, eo.grow g1, h⟩
    | false =>
      rw [if_neg Bool.false_ne_true] at h ⊢
      exact ⟨env, M1, w1, k1, eo.grow g1, h⟩
theorem pt_Ife (hc : PT X ee (tT C W e)) (ha : PT X ea (tT C W a)) (hb : PT X eb (tT C W b)) : PT X (.IfExp ee ea eb pos) (tT C W (.ife e a b)) := by
  refine ⟨fun pins s σ H Q I h => ?_⟩
  have hi : PySem.isTrue (.IfExp ee ea eb pos) X.env (eval (.IfExp ee ea eb pos) X.env) = (do if ← PySem.isTrue ee X.env (eval ee X.env) then PySem.isTrue ea X.env (eval ea X.env) else PySem.isTrue eb X.env (eval eb X.env)) := by rw [PySem.isTrue]
  rw [hi]
  obtain ⟨env, M, w, k, eo, h⟩ := h
  have hh : tT C W e σ H fun c H1 => if c = true then tT C W a σ H1 Q else tT C W b σ H1 Q := by
    refine ⟨env, M, w, k, eo, ?_⟩
    have h2 : After C.K C.ca (fun c d H => W c d σ H) H w (((evE C.F C.G e env M).bind fun x M => (optR (tru x M) M).bind fun c M => if c then evE C.F C.G a env M else evE C.F C.G b env M).bind fun x M => optR (tru x M) M) fun d _ H' w' => Q d H' := h
    have h3 := After.bind (r := (evE C.F C.G e env M).bind fun x M => optR (tru x M) M) (f := fun c M => (if c = true then evE C.F C.G a env M else evE C.F C.G b env M).bind fun x M => optR (tru x M) M) (by
      cases hx : evE C.F C.G e env M with
      | ok x M1 =>
        rw [hx] at h2
        cases ht : tru x M1 with
        | none => simp only [ok_bind, ht, optR_none, no_bind] at h2 ⊢; exact h2
        | some b => simp only [ok_bind, ht, optR_some] at h2 ⊢; exact h2
      | ex c v M1 => rw [hx] at h2; exact h2
      | no => rw [hx] at h2; exact h2)
    refine h3.imp fun c M1 H1 w1 g1 k1 h => ?_
    cases c with
    | true =>
      rw [if_pos rfl] at h ⊢
      exact ⟨env, M1, w1, k1, eo.grow g1, h⟩
    | false =>
      rw [if_neg Bool.false_ne_true] at h ⊢
      exact ⟨env, M1, w1, k1, eo.grow g1, h⟩
  refine wpAny_bind (thn (hc.run pins s σ H _ I hh) fun d s1 ⟨H1, I1, q1⟩ => ?_)
  cases d with
  | true => exact ha.run pins s1 σ H1 Q I1 q1
  | false => exact hb.run pins s1 σ H1 Q I1 q1
/-! ### and, or -/
theorem tE_cons {e : ME} {f : D → EnvD → Store → Res D} {σ : St} {H : Hp} {Q : VK} {R : V → Hp → Prop}
    (h : Rd0 C W (fun env M => (evE C.F C.G e env M).bind fun x M => f x env M) σ H fun d _ H' w' _ => ∀ v, Rep C.K w' d v → Q v H')
    (hf : ∀ x v M1 H1 w1 env, Ok C.K H1 w1 M1 → EnvOk C.K w1 env σ → Rep C.K w1 x v → After C.K C.ca (fun c d H => W c d σ H) H1 w1 (f x env M1) (fun d _ H2 w2 => ∀ v, Rep C.K w2 d v → Q v H2) → R v H1) : tE C W e σ H R :=
  h.bind.imp fun x M1 H1 w1 env k1 e1 h1 v rv => hf x v M1 H1 w1 env k1 e1 rv h1
theorem pe_And1 (ha : PE X ea (tE C W a)) : PE X (.BoolOp .And [ea] pos) (tE C W (.and [a])) := peMono (pe_one ha) fun σ H Q h => h
theorem pe_Or1 (ha : PE X ea (tE C W a)) : PE X (.BoolOp .Or [ea] pos) (tE C W (.or [a])) := peMono (pe_one ha) fun σ H Q h => h
theorem pe_AndC (hK : X.K = C.K) {es : List Expr} {l : List ME} (ha : PE X ea (tE C W a)) (hb : PE X (.BoolOp .And (eb :: es) pos) (tE C W (.and (b :: l)))) : PE X (.BoolOp .And (ea :: eb :: es) pos) (tE C W (.and (a :: b :: l))) :=
  peMono (pe_andT ha hb) fun σ H Q h => by
    rw [hK]
    refine tE_cons (C := C) (W := W) (f := fun x env M => (optR (tru x M) M).bind fun c M => if c then evAnd C.F C.G (b :: l) env M else .ok x M) h fun x v M1 H1 w1 env k1 e1 rv h1 => ?_
    obtain ⟨c, e2, q⟩ := h1.bind.optG
    refine ⟨c, k1.tru rv e2, ?_⟩
    have q := q H1 w1 .refl k1
    cases c with
    | true =>
      rw [if_pos rfl] at q ⊢
      exact ⟨env, M1, w1, k1, e1, q⟩
    | false =>
      rw [if_neg Bool.false_ne_true] at q ⊢
      exact q.here k1 v rv
theorem pe_OrC (hK : X.K = C.K) {es : List Expr} {l : List ME} (ha : PE X ea (tE C W a)) (hb : PE X (.BoolOp .Or (eb :: es) pos) (tE C W (.or (b :: l)))) : PE X (.BoolOp .Or (ea :: eb :: es) pos) (tE C W (.or (a :: b :: l))) :=
  peMono (pe_orT ha hb) fun σ H Q h => by
    rw [hK]
    refine tE_cons (C := C) (W := W) (f := fun x env M => (optR (tru x M) M).bind fun c M => if c then .ok x M else evOr C.F C.G (b :: l) env M) h fun x v M1 H1 w1 env k1 e1 rv h1 => ?_
    obtain ⟨c, e2, q⟩ := h1.bind.optG
    refine ⟨c, k1.tru rv e2, ?_⟩
    have q := q H1 w1 .refl k1
    cases c with
    | true =>
      rw [if_pos rfl] at q ⊢
      exact q.here k1 v rv
    | false =>
      rw [if_neg Bool.false_ne_true] at q ⊢
      exact ⟨env, M1, w1, k1, e1, q⟩
theorem pw_And1 (ha : PT X ea (tT C W a)) : PW X (.BoolOp .And [ea] pos) (tT C W (.and [a])) := ⟨(pw_and1 ha).run⟩
theorem pw_Or1 (ha : PT X ea (tT C W a)) : PW X (.BoolOp .Or [ea] pos) (tT C W (.or [a])) := ⟨(pw_or1 ha).run⟩
theorem pw_AndC {es : List Expr} {l : List ME} (ha : PT X ea (tT C W a)) (hb : PW X (.BoolOp .And (eb :: es) pos) (tT C W (.and (b :: l)))) : PW X (.BoolOp .And (ea :: eb :: es) pos) (tT C W (.and (a :: b :: l))) := by
  refine ⟨fun wh pins s σ H Q I h => (pw_and ha hb).run wh pins s σ H Q I ?_⟩
  obtain ⟨env, M, w, k, eo, h⟩ := h
  have h2 : After C.K C.ca (fun c d H => W c d σ H) H w (((evE C.F C.G a env M).bind fun x M => (optR (tru x M) M).bind fun c M => if c then evAnd C.F C.G (b :: l) env M else .ok x M).bind fun x M => optR (tru x M) M) fun d _ H' w' => Q d H' := h
  refine ⟨env, M, w, k, eo, ?_⟩
  have h3 := After.bind (r := (evE C.F C.G a env M).bind fun x M => optR (tru x M) M) (f := fun c M => if c = true then (evAnd C.F C.G (b :: l) env M).bind fun x M => optR (tru x M) M else .ok false M) (by
    cases hx : evE C.F C.G a env M with
    | ok x M1 =>
      rw [hx] at h2
      cases ht : tru x M1 with
      | none => simp only [ok_bind, ht, optR_none, no_bind] at h2 ⊢; exact h2
      | some c =>
        simp only [ok_bind, ht, optR_some] at h2 ⊢
        cases c with
        | true => exact h2
        | false => simp only [Bool.false_eq_true, if_false, ok_bind, ht, optR_some] at h2 ⊢; exact h2
    | ex c v M1 => rw [hx] at h2; exact h2
    | no => rw [hx] at h2; exact h2)
  refine h3.imp fun c M1 H1 w1 g1 k1 h => ?_
  cases c with
  | true =>
    rw [if_pos rfl] at h ⊢
    exact ⟨env, M1, w1, k1, eo.grow g1, h⟩
  | false =>
    rw [if_neg Bool.false_ne_true] at h ⊢
    exact h.here k1
theorem pw_OrC {es : List Expr} {l : List ME} (ha : PT X ea (tT C W a)) (hb : PW X (.BoolOp .Or (eb :: es) pos) (tT C W (.or (b :: l)))) : PW X (.BoolOp .Or (ea :: eb :: es) pos) (tT C W (.or (a :: b :: l))) := by
  refine ⟨fun wh pins s σ H Q I h => (pw_or ha hb).run wh pins s σ H Q I ?_⟩
  obtain ⟨env, M, w, k, eo, h⟩ := h
  have h2 : After C.K C.ca (fun c d H => W c d σ H) H w (((evE C.F C.G a env M).bind fun x M => (optR (tru x M) M).bind fun c M => if c then .ok x M else evOr C.F C.G (b :: l) env M).bind fun x M => optR (tru x M) M) fun d _ H' w' => Q d H' := h
  refine ⟨env, M, w, k, eo, ?_⟩
  have h3 := After.bind (r := (evE C.F C.G a env M).bind fun x M => optR (tru x M) M) (f := fun c M => if c = true then .ok true M else (evOr C.F C.G (b :: l) env M).bind fun x M => optR (tru x M) M) (by
    cases hx : evE C.F C.G a env M with
    | ok x M1 =>
      rw [hx] at h2
      cases ht : tru x M1 with
      | none => simp only [ok_bind, ht, optR_none, no_bind] at h2 ⊢; exact h2
      | some c =>
        simp only [ok_bind, ht, optR_some] at h2 ⊢
        cases c with
        | false => exact h2
        | true => simp only [if_true, ok_bind, ht, optR_some] at h2 ⊢; exact h2
    | ex c v M1 => rw [hx] at h2; exact h2
    | no => rw [hx] at h2; exact h2)
  refine h3.imp fun c M1 H1 w1 g1 k1 h => ?_
  cases c with
  | false =>
    rw [if_neg Bool.false_ne_true] at h ⊢
    exact ⟨env, M1, w1, k1, eo.grow g1, h⟩
  | true =>
    rw [if_pos rfl] at h ⊢
    exact h.here k1
end
end PM

/-! PMe: comparisons, displays, subscripts. -/
namespace PM
open PySem L2
section
variable {C : Cc} {W : WX} {X : Cx} {a b e : ME} {ea eb ee : Expr} {pos : Pos} {σ : St} {H : Hp} {M : Store} {w : Wd} {K : PySem.W.Frag}
mutual
/-- data without cells, as the layer's data -/
theorem Rep.dp (k : Ok K H w M) : ∀ (d : D) (v : V), d.pure = true → d.py.hasDict = false → Rep K w d v → Dp K H v d.py
  | .non, v, _, _, r => by rw [show v = .non from r]; exact .non
  | .bl b, v, _, _, r => by rw [show v = .bl b from r]; exact .bl b
  | .int i, v, _, _, r => by rw [show v = .int i from r]; exact .int i
  | .str s, v, _, _, r => by rw [show v = .str s from r]; exact .str s
  | .tup ds, v, p, n, ⟨a, vs, e, s, r⟩ => by rw [e]; exact .tup (k.sqT s) (Reps.dp k ds vs p n r)
  | .lst ds, v, p, n, ⟨a, vs, e, s, r⟩ => by rw [e]; exact .lst (.inl (.inl (k.sub _ _ s))) (Reps.dp k ds vs p n r)
  | .scr ns, v, p, _, _ => absurd (show false = true from p) (by decide)
  | .dic _, _, _, n, _ => absurd (show true = false from n) (by decide)
  | .ref n, v, p, _, _ => absurd (show false = true from p) (by decide)
termination_by structural d => d
theorem Reps.dp (k : Ok K H w M) : ∀ (ds : List D) (vs : List V), D.pures ds = true → PyData.hasDictAll (D.pys ds) = false → Reps K w ds vs → DpAll K H vs (D.pys ds)
  | [], vs, _, _, r => by rw [show vs = [] from r]; exact .nil
  | d :: ds, vs, p, n, ⟨v, r, e, p1, q⟩ => by
    have p' : (D.pure d && D.pures ds) = true := p
    have n' : (d.py.hasDict || PyData.hasDictAll (D.pys ds)) = false := n
    rw [Bool.and_eq_true] at p'
    rw [Bool.or_eq_false_iff] at n'
    rw [e]
    exact .cons (Rep.dp k d v p'.1 n'.1 p1) (Reps.dp k ds r p'.2 n'.2 q)
termination_by structural ds => ds
end
mutual
theorem lay_nd : ∀ d : PyData, d.canLay0 = true → d.hasDict = false
  | .none, _ => rfl
  | .bool _, _ => rfl
  | .int _, _ => rfl
  | .str _, _ => rfl
  | .dict _, h => by simp [PyData.canLay0] at h
  | .list ds, h => by
    have h : PyData.canLayAll0 ds = true := by simpa [PyData.canLay0] using h
    show PyData.hasDictAll ds = false
    exact lays_nd ds h
  | .tuple ds, h => by
    have h : PyData.canLayAll0 ds = true := by simpa [PyData.canLay0] using h
    show PyData.hasDictAll ds = false
    exact lays_nd ds h
theorem lays_nd : ∀ ds : List PyData, PyData.canLayAll0 ds = true → PyData.hasDictAll ds = false
  | [], _ => rfl
  | d :: ds, h => by
    have h : d.canLay0 = true ∧ PyData.canLayAll0 ds = true := by simpa [PyData.canLayAll0] using h
    show (d.hasDict || PyData.hasDictAll ds) = false
    rw [lay_nd d h.1, lays_nd ds h.2]; rfl
end
theorem shaped_nd {d : PyData} (h : SeqAt.shaped d = true) : d.hasDict = false := lay_nd d (SeqAt.canLay_of_shaped h)
/-- .. a cell's list too -/
theorem Ok.resDp (k : Ok K H w M) {x : D} {v : V} (r : Rep K w x v) (p : (res x M).pure = true) (nd : (res x M).py.hasDict = false) : Dp K H v (res x M).py := by
  cases x with
  | ref n =>
    have e : res (.ref n) M = (match M[n]? with
      | some (.lst ds) => D.lst ds
      | _ => .ref n) := rfl
    cases q : M[n]? with
    | none => rw [e, q] at p; exact absurd (show false = true from p) (by decide)
    | some c =>
      cases c with
      | lst l =>
        rw [e, q] at p nd ⊢
        obtain ⟨a, vs, e1, _, h, _, q2⟩ := k.lstAt r q
        rw [e1]
        exact .lst (.inl (.inl h)) (Reps.dp k l vs p nd q2)
      | dK _ _ => rw [e, q] at p; exact absurd (show false = true from p) (by decide)
      | dT _ _ => rw [e, q] at p; exact absurd (show false = true from p) (by decide)
  | _ => exact Rep.dp k _ v p nd r
/-- a comparison's operator -/
def opOf : Cmp → CmpOp
  | .eq => .Eq | .ne => .NotEq | .lt => .Lt | .le => .LtE | .gt => .Gt | .ge => .GtE
  | .isN => .Is | .notN => .IsNot | .isB _ => .Is | .notB _ => .IsNot | .inn => .In | .notIn => .NotIn
/-- the comparison by values -/
def rCmp (K : PySem.W.Frag) (c : Cmp) : R2 := fun vx vy H Q => ∃ x y M w b, Ok K H w M ∧ Rep K w x vx ∧ Rep K w y vy ∧ cmpD c x y M = some b ∧ Q (.bl b) H ∧ (∀ b, c = .isB b → vy = .bl b) ∧ (∀ b, c = .notB b → vy = .bl b)
theorem eqD_of {x y : D} {b : Bool} (h : eqD x y = some b) : x.pure = true ∧ SeqAt.shaped x.py = true ∧ y.pure = true ∧ SeqAt.shaped y.py = true ∧ b = PyData.eqv x.py y.py := by
  unfold eqD eqOk at h
  by_cases hc : ((x.pure && SeqAt.shaped x.py) && (y.pure && SeqAt.shaped y.py)) = true
  · rw [if_pos hc] at h
    rw [Bool.and_eq_true, Bool.and_eq_true, Bool.and_eq_true] at hc
    exact ⟨hc.1.1, hc.1.2, hc.2.1, hc.2.2, (Option.some.inj h).symm⟩
  · rw [if_neg hc] at h; cases h
theorem ltI_of {x y : D} {p : Int × Int} (h : ltI x y = some p) : x = .int p.1 ∧ y = .int p.2 := by
  cases x with
  | int i =>
    cases y with
    | int j => cases h; exact ⟨rfl, rfl⟩
    | _ => cases h
  | _ => cases h
theorem intsOf_eq : ∀ {ds : List D} {ns : List Int}, intsOf ds = some ns → ds = ns.map D.int
  | [], ns, h => by cases h; rfl
  | .int i :: r, ns, h => by
    have h : (intsOf r).map (i :: ·) = some ns := h
    cases e1 : intsOf r with
    | none => rw [e1] at h; cases h
    | some l =>
      rw [e1] at h
      cases h
      rw [intsOf_eq e1]
      rfl
  | .non :: _, _, h => by cases h
  | .bl _ :: _, _, h => by cases h
  | .str _ :: _, _, h => by cases h
  | .tup _ :: _, _, h => by cases h
  | .lst _ :: _, _, h => by cases h
  | .dic _ :: _, _, h => by cases h
  | .ref _ :: _, _, h => by cases h
  | .scr _ :: _, _, h => by cases h
theorem flat_V {K : PySem.W.Frag} {w : Wd} {d : D} {v : V} (r : Rep K w d v) (f : flat d = true) : flatV v = true := by
  cases d with
  | non => rw [show v = .non from r]; rfl
  | bl b => rw [show v = .bl b from r]; rfl
  | int i => rw [show v = .int i from r]; rfl
  | str s => rw [show v = .str s from r]; rfl
  | _ => exact absurd (show false = true from f) (by decide)
theorem flats_V {K : PySem.W.Frag} {w : Wd} : ∀ {ds : List D} {vs : List V}, Reps K w ds vs → ds.all flat = true → vs.all flatV = true
  | [], vs, r, _ => by rw [show vs = [] from r]; rfl
  | d :: ds, vs, ⟨v, r, e, p, q⟩, f => by
    rw [List.all_cons, Bool.and_eq_true] at f
    rw [e, List.all_cons, flat_V p f.1, flats_V q f.2]; rfl
theorem eqv_V {K : PySem.W.Frag} {w : Wd} {d x : D} {v u : V} (r : Rep K w d v) (s : Rep K w x u) (fd : flat d = true) (fx : flat x = true) : eqV v u = PyData.eqv d.py x.py := by
  cases d <;> first
    | exact absurd (show false = true from fd) (by decide)
    | (cases x <;> first
        | exact absurd (show false = true from fx) (by decide)
        | (cases r; cases s; simp [eqV, D.py, PyData.eqv]))
theorem kV_of {K : PySem.W.Frag} {w : Wd} {x : D} {v : V} {q : Key} (r : Rep K w x v) (h : toKey x = some q) : v = kV q := by
  cases x with
  | int i => cases h; exact r
  | str s => cases h; exact r
  | _ => cases h
theorem kVs_of {K : PySem.W.Frag} {w : Wd} : ∀ {ds : List D} {vs : List V} {q : List Key}, Reps K w ds vs → toKeys ds = some q → vs = q.map kV
  | [], vs, q, r, h => by rw [show vs = [] from r]; cases h; rfl
  | d :: ds, vs, q, ⟨v, r, e, p, t⟩, h => by
    have h : (match toKey d, toKeys ds with
      | some k, some ks => some (k :: ks)
      | _, _ => none) = some q := h
    cases h1 : toKey d with
    | none => rw [h1] at h; cases h
    | some k =>
      cases h2 : toKeys ds with
      | none => rw [h1, h2] at h; cases h
      | some ks =>
        rw [h1, h2] at h
        cases h
        rw [e, kV_of p h1, kVs_of t h2]; rfl
theorem KvOk.val {κ : Type} [DecidableEq κ] {K : PySem.W.Frag} {w : Wd} (k : κ) : ∀ {kvs : List (κ × D)} {l : List (κ × V)}, KvOk K w kvs l → (valV l k).isSome = (valOf kvs k).isSome ∧ ∀ d, valOf kvs k = some d → ∃ v, valV l k = some v ∧ Rep K w d v
  | [], l, r => by rw [show l = [] from r]; exact ⟨rfl, fun d h => by cases h⟩
  | (q, d) :: kvs, l, ⟨v, l', e, p, t⟩ => by
    have ih := KvOk.val k t
    rw [e]
    by_cases hq : q = k
    · subst hq
      have e1 : valV ((q, v) :: l') q = some v := valV_pos rfl
      have e2 : valOf ((q, d) :: kvs) q = some d := by simp [valOf, List.find?_cons]
      rw [e1, e2]
      exact ⟨rfl, fun d' h => by cases h; exact ⟨v, rfl, p⟩⟩
    · have e1 : valV ((q, v) :: l') k = valV l' k := valV_neg hq
      have e2 : valOf ((q, d) :: kvs) k = valOf kvs k := by simp [valOf, List.find?_cons, hq]
      rw [e1, e2]
      exact ih
theorem KvOk.len {κ : Type} {K : PySem.W.Frag} {w : Wd} : ∀ {kvs : List (κ × D)} {l : List (κ × V)}, KvOk K w kvs l → l.length = kvs.length
  | [], l, r => by rw [show l = [] from r]; rfl
  | (q, d) :: kvs, l, ⟨v, l', e, _, t⟩ => by rw [e, List.length_cons, List.length_cons, KvOk.len t]
theorem rd_lk {H : Hp} {a : Addr} {lk : Bool} {u : HO} (h : if lk = true then ∃ o, H a = some (.frz o u) else H a = some u) : Rd H a u := by
  cases lk with
  | true => exact .inr h
  | false => exact .inl h
/-- what a cell's dict holds -/
theorem Ok.dgetK (k : Ok K H w M) {n : Nat} {v vx : V} {lk : Bool} {kvs : List (Key × D)} {x : D} {q : Key} (r : Rep K w (.ref n) v) (e : M[n]? = some (.dK lk kvs)) (rx : Rep K w x vx) (hq : toKey x = some q) :
    ∃ a o, v = .ref a ∧ DGet H a vx o ∧ o.isSome = (valOf kvs q).isSome ∧ ∀ d, valOf kvs q = some d → ∃ u, o = some u ∧ Rep K w d u := by
  obtain ⟨a, as, e1, e2, a', l, e3, h, t⟩ := k.cellAt r e
  cases e3
  obtain ⟨z1, z2⟩ := t.val q
  exact ⟨a, valV l q, e1, .inl ⟨l, q, rd_lk h, kV_of rx hq, rfl⟩, z1, fun d hd => let ⟨u, h1, h2⟩ := z2 d hd; ⟨u, h1, Rep.mono (w := w.fz) (w1 := w) (fun _ _ h => h) ⟨w.ow, rfl⟩ d u h2⟩⟩
theorem Ok.dgetT (k : Ok K H w M) {n : Nat} {v vx : V} {lk : Bool} {kvs : List (List Key × D)} {ds : List D} {q : List Key} (r : Rep K w (.ref n) v) (e : M[n]? = some (.dT lk kvs)) (rx : Rep K w (.tup ds) vx) (hq : toKeys ds = some q) :
    ∃ a o, v = .ref a ∧ DGet H a vx o ∧ o.isSome = (valOf kvs q).isSome ∧ ∀ d, valOf kvs q = some d → ∃ u, o = some u ∧ Rep K w d u := by
  obtain ⟨a, as, e1, e2, a', l, e3, h, t⟩ := k.cellAt r e
  cases e3
  obtain ⟨b, vs, e4, s4, q4⟩ := rx
  obtain ⟨z1, z2⟩ := t.val q
  exact ⟨a, valV l q, e1, .inr ⟨l, q, b, rd_lk h, e4, by rw [← kVs_of q4 hq]; exact k.sub _ _ s4, rfl⟩, z1, fun d hd => let ⟨u, h1, h2⟩ := z2 d hd; ⟨u, h1, Rep.mono (w := w.fz) (w1 := w) (fun _ _ h => h) ⟨w.ow, rfl⟩ d u h2⟩⟩
theorem in_V {K : PySem.W.Frag} {w : Wd} {x : D} {vx : V} (dx : Rep K w x vx) (fx : flat x = true) : ∀ {ds : List D} {vs : List V}, Reps K w ds vs → ds.all flat = true → inV vx vs = ds.any fun d => PyData.eqv d.py x.py
  | [], vs, rs, _ => by rw [show vs = [] from rs]; rfl
  | d :: ds, vs, ⟨v', r', e', p', q'⟩, hf => by
    rw [List.all_cons, Bool.and_eq_true] at hf
    have ih := in_V dx fx q' hf.2
    unfold inV at ih ⊢
    rw [e', List.any_cons, List.any_cons, eqv_V p' dx hf.1 fx, ih]
/-- x in y -/
theorem inD_ok (hK : X.K = C.K) (hu : X.A.units + 1 < cLine) {x y : D} {vx vy : V} {v u : Value} {s : Shared} {pins : List (Addr × Obj)} {Q : VK} {b : Bool} (I : Inv X pins σ H s) (rx : RelV vx v) (ry : RelV vy u)
    (k : Ok C.K H w M) (dx : Rep C.K w x vx) (dy : Rep C.K w y vy) (h : inD x y M = some b) : (Q (.bl b) H → wpAny (model X.prog X.w) X.A (compareOp .In v u) (EP X pins σ Q) X.xe s) ∧
      (Q (.bl (!b)) H → wpAny (model X.prog X.w) X.A (compareOp .NotIn v u) (EP X pins σ Q) X.xe s) := by
  have seq : ∀ (ds : List D) (p : Addr) (vs : List V), vy = .ref p → (SqL C.K H p vs ∨ SqT C.K H p vs) → Reps C.K w ds vs → (if (flat x && ds.all flat) = true then some (ds.any fun d => PyData.eqv d.py x.py) else none) = some b →
      (Q (.bl b) H → wpAny (model X.prog X.w) X.A (compareOp .In v u) (EP X pins σ Q) X.xe s) ∧ (Q (.bl (!b)) H → wpAny (model X.prog X.w) X.A (compareOp .NotIn v u) (EP X pins σ Q) X.xe s) := by
    intro ds p vs e1 sq rs e
    by_cases hf : (flat x && ds.all flat) = true
    · rw [if_pos hf] at e
      cases e
      rw [Bool.and_eq_true] at hf
      have hin : inV vx vs = ds.any fun d => PyData.eqv d.py x.py := in_V dx hf.1 rs hf.2
      rw [← hK] at sq
      refine ⟨fun q => op_in_seq pins s σ H vx vy v u Q I rx ry ⟨p, vs, e1, sq, flat_V dx hf.1, flats_V rs hf.2, ?_⟩, fun q => op_notIn_seq pins s σ H vx vy v u Q I rx ry ⟨p, vs, e1, sq, flat_V dx hf.1, flats_V rs hf.2, ?_⟩⟩
      · rw [if_neg Bool.false_ne_true, hin]; exact q
      · rw [if_pos rfl, hin]; exact q
    · rw [if_neg hf] at e; cases e
  have dict : ∀ (a : Addr) (o : Option V), vy = .ref a → DGet H a vx o → o.isSome = b →
      (Q (.bl b) H → wpAny (model X.prog X.w) X.A (compareOp .In v u) (EP X pins σ Q) X.xe s) ∧ (Q (.bl (!b)) H → wpAny (model X.prog X.w) X.A (compareOp .NotIn v u) (EP X pins σ Q) X.xe s) := by
    intro a o e1 g e
    subst e1
    obtain rfl : u = Value.ref a := ry
    exact ⟨fun q => d_in hu I g rx fun s3 I3 => ⟨.bl o.isSome, H, I3, rfl, by rw [e]; exact q⟩, fun q => d_notIn hu I g rx fun s3 I3 => ⟨.bl (!o.isSome), H, I3, rfl, by rw [e]; exact q⟩⟩
  cases y with
  | tup ds =>
    obtain ⟨a, vs, e1, s1, q1⟩ := dy
    exact seq ds a vs e1 (.inr (k.sqT s1)) q1 h
  | lst ds =>
    obtain ⟨a, vs, e1, s1, q1⟩ := dy
    exact seq ds a vs e1 (.inl (.inl (.inl (k.sub _ _ s1)))) q1 h
  | ref n =>
    cases q : M[n]? with
    | none => simp only [inD, q] at h; cases h
    | some c =>
      cases c with
      | lst ds =>
        simp only [inD, q] at h
        obtain ⟨a, vs, e1, _, hH, _, q2⟩ := k.lstAt dy q
        exact seq ds a vs e1 (.inl (.inl (.inl hH))) q2 h
      | dK lk kvs =>
        simp only [inD, q] at h
        obtain ⟨kk, h1, h2⟩ := Option.map_eq_some_iff.mp h
        obtain ⟨a, o, e1, g, e2, _⟩ := k.dgetK dy q dx h1
        exact dict a o e1 g (e2.trans h2)
      | dT lk kvs =>
        cases x with
        | tup ds =>
          simp only [inD, q] at h
          obtain ⟨kk, h1, h2⟩ := Option.map_eq_some_iff.mp h
          obtain ⟨a, o, e1, g, e2, _⟩ := k.dgetT dy q dx h1
          exact dict a o e1 g (e2.trans h2)
        | _ => simp only [inD, q] at h; cases h
  | _ => cases h
theorem op_cmp (hK : X.K = C.K) (hu : X.A.units + 64 < cLine) (c : Cmp) : OpR X (compareOp (opOf c)) (rCmp C.K c) := by
  intro pins s σ H vx vy v u Q I rx ry h
  obtain ⟨x, y, M, w, b, k, dx, dy, h, q, hb1, hb2⟩ := h
  have hu1 : X.A.units + 1 < cLine := by omega
  have hu0 : X.A.units < cLine := by omega
  cases c with
  | eq =>
    obtain ⟨p1, p2, p3, p4, e⟩ := eqD_of (show eqD (res x M) (res y M) = some b from h)
    refine op_eqD hu pins s σ H vx vy v u Q I rx ry ⟨_, _, hK ▸ k.resDp dx p1 (shaped_nd p2), hK ▸ k.resDp dy p3 (shaped_nd p4), p2, p4, ?_⟩
    rw [← e]; exact q
  | ne =>
    obtain ⟨b', h', e'⟩ := Option.map_eq_some_iff.mp (show (eqD (res x M) (res y M)).map (!·) = some b from h)
    obtain ⟨p1, p2, p3, p4, e⟩ := eqD_of h'
    refine op_neD hu pins s σ H vx vy v u Q I rx ry ⟨_, _, hK ▸ k.resDp dx p1 (shaped_nd p2), hK ▸ k.resDp dy p3 (shaped_nd p4), p2, p4, ?_⟩
    rw [← e, e']; exact q
  | lt =>
    have h : ltD x y = some b := h
    cases x with
    | int i =>
      cases y with
      | int j =>
        cases h
        exact op_lt pins s σ H vx vy v u Q I rx ry ⟨i, j, dx, dy, q⟩
      | _ => cases h
    | tup xs =>
      cases y with
      | tup ys =>
        cases e1 : intsOf xs with
        | none => simp only [ltD, e1] at h; cases h
        | some ns =>
          cases e2 : intsOf ys with
          | none => simp only [ltD, e1, e2] at h; cases h
          | some ms =>
            simp only [ltD, e1, e2] at h
            cases h
            obtain ⟨a1, vs1, z1, s1, q1⟩ := dx
            obtain ⟨a2, vs2, z2, s2, q2⟩ := dy
            rw [Reps.ints q1 e1] at s1
            rw [Reps.ints q2 e2] at s2
            exact op_ltT hu0 pins s σ H vx vy v u Q I rx ry ⟨a1, a2, ns, ms, z1, z2, hK ▸ k.sqT s1, hK ▸ k.sqT s2, q⟩
      | _ => cases h
    | _ => cases h
  | le =>
    obtain ⟨p, h', e'⟩ := Option.map_eq_some_iff.mp (show (ltI x y).map (fun p => decide (p.1 ≤ p.2)) = some b from h)
    obtain ⟨rfl, rfl⟩ := ltI_of h'
    exact op_le pins s σ H vx vy v u Q I rx ry ⟨p.1, p.2, dx, dy, by show Q (.bl (decide (p.1 ≤ p.2))) H; rw [e']; exact q⟩
  | gt =>
    obtain ⟨p, h', e'⟩ := Option.map_eq_some_iff.mp (show (ltI x y).map (fun p => decide (p.2 < p.1)) = some b from h)
    obtain ⟨rfl, rfl⟩ := ltI_of h'
    exact op_gt pins s σ H vx vy v u Q I rx ry ⟨p.1, p.2, dx, dy, by show Q (.bl (decide (p.2 < p.1))) H; rw [e']; exact q⟩
  | ge =>
    obtain ⟨p, h', e'⟩ := Option.map_eq_some_iff.mp (show (ltI x y).map (fun p => decide (p.2 ≤ p.1)) = some b from h)
    obtain ⟨rfl, rfl⟩ := ltI_of h'
    exact op_ge pins s σ H vx vy v u Q I rx ry ⟨p.1, p.2, dx, dy, by show Q (.bl (decide (p.2 ≤ p.1))) H; rw [e']; exact q⟩
  | isN =>
    have h : (if y = .non then some (decide (x = .non)) else none) = some b := h
    by_cases hy : y = .non
    · rw [if_pos hy] at h
      cases h
      subst hy
      refine op_isN pins s σ H vx vy v u Q I rx ry ⟨dy, ?_⟩
      have e : decide (vx = V.non) = decide (x = D.non) := by
        cases x <;> first
          | (rw [show vx = _ from dx]; rfl)
          | (obtain ⟨a, vs, z, _⟩ := dx; rw [z]; rfl)
          | (obtain ⟨a, z, _⟩ := dx; rw [z]; rfl)
          | exact False.elim dx
      rw [e]; exact q
    · rw [if_neg hy] at h; cases h
  | notN =>
    have h : (if y = .non then some (!decide (x = .non)) else none) = some b := h
    by_cases hy : y = .non
    · rw [if_pos hy] at h
      cases h
      subst hy
      refine op_notN pins s σ H vx vy v u Q I rx ry ⟨dy, ?_⟩
      have e : decide (vx = V.non) = decide (x = D.non) := by
        cases x <;> first
          | (rw [show vx = _ from dx]; rfl)
          | (obtain ⟨a, vs, z, _⟩ := dx; rw [z]; rfl)
          | (obtain ⟨a, z, _⟩ := dx; rw [z]; rfl)
          | exact False.elim dx
      rw [e]; exact q
    · rw [if_neg hy] at h; cases h
  | isB b0 =>
    cases x with
    | bl c =>
      cases h
      exact op_isBl pins s σ H vx vy v u Q I rx ry ⟨c, b0, dx, hb1 b0 rfl, q⟩
    | _ => cases h
  | notB b0 =>
    cases x with
    | bl c =>
      cases h
      exact op_notBl pins s σ H vx vy v u Q I rx ry ⟨c, b0, dx, hb2 b0 rfl, q⟩
    | _ => cases h
  | inn => exact (inD_ok hK hu1 I rx ry k dx dy h).1 q
  | notIn =>
    obtain ⟨b', h', e'⟩ := Option.map_eq_some_iff.mp (show (inD x y M).map (!·) = some b from h)
    exact (inD_ok hK hu1 I rx ry k dx dy h').2 (by rw [e']; exact q)
/-- the right side is the written True or False, where the comparison says so -/
def okB (c : Cmp) (b : ME) : Prop := match c with
  | .isB k | .notB k => b = .c (.bl k)
  | _ => True
theorem okB_ev {c : Cmp} {b : ME} (h : okB c b) {F : Fns} {G : List D} {env : EnvD} {M M' : Store} {y : D} (e : evE F G b env M = .ok y M') : ∀ k, (c = .isB k ∨ c = .notB k) → y = .bl k := by
  intro k hc
  rcases hc with rfl | rfl
  · rw [show b = .c (.bl k) from h] at e; cases e; rfl
  · rw [show b = .c (.bl k) from h] at e; cases e; rfl
theorem cmp_two {c : Cmp} (hb : okB c b) {σ : St} {H : Hp} {Q : VK} {f : Bool → EnvD → Store → Res D} {R : V → Hp → Prop}
    (h : Rd0 C W (fun env M => (evE C.F C.G a env M).bind fun x M => (evE C.F C.G b env M).bind fun y M => (optR (cmpD c x y M) M).bind fun k M => f k env M) σ H fun d _ H' w' _ => ∀ v, Rep C.K w' d v → Q v H')
    (hR : ∀ k M H w env, Ok C.K H w M → EnvOk C.K w env σ → After C.K C.ca (fun c d H => W c d σ H) H w (f k env M) (fun d _ H' w' => ∀ v, Rep C.K w' d v → Q v H') → R (.bl k) H) :
    tE C W a σ H fun x H1 => tE C W b σ H1 fun y H2 => rCmp C.K c x y H2 R := by
  refine (Rd0.bind (f := fun x env M => (evE C.F C.G b env M).bind fun y M => (optR (cmpD c x y M) M).bind fun k M => f k env M) h).imp fun x M1 H1 w1 env k1 e1 h1 v rv => ?_
  refine ⟨env, M1, w1, k1, e1, ?_⟩
  cases hy : evE C.F C.G b env M1 with
  | ok y M2 =>
    rw [hy] at h1
    refine fun H2 w2 g2 k2 u ru => ?_
    have h2 := (After.grow g2 (show After C.K C.ca (fun c d H => W c d σ H) H1 w1 ((optR (cmpD c x y M2) M2).bind fun k M => f k env M) _ from h1)).bind
    obtain ⟨kk, e2, q⟩ := h2.optG
    exact ⟨x, y, M2, w2, kk, k2, rv.grow g2, ru, e2, hR kk M2 H2 w2 env k2 (e1.grow g2) (q H2 w2 .refl k2), fun b0 hc => by
      have z := okB_ev hb hy b0 (.inl hc)
      rw [z] at ru; exact ru, fun b0 hc => by
      have z := okB_ev hb hy b0 (.inr hc)
      rw [z] at ru; exact ru⟩
  | ex c v M2 => rw [hy] at h1; exact h1
  | no => rw [hy] at h1; exact h1
theorem pe_Cmp (hK : X.K = C.K) (hu : X.A.units + 64 < cLine) {c : Cmp} (hb : okB c b) (hm : behindInMarks (opOf c) eb = false) (hea : PE X ea (tE C W a)) (heb : PE X eb (tE C W b)) : PE X (.Compare ea [opOf c] [eb] pos) (tE C W (.cmp c a b)) :=
  peMono (pe_cmpR (op_cmp hK hu c) hea heb hm) fun σ H Q h => by
    refine cmp_two (C := C) (W := W) (f := fun k _ M => .ok (.bl k) M) (Q := Q) hb ?_ fun k M H w env k1 _ h => h.here k1 _ rfl
    obtain ⟨env, M, w, k, eo, h⟩ := h
    refine ⟨env, M, w, k, eo, ?_⟩
    have e : evE C.F C.G (.cmp c a b) env M = (evE C.F C.G a env M).bind fun x M => (evE C.F C.G b env M).bind fun y M => (optR (cmpD c x y M) M).bind fun k M => .ok (.bl k) M := by
      show ((evE C.F C.G a env M).bind fun x M => (evE C.F C.G b env M).bind fun y M => optR ((cmpD c x y M).map D.bl) M) = _
      congr 1; funext x M1; congr 1; funext y M2
      cases cmpD c x y M2 <;> rfl
    rw [e] at h
    exact h
theorem pt_Cmp (hK : X.K = C.K) (hu : X.A.units + 64 < cLine) {c : Cmp} (hb : okB c b) (hm : behindInMarks (opOf c) eb = false) (hea : PE X ea (tE C W a)) (heb : PE X eb (tE C W b)) : PT X (.Compare ea [opOf c] [eb] pos) (tT C W (.cmp c a b)) :=
  ptMono (pt_cmpR (op_cmp hK hu c) hea heb hm) fun σ H Q h => by
    refine cmp_two (C := C) (W := W) (f := fun k _ M => .ok (.bl k) M) (Q := fun v H => ∃ k, v = .bl k ∧ Q k H) (R := fun x H' => ∃ k, x = .bl k ∧ Q k H') hb ?_ fun k M H w env k1 _ h => h.here k1 _ rfl
    obtain ⟨env, M, w, k, eo, h⟩ := h
    refine ⟨env, M, w, k, eo, ?_⟩
    have e : ((evE C.F C.G (.cmp c a b) env M).bind fun x M => optR (tru x M) M) = ((evE C.F C.G a env M).bind fun x M => (evE C.F C.G b env M).bind fun y M => optR (cmpD c x y M) M) := by
      show (((evE C.F C.G a env M).bind fun x M => (evE C.F C.G b env M).bind fun y M => optR ((cmpD c x y M).map D.bl) M).bind _) = _
      rw [bind_assoc]
      congr 1; funext x M1; rw [bind_assoc]; congr 1; funext y M2
      cases cmpD c x y M2 <;> rfl
    have h : After C.K C.ca (fun c d H => W c d σ H) H w ((evE C.F C.G (.cmp c a b) env M).bind fun x M => optR (tru x M) M) (fun b _ H' _ => Q b H') := h
    rw [e] at h
    have e2 : ((evE C.F C.G a env M).bind fun x M => (evE C.F C.G b env M).bind fun y M => (optR (cmpD c x y M) M).bind fun k M => .ok (D.bl k) M) = ((evE C.F C.G a env M).bind fun x M => (evE C.F C.G b env M).bind fun y M => optR (cmpD c x y M) M).bind fun k M => .ok (D.bl k) M := by
      rw [bind_assoc]; congr 1; funext x M1; rw [bind_assoc]
    show After C.K C.ca (fun c d H => W c d σ H) H w ((evE C.F C.G a env M).bind fun x M => (evE C.F C.G b env M).bind fun y M => (optR (cmpD c x y M) M).bind fun k M => .ok (D.bl k) M) _
    rw [e2]
    cases hr : (evE C.F C.G a env M).bind fun x M => (evE C.F C.G b env M).bind fun y M => optR (cmpD c x y M) M with
    | ok kk M1 =>
      rw [hr] at h
      exact fun H1 w1 g1 k1 v rv => ⟨kk, rv, h H1 w1 g1 k1⟩
    | ex c v M1 => rw [hr] at h; exact h
    | no => rw [hr] at h; exact h
end
end PM

/-! PMf: chains, displays, subscripts, slices. -/
namespace PM
open PySem L2
section
variable {C : Cc} {W : WX} {X : Cx} {a b e : ME} {ea eb ee : Expr} {pos : Pos} {σ : St} {H : Hp} {M : Store} {w : Wd} {K : PySem.W.Frag}
theorem chain_two {c1 c2 : Cmp} (hb : okB c1 b) (he : okB c2 e) {σ : St} {H : Hp} {Q : VK}
    (h : Rd0 C W (fun env M => (evE C.F C.G a env M).bind fun x M => (evE C.F C.G b env M).bind fun y M => (optR (cmpD c1 x y M) M).bind fun k M =>
      if k = true then (evE C.F C.G e env M).bind fun z M => optR (cmpD c2 y z M) M else .ok false M) σ H fun d _ H' w' _ => ∀ v, v = V.bl d → Q v H') :
    tChain (rCmp C.K c1) (rCmp C.K c2) (tE C W a) (tE C W b) (tE C W e) σ H Q := by
  refine (Rd0.bind (f := fun x env M => (evE C.F C.G b env M).bind fun y M => (optR (cmpD c1 x y M) M).bind fun k M =>
      if k = true then (evE C.F C.G e env M).bind fun z M => optR (cmpD c2 y z M) M else .ok false M) h).imp fun x M1 H1 w1 env k1 e1 h1 v rv => ?_
  refine ⟨env, M1, w1, k1, e1, ?_⟩
  cases hy : evE C.F C.G b env M1 with
  | ok y M2 =>
    rw [hy] at h1
    refine fun H2 w2 g2 k2 u ru => ?_
    have h2 := (After.grow g2 (show After C.K C.ca (fun c d H => W c d σ H) H1 w1 ((optR (cmpD c1 x y M2) M2).bind fun k M =>
      if k = true then (evE C.F C.G e env M).bind fun z M => optR (cmpD c2 y z M) M else .ok false M) _ from h1)).bind
    obtain ⟨kk, e2, q⟩ := h2.optG
    refine ⟨x, y, M2, w2, kk, k2, rv.grow g2, ru, e2, ⟨kk, rfl, ?_⟩, fun b0 hc => by
      have z := okB_ev hb hy b0 (.inl hc)
      rw [z] at ru; exact ru, fun b0 hc => by
      have z := okB_ev hb hy b0 (.inr hc)
      rw [z] at ru; exact ru⟩
    have q := q H2 w2 .refl k2
    cases kk with
    | false =>
      rw [if_neg Bool.false_ne_true] at q ⊢
      exact q.here k2 _ rfl
    | true =>
      rw [if_pos rfl] at q ⊢
      refine ⟨env, M2, w2, k2, e1.grow g2, ?_⟩
      cases hz : evE C.F C.G e env M2 with
      | ok z M3 =>
        rw [hz] at q
        refine fun H3 w3 g3 k3 t rt => ?_
        have h3 := After.grow g3 (show After C.K C.ca (fun c d H => W c d σ H) H2 w2 (optR (cmpD c2 y z M3) M3) _ from q)
        obtain ⟨kk2, e3, q3⟩ := h3.optG
        exact ⟨y, z, M3, w3, kk2, k3, ru.grow g3, rt, e3, q3 H3 w3 .refl k3 _ rfl, fun b0 hc => by
          have zz := okB_ev he hz b0 (.inl hc)
          rw [zz] at rt; exact rt, fun b0 hc => by
          have zz := okB_ev he hz b0 (.inr hc)
          rw [zz] at rt; exact rt⟩
      | ex c v M3 => rw [hz] at q; exact q
      | no => rw [hz] at q; exact q
  | ex c v M2 => rw [hy] at h1; exact h1
  | no => rw [hy] at h1; exact h1
theorem chain_ev {c1 c2 : Cmp} {F : Fns} {G : List D} {env : EnvD} {M : Store} : evE F G (.chain c1 c2 a b e) env M = ((evE F G a env M).bind fun x M => (evE F G b env M).bind fun y M => (optR (cmpD c1 x y M) M).bind fun k M =>
      if k = true then (evE F G e env M).bind fun z M => optR (cmpD c2 y z M) M else .ok false M).bind fun k M => .ok (.bl k) M := by
  show ((evE F G a env M).bind fun x M => (evE F G b env M).bind fun y M => (optR (cmpD c1 x y M) M).bind fun k M =>
      if k = true then (evE F G e env M).bind fun z M => optR ((cmpD c2 y z M).map D.bl) M else .ok (.bl false) M) = _
  rw [bind_assoc]; congr 1; funext x M1; rw [bind_assoc]; congr 1; funext y M2; rw [bind_assoc]; congr 1; funext k M3
  cases k with
  | false => rfl
  | true =>
    rw [if_pos rfl, if_pos rfl, bind_assoc]; congr 1; funext z M4
    cases cmpD c2 y z M4 <;> rfl
theorem pe_Chain (hK : X.K = C.K) (hu : X.A.units + 64 < cLine) {c1 c2 : Cmp} (hb : okB c1 b) (he : okB c2 e) (hm : lastMarks [opOf c1, opOf c2] [eb, ee] = false) (hea : PE X ea (tE C W a)) (heb : PE X eb (tE C W b)) (hee : PE X ee (tE C W e)) :
    PE X (.Compare ea [opOf c1, opOf c2] [eb, ee] pos) (tE C W (.chain c1 c2 a b e)) :=
  peMono (pe_chain (op_cmp hK hu c1) (op_cmp hK hu c2) hea heb hee hm) fun σ H Q h => by
    refine chain_two (C := C) (W := W) hb he ?_
    obtain ⟨env, M, w, k, eo, h⟩ := h
    refine ⟨env, M, w, k, eo, ?_⟩
    rw [chain_ev] at h
    exact h.bind.imp fun kk M1 H1 w1 g k1 h v e => by rw [e]; exact h.here k1 _ rfl
theorem pt_Chain (hK : X.K = C.K) (hu : X.A.units + 64 < cLine) {c1 c2 : Cmp} (hb : okB c1 b) (he : okB c2 e) (hm : lastMarks [opOf c1, opOf c2] [eb, ee] = false) (hea : PE X ea (tE C W a)) (heb : PE X eb (tE C W b)) (hee : PE X ee (tE C W e)) :
    PT X (.Compare ea [opOf c1, opOf c2] [eb, ee] pos) (tT C W (.chain c1 c2 a b e)) :=
  ptMono (pt_chain (op_cmp hK hu c1) (op_cmp hK hu c2) hea heb hee hm) fun σ H Q h => by
    refine chain_two (C := C) (W := W) (Q := fun v H => ∃ k, v = .bl k ∧ Q k H) hb he ?_
    obtain ⟨env, M, w, k, eo, h⟩ := h
    refine ⟨env, M, w, k, eo, ?_⟩
    have h : After C.K C.ca (fun c d H => W c d σ H) H w ((evE C.F C.G (.chain c1 c2 a b e) env M).bind fun x M => optR (tru x M) M) (fun b _ H' _ => Q b H') := h
    rw [chain_ev, bind_assoc] at h
    exact h.bind.imp fun kk M1 H1 w1 g k1 h v e => ⟨kk, e, h.here k1⟩
/-! ### argument lists, displays -/
theorem pa_Nil : PA X [] (tA C W []) := paMono pa_nil fun σ H Q h => by
  obtain ⟨env, M, w, k, eo, h⟩ := h
  exact (show After C.K C.ca (fun c d H => W c d σ H) H w (.ok ([] : List D) M) _ from h).here k [] rfl
theorem pa_Cons {es : List Expr} {l : List ME} (ha : PE X ea (tE C W a)) (hl : PA X es (tA C W l)) (hs : starEach (ea :: es) X.env = (false, eval ea X.env) :: starEach es X.env) : PA X (ea :: es) (tA C W (a :: l)) :=
  paMono (pa_cons ha hl hs) fun σ H Q h => by
    refine (Rd0.bind (f := fun x env M => (evEs C.F C.G l env M).bind fun xs M => .ok (x :: xs) M) h).imp fun x M1 H1 w1 env k1 e1 h1 v rv => ?_
    refine ⟨env, M1, w1, k1, e1, h1.bind.imp fun xs M2 H2 w2 g2 k2 h2 vs rs => ?_⟩
    exact h2.here k2 (v :: vs) ⟨v, vs, rfl, rv.grow g2, rs⟩
theorem tA_bind {es : List ME} {f : List D → Store → Res D} {σ : St} {H : Hp} {Q : VK} {R : List V → Hp → Prop}
    (h : Rd0 C W (fun env M => (evEs C.F C.G es env M).bind fun ds M => f ds M) σ H fun d _ H' w' _ => ∀ v, Rep C.K w' d v → Q v H')
    (hf : ∀ ds vs M H w, Ok C.K H w M → Reps C.K w ds vs → After C.K C.ca (fun c d H => W c d σ H) H w (f ds M) (fun d _ H' w' => ∀ v, Rep C.K w' d v → Q v H') → R vs H) : tA C W es σ H R :=
  (Rd0.bind (f := fun ds env M => f ds M) h).imp fun ds M1 H1 w1 env k1 e1 h1 vs rs => hf ds vs M1 H1 w1 k1 rs h1
theorem After.ifG {K : PySem.W.Frag} {ca : Nat → Addr} {W : Value → Option Addr → Hp → Prop} {α : Type} {c : Prop} [Decidable c] {r : Res α} {P : α → Store → Hp → Wd → Prop} (h : After K ca W H w (if c then r else .no) P) : c ∧ After K ca W H w r P := by
  by_cases hc : c
  · rw [if_pos hc] at h; exact ⟨hc, h⟩
  · rw [if_neg hc] at h; exact False.elim h
theorem pe_Tup {es : List Expr} {l : List ME} {j : Nat} (hl : PA X es (tA C W l)) : PE X (.Tuple es j pos) (tE C W (.tup l)) :=
  peMono (pe_tup hl) fun σ H Q h => tA_bind (C := C) (W := W) (f := fun ds M => if lineOk ds.length then .ok (.tup ds) M else .no) h fun ds vs M H w k rs h => by
    obtain ⟨h1, h2⟩ := h.ifG
    exact ⟨by rw [rs.len]; exact of_decide_eq_true h1, newT (P := fun _ _ => True) k rs h2⟩
theorem pe_LstF {es : List Expr} {l : List ME} (hl : PA X es (tA C W l)) : PE X (.List es pos) (tE C W (.lst .frz l)) :=
  peMono (pe_lst hl) fun σ H Q h => tA_bind (C := C) (W := W) (f := fun ds M => if lineOk ds.length then .ok (.lst ds) M else .no) h fun ds vs M H w k rs h => by
    obtain ⟨h1, h2⟩ := h.ifG
    exact ⟨by rw [rs.len]; exact of_decide_eq_true h1, newL k rs h2⟩
theorem pe_LstC {es : List Expr} {l : List ME} (hl : PA X es (tA C W l)) : PE X (.List es pos) (tE C W (.lst .cell l)) :=
  peMono (pe_lst hl) fun σ H Q h => tA_bind (C := C) (W := W) (f := fun ds M => if lineOk ds.length && D.pures ds then .ok (.ref M.length) (M ++ [Cell.lst ds]) else .no) h fun ds vs M H w k rs h => by
    obtain ⟨h1, h2⟩ := h.ifG
    rw [Bool.and_eq_true] at h1
    exact ⟨by rw [rs.len]; exact of_decide_eq_true h1.1, newC k rs h1.2 h2⟩
/-! ### subscripts -/
theorem atI_D {K : PySem.W.Frag} {w : Wd} {ds : List D} {vs : List V} {i : Int} {d : D} (r : Reps K w ds vs) (h : atI ds i = some d) : ∃ v, atI vs i = some v ∧ Rep K w d v := by
  unfold atI at h ⊢
  rw [r.len]
  cases e : ixN ds.length i with
  | none => rw [e] at h; cases h
  | some j =>
    rw [e] at h
    exact Reps.at r h
theorem plainIx {e : Expr} (h : ∀ a b c p, e ≠ .Slice a b c p) : PlainIx e := by
  intro o i
  cases e with
  | Slice a b c p => exact absurd rfl (h a b c p)
  | _ => rfl
/-- o[i] by values -/
def rIxAll (K : PySem.W.Frag) : R2 := fun vx vy H Q => ∃ x y M w d, Ok K H w M ∧ Rep K w x vx ∧ Rep K w y vy ∧ ixD x y M = some d ∧ ∀ v, Rep K w d v → Q v H
theorem ix_All (hK : X.K = C.K) (hu : X.A.units + 1 < cLine) : IxR X (rIxAll C.K) := by
  intro value slice pins s σ H vx vy v u Q I rx ry h hs
  obtain ⟨x, y, M, w, d, k, dx, dy, e, q⟩ := h
  have dict : ∀ a z, vx = .ref a → DGet H a vy (some z) → Q z H → wpAny (model X.prog X.w) X.A (PyProof.Rows.subscriptTail value slice v u) (EP X pins σ Q) X.xe s := fun a z e1 g q => by
    subst e1
    obtain rfl : v = Value.ref a := rx
    exact PyProof.Rows.tail_any (dict_typeIs I g) PySem.F.slot_dict_getitem.lookup (d_getItem hu I g ry fun w' s3 I3 rw' => ⟨z, H, I3, rw', q⟩) hs
  cases x with
  | tup ds =>
    cases y with
    | int i =>
      obtain ⟨a, vs, e1, s1, q1⟩ := dx
      obtain ⟨z, h1, h2⟩ := atI_D q1 (show atI ds i = some d from e)
      exact ix_tup value slice pins s σ H vx vy v u Q I rx ry ⟨a, vs, i, z, e1, dy, hK ▸ k.sqT s1, h1, q z h2⟩ hs
    | _ => cases e
  | lst ds =>
    cases y with
    | int i =>
      obtain ⟨a, vs, e1, s1, q1⟩ := dx
      obtain ⟨z, h1, h2⟩ := atI_D q1 (show atI ds i = some d from e)
      exact ix_list value slice pins s σ H vx vy v u Q I rx ry ⟨a, vs, i, z, e1, dy, .inl (.inl (k.sub _ _ s1)), h1, q z h2⟩ hs
    | _ => cases e
  | scr ns =>
    cases y with
    | int i =>
      obtain ⟨a, e1, s1⟩ := dx
      obtain ⟨m, hm, e2⟩ := Option.map_eq_some_iff.mp (show (atI ns i).map D.int = some d from e)
      subst e2
      have hz : atI (ns.map V.int) i = some (.int m) := by
        unfold atI at hm ⊢
        rw [List.length_map]
        cases ej : ixN ns.length i with
        | none => rw [ej] at hm; cases hm
        | some j =>
          rw [ej] at hm
          have hm : ns[j]? = some m := hm
          show (ns.map V.int)[j]? = some (V.int m)
          rw [List.getElem?_map, hm]; rfl
      exact ix_list value slice pins s σ H vx vy v u Q I rx ry ⟨a, _, i, _, e1, dy, hK ▸ k.sqL s1, hz, q _ rfl⟩ hs
    | _ => cases e
  | ref n =>
    cases qc : M[n]? with
    | none => simp only [ixD, qc] at e; cases e
    | some c =>
      cases c with
      | lst ds =>
        cases y with
        | int i =>
          simp only [ixD, qc] at e
          obtain ⟨a, vs, e1, _, hH, _, q2⟩ := k.lstAt dx qc
          obtain ⟨z, h1, h2⟩ := atI_D q2 e
          exact ix_list value slice pins s σ H vx vy v u Q I rx ry ⟨a, vs, i, z, e1, dy, .inl (.inl hH), h1, q z h2⟩ hs
        | _ => simp only [ixD, qc] at e; cases e
      | dK lk kvs =>
        simp only [ixD, qc] at e
        obtain ⟨kk, h1, h2⟩ := Option.bind_eq_some_iff.mp e
        obtain ⟨a, o, e1, g, _, hd⟩ := k.dgetK dx qc dy h1
        obtain ⟨z, e2, hz⟩ := hd d h2
        subst e2
        exact dict a z e1 g (q z hz)
      | dT lk kvs =>
        cases y with
        | tup ks =>
          simp only [ixD, qc] at e
          obtain ⟨kk, h1, h2⟩ := Option.bind_eq_some_iff.mp e
          obtain ⟨a, o, e1, g, _, hd⟩ := k.dgetT dx qc dy h1
          obtain ⟨z, e2, hz⟩ := hd d h2
          subst e2
          exact dict a z e1 g (q z hz)
        | _ => simp only [ixD, qc] at e; cases e
  | _ => cases y <;> cases e
theorem pe_Ix (hK : X.K = C.K) (hu : X.A.units + 1 < cLine) (hs : ∀ a b c p, eb ≠ .Slice a b c p) (hea : PE X ea (tE C W a)) (heb : PE X eb (tE C W b)) : PE X (.Subscript ea eb pos) (tE C W (.ix a b)) :=
  peMono (pe_ix (ix_All hK hu) hea heb (plainIx hs)) fun σ H Q h => two (C := C) (W := W) (f := fun x y M => optR (ixD x y M) M) h fun x y vx vy M H' w' k rx ry h => by
    obtain ⟨d, e, q⟩ := h.optG
    exact ⟨x, y, M, w', d, k, rx, ry, e, q H' w' .refl k⟩
/-! ### slices -/
theorem cut_D {K : PySem.W.Frag} {w : Wd} {ds : List D} {vs : List V} (r : Reps K w ds vs) (lo hi : Option Int) : Reps K w (cutD ds lo hi) (cutV vs lo hi) := by
  unfold cutD cutV
  rw [r.len]
  exact (r.drop' _).take _
theorem cut_whole {α : Type} {xs : List α} {lo hi : Option Int} (h : HT.sIx xs.length 0 lo = 0 ∧ HT.sIx xs.length xs.length hi = xs.length) : (xs.drop (HT.sIx xs.length 0 lo)).take (HT.sIx xs.length xs.length hi - HT.sIx xs.length 0 lo) = xs := by
  rw [h.1, h.2, List.drop_zero, Nat.sub_zero, List.take_length]
def rSlAll (K : PySem.W.Frag) : V → Option Int → Option Int → Hp → VK → Prop := fun x lo hi H Q => rSlA K x lo hi H Q ∨ rSlL K x lo hi H Q
theorem sl_All (hK : X.K = C.K) : SlR X (rSlAll C.K) := SlR.or (hK ▸ sl_tupA) (hK ▸ sl_list)
def tO (C : Cc) (W : WX) (o : Option ME) : TO := fun σ H Q => Rd0 C W (evO C.F C.G o) σ H fun i _ H' _ _ => Q i H'
theorem po_None : PO X none (tO C W none) := ⟨fun pins s σ H Q I h => po_none.run pins s σ H Q I (by
  obtain ⟨env, M, w, k, eo, h⟩ := h
  exact (show After C.K C.ca (fun c d H => W c d σ H) H w (.ok (none : Option Int) M) _ from h).here k)⟩
theorem po_Some (hea : PE X ea (tE C W a)) : PO X (some ea) (tO C W (some a)) := ⟨fun pins s σ H Q I h => (po_some hea).run pins s σ H Q I (by
  have h : Rd0 C W (fun env M => (evE C.F C.G a env M).bind fun x M => (match x with
      | .int i => .ok (some i) M
      | _ => .no : Res (Option Int))) σ H fun i _ H' _ _ => Q i H' := h
  refine (Rd0.bind (f := fun x env M => (match x with
      | .int i => .ok (some i) M
      | _ => .no : Res (Option Int))) h).imp fun x M1 H1 w1 env k1 e1 h1 v rv => ?_
  cases x with
  | int i => exact ⟨i, rv, h1.here k1⟩
  | _ => exact False.elim h1)⟩
theorem pe_Sl (hK : X.K = C.K) {lo hi : Option ME} {elo ehi : Option Expr} {p2 : Pos} (hea : PE X ea (tE C W a)) (hl : PO X elo (tO C W lo)) (hh : PO X ehi (tO C W hi)) : PE X (.Subscript ea (.Slice elo ehi none p2) pos) (tE C W (.sl a lo hi)) :=
  peMono (pe_slice (sl_All hK) hea hl hh) fun σ H Q h => by
    refine (Rd0.bind (f := fun x env M => (evO C.F C.G lo env M).bind fun l M => (evO C.F C.G hi env M).bind fun h M => optR (slD x l h M) M) h).imp fun x M1 H1 w1 env k1 e1 h1 v rv => ?_
    refine ⟨env, M1, w1, k1, e1, h1.bind.imp fun l M2 H2 w2 g2 k2 h2 => ?_⟩
    refine ⟨env, M2, w2, k2, e1.grow g2, h2.bind.imp fun u M3 H3 w3 g3 k3 h3 => ?_⟩
    obtain ⟨d, e, q⟩ := h3.optG
    have rv := rv.grow (g2.trans g3)
    cases x with
    | tup ds =>
      cases e
      obtain ⟨p, vs, e1, s1, q1⟩ := rv
      refine .inl ⟨p, vs, e1, k3.sqT s1, fun hw => ?_, fun _ => newT (P := fun _ _ => True) k3 (cut_D q1 l u) q⟩
      refine q H3 w3 .refl k3 _ ⟨p, vs, rfl, s1, ?_⟩
      rw [q1.len] at hw
      unfold cutD
      rw [cut_whole hw]
      exact q1
    | lst ds =>
      cases e
      obtain ⟨p, vs, e1, s1, q1⟩ := rv
      exact .inr ⟨p, vs, e1, .inl (.inl (k3.sub _ _ s1)), newL k3 (cut_D q1 l u) q⟩
    | scr ns =>
      cases e
      obtain ⟨p, e1, s1⟩ := rv
      exact .inr ⟨p, _, e1, k3.sqL s1, newL k3 (cut_D (Reps.ofInts ns) l u) q⟩
    | ref n =>
      cases qc : M3[n]? with
      | none => simp only [slD, qc] at e; cases e
      | some c =>
        cases c with
        | lst ds =>
          simp only [slD, qc] at e
          cases e
          obtain ⟨p, vs, e1, _, hH, _, q2⟩ := k3.lstAt rv qc
          exact .inr ⟨p, vs, e1, .inl (.inl hH), newL k3 (cut_D q2 l u) q⟩
        | dK _ _ => simp only [slD, qc] at e; cases e
        | dT _ _ => simp only [slD, qc] at e; cases e
    | _ => cases e
end
end PM

/-! PMx: repr of data, dicts within. -/
namespace PM
open PySem L2 PySem.Spec PyProof.Rows
section
variable {X : Cx} {pins : List (Addr × Obj)} {σ : L2.St} {H : Hp} {s : Shared} {M : Store} {w : Wd}
def keyPy : Key → PyData
  | .inl i => .int i
  | .inr x => .str x
theorem keyPy_reads {h : Heap} {k : Key} {v : Value} (e : (mixKind X.prog X.w).is k v = true) : Reads h v (keyPy k) [] := by
  rcases keyIs_shape e with ⟨i, t, rfl, rfl⟩ | ⟨x, t, rfl, rfl⟩
  · exact .int i t
  · exact .str x t
theorem toKey_py {d : D} {q : Key} (e : toKey d = some q) : d.py = keyPy q := by
  cases d <;> first | (cases e; rfl) | exact absurd e (by simp [toKey])
theorem pairs_vals {κ : Type} [DecidableEq κ] {knd : PySem.KeyKind X.prog X.w κ} : ∀ {es : List DictEntry} {vs : List (κ × Value)}, Pairs knd es vs → es.map (·.val) = vs.map (·.2) := by
  intro es vs h
  induction h with
  | nil => rfl
  | cons _ e _ ih => simp [e, ih]
mutual
theorem rk (I : Inv X pins σ H s) (k : Ok X.K H w M) : ∀ (d : D) (v : V) (u : Value), d.pure = true → Rep X.K w d v → RelV v u → d.py.showable = true → d.py.shown.length ≤ sizeLine →
    ∃ as bs, Reads s.heap u d.py as ∧ ReadAtMost s.heap d.py.depth bs ∧ ReprK X.prog X.w bs s.heap d.py.depth u d.py.shown
  | .non, v, u, _, r, ru, _, _ => by
    have r : v = .non := r
    subst r
    cases ru
    exact ⟨_, [], .none, (fun _ h => nomatch h), by simp only [D.py, PyData.shown]; exact .of_is ReprIs.none _ _ _⟩
  | .bl b, v, u, _, r, ru, _, _ => by
    have r : v = .bl b := r
    subst r
    cases ru
    exact ⟨_, [], .bool b, (fun _ h => nomatch h), by simp only [D.py, PyData.shown]; exact .of_is (ReprIs.bool b) _ _ _⟩
  | .int i, v, u, _, r, ru, hs, _ => by
    have r : v = .int i := r
    subst r
    obtain ⟨t, rfl⟩ := ru
    exact ⟨_, [], .int i t, (fun _ h => nomatch h), by simp only [D.py, PyData.shown]; exact .of_is (ReprIs.int t (by simpa [D.py, PyData.showable] using hs)) _ _ _⟩
  | .str x, v, u, _, r, ru, _, hz => by
    have r : v = .str x := r
    subst r
    obtain ⟨t, rfl⟩ := ru
    exact ⟨_, [], .str x t, (fun _ h => nomatch h), by simp only [D.py, PyData.shown]; exact .of_is (ReprIs.str x t (by simpa only [D.py, PyData.shown] using hz)) _ _ _⟩
  | .tup ds, v, u, p, ⟨a, vs, e, sq, r⟩, ru, hs, hz => by
    subst e
    cases ru
    obtain ⟨its, rv, ⟨o, ho, hc, n, hd⟩, _⟩ := I.tuple (k.sqT sq)
    have hz' : (tupleText (PyData.shownAll (D.pys ds))).length ≤ sizeLine := by simpa only [D.py, PyData.shown] using hz
    obtain ⟨as, bs, hr, hb, hk⟩ := rks I k ds vs its p r rv (by simpa [D.py, PyData.showable] using hs) (fun t ht => Nat.le_trans (tupleText_mem_le ht) hz')
    have rr : Reads s.heap (.ref a) (.tuple (D.pys ds)) as := .tuple ho hc hd hr
    have hna : a ∉ bs := not_mem_of_deeper rr (by simp only [PyData.depth]; omega) hb
    have hra := ReadAtMost.cons rr (by simp only [PyData.depth]; omega) hb
    refine ⟨_, a :: bs, rr, hra, ?_⟩
    simp only [D.py, PyData.depth, PyData.shown]
    exact ReprK.tuple ho hc hd hna hk
  | .lst ds, v, u, p, ⟨a, vs, e, sq, r⟩, ru, hs, hz => by
    subst e
    cases ru
    obtain ⟨its, rv, ⟨o, n, ho, hc, _, hd⟩, _⟩ := I.list (Or.inl (Or.inl (k.sub _ _ sq)) : SqL X.K H a vs)
    have hz' : (listText (PyData.shownAll (D.pys ds))).length ≤ sizeLine := by simpa only [D.py, PyData.shown] using hz
    obtain ⟨as, bs, hr, hb, hk⟩ := rks I k ds vs its p r rv (by simpa [D.py, PyData.showable] using hs) (fun t ht => Nat.le_trans (listText_mem_le ht) hz')
    have rr : Reads s.heap (.ref a) (.list (D.pys ds)) (a :: as) := .list ho hc hd hr
    have hna : a ∉ bs := not_mem_of_deeper rr (by simp only [PyData.depth]; omega) hb
    have hra := ReadAtMost.cons rr (by simp only [PyData.depth]; omega) hb
    refine ⟨_, a :: bs, rr, hra, ?_⟩
    simp only [D.py, PyData.depth, PyData.shown]
    cases its with
    | nil =>
      have hr' : ReadsAll s.heap [] (D.pys ds) _ := hr
      have e0 : D.pys ds = [] := by cases ds with
        | nil => rfl
        | cons _ _ => cases hr'
      rw [e0]
      simp only [PyData.shownAll, listText_nil]
      exact ReprK.listEmpty ho hc hd
    | cons x l => exact ReprK.list ho hc hd hna (by simpa using hk.length_eq) (fun i y e => hk.item i y (by simpa using e))
  | .dic kvs, v, u, p, ⟨a, l, e, sq, r⟩, ru, hs, hz => by
    subst e
    cases ru
    obtain ⟨_, hsys, vs, rel, dd⟩ := dk_of I.hok (k.sub _ _ sq)
    have hz' : (dictText (PyData.shownKv (D.pyk kvs))).length ≤ sizeLine := by simpa only [D.py, PyData.shown] using hz
    obtain ⟨hs1, hs2⟩ := PyData.showableKv_split (D.pyk kvs) (by simpa [D.py, PyData.showable] using hs)
    obtain ⟨o, es, ep, ho, hx, hdat, _, hp, _⟩ := dd
    obtain ⟨as, bs, hr, hkeys, hb, hk⟩ := rkk I k kvs l vs p r rel hs2 (fun t ht => let ⟨p, hp, hl⟩ := PyData.shownKv_val_le _ t ht; Nat.le_trans hl (Nat.le_trans (dictText_mem_le hp) hz'))
    obtain ⟨r1, r2⟩ := PyProof.V.readsAll_of_pairs (fun k key e => keyPy_reads e) hp hr
    have rr : Reads s.heap (.ref a) (.dict (D.pyk kvs)) _ := .dict ho hx.1 hdat r1 r2
    obtain ⟨b1, hb1, k1⟩ := ReprAllK.of_readsAll (prog := X.prog) (w := X.w) r1 hs1 (fun _ hm => nomatch hm) (fun t ht => let ⟨p, hp, hl⟩ := PyData.shownKv_key_le _ t ht; Nat.le_trans hl (Nat.le_trans (dictText_mem_le hp) hz'))
    have hb' : ReadAtMost s.heap (PyData.depthKv (D.pyk kvs)) (b1 ++ bs) := (hb1.mono (PyData.depthAll_keys_le _)).append (hb.mono (PyData.depthAll_vals_le _))
    have hna : a ∉ b1 ++ bs := not_mem_of_deeper rr (by simp only [PyData.depth]; omega) hb'
    have hra := ReadAtMost.cons rr (by simp only [PyData.depth]; omega) hb'
    refine ⟨_, a :: (b1 ++ bs), rr, hra, ?_⟩
    simp only [D.py, PyData.depth, PyData.shown, PyData.shownKv_eq]
    have ev : es.toList.map (·.val) = vs.map (·.2) := pairs_vals hp
    exact ReprK.dict ho hx.1 hdat hsys hna (ReprEntriesK.of_two es.toList _ _
      (k1.more_le (fun b hb => List.mem_append_left _ hb) (PyData.depthAll_keys_le _)) ((by rw [ev]; exact hk : ReprAllK X.prog X.w bs s.heap _ (es.toList.map (·.val)) _).more_le (fun b hb => List.mem_append_right _ hb) (PyData.depthAll_vals_le _)))
  | .ref n, _, _, p, _, _, _, _ => absurd (show false = true from p) (by decide)
  | .scr ns, _, _, p, _, _, _, _ => absurd (show false = true from p) (by decide)
termination_by structural d => d
theorem rks (I : Inv X pins σ H s) (k : Ok X.K H w M) : ∀ (ds : List D) (vs : List V) (us : List Value), D.pures ds = true → Reps X.K w ds vs → Vals vs us → PyData.showableAll (D.pys ds) = true → (∀ t ∈ PyData.shownAll (D.pys ds), t.length ≤ sizeLine) →
    ∃ as bs, ReadsAll s.heap us (D.pys ds) as ∧ ReadAtMost s.heap (PyData.depthAll (D.pys ds)) bs ∧ ReprAllK X.prog X.w bs s.heap (PyData.depthAll (D.pys ds)) us (PyData.shownAll (D.pys ds))
  | [], vs, us, _, r, ru, _, _ => by
    have r : vs = [] := r
    subst r
    cases ru
    exact ⟨_, [], .nil, (fun _ h => nomatch h), by simp only [D.pys, PyData.shownAll]; exact .nil⟩
  | d :: ds, vs, us, p, ⟨v, r, e, p1, q⟩, ru, hs, hz => by
    subst e
    have p' : (D.pure d && D.pures ds) = true := p
    rw [Bool.and_eq_true] at p'
    cases ru with
    | cons ru1 ru2 =>
      have hs' : d.py.showable = true ∧ PyData.showableAll (D.pys ds) = true := by simpa [D.pys, PyData.showableAll] using hs
      obtain ⟨as1, b1, r1, hb1, k1⟩ := rk I k d v _ p'.1 p1 ru1 hs'.1 (hz _ (by simp only [D.pys, PyData.shownAll]; exact List.mem_cons_self ..))
      obtain ⟨as2, b2, r2, hb2, k2⟩ := rks I k ds r _ p'.2 q ru2 hs'.2 (fun t ht => hz t (by simp only [D.pys, PyData.shownAll]; exact List.mem_cons_of_mem _ ht))
      refine ⟨_, b1 ++ b2, .cons r1 r2, ?_, ?_⟩
      · simp only [D.pys, PyData.depthAll]
        exact (hb1.mono (Nat.le_max_left _ _)).append (hb2.mono (Nat.le_max_right _ _))
      · simp only [D.pys, PyData.depthAll, PyData.shownAll]
        exact .cons ((k1.more fun b hb => List.mem_append_left _ hb).level_le (Nat.le_max_left _ _)) (k2.more_le (fun b hb => List.mem_append_right _ hb) (Nat.le_max_right _ _))
termination_by structural ds => ds
theorem rkk (I : Inv X pins σ H s) (k : Ok X.K H w M) : ∀ (kvs : List (D × D)) (l : List (Key × V)) (vs : List (Key × Value)), D.purek kvs = true → RepK X.K w kvs l → KV l vs → PyData.showableAll ((D.pyk kvs).map (·.2)) = true →
    (∀ t ∈ PyData.shownAll ((D.pyk kvs).map (·.2)), t.length ≤ sizeLine) →
    ∃ as bs, PyProof.V.PairsRead s.heap keyPy vs (D.pyk kvs) as ∧ True ∧ ReadAtMost s.heap (PyData.depthAll ((D.pyk kvs).map (·.2))) bs ∧ ReprAllK X.prog X.w bs s.heap (PyData.depthAll ((D.pyk kvs).map (·.2))) (vs.map (·.2)) (PyData.shownAll ((D.pyk kvs).map (·.2)))
  | [], l, vs, _, r, ru, _, _ => by
    have r : l = [] := r
    subst r
    cases ru
    exact ⟨_, [], .nil, True.intro, (fun _ h => nomatch h), by simp only [D.pyk, List.map_nil, PyData.shownAll]; exact .nil⟩
  | (kd, d) :: ds, l, vs, p, ⟨q, v, l', e, ek, p1, qq⟩, ru, hs, hz => by
    subst e
    have p' : (D.pure kd && (D.pure d && D.purek ds)) = true := p
    rw [Bool.and_eq_true, Bool.and_eq_true] at p'
    cases ru with
    | @cons x y _ _ ru1 ru2 =>
      obtain ⟨y1, y2⟩ := y
      obtain ⟨e1, ru1⟩ := ru1
      have e1 : q = y1 := e1
      subst e1
      have hs' : d.py.showable = true ∧ PyData.showableAll ((D.pyk ds).map (·.2)) = true := by simpa [D.pyk, PyData.showableAll] using hs
      obtain ⟨as1, b1, r1, hb1, k1⟩ := rk I k d v _ p'.2.1 p1 ru1 hs'.1 (hz _ (by simp only [D.pyk, List.map_cons, PyData.shownAll]; exact List.mem_cons_self ..))
      obtain ⟨as2, b2, r2, _, hb2, k2⟩ := rkk I k ds l' _ p'.2.2 qq ru2 hs'.2 (fun t ht => hz t (by simp only [D.pyk, List.map_cons, PyData.shownAll]; exact List.mem_cons_of_mem _ ht))
      refine ⟨as1 ++ as2, b1 ++ b2, ?_, True.intro, ?_, ?_⟩
      · simp only [D.pyk]
        rw [toKey_py ek]
        exact .cons r1 r2
      · simp only [D.pyk, List.map_cons, PyData.depthAll]
        exact (hb1.mono (Nat.le_max_left _ _)).append (hb2.mono (Nat.le_max_right _ _))
      · simp only [D.pyk, List.map_cons, PyData.depthAll, PyData.shownAll]
        exact .cons ((k1.more fun b hb => List.mem_append_left _ hb).level_le (Nat.le_max_left _ _)) (k2.more_le (fun b hb => List.mem_append_right _ hb) (Nat.le_max_right _ _))
termination_by structural ds => ds
end
/-- repr of a tuple or a list of data -/
theorem repr_tup {A : Around} {E : Value → Shared → Prop} {Q : Value → Shared → Prop} (I : Inv X pins σ H s) (k : Ok X.K H w M) {ds : List D} {v : V} {u : Value} (p : D.pures ds = true) (r : Rep X.K w (.tup ds) v) (ru : RelV v u)
    (hs : (D.tup ds).py.showable = true) (hz : (D.tup ds).py.shown.length ≤ sizeLine) (hg : A.guards = some []) (hu : A.units + ((D.tup ds).py.depth + 1) < cLine)
    (hQ : ∀ h' t tk, (∀ b o, s.heap.get? b = some o → h'.get? b = some o) → Q (.str (D.tup ds).py.shown t) { s with heap := h', toks := tk }) : wpAny (model X.prog X.w) A (call (.builtin "repr") [u]) Q E s := by
  obtain ⟨a, vs, e, sq, r⟩ := r
  subst e
  cases ru
  obtain ⟨its, rv, ⟨o, ho, hc, n, hd⟩, _⟩ := I.tuple (k.sqT sq)
  have hz' : (tupleText (PyData.shownAll (D.pys ds))).length ≤ sizeLine := by simpa only [D.py, PyData.shown] using hz
  obtain ⟨as, bs, hr, hb, hk⟩ := rks I k ds vs its p r rv (by simpa [D.py, PyData.showable] using hs) (fun t ht => Nat.le_trans (tupleText_mem_le ht) hz')
  have rr : Reads s.heap (.ref a) (.tuple (D.pys ds)) as := .tuple ho hc hd hr
  have hna : a ∉ bs := not_mem_of_deeper rr (by simp only [PyData.depth]; omega) hb
  simp only [D.py, PyData.depth, PyData.shown] at hu hQ
  exact call_repr_slot (by omega) (⟨o, ho, hc⟩ : s.TypeIs (.ref a) "tuple") F.slot_tuple_repr (call_tuple_reprK ho hc hd hna hk hg (fun b _ => Clear.nil b) (by show A.units + 1 + _ < _; omega) (fun _ _ e => e) (fun h' u tk hk => ⟨_, _, rfl, hQ h' u tk hk⟩) hz')
theorem repr_lst {A : Around} {E : Value → Shared → Prop} {Q : Value → Shared → Prop} (I : Inv X pins σ H s) (k : Ok X.K H w M) {ds : List D} {a : Addr} {vs : List V} (p : D.pures ds = true) (sq : SqL X.K H a vs) (r : Reps X.K w ds vs)
    (hs : (D.lst ds).py.showable = true) (hz : (D.lst ds).py.shown.length ≤ sizeLine) (hg : A.guards = some []) (hu : A.units + ((D.lst ds).py.depth + 1) < cLine)
    (hQ : ∀ h' t tk, (∀ b o, s.heap.get? b = some o → h'.get? b = some o) → Q (.str (D.lst ds).py.shown t) { s with heap := h', toks := tk }) : wpAny (model X.prog X.w) A (call (.builtin "repr") [.ref a]) Q E s := by
  obtain ⟨its, rv, ⟨o, n, ho, hc, _, hd⟩, _⟩ := I.list sq
  have hz' : (listText (PyData.shownAll (D.pys ds))).length ≤ sizeLine := by simpa only [D.py, PyData.shown] using hz
  obtain ⟨as, bs, hr, hb, hk⟩ := rks I k ds vs its p r rv (by simpa [D.py, PyData.showable] using hs) (fun t ht => Nat.le_trans (listText_mem_le ht) hz')
  have rr : Reads s.heap (.ref a) (.list (D.pys ds)) (a :: as) := .list ho hc hd hr
  have hna : a ∉ bs := not_mem_of_deeper rr (by simp only [PyData.depth]; omega) hb
  simp only [D.py, PyData.depth, PyData.shown] at hu hQ
  refine call_repr_slot (by omega) (⟨o, ho, hc⟩ : s.TypeIs (.ref a) "list") F.slot_list_repr.toG ?_
  cases its with
  | nil =>
    have hr' : ReadsAll s.heap [] (D.pys ds) _ := hr
    have e0 : D.pys ds = [] := by cases ds with
      | nil => rfl
      | cons _ _ => cases hr'
    rw [e0] at hQ
    simp only [PyData.shownAll, listText_nil] at hQ
    exact call_list_repr_empty ⟨o, ho, hc⟩ ho hd ⟨_, _, rfl, hQ s.heap _ _ fun _ _ e => e⟩
  | cons x l => exact call_list_reprK ho hc hd hna (by simpa using hk.length_eq) (fun i y e => hk.item i y (by simpa using e)) hg (fun b _ => Clear.nil b) (by show A.units + 1 + _ < _; omega) (fun _ _ e => e) (fun h' u tk hk => ⟨_, _, rfl, hQ h' u tk hk⟩) hz'
end
end PM

/-! PMgs: sorted, of tuples of ints of any lengths, of ints: the small language's insertion is what the layer's sort leaves. -/
namespace PM
open PySem L2
/-! ### the order -/
theorem lex_asym : ∀ {x y : List Int}, HT.lexLt x y = true → HT.lexLt y x = false
  | [], [], h => by cases h
  | [], _ :: _, _ => rfl
  | _ :: _, [], h => by cases h
  | a :: x, b :: y, h => by
    rw [HT.lexLt_cons] at h ⊢
    by_cases e : a = b
    · rw [if_pos e] at h
      rw [if_pos e.symm]
      exact lex_asym h
    · rw [if_neg e] at h
      rw [if_neg fun z => e z.symm]
      have := of_decide_eq_true h
      exact decide_eq_false (by omega)
theorem lex_tot : ∀ {x y : List Int}, HT.lexLt x y = false → HT.lexLt y x = false → x = y
  | [], [], _, _ => rfl
  | [], _ :: _, h, _ => by cases h
  | _ :: _, [], _, h => by cases h
  | a :: x, b :: y, h1, h2 => by
    rw [HT.lexLt_cons] at h1 h2
    by_cases e : a = b
    · rw [if_pos e] at h1
      rw [if_pos e.symm] at h2
      rw [e, lex_tot h1 h2]
    · rw [if_neg e] at h1
      rw [if_neg fun z => e z.symm] at h2
      have := of_decide_eq_false h1
      have := of_decide_eq_false h2
      exact absurd (by omega) e
theorem lex_tr : ∀ {x y z : List Int}, HT.lexLt y x = false → HT.lexLt z y = false → HT.lexLt z x = false
  | [], _, [], _, _ => rfl
  | [], y, _ :: _, _, _ => rfl
  | _ :: _, [], _, h, _ => by cases h
  | a :: x, b :: y, [], _, h => by cases h
  | a :: x, b :: y, c :: z, h1, h2 => by
    rw [HT.lexLt_cons] at h1 h2 ⊢
    by_cases e1 : b = a
    · by_cases e2 : c = b
      · rw [if_pos e1] at h1
        rw [if_pos e2] at h2
        rw [if_pos (e2.trans e1)]
        exact lex_tr h1 h2
      · rw [if_neg e2] at h2
        have := of_decide_eq_false h2
        rw [if_neg (by omega)]
        exact decide_eq_false (by omega)
    · rw [if_neg e1] at h1
      have := of_decide_eq_false h1
      by_cases e2 : c = b
      · rw [if_neg (by omega)]
        exact decide_eq_false (by omega)
      · rw [if_neg e2] at h2
        have := of_decide_eq_false h2
        rw [if_neg (by omega)]
        exact decide_eq_false (by omega)
theorem swoL : SrtO.Swo HT.lexLt := ⟨fun _ _ h => lex_asym h, fun _ _ _ h1 h2 => lex_tr h1 h2⟩
theorem insL_split (x : List Int) : ∀ l : List (List Int), SrtO.Srtd HT.lexLt l → ∃ A B, l = A ++ B ∧ insL x l = A ++ x :: B ∧ (∀ a ∈ A, HT.lexLt x a = false) ∧ ∀ b ∈ B, HT.lexLt x b = true
  | [], _ => ⟨[], [], rfl, rfl, fun a h => (nomatch h), fun b h => (nomatch h)⟩
  | y :: r, h => by
    by_cases hy : HT.lexLt x y = true
    · refine ⟨[], y :: r, rfl, by show (if HT.lexLt x y = true then _ else _) = _; rw [if_pos hy]; rfl, fun a h => (by cases h), swoL.lt_all h hy⟩
    · obtain ⟨A, B, e1, e2, h1, h2⟩ := insL_split x r (List.pairwise_cons.mp h).2
      refine ⟨y :: A, B, by rw [e1]; rfl, ?_, fun a ha => ?_, h2⟩
      · show (if HT.lexLt x y = true then _ else _) = _
        rw [if_neg hy, e2]; rfl
      · rcases List.mem_cons.mp ha with z | z
        · rw [z]; simpa using hy
        · exact h1 a z
theorem sortL_ok : ∀ (l acc pre : List (List Int)), SrtO.Srtd HT.lexLt acc → SrtO.Stb HT.lexLt acc pre → SrtO.Srtd HT.lexLt (l.foldl (fun acc x => insL x acc) acc) ∧ SrtO.Stb HT.lexLt (l.foldl (fun acc x => insL x acc) acc) (pre ++ l)
  | [], acc, pre, h1, h2 => ⟨h1, by rw [List.append_nil]; exact h2⟩
  | x :: l, acc, pre, h1, h2 => by
    obtain ⟨A, B, e1, e2, q1, q2⟩ := insL_split x acc h1
    have g1 : SrtO.Srtd HT.lexLt (insL x acc) := by rw [e2]; exact SrtO.ins_srtd swoL (by rw [← e1]; exact h1) q1 q2
    have g2 : SrtO.Stb HT.lexLt (insL x acc) (pre ++ [x]) := by rw [e2]; exact SrtO.ins_stb swoL q2 (by rw [← e1]; exact h2)
    have := sortL_ok l (insL x acc) (pre ++ [x]) g1 g2
    rw [List.append_assoc] at this
    exact this
theorem sortL_srtd (l : List (List Int)) : SrtO.Srtd HT.lexLt (sortL l) := (sortL_ok l [] [] List.Pairwise.nil (SrtO.Stb.refl _)).1
theorem sortL_stb (l : List (List Int)) : SrtO.Stb HT.lexLt (sortL l) l := (sortL_ok l [] [] List.Pairwise.nil (SrtO.Stb.refl _)).2
theorem sortL_perm (l : List (List Int)) : (sortL l).Perm l := (sortL_stb l).perm
theorem insI_perm (x : Int) : ∀ l : List Int, (insI x l).Perm (l ++ [x])
  | [] => .refl _
  | y :: r => by
    show (if x < y then x :: y :: r else y :: insI x r).Perm _
    split
    · exact (List.perm_append_comm (l₁ := [x]) (l₂ := y :: r))
    · exact (insI_perm x r).cons y
theorem insI_sort (x : Int) : ∀ l : List Int, l.Pairwise (· ≤ ·) → (insI x l).Pairwise (· ≤ ·)
  | [], _ => List.pairwise_singleton _ _
  | y :: r, h => by
    show (if x < y then x :: y :: r else y :: insI x r).Pairwise _
    obtain ⟨h1, h2⟩ := List.pairwise_cons.mp h
    split
    · rename_i hx
      refine List.pairwise_cons.mpr ⟨fun z hz => ?_, h⟩
      rcases List.mem_cons.mp hz with e | e
      · omega
      · have := h1 z e; omega
    · rename_i hx
      refine List.pairwise_cons.mpr ⟨fun z hz => ?_, insI_sort x r h2⟩
      have hz := (insI_perm x r).mem_iff.mp hz
      rcases List.mem_append.mp hz with e | e
      · exact h1 z e
      · have : z = x := by simpa using e
        omega
theorem sortI_ok : ∀ (l acc pre : List Int), acc.Pairwise (· ≤ ·) → acc.Perm pre → (l.foldl (fun acc x => insI x acc) acc).Pairwise (· ≤ ·) ∧ (l.foldl (fun acc x => insI x acc) acc).Perm (pre ++ l)
  | [], acc, pre, h1, h2 => ⟨h1, by rw [List.append_nil]; exact h2⟩
  | x :: l, acc, pre, h1, h2 => by
    have := sortI_ok l (insI x acc) (pre ++ [x]) (insI_sort x acc h1) ((insI_perm x acc).trans (h2.append_right [x]))
    rw [List.append_assoc] at this
    exact this
theorem sortI_sort (l : List Int) : (sortI l).Pairwise (· ≤ ·) := (sortI_ok l [] [] List.Pairwise.nil (.refl _)).1
theorem sortI_perm (l : List Int) : (sortI l).Perm l := (sortI_ok l [] [] List.Pairwise.nil (.refl _)).2
theorem sorted_uniq {l m : List Int} (h1 : l.Pairwise (· ≤ ·)) (h2 : m.Pairwise (· ≤ ·)) (h : l.Perm m) : l = m := h.eq_of_pairwise (fun a b _ _ x y => Int.le_antisymm x y) h1 h2
/-! ### tuples in the heap -/
open PyProof.Rows (IntsAre IsTup)
section
variable {prog : Program} {w : World} {A : Around} {E : Value → Shared → Prop} {s : Shared} {Q : Bool → Shared → Prop}
theorem lex_any {b fin : Bool} {xs ys : List Value} {ns ms : List Int} (i : Nat) (hx : IntsAre xs ns) (hy : IntsAre ys ms) (hf : fin = true ↔ xs.length < ys.length ) (h : Q (HT.lexLt ns ms) s) : PySem.W.KatLex prog w A b fin Q (xs.zip ys) i s := by
  induction hx generalizing ys ms i with
  | nil =>
    cases hy with
    | nil =>
      have e : fin = false := by
        cases fin with
        | false => rfl
        | true => exact absurd (hf.mp rfl) (by simp)
      rw [e]
      exact PySem.W.kat_nil h
    | @cons q u ys ms hy =>
      have e : fin = true := hf.mpr (by simp)
      rw [e]
      exact PySem.W.kat_nil h
  | @cons p t xs ns hx ih =>
    cases hy with
    | nil =>
      have e : fin = false := by
        cases fin with
        | false => rfl
        | true => exact absurd (hf.mp rfl) (by simp)
      rw [e]
      exact PySem.W.kat_nil h
    | @cons q u ys ms hy =>
      refine PySem.W.kat_cons (p := Value.int p t) (q := Value.int q u) (r := xs.zip ys) (wpAny_eqBool_int ?_)
      rw [HT.lexLt_cons] at h
      by_cases e : p = q
      · subst e
        rw [if_pos rfl] at h
        rw [beq_self_eq_true]
        exact PySem.W.kat_yes (ih (i + 1) hy (by rw [hf]; simp) h)
      · rw [if_neg e] at h
        rw [show (p == q) = false from beq_eq_false_iff_ne.mpr e]
        exact PySem.W.kat_no (TS.oneLt_ints _ h)
theorem cmpT {vs : List Value} {h0 : Heap} {f : Value → List Int} (hp : ∀ v ∈ vs, TS.TupInts s.heap v (f v)) : SrtO.Cmp prog w A s (PyProof.Rows.tuples' true) (fun p => p.1 ∈ vs) (SrtO.lt2 fun v u => HT.lexLt (f v) (f u)) := by
  intro p q hm hm'
  obtain ⟨a, xs, e1, ⟨o, ho, hc, n, hd⟩, i1⟩ := hp _ hm
  obtain ⟨a', ys, e2, ⟨o', ho', hc', n', hd'⟩, i2⟩ := hp _ hm'
  show wpAny (model prog w) A (PyProof.Rows.keyLt' (PyProof.Rows.tuples' true) p.1 q.1) (fun r s' => s' = s ∧ r = HT.lexLt (f p.1) (f q.1)) (fun _ _ => False) s
  generalize f p.1 = ns at i1 ⊢
  generalize f q.1 = ms at i2 ⊢
  rw [e1, e2]
  exact PySem.W.kat_lt ho hd ho' hd' (lex_any 0 i1 i2 (by simp) ⟨rfl, rfl⟩)
theorem firstsT {h : Heap} {f : Value → List Int} : ∀ vs : List Value, (∀ v ∈ vs, TS.TupInts h v (f v) ∧ f v ≠ []) → ∃ fs, PySem.W.KatTups h vs fs ∧ fs.length = vs.length ∧ ∀ g, g ∈ fs → ∃ n t, g = Value.int n t
  | [], _ => ⟨[], PySem.W.KatTups.nil, rfl, fun g hg => by cases hg⟩
  | v :: vs, hv => by
    obtain ⟨fs, h1, h2, h3⟩ := firstsT vs fun u hu => hv u (List.mem_cons_of_mem _ hu)
    obtain ⟨⟨a, xs, rfl, ⟨o, ho, hc, n, hd⟩, i1⟩, ne⟩ := hv v (List.mem_cons_self ..)
    generalize f (.ref a) = ns at i1 ne
    cases hxs : xs.toList with
    | nil =>
      rw [hxs] at i1
      cases i1
      exact absurd rfl ne
    | cons g tl =>
      rw [hxs] at i1
      cases i1 with
      | cons m t i1 =>
        refine ⟨.int m t :: fs, PySem.W.KatTups.cons ho hc hd ?_ h1, by rw [List.length_cons, List.length_cons, h2], fun g hg => ?_⟩
        · have : xs.toList[0]? = some (Value.int m t) := by rw [hxs]; rfl
          simpa using this
        · rcases List.mem_cons.mp hg with z | z
          · exact ⟨m, t, z⟩
          · exact h3 g z
theorem sortableT {a : Addr} {vs : List Value} {f : Value → List Int} (h0 : 0 < vs.length) (hp : ∀ v ∈ vs, TS.TupInts s.heap v (f v) ∧ f v ≠ []) (ha : ∀ o, s.heap.get? a = some o → o.cls ≠ .type "tuple") : SrtO.SortableO prog w A s a vs fun v u => HT.lexLt (f v) (f u) := by
  intro h' keep
  have hp' : ∀ v ∈ vs, TS.TupInts h' v (f v) ∧ f v ≠ [] := fun v hm => ⟨(hp v hm).1.keeps fun b o e c => keep b o (fun z => by subst z; exact ha o e c) e, (hp v hm).2⟩
  obtain ⟨fs, h1, h2, h3⟩ := firstsT vs hp'
  refine ⟨PyProof.Rows.tuples' true, fun Q E hq => ?_, cmpT (h0 := h') (s := { s with heap := h' }) fun v hv => (hp' v hv).1⟩
  refine PySem.W.kat_kind (T := .type "int") h1 (by omega) (fun g hm => ?_) (by rfl) ?_
  · obtain ⟨x, t, rfl⟩ := h3 g hm
    exact PySem.W.Looks.now
  · have e : (Value.type "int" != Value.type "tuple") = true := by decide +kernel
    rw [e]
    exact hq
/-- sorted(l), l's items tuples of ints -/
theorem sortedT {E : Value → Shared → Prop} {l : Addr} {vs : List Value} {f : Value → List Int} {Q : Value → Shared → Prop} (hl : s.heap.IsList l vs.toArray) (hz : vs.length ≤ sizeLine) (hp : ∀ v ∈ vs, TS.TupInts s.heap v (f v) ∧ f v ≠ [])
    (h : ∀ (h' : Heap) (d : Addr) (out : List Value), out.Perm vs → out.map f = sortL (vs.map f) → (∀ b o, s.heap.get? b = some o → h'.get? b = some o) → s.heap.objs.size ≤ d → (∃ n, h'.get? d = some (PyProof.Rows.seqObj "list" out.toArray n)) → Q (.ref d) { s with heap := h' }) :
    wpAny (model prog w) A (call (.builtin "sorted") [.ref l]) Q E s := by
  have O : SrtO.Swo fun v u => HT.lexLt (f v) (f u) := ⟨fun x y h => lex_asym h, fun x y z h1 h2 => lex_tr h1 h2⟩
  refine SrtO.sorted_ord O hl hz (fun h2 h₁ a ha kk => ?_) fun out hs hb => ?_
  · refine sortableT (s := { s with heap := h₁ }) (by omega) (fun v hm => ⟨(hp v hm).1.keeps fun b o e _ => (kk b o e).2, (hp v hm).2⟩) fun o e c => ?_
    have e' : some o = some (PyProof.Rows.seqObj "list" vs.toArray 0) := e.symm.trans ha
    cases e'
    exact absurd (Value.type.inj c) (by decide)
  · refine h _ _ out hb.perm ?_ (fun b o e => PyProof.Rows.sortedAll_old e) (Nat.le_succ _) (PyProof.Rows.sortedAll_at s.heap vs out.toArray)
    exact SrtO.stb_uniq swoL (SrtO.srtd_map hs) (sortL_srtd _) ((SrtO.Stb.map swoL f hb).trans ⟨(sortL_perm _).symm, fun x => ((sortL_stb _).cls x).symm⟩)
end
end PM

/-! PMg: built-ins by name. -/
namespace PM
open PySem L2 PySem.Spec PyProof.Rows
/-! ### sum, max, min of a tuple of ints -/
section
variable {prog : Program} {w : World} {A : Around} {E : Value → Shared → Prop} {s : Shared} {l : Addr} {its : List Value} {ns : List Int} {Q : Value → Shared → Prop}
theorem iter_tupleI {items : Array Value} (hl : s.heap.IsTuple l items)
    (h : ∀ t : Shared, t = { s with heap := s.heap.push { cls := .type "tuple_iterator", data := .fields #[.ref l, .int 0 0] } } →
      t.heap.IsTupleIter s.heap.objs.size l 0 ∧ t.heap.IsTuple l items → (∀ b ∈ [s.heap.objs.size, l], b < t.heap.objs.size) → l ≠ s.heap.objs.size → Q (.ref s.heap.objs.size) t) : wpAny (model prog w) A (pyIter (.ref l)) Q E s := by
  obtain ⟨o, e, r⟩ := id hl
  have lt := Heap.lt_size e
  refine wpAny_pyIter_tuple hl (h _ rfl ⟨⟨_, Heap.get?_push_size _ rfl, rfl, rfl⟩, ⟨o, Heap.get?_push_of_some _ e, r⟩⟩ (fun b hb => ?_) (Nat.ne_of_lt lt))
  have sz : (s.heap.push { cls := .type "tuple_iterator", data := .fields #[.ref l, .int 0 0] }).objs.size = s.heap.objs.size + 1 := Heap.size_push ..
  show b < (s.heap.push { cls := .type "tuple_iterator", data := .fields #[.ref l, .int 0 0] }).objs.size
  rw [sz]
  rcases List.mem_cons.mp hb with z | hb
  · rw [z]; exact Nat.lt_succ_self _
  · have : b = l := by simpa using hb
    rw [this]; exact Nat.lt_succ_of_lt lt
theorem kept_of {h h' : Heap} {o : Obj} (hk : ∀ b o', b ∉ [h.objs.size] → (h.push o).get? b = some o' → h'.get? b = some o') : ∀ b o', h.get? b = some o' → h'.get? b = some o' := fun b o' e =>
  hk b o' (by
    have q := Heap.lt_size e
    intro z
    have z2 : b = h.objs.size := by simpa using z
    rw [z2] at q
    exact Nat.lt_irrefl _ q) (Heap.get?_push_of_some _ e)
theorem sum_tupleI (hh : A.handled = none) (hl : s.heap.IsTuple l its.toArray) (hi : IntsAre its ns)
    (h : ∀ h' tk t', (∀ b o, s.heap.get? b = some o → h'.get? b = some o) → Q (.int ns.sum t') { s with heap := h', toks := tk }) : wpAny (model prog w) A (call (.builtin "sum") [.ref l]) Q E s := by
  obtain ⟨xs, e⟩ := hi.allInts.items
  have hn : numsOf (intItems xs).toList = ns := by rw [← e]; exact hi.numsOf
  rw [nums_intItems] at hn
  rw [e] at hl
  refine call_sum_walkG (iter_tupleI hl fun t et st hfp hne => ?_)
  subst et
  refine ⟨_, _, _, _, _, _, numAt xs, rfl, Walks.tuple (A := A.in1) hh _ l hne (intItems xs), st, hfp, fun _ _ => intItems_at, fun h' tk t' hk => ?_⟩
  have q := h h' tk t' (kept_of hk)
  have e2 : preSum (numAt xs) (intItems xs).size = ns.sum := by
    rw [preSum_eq, show (intItems xs).size = xs.size from by simp [intItems], List.take_of_length_le (by simp), hn]
  rw [e2]
  exact q
theorem max_tupleI (hh : A.handled = none) (hl : s.heap.IsTuple l its.toArray) (hi : IntsAre its ns) (hne0 : 0 < ns.length)
    (h : ∀ h' tk m t', (∀ b o, s.heap.get? b = some o → h'.get? b = some o) → m ∈ ns → (∀ a, a ∈ ns → a ≤ m) → Q (.int m t') { s with heap := h', toks := tk }) : wpAny (model prog w) A (call (.builtin "max") [.ref l]) Q E s := by
  obtain ⟨xs, e⟩ := hi.allInts.items
  have hn : numsOf (intItems xs).toList = ns := by rw [← e]; exact hi.numsOf
  rw [nums_intItems] at hn
  subst hn
  rw [e] at hl
  have hsz : 0 < xs.size := by simpa using hne0
  refine call_max_walk (iter_tupleI hl fun t et st hfp hne => ?_)
  subst et
  refine ⟨_, _, _, _, _, _, _, rfl, Walks.tuple (A := A.in1) hh _ l hne (intItems xs), st, hfp, by simpa [intItems] using hsz, CmpOf.ints_gt (numAt xs) (fun _ _ => intItems_at), fun v h' tk hP hk => ?_⟩
  obtain ⟨t', rfl⟩ := intItems_at hP
  have sz : (intItems xs).size = xs.size := by simp [intItems]
  rw [sz]
  obtain ⟨h1, h2⟩ := argBest_gt (numAt xs) (xs.size - 1)
  refine h h' tk _ t' (kept_of hk) ?_ fun a ha => ?_
  · rw [numAt_eq]; exact PySem.getD_mem (by rw [List.length_map, Array.length_toList]; omega)
  · obtain ⟨j, hj, rfl⟩ := mem_getD ha
    rw [List.length_map, Array.length_toList] at hj
    have z := h2 j (by omega)
    rw [numAt_eq] at z
    exact z
theorem min_tupleI (hh : A.handled = none) (hl : s.heap.IsTuple l its.toArray) (hi : IntsAre its ns) (hne0 : 0 < ns.length)
    (h : ∀ h' tk m t', (∀ b o, s.heap.get? b = some o → h'.get? b = some o) → m ∈ ns → (∀ a, a ∈ ns → m ≤ a) → Q (.int m t') { s with heap := h', toks := tk }) : wpAny (model prog w) A (call (.builtin "min") [.ref l]) Q E s := by
  obtain ⟨xs, e⟩ := hi.allInts.items
  have hn : numsOf (intItems xs).toList = ns := by rw [← e]; exact hi.numsOf
  rw [nums_intItems] at hn
  subst hn
  rw [e] at hl
  have hsz : 0 < xs.size := by simpa using hne0
  refine call_min_walk (iter_tupleI hl fun t et st hfp hne => ?_)
  subst et
  refine ⟨_, _, _, _, _, _, _, rfl, Walks.tuple (A := A.in1) hh _ l hne (intItems xs), st, hfp, by simpa [intItems] using hsz, CmpOf.ints_lt (numAt xs) (fun _ _ => intItems_at), fun v h' tk hP hk => ?_⟩
  obtain ⟨t', rfl⟩ := intItems_at hP
  have sz : (intItems xs).size = xs.size := by simp [intItems]
  rw [sz]
  obtain ⟨h1, h2⟩ := argBest_lt (numAt xs) (xs.size - 1)
  refine h h' tk _ t' (kept_of hk) ?_ fun a ha => ?_
  · rw [numAt_eq]; exact PySem.getD_mem (by rw [List.length_map, Array.length_toList]; omega)
  · obtain ⟨j, hj, rfl⟩ := mem_getD ha
    rw [List.length_map, Array.length_toList] at hj
    have z := h2 j (by omega)
    rw [numAt_eq, numAt_eq] at z
    rw [numAt_eq]
    exact z
end
end PM
namespace PM
open PySem L2
section
variable {C : Cc} {W : WX} {X : Cx} {a b e : ME} {ea eb ee : Expr} {pos : Pos} {σ : St} {H : Hp} {M : Store} {w : Wd} {K : PySem.W.Frag}
/-- a built-in's call by values -/
def rBi (C : Cc) (b : BI) : List V → Hp → VK → Prop := fun vs H Q => ∃ ds M w W, Ok C.K H w M ∧ Reps C.K w ds vs ∧ After C.K C.ca W H w (bi b ds M) fun d _ H' w' => ∀ v, Rep C.K w' d v → Q v H'
def biVal : BI → Value
  | .len => .builtin "len" | .sum => .builtin "sum" | .abs => .builtin "abs" | .int => .type "int" | .repr => .builtin "repr"
  | .all => .builtin "all" | .any => .builtin "any" | .max => .builtin "max" | .min => .builtin "min"
  | .tuple => .type "tuple" | .listF => .type "list" | .listC => .type "list" | .sorted => .builtin "sorted" | .gcd => .builtin "math.gcd" | .str => .type "str" | .isa _ => .builtin "isinstance"
theorem reprOk_of {d : D} (h : reprOk d = true) : d.pure = true ∧ d.py.showable = true ∧ d.py.shown.length ≤ sizeLine ∧ d.py.depth ≤ 60 ∧ topOk d = true := by
  unfold reprOk at h
  simp only [Bool.and_eq_true, decide_eq_true_eq] at h
  obtain ⟨h1, h0, h2, h3, h4, h5⟩ := h
  exact ⟨h1, h2, Nat.le_trans (PyData.shown_le_bulk 700 (by decide) _ h3) h4, h5, h0⟩
theorem foldMax_of : ∀ {ns : List Int} {m : Int}, foldMax ns = some m → m ∈ ns ∧ ∀ y, y ∈ ns → y ≤ m := by
  intro ns m h
  cases ns with
  | nil => cases h
  | cons i r =>
    have e : r.foldl maxI i = m := Option.some.inj h
    have g : ∀ (l : List Int) (i : Int), (l.foldl maxI i = i ∨ l.foldl maxI i ∈ l) ∧ i ≤ l.foldl maxI i ∧ ∀ y ∈ l, y ≤ l.foldl maxI i := by
      intro l
      induction l with
      | nil => intro i; exact ⟨.inl rfl, Int.le_refl _, fun y hy => nomatch hy⟩
      | cons j l ih =>
        intro i
        obtain ⟨h1, h2, h3⟩ := ih (maxI i j)
        rw [List.foldl_cons]
        have hm : i ≤ maxI i j ∧ j ≤ maxI i j ∧ (maxI i j = i ∨ maxI i j = j) := by unfold maxI; split <;> omega
        refine ⟨?_, Int.le_trans hm.1 h2, fun y hy => ?_⟩
        · rcases h1 with h1 | h1
          · rw [h1]
            rcases hm.2.2 with z | z
            · exact .inl z
            · exact .inr (by rw [z]; exact List.mem_cons_self)
          · exact .inr (List.mem_cons_of_mem _ h1)
        · rcases List.mem_cons.mp hy with z | z
          · rw [z]; exact Int.le_trans hm.2.1 h2
          · exact h3 y z
    obtain ⟨h1, h2, h3⟩ := g r i
    rw [e] at h1 h2 h3
    refine ⟨?_, fun y hy => ?_⟩
    · rcases h1 with z | z
      · rw [z]; exact List.mem_cons_self
      · exact List.mem_cons_of_mem _ z
    · rcases List.mem_cons.mp hy with z | z
      · rw [z]; exact h2
      · exact h3 y z
theorem foldMin_of : ∀ {ns : List Int} {m : Int}, foldMin ns = some m → m ∈ ns ∧ ∀ y, y ∈ ns → m ≤ y := by
  intro ns m h
  cases ns with
  | nil => cases h
  | cons i r =>
    have e : r.foldl minI i = m := Option.some.inj h
    have g : ∀ (l : List Int) (i : Int), (l.foldl minI i = i ∨ l.foldl minI i ∈ l) ∧ l.foldl minI i ≤ i ∧ ∀ y ∈ l, l.foldl minI i ≤ y := by
      intro l
      induction l with
      | nil => intro i; exact ⟨.inl rfl, Int.le_refl _, fun y hy => nomatch hy⟩
      | cons j l ih =>
        intro i
        obtain ⟨h1, h2, h3⟩ := ih (minI i j)
        rw [List.foldl_cons]
        have hm : minI i j ≤ i ∧ minI i j ≤ j ∧ (minI i j = i ∨ minI i j = j) := by unfold minI; split <;> omega
        refine ⟨?_, Int.le_trans h2 hm.1, fun y hy => ?_⟩
        · rcases h1 with h1 | h1
          · rw [h1]
            rcases hm.2.2 with z | z
            · exact .inl z
            · exact .inr (by rw [z]; exact List.mem_cons_self)
          · exact .inr (List.mem_cons_of_mem _ h1)
        · rcases List.mem_cons.mp hy with z | z
          · rw [z]; exact Int.le_trans h2 hm.2.1
          · exact h3 y z
    obtain ⟨h1, h2, h3⟩ := g r i
    rw [e] at h1 h2 h3
    refine ⟨?_, fun y hy => ?_⟩
    · rcases h1 with z | z
      · rw [z]; exact List.mem_cons_self
      · exact List.mem_cons_of_mem _ z
    · rcases List.mem_cons.mp hy with z | z
      · rw [z]; exact h2
      · exact h3 y z
theorem reps1 {d : D} {vs : List V} (r : Reps K w [d] vs) : ∃ v, vs = [v] ∧ Rep K w d v := by
  obtain ⟨v, l, e, p, q⟩ := r
  exact ⟨v, by rw [e, show l = [] from q], p⟩
theorem reps2 {d c : D} {vs : List V} (r : Reps K w [d, c] vs) : ∃ v u, vs = [v, u] ∧ Rep K w d v ∧ Rep K w c u := by
  obtain ⟨v, l, e, p, u, l2, e2, p2, q⟩ := r
  exact ⟨v, u, by rw [e, e2, show l2 = [] from q], p, p2⟩
theorem seqInts (k : Ok K H w M) {x : D} {v : V} {ns : List Int} (r : Rep K w x v) (e : (seqOf x M).bind intsOf = some ns) : ∃ a, v = .ref a ∧ (SqL K H a (ns.map V.int) ∨ SqT K H a (ns.map V.int)) := by
  obtain ⟨ds, e1, e2⟩ := Option.bind_eq_some_iff.mp e
  obtain ⟨a, vs, e3, s, q⟩ := k.seq r e1
  rw [Reps.ints q e2] at s
  exact ⟨a, e3, s⟩
def tyName : Ty → String
  | .int => "int" | .bool => "bool" | .str => "str" | .tup => "tuple" | .lst => "list" | .dict => "dict"
theorem isaB (a : String) (t : Ty) (b : Bool) (h : kitB a (tyName t) = some b) : PySem.W.kitOne K (.type a) (.type (tyName t)) = some b := kit_ty h
theorem kit_all : ∀ t : Ty, kitB "NoneType" (tyName t) = some false ∧ kitB "bool" (tyName t) = some (t == .bool || t == .int) ∧ kitB "int" (tyName t) = some (t == .int) ∧ kitB "str" (tyName t) = some (t == .str) ∧
    kitB "tuple" (tyName t) = some (t == .tup) ∧ kitB "list" (tyName t) = some (t == .lst) ∧ kitB "dict" (tyName t) = some (t == .dict) := by
  intro t
  cases t <;> decide +kernel
theorem isa_ok (k : Ok K H w M) {d : D} {v : V} {t : Ty} {b : Bool} (r : Rep K w d v) (h : isa d t M = some b) : ∃ ty, TyX K H v ty ∧ PySem.W.kitOne K ty (.type (tyName t)) = some b := by
  obtain ⟨h1, h2, h3, h4, h5, h6, h7⟩ := kit_all t
  cases d with
  | non => cases h; rw [show v = .non from r]; exact ⟨_, .base .non, isaB _ _ _ h1⟩
  | bl c => cases h; rw [show v = .bl c from r]; exact ⟨_, .base (.bl _), isaB _ _ _ h2⟩
  | int c => cases h; rw [show v = .int c from r]; exact ⟨_, .base (.int _), isaB _ _ _ h3⟩
  | str c => cases h; rw [show v = .str c from r]; exact ⟨_, .base (.str _), isaB _ _ _ h4⟩
  | tup ds => cases h; obtain ⟨a, vs, e, s, q⟩ := r; rw [e]; exact ⟨_, .base (.tup (k.sub _ _ s)), isaB _ _ _ h5⟩
  | lst ds => cases h; obtain ⟨a, vs, e, s, q⟩ := r; rw [e]; exact ⟨_, .base (.lst (k.sub _ _ s)), isaB _ _ _ h6⟩
  | scr ns =>
    cases h
    obtain ⟨a, e, s⟩ := r
    rw [e]
    rcases s with (s | ⟨o, s⟩) | ⟨o, its, n, hk, hc, _⟩
    · exact ⟨_, .base (.lst (k.sub _ _ s)), isaB _ _ _ h6⟩
    · exact ⟨_, .base (.frz (k.sub _ _ s)), isaB _ _ _ h6⟩
    · exact ⟨_, .kList hk hc, isaB _ _ _ h6⟩
  | dic kvs => cases h; obtain ⟨a, l, e, s, _⟩ := r; rw [e]; exact ⟨_, .base (.dK (k.sub _ _ s)), isaB _ _ _ h7⟩
  | ref n =>
    cases q : M[n]? with
    | none => simp only [isa, q] at h; cases h
    | some c =>
      cases c with
      | lst l =>
        simp only [isa, q] at h; cases h
        obtain ⟨a, vs, e1, _, hH, _, q2⟩ := k.lstAt r q
        rw [e1]
        exact ⟨_, .base (.lst hH), isaB _ _ _ h6⟩
      | dK lk kvs =>
        simp only [isa, q] at h; cases h
        obtain ⟨a, as, e1, e2, a', l, e3, hh, _⟩ := k.cellAt r q
        cases e3
        rw [e1]
        cases lk with
        | true => obtain ⟨o, hh⟩ := hh; exact ⟨_, .fDict hh, isaB _ _ _ h7⟩
        | false => exact ⟨_, .base (.dK hh), isaB _ _ _ h7⟩
      | dT lk kvs =>
        cases lk with
        | true => simp only [isa, q] at h; cases h
        | false =>
          simp only [isa, q] at h; cases h
          obtain ⟨a, as, e1, e2, a', l, e3, hh, _⟩ := k.cellAt r q
          cases e3
          rw [e1]
          exact ⟨_, .base (.dT hh), isaB _ _ _ h7⟩
theorem pe_Isa (hK : X.K = C.K) {t : Ty} {p p2 : Pos} (hg : Gl X "isinstance") (hm : X.mg "isinstance" = none) (hg2 : Gl X (tyName t)) (hm2 : X.mg (tyName t) = none) (ha : PE X ea (tE C W a))
    (hv : bootBuiltins (tyName t : Str) = some (.type (tyName t))) (hn : (tyName t : Str) ≠ "__name__") (hd : ((tyName t : Str) == ("__debug__" : Str)) = false)
    (he : starEach [ea, .Name (tyName t) p2] X.env = [(false, eval ea X.env), (false, eval (.Name (tyName t) p2) X.env)]) : PE X (.Call (.Name "isinstance" p) [ea, .Name (tyName t) p2] [] pos) (tE C W (.bi (.isa t) [a])) := by
  have h2 : PE X (.Name (tyName t) p2) (tC (.ty (tyName t))) := pe_bltn hg2 hm2 hv rfl hn hd
  have hp : PA X [ea, .Name (tyName t) p2] (tCons (tE C W a) (tCons (tC (.ty (tyName t))) tNil)) := pa_cons ha (pa_cons h2 pa_nil rfl) (by rw [he]; rfl)
  refine peMono (pe_callB call_isi hg hm (by decide +kernel) hp (he := by rw [he]; rfl) (hpl := by rfl)) fun σ H Q h => ?_
  show tE C W a σ H fun x H1 => rIsi X.K [x, .ty (tyName t)] H1 Q
  rw [hK]
  have h' : Rd0 C W (fun env M => (evE C.F C.G a env M).bind fun x M => bi (.isa t) [x] M) σ H fun d _ H' w' _ => ∀ v, Rep C.K w' d v → Q v H' := by
    obtain ⟨env, M, w, k, eo, h⟩ := h
    refine ⟨env, M, w, k, eo, ?_⟩
    have e : evE C.F C.G (.bi (.isa t) [a]) env M = (evE C.F C.G a env M).bind fun x M => bi (.isa t) [x] M := by
      show ((evEs C.F C.G [a] env M).bind fun ds M => bi (.isa t) ds M) = _
      show (((evE C.F C.G a env M).bind fun x M => (evEs C.F C.G [] env M).bind fun xs M => .ok (x :: xs) M).bind fun ds M => bi (.isa t) ds M) = _
      rw [bind_assoc]; rfl
    rw [e] at h
    exact h
  refine one (C := C) (W := W) (r := fun x H1 Q => rIsi C.K [x, .ty (tyName t)] H1 Q) (f := fun x M => bi (.isa t) [x] M) h' fun x vx M H' w' k rx h => ?_
  obtain ⟨d, e, q⟩ := (show After C.K C.ca (fun c d H => W c d σ H) H' w' (optR ((isa x t M).map D.bl) M) _ from h).optG
  obtain ⟨b, e1, e2⟩ := Option.map_eq_some_iff.mp e
  subst e2
  obtain ⟨ty, h1, h2⟩ := isa_ok k rx e1
  exact ⟨vx, .ty (tyName t), ty, .type (tyName t), b, rfl, .ty _, h1, h2, q H' w' .refl k _ rfl⟩
theorem Ok.seqL (k : Ok K H w M) {d : D} {v : V} {ds : List D} (r : Rep K w d v) (e : seqOf d M = some ds) (hn : ∀ z, d ≠ .tup z) : ∃ a vs, v = .ref a ∧ SqL K H a vs ∧ Reps K w ds vs := by
  cases d with
  | tup xs => exact absurd rfl (hn xs)
  | lst xs =>
    cases e
    obtain ⟨a, vs, e1, s, q⟩ := r
    exact ⟨a, vs, e1, .inl (.inl (k.sub _ _ s)), q⟩
  | scr ns =>
    cases e
    obtain ⟨a, e1, s⟩ := r
    exact ⟨a, _, e1, k.sqL s, Reps.ofInts ns⟩
  | ref n =>
    cases q : M[n]? with
    | none => simp only [seqOf, q] at e; cases e
    | some c =>
      cases c with
      | lst l =>
        simp only [seqOf, q] at e; cases e
        obtain ⟨a, vs, e1, _, h, _, q2⟩ := k.lstAt r q
        exact ⟨a, vs, e1, .inl (.inl h), q2⟩
      | dK _ _ => simp only [seqOf, q] at e; cases e
      | dT _ _ => simp only [seqOf, q] at e; cases e
  | _ => cases e
theorem Ok.lstS (k : Ok K H w M) {d : D} {v : V} {ds : List D} (r : Rep K w d v) (e : lstOf d M = some ds) : ∃ a vs, v = .ref a ∧ SqL K H a vs ∧ Reps K w ds vs := by
  cases d with
  | tup xs => cases e
  | _ => exact k.seqL r (show seqOf _ M = some ds from e) (by intro z q; cases q)
theorem tup_rows {C : Cc} {X : Cx} {pins : List (Addr × Obj)} {σ : St} {H : Hp} {s : Shared} {M : Store} {w : Wd} (I : L2.Inv X pins σ H s) (k : Ok C.K H w M) : ∀ {l : List D} {ls : List (List Int)} {xs : List V} {its : List Value}, Reps C.K w l xs → Vals xs its → tupInts l = some ls →
    its.map (TS.intsOf s.heap) = ls ∧ ∀ u ∈ its, (TS.TupInts s.heap u (TS.intsOf s.heap u) ∧ TS.intsOf s.heap u ≠ []) ∧ (∃ a, u = Value.ref a) ∧ Rep C.K w (tupI (TS.intsOf s.heap u)) (L2.backV u)
  | [], ls, xs, its, r, rv, h => by
    cases h
    rw [show xs = [] from r] at rv
    cases rv
    exact ⟨rfl, fun u hu => by cases hu⟩
  | d :: l, ls, xs, its, ⟨v, xr, ex, rd, rr⟩, rv, h => by
    subst ex
    cases rv with
    | @cons _ u _ ir ru rt =>
    cases d with
    | tup ds =>
      have h : (match intsOf ds, tupInts l with
        | some (i :: l), some ls => some ((i :: l) :: ls)
        | _, _ => none) = some ls := h
      cases e1 : intsOf ds with
      | none => rw [e1] at h; cases h
      | some ns =>
        cases ns with
        | nil => rw [e1] at h; cases h
        | cons i ns =>
          cases e2 : tupInts l with
          | none => rw [e1, e2] at h; cases h
          | some l2 =>
            rw [e1, e2] at h
            cases h
            obtain ⟨h1, h2⟩ := tup_rows I k rr rt e2
            obtain ⟨a, zs, rfl, hF, hz⟩ := rd
            obtain rfl : u = Value.ref a := ru
            obtain ⟨_, its2, r2, ot⟩ := I.hok _ _ (k.sub _ _ hF)
            have ez := Reps.ints hz e1
            subst ez
            have ti : TS.TupInts s.heap (.ref a) (i :: ns) := ⟨a, its2.toArray, rfl, ot, by simpa using L2.Vals.ints r2⟩
            have ei : TS.intsOf s.heap (.ref a) = i :: ns := ti.ints
            refine ⟨by rw [List.map_cons, ei, h1], fun u hu => ?_⟩
            rcases List.mem_cons.mp hu with z | z
            · subst z
              rw [ei]
              refine ⟨⟨ti, List.cons_ne_nil _ _⟩, ⟨a, rfl⟩, a, _, rfl, hF, ?_⟩
              rw [← intsOf_eq e1]
              exact hz
            · exact h2 u z
    | _ => cases h
theorem reps_map {α : Type} {K : PySem.W.Frag} {w : Wd} {f : α → D} {g : α → V} : ∀ {l : List α}, (∀ u ∈ l, Rep K w (f u) (g u)) → Reps K w (l.map f) (l.map g)
  | [], _ => rfl
  | u :: l, h => ⟨g u, l.map g, rfl, h u (List.mem_cons_self ..), reps_map fun v hv => h v (List.mem_cons_of_mem _ hv)⟩
theorem cr_Sorted {C : Cc} {X : Cx} (hK : X.K = C.K) : CallR X (.builtin "sorted") (rBi C .sorted) := by
  intro pins s σ H vs us Q I rv h
  obtain ⟨ds, M, w, W', k, dr, h⟩ := h
  cases ds with
  | nil => exact h.elim
  | cons x tl =>
    cases tl with
    | cons _ _ => exact h.elim
    | nil =>
      obtain ⟨v, rfl, rx⟩ := reps1 dr
      have h : After C.K C.ca W' H w (match lstOf x M with
        | some ds => match intsOf ds with
          | some ns => Res.ok (D.lst ((sortI ns).map .int)) M
          | none => match tupInts ds with
            | some ls => Res.ok (D.lst ((sortL ls).map tupI)) M
            | none => .no
        | none => .no) (fun d _ H' w' => ∀ v, Rep C.K w' d v → Q v H') := h
      cases e : lstOf x M with
      | none => rw [e] at h; exact h.elim
      | some l =>
        rw [e] at h
        obtain ⟨a, xs, rfl, sq, rr⟩ := k.lstS rx e
        cases e1 : intsOf l with
        | some ns =>
          simp only [e1] at h
          refine cr_sortedI pins s σ H [.ref a] us Q I rv ⟨a, ns, rfl, by rw [hK, ← Reps.ints rr e1]; exact sq, fun ns' p q1 q2 hp => ?_⟩
          rw [sorted_uniq q2 (sortI_sort ns) (q1.trans (sortI_perm ns).symm)]
          exact newL k (Reps.ofInts (sortI ns)) (fun H' w' g k' v rv => h H' w' g k' v rv) p hp
        | none =>
          simp only [e1] at h
          cases e2 : tupInts l with
          | none => rw [e2] at h; exact h.elim
          | some ls =>
            rw [e2] at h
            obtain ⟨us', rfl, ru⟩ : ∃ us', us = Value.ref a :: us' ∧ Vals [] us' := by
              cases rv with
              | cons r rr =>
                obtain rfl := (show _ = Value.ref a from r)
                exact ⟨_, rfl, rr⟩
            cases ru
            obtain ⟨its, rvi, hl, hz⟩ := I.list (by rw [hK]; exact sq)
            obtain ⟨r1, r2⟩ := tup_rows I k rr rvi e2
            refine sortedT (f := TS.intsOf s.heap) hl.isList (by rw [← rvi.length]; exact hz) (fun u hu => (r2 u hu).1) fun h' d out q1 q2 kp hd hn => ?_
            obtain ⟨n, hn⟩ := hn
            have hout : ∀ u ∈ out, u ∈ its := fun u hu => q1.mem_iff.mp hu
            have rp : Reps C.K w ((sortL ls).map tupI) (out.map L2.backV) := by
              rw [← r1, ← q2, List.map_map]
              exact reps_map (f := tupI ∘ TS.intsOf s.heap) fun u hu => (r2 u (hout u hu)).2.2
            refine ⟨.ref d, upd H d (.lst (out.map L2.backV)), I.laid (t' := s.toks) kp hd ⟨?_, out, n, L2.vals_back fun u hu => (r2 u (hout u hu)).2.1, hn⟩, rfl, newL k rp (fun H' w' g k' v rv => h H' w' g k' v rv) d (I.hok.fresh hd)⟩
            rw [List.length_map, q1.length_eq, ← rvi.length]
            exact hz
theorem cr_Bi (hK : X.K = C.K) (hc : X.calm = true) (hg : X.A.guards = some []) (hu : X.A.units + 64 < cLine) (b : BI) (hb : ∀ t, b ≠ .isa t) : CallR X (biVal b) (rBi C b) := by
  intro pins s σ H vs us Q I r h
  obtain ⟨ds, M, w, W', k, rs, h⟩ := h
  have hh := I.ok.hd hc
  cases b with
  | len =>
    cases ds with
    | nil => exact False.elim h
    | cons x tl =>
      cases tl with
      | cons _ _ => exact False.elim h
      | nil =>
        obtain ⟨v, e1, rv⟩ := reps1 rs
        subst e1
        by_cases hs : ∃ z, x = .str z
        · obtain ⟨z, rfl⟩ := hs
          have h : After C.K C.ca W' H w (if lineOk z.length then .ok (.int z.length) M else .no) (fun d _ H' w' => ∀ v, Rep C.K w' d v → Q v H') := h
          obtain ⟨h1, h2⟩ := h.ifG
          exact call_len_str pins s σ H _ us Q I r ⟨z, by rw [show v = .str z from rv], of_decide_eq_true h1, h2.here k _ rfl⟩
        · have e : bi .len [x] M = optR ((seqOf x M).map fun ds => D.int ds.length) M := by
            cases x <;> first
              | rfl
              | exact absurd ⟨_, rfl⟩ hs
          rw [e] at h
          obtain ⟨d, e2, q⟩ := h.optG
          obtain ⟨l, e3, e4⟩ := Option.map_eq_some_iff.mp e2
          subst e4
          obtain ⟨a, vs, e5, sq, q2⟩ := k.seq rv e3
          rw [← hK] at sq
          refine call_len_seq pins s σ H _ us Q I r ⟨a, vs, by rw [e5], sq, ?_⟩
          rw [q2.len]
          exact q H w .refl k _ rfl
  | sum =>
    cases ds with
    | nil => exact False.elim h
    | cons x tl =>
      cases tl with
      | cons _ _ => exact False.elim h
      | nil =>
        obtain ⟨v, e1, rv⟩ := reps1 rs
        subst e1
        obtain ⟨d, e2, q⟩ := (show After C.K C.ca W' H w (optR (((seqOf x M).bind intsOf).map fun ns => D.int ns.sum) M) _ from h).optG
        obtain ⟨ns, e3, e4⟩ := Option.map_eq_some_iff.mp e2
        subst e4
        obtain ⟨a, e5, sq⟩ := seqInts k rv e3
        subst e5
        rw [← hK] at sq
        have q := q H w .refl k _ rfl
        rcases sq with sq | sq
        · exact cr_sum hc pins s σ H _ us Q I r ⟨a, ns, rfl, sq, q⟩
        · obtain ⟨its, r2, p, hz⟩ := I.tuple sq
          rw [Vals.ref1 r]
          exact sum_tupleI hh (show s.heap.IsTuple a its.toArray from p) r2.ints fun h' tk t' hk => ⟨.int _, H, I.kept hk, ⟨_, rfl⟩, q⟩
  | abs =>
    cases ds with
    | nil => exact False.elim h
    | cons x tl =>
      cases tl with
      | cons _ _ => cases x <;> exact False.elim h
      | nil =>
        obtain ⟨v, e1, rv⟩ := reps1 rs
        subst e1
        cases x with
        | int i => exact call_abs pins s σ H _ us Q I r ⟨i, by rw [show v = .int i from rv], (show After C.K C.ca W' H w (.ok (D.int (absI i)) M) _ from h).here k _ rfl⟩
        | _ => exact False.elim h
  | str =>
    cases ds with
    | nil => exact False.elim h
    | cons x tl =>
      cases tl with
      | cons _ _ => cases x <;> exact False.elim h
      | nil =>
        obtain ⟨v, e1, rv⟩ := reps1 rs
        subst e1
        cases x with
        | int i =>
          obtain ⟨h1, h2⟩ := (show After C.K C.ca W' H w (if decide (i.natAbs.log2 < 1920) then .ok (D.str (toString i)) M else .no) _ from h).ifG
          exact call_str_int pins s σ H _ us Q I r ⟨i, by rw [show v = .int i from rv], of_decide_eq_true h1, h2.here k _ rfl⟩
        | _ => exact False.elim h
  | int =>
    cases ds with
    | nil => exact False.elim h
    | cons x tl =>
      cases tl with
      | cons _ _ => cases x <;> exact False.elim h
      | nil =>
        obtain ⟨v, e1, rv⟩ := reps1 rs
        subst e1
        cases x with
        | int i => exact call_int1 pins s σ H _ us Q I r (.inl ⟨i, by rw [show v = .int i from rv], (show After C.K C.ca W' H w (.ok (D.int i) M) _ from h).here k _ rfl⟩)
        | bl i => exact call_int1 pins s σ H _ us Q I r (.inr ⟨i, by rw [show v = .bl i from rv], (show After C.K C.ca W' H w (.ok (D.int (if i then 1 else 0)) M) _ from h).here k _ rfl⟩)
        | _ => exact False.elim h
  | repr =>
    cases ds with
    | nil => exact False.elim h
    | cons x tl =>
      cases tl with
      | cons _ _ => exact False.elim h
      | nil =>
        obtain ⟨v, e1, rv⟩ := reps1 rs
        subst e1
        obtain ⟨h1, h2⟩ := (show After C.K C.ca W' H w (if reprOk (res x M) then .ok (D.str (res x M).py.shown) M else .no) _ from h).ifG
        obtain ⟨p1, p2, p3, p4, nd⟩ := reprOk_of h1
        have q := h2.here k _ rfl
        obtain ⟨u, eu, ru⟩ := vals1 r
        subst eu
        have k' : Ok X.K H w M := hK ▸ k
        have fin : ∀ (t : Tok), EP X pins σ Q (.str (res x M).py.shown t) { s with toks := s.toks + 1 } := fun t => ⟨.str _, H, I.tok _, ⟨t, rfl⟩, q⟩
        cases hy : res x M with
        | non =>
          have ex : x = .non := res_own hy (by intro _ z; cases z)
          subst ex
          have eu : u = Value.none := by rw [show v = .non from rv] at ru; exact ru
          subst eu
          rw [hy] at q
          exact PySem.P.repr_of_none ⟨.str _, H, I.tok _, ⟨_, rfl⟩, q⟩
        | bl b =>
          have ex : x = .bl b := res_own hy (by intro _ z; cases z)
          subst ex
          have eu : u = Value.bool b := by rw [show v = .bl b from rv] at ru; exact ru
          subst eu
          rw [hy] at q
          exact PySem.P.repr_of_bool ⟨.str _, H, I.tok _, ⟨_, rfl⟩, q⟩
        | int i =>
          have ex : x = .int i := res_own hy (by intro _ z; cases z)
          subst ex
          obtain ⟨t, eu⟩ : ∃ t, u = Value.int i t := by rw [show v = .int i from rv] at ru; exact ru
          subst eu
          rw [hy] at q p2
          exact PySem.P.repr_of_int (of_decide_eq_true p2) ⟨.str _, H, I.tok _, ⟨_, rfl⟩, q⟩
        | str z =>
          have ex : x = .str z := res_own hy (by intro _ z; cases z)
          subst ex
          obtain ⟨t, eu⟩ : ∃ t, u = Value.str z t := by rw [show v = .str z from rv] at ru; exact ru
          subst eu
          rw [hy] at q p3
          exact PySem.P.repr_of_str ⟨.str _, H, I.tok _, ⟨_, rfl⟩, q⟩ p3
        | tup l =>
          have ex : x = .tup l := res_own hy (by intro _ z; cases z)
          subst ex
          rw [hy] at p1 p2 p3 p4 q
          exact repr_tup I k' p1 (hK ▸ rv) ru p2 p3 hg (by omega) (fun h' t tk kp => ⟨.str _, H, I.kept kp, ⟨_, rfl⟩, q⟩)
        | lst l =>
          obtain ⟨a, vs, e5, sq5, rr5⟩ := k'.resL (hK ▸ rv) hy
          obtain eu : u = Value.ref a := by rw [e5] at ru; exact ru
          subst eu
          rw [hy] at p1 p2 p3 p4 q
          exact repr_lst I k' p1 (.inl (.inl sq5)) rr5 p2 p3 hg (by omega) (fun h' t tk kp => ⟨.str _, H, I.kept kp, ⟨_, rfl⟩, q⟩)
        | scr ns => rw [hy] at p1; exact absurd (show false = true from p1) (by decide)
        | ref n => rw [hy] at p1; exact absurd (show false = true from p1) (by decide)
        | dic l =>
          rw [hy] at nd
          exact absurd (show false = true from nd) (by decide)
  | all =>
    cases ds with
    | nil => exact False.elim h
    | cons x tl =>
      cases tl with
      | cons _ _ => exact False.elim h
      | nil =>
        obtain ⟨v, e1, rv⟩ := reps1 rs
        subst e1
        obtain ⟨d, e2, q⟩ := (show After C.K C.ca W' H w (optR (((lstOf x M).bind blsOf).map fun bs => D.bl (bs.all id)) M) _ from h).optG
        obtain ⟨bs, e3, e4⟩ := Option.map_eq_some_iff.mp e2
        subst e4
        obtain ⟨l, e5, e6⟩ := Option.bind_eq_some_iff.mp e3
        obtain ⟨a, vs, e7, sq, q2⟩ := k.lstS rv e5
        rw [Reps.bls q2 e6, ← hK] at sq
        subst e7
        have q := q H w .refl k _ rfl
        exact cr_all hc pins s σ H _ us Q I r ⟨a, bs, rfl, sq, q⟩
  | any =>
    cases ds with
    | nil => exact False.elim h
    | cons x tl =>
      cases tl with
      | cons _ _ => exact False.elim h
      | nil =>
        obtain ⟨v, e1, rv⟩ := reps1 rs
        subst e1
        obtain ⟨d, e2, q⟩ := (show After C.K C.ca W' H w (optR (((lstOf x M).bind blsOf).map fun bs => D.bl (bs.any id)) M) _ from h).optG
        obtain ⟨bs, e3, e4⟩ := Option.map_eq_some_iff.mp e2
        subst e4
        obtain ⟨l, e5, e6⟩ := Option.bind_eq_some_iff.mp e3
        obtain ⟨a, vs, e7, sq, q2⟩ := k.lstS rv e5
        rw [Reps.bls q2 e6, ← hK] at sq
        subst e7
        have q := q H w .refl k _ rfl
        exact cr_any hc pins s σ H _ us Q I r ⟨a, bs, rfl, sq, q⟩
  | max =>
    cases ds with
    | nil => exact False.elim h
    | cons x tl =>
      cases tl with
      | nil =>
        obtain ⟨v, e1, rv⟩ := reps1 rs
        subst e1
        obtain ⟨d, e2, q⟩ := (show After C.K C.ca W' H w (optR (((seqOf x M).bind intsOf).bind fun ns => (foldMax ns).map D.int) M) _ from (by cases x <;> exact h)).optG
        obtain ⟨ns, e3, e4⟩ := Option.bind_eq_some_iff.mp e2
        obtain ⟨m, e5, e6⟩ := Option.map_eq_some_iff.mp e4
        subst e6
        obtain ⟨a, e7, sq⟩ := seqInts k rv e3
        subst e7
        obtain ⟨m1, m2⟩ := foldMax_of e5
        rw [← hK] at sq
        have q := q H w .refl k _ rfl
        have hne : 0 < ns.length := List.length_pos_of_mem m1
        have one : ∀ m', m' ∈ ns → (∀ y, y ∈ ns → y ≤ m') → m' = m := fun m' h1 h2 => Int.le_antisymm (m2 m' h1) (h2 m m1)
        rcases sq with sq | sq
        · exact cr_max hc pins s σ H _ us Q I r ⟨a, ns, rfl, sq, hne, fun m' h1 h2 => by rw [one m' h1 h2]; exact q⟩
        · obtain ⟨its, r2, p, hz⟩ := I.tuple sq
          rw [Vals.ref1 r]
          exact max_tupleI hh (show s.heap.IsTuple a its.toArray from p) r2.ints hne fun h' tk m' t' hk h1 h2 => ⟨.int _, H, I.kept hk, ⟨_, rfl⟩, by rw [one m' h1 h2]; exact q⟩
      | cons y tl =>
        cases tl with
        | cons _ _ => cases x <;> cases y <;> exact False.elim h
        | nil =>
          obtain ⟨v, u, e1, rv, ru⟩ := reps2 rs
          subst e1
          cases x with
          | int i =>
            cases y with
            | int j =>
              have q := (show After C.K C.ca W' H w (.ok (D.int (maxI i j)) M) _ from h).here k _ rfl
              exact call_max2 hc pins s σ H _ us Q I r ⟨i, j, by rw [show v = .int i from rv, show u = .int j from ru], q⟩
            | _ => exact False.elim h
          | _ => cases y <;> exact False.elim h
  | min =>
    cases ds with
    | nil => exact False.elim h
    | cons x tl =>
      cases tl with
      | nil =>
        obtain ⟨v, e1, rv⟩ := reps1 rs
        subst e1
        obtain ⟨d, e2, q⟩ := (show After C.K C.ca W' H w (optR (((seqOf x M).bind intsOf).bind fun ns => (foldMin ns).map D.int) M) _ from (by cases x <;> exact h)).optG
        obtain ⟨ns, e3, e4⟩ := Option.bind_eq_some_iff.mp e2
        obtain ⟨m, e5, e6⟩ := Option.map_eq_some_iff.mp e4
        subst e6
        obtain ⟨a, e7, sq⟩ := seqInts k rv e3
        subst e7
        obtain ⟨m1, m2⟩ := foldMin_of e5
        rw [← hK] at sq
        have q := q H w .refl k _ rfl
        have hne : 0 < ns.length := List.length_pos_of_mem m1
        have one : ∀ m', m' ∈ ns → (∀ y, y ∈ ns → m' ≤ y) → m' = m := fun m' h1 h2 => Int.le_antisymm (h2 m m1) (m2 m' h1)
        rcases sq with sq | sq
        · exact cr_min hc pins s σ H _ us Q I r ⟨a, ns, rfl, sq, hne, fun m' h1 h2 => by rw [one m' h1 h2]; exact q⟩
        · obtain ⟨its, r2, p, hz⟩ := I.tuple sq
          rw [Vals.ref1 r]
          exact min_tupleI hh (show s.heap.IsTuple a its.toArray from p) r2.ints hne fun h' tk m' t' hk h1 h2 => ⟨.int _, H, I.kept hk, ⟨_, rfl⟩, by rw [one m' h1 h2]; exact q⟩
      | cons y tl =>
        cases tl with
        | cons _ _ => cases x <;> cases y <;> exact False.elim h
        | nil =>
          obtain ⟨v, u, e1, rv, ru⟩ := reps2 rs
          subst e1
          cases x with
          | int i =>
            cases y with
            | int j =>
              have q := (show After C.K C.ca W' H w (.ok (D.int (minI i j)) M) _ from h).here k _ rfl
              exact call_min2 hc pins s σ H _ us Q I r ⟨i, j, by rw [show v = .int i from rv, show u = .int j from ru], q⟩
            | _ => exact False.elim h
          | _ => cases y <;> exact False.elim h
  | tuple =>
    cases ds with
    | nil => exact False.elim h
    | cons x tl =>
      cases tl with
      | cons _ _ => exact False.elim h
      | nil =>
        obtain ⟨v, e1, rv⟩ := reps1 rs
        subst e1
        obtain ⟨d, e2, q⟩ := (show After C.K C.ca W' H w (optR ((seqOf x M).map D.tup) M) _ from h).optG
        obtain ⟨l, e3, e4⟩ := Option.map_eq_some_iff.mp e2
        subst e4
        by_cases ht : ∃ z, x = .tup z
        · obtain ⟨z, rfl⟩ := ht
          cases e3
          obtain ⟨a, vs, e5, s1, q1⟩ := rv
          exact call_tuple_of pins s σ H _ us Q I r ⟨a, vs, by rw [e5], .inr ⟨hK ▸ k.sqT s1, q H w .refl k _ ⟨a, vs, rfl, s1, q1⟩⟩⟩
        · obtain ⟨a, vs, e5, sq, q2⟩ := k.seqL rv e3 (fun z e => ht ⟨z, e⟩)
          exact call_tuple_of pins s σ H _ us Q I r ⟨a, vs, by rw [e5], .inl ⟨hK ▸ sq, newT (P := fun _ _ => True) k q2 q⟩⟩
  | listF =>
    cases ds with
    | nil => exact False.elim h
    | cons x tl =>
      cases tl with
      | cons _ _ => exact False.elim h
      | nil =>
        obtain ⟨v, e1, rv⟩ := reps1 rs
        subst e1
        obtain ⟨d, e2, q⟩ := (show After C.K C.ca W' H w (optR ((seqOf x M).map D.lst) M) _ from h).optG
        obtain ⟨l, e3, e4⟩ := Option.map_eq_some_iff.mp e2
        subst e4
        obtain ⟨a, vs, e5, sq, q2⟩ := k.seq rv e3
        rw [← hK] at sq
        exact call_list_of pins s σ H _ us Q I r ⟨a, vs, by rw [e5], sq, newL k q2 q⟩
  | listC =>
    cases ds with
    | nil => exact False.elim h
    | cons x tl =>
      cases tl with
      | cons _ _ => exact False.elim h
      | nil =>
        obtain ⟨v, e1, rv⟩ := reps1 rs
        subst e1
        have e : bi .listC [x] M = (match seqOf x M with
          | some ds => if D.pures ds then .ok (.ref M.length) (M ++ [.lst ds]) else .no
          | none => .no) := rfl
        rw [e] at h
        cases e3 : seqOf x M with
        | none => rw [e3] at h; exact False.elim h
        | some l =>
          rw [e3] at h
          obtain ⟨h1, h2⟩ := (show After C.K C.ca W' H w (if D.pures l = true then .ok (D.ref M.length) (M ++ [Cell.lst l]) else .no) _ from h).ifG
          obtain ⟨a, vs, e5, sq, q2⟩ := k.seq rv e3
          rw [← hK] at sq
          exact call_list_of pins s σ H _ us Q I r ⟨a, vs, by rw [e5], sq, newC k q2 h1 h2⟩
  | sorted => exact cr_Sorted hK pins s σ H vs us Q I r ⟨ds, M, w, W', k, rs, h⟩
  | gcd =>
    cases ds with
    | nil => exact False.elim h
    | cons x tl =>
      cases tl with
      | nil => cases x <;> exact False.elim h
      | cons y tl =>
        cases tl with
        | cons _ _ => cases x <;> cases y <;> exact False.elim h
        | nil =>
          obtain ⟨v, u, e1, rv, ru⟩ := reps2 rs
          subst e1
          cases x with
          | int i =>
            cases y with
            | int j =>
              have q := (show After C.K C.ca W' H w (.ok (D.int (Nat.gcd i.natAbs j.natAbs : Nat)) M) _ from h).here k _ rfl
              exact cr_gcd pins s σ H _ us Q I r ⟨i, j, by rw [show v = .int i from rv, show u = .int j from ru], q⟩
            | _ => exact False.elim h
          | _ => cases y <;> exact False.elim h
  | isa t => exact absurd rfl (hb t)
end
end PM

/-! PMh: calls of built-ins, methods of lists, stores into cells. -/
namespace PM
open PySem L2
section
variable {C : Cc} {W : WX} {X : Cx} {a b e : ME} {ea eb ee : Expr} {pos : Pos} {σ : St} {H : Hp} {M : Store} {w : Wd} {K : PySem.W.Frag}
theorem pe_Bi (hK : X.K = C.K) (hc : X.calm = true) (hg : X.A.guards = some []) (hu : X.A.units + 64 < cLine) {b : BI} (hb : ∀ t, b ≠ .isa t) {x : Str} {id : String} {p : Pos} {es : List Expr} {l : List ME} (hid : biVal b = .builtin id)
    (hgl : Gl X x) (hm : X.mg x = none) (hv : bootBuiltins x = some (.builtin id)) (hn : x ≠ "__name__") (hd : (x == ("__debug__" : Str)) = false) (ha : PA X (ea :: es) (tA C W l))
    (he : starEach (ea :: es) X.env = (false, eval ea X.env) :: starEach es X.env) (hpl : (backTo pos (starEach es X.env)).any (·.1) = false) : PE X (.Call (.Name x p) (ea :: es) [] pos) (tE C W (.bi b l)) :=
  peMono (pe_callB (hid ▸ cr_Bi hK hc hg hu b hb) hgl hm hv ha hn hd he hpl) fun σ H Q h =>
    tA_bind (C := C) (W := W) (f := fun ds M => bi b ds M) h fun ds vs M H w k rs h => ⟨ds, M, w, _, k, rs, h⟩
theorem pe_BiTy (hK : X.K = C.K) (hc : X.calm = true) (hg : X.A.guards = some []) (hu : X.A.units + 64 < cLine) {b : BI} (hb : ∀ t, b ≠ .isa t) {x : Str} {id : String} {p : Pos} {es : List Expr} {l : List ME} (hid : biVal b = .type id)
    (hgl : Gl X x) (hm : X.mg x = none) (hv : bootBuiltins x = some (.type id)) (hn : x ≠ "__name__") (hd : (x == ("__debug__" : Str)) = false) (ha : PA X (ea :: es) (tA C W l))
    (he : starEach (ea :: es) X.env = (false, eval ea X.env) :: starEach es X.env) (hpl : (backTo pos (starEach es X.env)).any (·.1) = false) : PE X (.Call (.Name x p) (ea :: es) [] pos) (tE C W (.bi b l)) :=
  peMono (pe_callTy (hid ▸ cr_Bi hK hc hg hu b hb) hgl hm hv ha hn hd he hpl) fun σ H Q h =>
    tA_bind (C := C) (W := W) (f := fun ds M => bi b ds M) h fun ds vs M H w k rs h => ⟨ds, M, w, _, k, rs, h⟩
theorem pe_BiG (hK : X.K = C.K) (hc : X.calm = true) (hg : X.A.guards = some []) (hu : X.A.units + 64 < cLine) {b : BI} (hb : ∀ t, b ≠ .isa t) {x : Str} {id : String} {p : Pos} {es : List Expr} {l : List ME} (hid : biVal b = .builtin id)
    (hgl : Gl X x) (hm : X.mg x = some (.builtin id)) (hd : (x == ("__debug__" : Str)) = false) (ha : PA X (ea :: es) (tA C W l))
    (he : starEach (ea :: es) X.env = (false, eval ea X.env) :: starEach es X.env) (hpl : (backTo pos (starEach es X.env)).any (·.1) = false) : PE X (.Call (.Name x p) (ea :: es) [] pos) (tE C W (.bi b l)) :=
  peMono (pe_callBfun (hid ▸ cr_Bi hK hc hg hu b hb) hgl hm ha hd he hpl) fun σ H Q h =>
    tA_bind (C := C) (W := W) (f := fun ds M => bi b ds M) h fun ds vs M H w k rs h => ⟨ds, M, w, _, k, rs, h⟩
/-! ### methods of lists -/
def rMi (C : Cc) (m : MI) : V → List V → Hp → VK → Prop := fun vx vs H Q => ∃ x ds M w W, Ok C.K H w M ∧ Rep C.K w x vx ∧ Reps C.K w ds vs ∧ After C.K C.ca W H w (mi m x ds M) fun d _ H' w' => ∀ v, Rep C.K w' d v → Q v H'
def miId : MI → String
  | .append => "list.append" | .extend => "list.extend" | .pop => "list.pop" | .popAt => "list.pop" | .count => "list.count"
/-- a cell's list is written -/
theorem Ok.setL (k : Ok K H w M) {n : Nat} {p : Addr} {ds : List D} {vs : List V} (e : w.ow[n]? = some [p]) (r : Reps K w.fz ds vs) : Ok K (upd H p (.lst vs)) w (M.set n (.lst ds)) := k.set e ⟨p, vs, rfl, upd_same, r⟩
theorem Rep.fz {d : D} {v : V} (r : Rep K w d v) (p : d.pure = true) : Rep K w.fz d v := Rep.drop (w := w) (w1 := w.fz) (fun _ _ h => h) d v p r
theorem Reps.fz {d : List D} {v : List V} (r : Reps K w d v) (p : D.pures d = true) : Reps K w.fz d v := Reps.drop (w := w) (w1 := w.fz) (fun _ _ h => h) d v p r
theorem Rep.unfz {d : D} {v : V} (r : Rep K w.fz d v) : Rep K w d v := Rep.mono (w := w.fz) (w1 := w) (fun _ _ h => h) ⟨w.ow, rfl⟩ d v r
theorem Reps.erase {ds : List D} {vs : List V} (k : Nat) (r : Reps K w ds vs) : Reps K w (ds.eraseIdx k) (vs.eraseIdx k) := by
  rw [List.eraseIdx_eq_take_drop_succ, List.eraseIdx_eq_take_drop_succ]
  exact (r.take k).append (r.drop' (k + 1))
theorem Reps.dl {ds : List D} {vs : List V} (r : Reps K w ds vs) : Reps K w ds.dropLast vs.dropLast := by
  rw [List.dropLast_eq_take, List.dropLast_eq_take, r.len]
  exact r.take _
theorem mt_Mi (hK : X.K = C.K) (m : MI) : MtR X (miId m) (rMi C m) := by
  intro pins s σ H vx vs v us Q I rx rs h
  obtain ⟨x, ds, M, w, W', k, dx, dr, h⟩ := h
  have cnt : ∀ (l : List D) (a : Addr) (xs : List V) (j : Int) (u : V), vx = .ref a → SqL C.K H a xs → Reps C.K w l xs → m = .count → vs = [u] → u = .int j → ∀ ns, intsOf l = some ns → Q (.int (countI ns j)) H →
      wpAny (model X.prog X.w) X.A (call (.builtin (miId m)) (v :: us)) (EP X pins σ Q) X.xe s := by
    intro l a xs j u e1 sq q1 hm e2 e3 ns hi q
    subst hm
    rw [Reps.ints q1 hi, ← hK] at sq
    exact mt_lcount pins s σ H vx vs v us Q I rx rs ⟨a, ns, j, e1, by rw [e2, e3], sq, q⟩
  cases x with
  | lst l =>
    cases m with
    | count =>
      cases ds with
      | nil => exact False.elim h
      | cons d tl =>
        cases tl with
        | cons _ _ => cases d <;> exact False.elim h
        | nil =>
          cases d with
          | int j =>
            obtain ⟨u, e2, ru⟩ := reps1 dr
            cases hi : intsOf l with
            | none =>
              have e : mi .count (.lst l) [.int j] M = .no := by simp only [mi, hi]
              rw [e] at h; exact False.elim h
            | some ns =>
              have e : mi .count (.lst l) [.int j] M = .ok (.int (countI ns j)) M := by simp only [mi, hi]
              rw [e] at h
              obtain ⟨a, xs, e1, s1, q1⟩ := dx
              exact cnt l a xs j u e1 (.inl (.inl (k.sub _ _ s1))) q1 rfl e2 ru ns hi (h.here k _ rfl)
          | _ => exact False.elim h
    | _ => exact False.elim (by cases ds <;> exact h)
  | ref n =>
    cases q : M[n]? with
    | none =>
      have e : mi m (.ref n) ds M = .no := by cases m <;> simp only [mi, q]
      rw [e] at h; exact False.elim h
    | some c =>
      cases c with
      | dK _ _ =>
        have e : mi m (.ref n) ds M = .no := by cases m <;> simp only [mi, q]
        rw [e] at h; exact False.elim h
      | dT _ _ =>
        have e : mi m (.ref n) ds M = .no := by cases m <;> simp only [mi, q]
        rw [e] at h; exact False.elim h
      | lst l =>
        obtain ⟨a, xs, e1, eo, hH, q1, q2⟩ := k.lstAt dx q
        have hlen : xs.length = l.length := q2.len
        cases m with
        | append =>
          cases ds with
          | nil => simp only [mi, q] at h; exact False.elim h
          | cons d tl =>
            cases tl with
            | cons _ _ => simp only [mi, q] at h; exact False.elim h
            | nil =>
              simp only [mi, q] at h
              obtain ⟨h1, h2⟩ := h.ifG
              rw [Bool.and_eq_true, decide_eq_true_eq] at h1
              obtain ⟨u, e2, ru⟩ := reps1 dr
              refine mt_append pins s σ H vx vs v us Q I rx rs ⟨a, xs, u, e1, e2, hH, by omega, ?_⟩
              exact h2 _ w (grow_set k _ eo (nfz hH fun _ _ z => nomatch z)) (k.setL eo (q1.snoc (ru.fz h1.1))) _ rfl
        | extend =>
          cases ds with
          | nil => simp only [mi, q] at h; exact False.elim h
          | cons d tl =>
            cases tl with
            | cons _ _ => cases d <;> (simp only [mi, q] at h; exact False.elim h)
            | nil =>
              cases d with
              | lst ys =>
                simp only [mi, q] at h
                obtain ⟨h1, h2⟩ := h.ifG
                rw [Bool.and_eq_true] at h1
                obtain ⟨u, e2, ru⟩ := reps1 dr
                obtain ⟨b, us2, e3, s3, q3⟩ := ru
                have hl2 := of_decide_eq_true h1.2
                refine mt_extend pins s σ H vx vs v us Q I rx rs ⟨a, b, xs, us2, e1, by rw [e2, e3], hH, k.sub _ _ s3, by rw [q3.len, hlen]; exact hl2, ?_⟩
                exact h2 _ w (grow_set k _ eo (nfz hH fun _ _ z => nomatch z)) (k.setL eo (q1.append (q3.fz h1.1))) _ rfl
              | _ => simp only [mi, q] at h; exact False.elim h
        | pop =>
          cases ds with
          | cons _ _ => simp only [mi, q] at h; exact False.elim h
          | nil =>
            simp only [mi, q] at h
            cases hd : l[l.length - 1]? with
            | none => simp only [hd] at h; exact False.elim h
            | some d =>
              simp only [hd] at h
              obtain ⟨u, hu, ru⟩ := Reps.at q1 hd
              refine mt_pop pins s σ H vx vs v us Q I rx rs ⟨a, xs, u, e1, dr, hH, by rw [hlen]; exact hu, ?_⟩
              exact h _ w (grow_set k _ eo (nfz hH fun _ _ z => nomatch z)) (k.setL eo q1.dl) _ ru.unfz
        | popAt =>
          cases ds with
          | nil => simp only [mi, q] at h; exact False.elim h
          | cons d tl =>
            cases tl with
            | cons _ _ => cases d <;> (simp only [mi, q] at h; exact False.elim h)
            | nil =>
              cases d with
              | int i =>
                simp only [mi, q] at h
                cases hi : ixN l.length i with
                | none => simp only [hi] at h; exact False.elim h
                | some j =>
                  simp only [hi] at h
                  cases hd : l[j]? with
                  | none => simp only [hd] at h; exact False.elim h
                  | some d =>
                    simp only [hd] at h
                    obtain ⟨u, hu, ru⟩ := Reps.at q1 hd
                    obtain ⟨t, e2, rt⟩ := reps1 dr
                    obtain ⟨z1, z2, z3, z4⟩ := ixN_seq hi
                    have hz : l.length ≤ sizeLine := by
                      obtain ⟨z, _⟩ := I.hok a _ hH
                      rw [← hlen]; exact z
                    have hs := sizeLine_eq
                    refine mt_popAt pins s σ H vx vs v us Q I rx rs ⟨a, xs, i, j, u, e1, by rw [e2, show t = .int i from rt], hH, by omega, by omega, by rw [hlen]; exact z1, hu, ?_⟩
                    exact h _ w (grow_set k _ eo (nfz hH fun _ _ z => nomatch z)) (k.setL eo (q1.erase j)) _ ru.unfz
              | _ => simp only [mi, q] at h; exact False.elim h
        | count =>
          cases ds with
          | nil => simp only [mi, q] at h; exact False.elim h
          | cons d tl =>
            cases tl with
            | cons _ _ => cases d <;> (simp only [mi, q] at h; exact False.elim h)
            | nil =>
              cases d with
              | int j =>
                simp only [mi, q] at h
                obtain ⟨u, e2, ru⟩ := reps1 dr
                cases hi : intsOf l with
                | none => simp only [hi] at h; exact False.elim h
                | some ns =>
                  simp only [hi] at h
                  exact cnt l a xs j u e1 (.inl (.inl hH)) q2 rfl e2 ru ns hi (h.here k _ rfl)
              | _ => simp only [mi, q] at h; exact False.elim h
  | _ => exact False.elim (by cases m <;> cases ds <;> exact h)
end
end PM

/-! PMi: method calls, targets, stores, calls of defs. -/
namespace PM
open PySem L2
section
variable {C : Cc} {W : WX} {X : Cx} {a b e : ME} {ea eb ee : Expr} {pos apos : Pos} {σ : St} {H : Hp} {M : Store} {w : Wd} {K : PySem.W.Frag}
theorem lst_ty (k : Ok K H w M) {x : D} {v : V} (r : Rep K w x v) (h : (lstOf x M).isSome = true) : tyV K "list" v H := by
  cases e : lstOf x M with
  | none => rw [e] at h; cases h
  | some ds =>
    obtain ⟨a, vs, e1, s, q⟩ := k.lstS r e
    rw [e1]
    exact .inl ⟨rfl, vs, s⟩
def miName : MI → Str
  | .append => "append" | .extend => "extend" | .pop => "pop" | .popAt => "pop" | .count => "count"
theorem me_read (hK : X.K = C.K) {m : MI} {l : List ME} {Q : VK} (h : tE C W (.me m a l) σ H Q) : tBM X.K "list" (rMi C m) (tE C W a) (tA C W l) σ H Q := by
  rw [hK]
  refine (Rd0.bind (f := fun x env M => if (lstOf x M).isSome = true then (evEs C.F C.G l env M).bind fun ds M => mi m x ds M else .no) h).imp fun x M1 H1 w1 env k1 e1 h1 v rv => ?_
  obtain ⟨h2, h3⟩ := h1.ifG
  exact ⟨lst_ty k1 rv h2, env, M1, w1, k1, e1, h3.bind.imp fun ds M2 H2 w2 g2 k2 h4 vs rs => ⟨x, ds, M2, w2, _, k2, rv.grow g2, rs, h4⟩⟩
theorem pe_Me (hK : X.K = C.K) {m : MI} {es : List Expr} {l : List ME} (ho : PE X ee (tE C W e)) (ha : PA X (ea :: es) (tA C W l)) (hbase : attributeBase ee (miName m) X.env (eval ee X.env) = eval ee X.env)
    (hfew : ((backTo pos (starEach (ea :: es) X.env)).all (fun x => !x.1) && (backToKw pos (keywordEach [] X.env)).all (fun x => x.1.isSome) && decide ((ea :: es).length + ([] : List Keyword).length + (if ([] : List Keyword).isEmpty then 0 else 1) < 30)) = true)
    (hline : (apos.endLine == pos.line) = true) (hs : starEach (ea :: es) X.env = (false, eval ea X.env) :: starEach es X.env) (hpl : (backTo pos (starEach es X.env)).any (·.1) = false) :
    PE X (.Call (.Attribute ee (miName m) apos) (ea :: es) [] pos) (tE C W (.me m e l)) := by
  have go : ∀ {id : String} (sl : Slot "list" (miName m) id) (hty : typeOf (.builtin id) = pure (.type "method_descriptor")), id = miId m → PE X (.Call (.Attribute ee (miName m) apos) (ea :: es) [] pos) (tE C W (.me m e l)) := fun {id} sl hty hi =>
    peMono (pe_bm PySem.F.plainAttrs_list sl hty (hi ▸ mt_Mi hK m) ho ha hbase hfew hline hs hpl) fun σ H Q h => me_read hK h
  cases m with
  | append => exact go PySem.F.slot_list_append PySem.F.type_list_append rfl
  | extend => exact go PySem.F.slot_list_extend PySem.F.type_list_extend rfl
  | pop => exact go PySem.F.slot_list_pop PySem.F.type_list_pop rfl
  | popAt => exact go PySem.F.slot_list_pop PySem.F.type_list_pop rfl
  | count => exact go PySem.F.slot_list_count PySem.F.type_list_count rfl
theorem pe_Me0 (hK : X.K = C.K) {m : MI} (ho : PE X ee (tE C W e)) (hbase : attributeBase ee (miName m) X.env (eval ee X.env) = eval ee X.env) (hline : (apos.endLine == pos.line) = true) :
    PE X (.Call (.Attribute ee (miName m) apos) [] [] pos) (tE C W (.me m e [])) := by
  have rd : ∀ σ H Q, tE C W (.me m e []) σ H Q → tBM0 X.K "list" (rMi C m) (tE C W e) σ H Q := fun σ H Q h => by
    have h := me_read hK h
    refine (show tE C W e σ H _ → tE C W e σ H _ from fun q => ?_) h
    exact Rd0.imp q fun x M1 H1 w1 env k1 e1 h1 v rv => by
      obtain ⟨z1, z2⟩ := h1 v rv
      refine ⟨z1, ?_⟩
      obtain ⟨env2, M2, w2, k2, e2, h2⟩ := z2
      exact (show After C.K C.ca (fun c d H => W c d σ H) H1 w2 (.ok ([] : List D) M2) _ from h2).here k2 [] rfl
  have go : ∀ {id : String} (sl : Slot "list" (miName m) id) (hty : typeOf (.builtin id) = pure (.type "method_descriptor")), id = miId m → PE X (.Call (.Attribute ee (miName m) apos) [] [] pos) (tE C W (.me m e [])) := fun {id} sl hty hi =>
    peMono (pe_bm0 PySem.F.plainAttrs_list sl hty (hi ▸ mt_Mi hK m) ho hbase hline) rd
  cases m with
  | append => exact go PySem.F.slot_list_append PySem.F.type_list_append rfl
  | extend => exact go PySem.F.slot_list_extend PySem.F.type_list_extend rfl
  | pop => exact go PySem.F.slot_list_pop PySem.F.type_list_pop rfl
  | popAt => exact go PySem.F.slot_list_pop PySem.F.type_list_pop rfl
  | count => exact go PySem.F.slot_list_count PySem.F.type_list_count rfl
/-! ### a def's call -/
/-- a def's promise: what the small language says of it -/
def spF (K : PySem.W.Frag) (ca : Nat → Addr) (F : Fns) (n f : Nat) : Sp := fun vs H Q E => ∃ ds M w, Ok K H w M ∧ Reps K w ds vs ∧ ds.length = n ∧ After K ca (fun c d H => E c d H) H w (F f ds M) fun d _ H' w' => ∀ v, Rep K w' d v → Q v H'
/-- a def keeps a promise where no repr is being made -/
structure FnG (P : Program) (w : World) (K : PySem.W.Frag) (mg : Str → Option Value) (base : Heap) (k : Nat) (f : Addr) (fd : FuncData) (ps : List Str) (sp : Sp) : Prop where
  len : ∀ vs H Q E, sp vs H Q E → vs.length = ps.length
  run : ∀ (A : Around) (outer : List Env) (s : Shared) (H : Hp) (args : Args) (us : List Value) (vs : List V) (Q : VK) (E : XK), Room k A → A.guards = some [] → Env0 P w K mg base A outer s H → BindsTo s fd args (ps.zip us) → Vals vs us → sp vs H Q E →
    codeAny (model P w) A (.call (.ref f) args) (CR (L2.CX P w) outer P w H s Q E) s
theorem run_G {k : Nat} {f : Addr} {fd : FuncData} {ps : List Str} {sp : Sp} {pins : List (Addr × Obj)} {s : Shared} {Q : VK} {us : List Value} {vs : List V} (F : FnG X.prog X.w X.K X.mg X.base k f fd ps sp) (hr : Room k X.A) (hg : X.A.guards = some [])
    (hb : Binds X.K fd ps []) (tk : Takes X W) (I : L2.Inv X pins σ H s) (r : Vals vs us) (h : sp vs H Q fun c d H => W c d σ H) : wpAny (model X.prog X.w) X.A (call (.ref f) us) (EP X pins σ Q) X.xe s := by
  have b := hb s us I.kIn (by rw [List.append_nil, ← r.length]; exact F.len _ _ _ _ h)
  rw [List.append_nil] at b
  refine wpAny_call (codeAny_mono (F.run X.A X.stack s H ⟨us, []⟩ us vs Q _ hr hg I.env0 b r h) fun rs s' hq => ?_)
  match rs, hq with
  | .error e, hq => exact passAt tk σ pins H s e s' I hq
  | .ok (.ret u), hq => exact I.after hq
  | .ok .next, hq => exact False.elim hq
  | .ok .brk, hq => exact False.elim hq
  | .ok .cont, hq => exact False.elim hq
theorem call_read {f n : Nat} {l : List ME} {Q : VK} {σ : St} {H : Hp} (hl : l.length = n) (h : tE C W (.call f l) σ H Q) : tA C W l σ H fun vs H1 => spF C.K C.ca C.F n f vs H1 Q fun c d H => W c d σ H := by
  have hlen : ∀ (l : List ME) env M ds M', evEs C.F C.G l env M = .ok ds M' → ds.length = l.length := by
    intro l
    induction l with
    | nil => intro env M ds M' e; cases e; rfl
    | cons x l ih =>
      intro env M ds M' e
      have e : ((evE C.F C.G x env M).bind fun d M => (evEs C.F C.G l env M).bind fun xs M => .ok (d :: xs) M) = .ok ds M' := e
      cases h1 : evE C.F C.G x env M with
      | ok d M1 =>
        rw [h1] at e
        have e : ((evEs C.F C.G l env M1).bind fun xs M => .ok (d :: xs) M) = .ok ds M' := e
        cases h2 : evEs C.F C.G l env M1 with
        | ok xs M2 =>
          rw [h2] at e
          have e : Res.ok (d :: xs) M2 = .ok ds M' := e
          cases e
          rw [List.length_cons, List.length_cons, ih _ _ _ _ h2]
        | ex _ _ _ => rw [h2] at e; cases e
        | no => rw [h2] at e; cases e
      | ex _ _ _ => rw [h1] at e; cases e
      | no => rw [h1] at e; cases e
  obtain ⟨env, M, w, k, eo, h⟩ := h
  refine ⟨env, M, w, k, eo, ?_⟩
  have h : After C.K C.ca (fun c d H => W c d σ H) H w ((evEs C.F C.G l env M).bind fun ds M => C.F f ds M) (fun d _ H' w' => ∀ v, Rep C.K w' d v → Q v H') := h
  cases e : evEs C.F C.G l env M with
  | ok ds M1 =>
    rw [e] at h
    exact fun H1 w1 g k1 vs rs => ⟨ds, M1, w1, k1, rs, by rw [hlen l env M ds M1 e, hl], After.grow g h⟩
  | ex c v M1 => rw [e] at h; exact h
  | no => rw [e] at h; exact h
theorem pe_Call (hK : X.K = C.K) {k f n : Nat} {fa : Addr} {fd : FuncData} {ps : List Str} {x : Str} {p : Pos} {es : List Expr} {l : List ME} (F : FnG X.prog X.w X.K X.mg X.base k fa fd ps (spF C.K C.ca C.F n f)) (hr : Room k X.A) (hg : X.A.guards = some []) (hb : Binds X.K fd ps [])
    (tk : Takes X W) (hgl : Gl X x) (hm : X.mg x = some (.ref fa)) (hk : PySem.W.keepIn X.K (.ref fa) = true) (hl : l.length = n) (hd : (x == ("__debug__" : Str)) = false) (ha : PA X (ea :: es) (tA C W l))
    (he : starEach (ea :: es) X.env = (false, eval ea X.env) :: starEach es X.env) (hpl : (backTo pos (starEach es X.env)).any (·.1) = false) : PE X (.Call (.Name x p) (ea :: es) [] pos) (tE C W (.call f l)) := by
  refine ⟨fun pins s σ H Q I h => ?_⟩
  have h := call_read hl h
  refine wpAny_Call_Name_kw (ld_glob I hgl hm ?_ hd)
  exact PySem.W.callWith_K (h₀ := X.base) I.ok.mod.kin hk (thn (ha.run pos pins s σ H _ I h) fun us s1 ⟨vs, H1, I1, r, q⟩ => ⟨I1.kIn, run_G F hr hg hb tk I1 r q⟩) he hpl
/-! ### stores -/
def rSet (C : Cc) : V → V → V → Hp → (Hp → Prop) → Prop := fun vo vi vx H Q => ∃ o i x M w M', Ok C.K H w M ∧ Rep C.K w o vo ∧ Rep C.K w i vi ∧ Rep C.K w x vx ∧ setD o i x M = some M' ∧ ∀ H' w', Grow H w H' w' → Ok C.K H' w' M' → Q H'
theorem Reps.set {d : D} {v : V} (rd : Rep K w d v) : ∀ {ds : List D} {vs : List V} (j : Nat), Reps K w ds vs → Reps K w (ds.set j d) (vs.set j v)
  | [], vs, _, r => by rw [show vs = [] from r]; exact rfl
  | x :: ds, vs, 0, ⟨u, l, e, p, q⟩ => by rw [e]; exact ⟨v, l, rfl, rd, q⟩
  | x :: ds, vs, j + 1, ⟨u, l, e, p, q⟩ => by rw [e]; exact ⟨u, l.set j v, rfl, p, Reps.set rd j q⟩
theorem KvOk.put {κ : Type} [DecidableEq κ] {K : PySem.W.Frag} {w : Wd} (k : κ) {d : D} {v : V} (rd : Rep K w d v) {kvs : List (κ × D)} {l : List (κ × V)} (r : KvOk K w kvs l) : KvOk K w (putOf kvs k d) (putK l k v) := by
  have any : ∀ {kvs : List (κ × D)} {l : List (κ × V)}, KvOk K w kvs l → (l.any fun kv => decide (kv.1 = k)) = kvs.any fun kv => decide (kv.1 = k) := by
    intro kvs
    induction kvs with
    | nil => intro l r; rw [show l = [] from r]; rfl
    | cons p kvs ih =>
      intro l r
      obtain ⟨q, d'⟩ := p
      obtain ⟨v', l', e, _, t⟩ := r
      rw [e, List.any_cons, List.any_cons, ih t]
  unfold putOf putK
  rw [any r]
  by_cases hc : (kvs.any fun kv => decide (kv.1 = k)) = true
  · rw [if_pos hc, if_pos hc]
    clear hc
    induction kvs generalizing l with
    | nil => rw [show l = [] from r]; exact rfl
    | cons p kvs ih =>
      obtain ⟨q, d'⟩ := p
      obtain ⟨v', l', e, p', t⟩ := r
      rw [e, List.map_cons, List.map_cons]
      by_cases hq : q = k
      · rw [if_pos hq, if_pos hq]
        exact ⟨v, _, rfl, rd, ih t⟩
      · rw [if_neg hq, if_neg hq]
        exact ⟨v', _, rfl, p', ih t⟩
  · rw [if_neg hc, if_neg hc]
    clear hc
    induction kvs generalizing l with
    | nil => rw [show l = [] from r]; exact ⟨v, [], rfl, rd, rfl⟩
    | cons p kvs ih =>
      obtain ⟨q, d'⟩ := p
      obtain ⟨v', l', e, p', t⟩ := r
      rw [e]
      exact ⟨v', _, rfl, p', ih t⟩
theorem set_All (hK : X.K = C.K) (hu : X.A.units + 1 < cLine) : PSet X (rSet C) := by
  intro pins s σ H vo vi vx ov iv u Q I ro ri rx h
  obtain ⟨o, i, x, M, w, M', k, dO, di, dx, e, q⟩ := h
  unfold setD at e
  by_cases hp : D.pure x = true
  · rw [if_pos hp] at e
    have fx : Rep C.K w.fz x vx := dx.fz hp
    cases o with
    | ref n =>
      cases qc : M[n]? with
      | none => simp only [qc] at e; cases e
      | some c =>
        cases c with
        | lst l =>
          cases i with
          | int j =>
            simp only [qc] at e
            obtain ⟨jj, e1, e2⟩ := Option.map_eq_some_iff.mp e
            subst e2
            obtain ⟨a, xs, e3, eo, hH, q1, q2⟩ := k.lstAt dO qc
            exact set_list pins s σ H vo vi vx ov iv u Q I ro ri rx ⟨a, xs, j, jj, e3, di, hH, by rw [q2.len]; exact e1, q _ w (grow_set k _ eo (nfz hH fun _ _ z => nomatch z)) (k.setL eo (q1.set fx jj))⟩
          | _ => simp only [qc] at e; cases e
        | dK lk kvs =>
          cases lk with
          | true => simp only [qc] at e; cases e
          | false =>
            simp only [qc] at e
            obtain ⟨kk, e1, e2⟩ := Option.bind_eq_some_iff.mp e
            by_cases hl : kvs.length < sizeLine
            · rw [if_pos hl] at e2
              cases e2
              obtain ⟨a, as, e3, eo, a', l, e4, hH, t⟩ := k.cellAt dO qc
              cases e4
              subst e3
              obtain rfl : ov = Value.ref a := ro
              have hH : H a = some (.dK l) := hH
              refine d_setItem hu I (.inl ⟨l, kk, hH, kV_of di e1, by rw [t.len]; exact hl, rfl⟩) ri rx fun s' I' => ⟨_, I', q _ w (grow_set k _ eo (nfz hH fun _ _ z => nomatch z)) (k.set eo ⟨a, _, rfl, upd_same, t.put kk fx⟩)⟩
            · rw [if_neg hl] at e2; cases e2
        | dT lk kvs =>
          cases lk with
          | true => cases i <;> (simp only [qc] at e; cases e)
          | false =>
            cases i with
            | tup ks =>
              simp only [qc] at e
              obtain ⟨kk, e1, e2⟩ := Option.bind_eq_some_iff.mp e
              by_cases hl : kvs.length < sizeLine
              · rw [if_pos hl] at e2
                cases e2
                obtain ⟨a, as, e3, eo, a', l, e4, hH, t⟩ := k.cellAt dO qc
                cases e4
                subst e3
                obtain rfl : ov = Value.ref a := ro
                have hH : H a = some (.dT l) := hH
                obtain ⟨b, vs, e5, s5, q5⟩ := di
                refine d_setItem hu I (.inr ⟨l, kk, b, hH, e5, by rw [← kVs_of q5 e1]; exact k.sub _ _ s5, by rw [t.len]; exact hl, rfl⟩) ri rx fun s' I' => ⟨_, I', q _ w (grow_set k _ eo (nfz hH fun _ _ z => nomatch z)) (k.set eo ⟨a, _, rfl, upd_same, t.put kk fx⟩)⟩
              · rw [if_neg hl] at e2; cases e2
            | _ => simp only [qc] at e; cases e
    | _ => cases e
  · rw [if_neg hp] at e; cases e
end
end PM

/-! PMj: targets; what a loop walks. -/
namespace PM
open PySem L2
mutual
def slT : MT → List Nat
  | .nm i => [i]
  | .tp ts => slTs ts
termination_by structural t => t
def slTs : List MT → List Nat
  | [] => []
  | t :: ts => slT t ++ slTs ts
termination_by structural t => t
end
/-- only the slots vs have changed -/
def SameOut (vs : List Nat) (σ σ' : St) : Prop := σ'.length = σ.length ∧ ∀ i : Nat, i ∉ vs → σ'[i]? = σ[i]?
theorem SameOut.refl {vs : List Nat} {σ : St} : SameOut vs σ σ := ⟨rfl, fun _ _ => rfl⟩
theorem SameOut.trans {vs us : List Nat} {σ σ1 σ2 : St} (h : SameOut vs σ σ1) (g : SameOut us σ1 σ2) : SameOut (vs ++ us) σ σ2 :=
  ⟨g.1.trans h.1, fun i hi => by
    rw [List.mem_append, not_or] at hi
    exact (g.2 i hi.2).trans (h.2 i hi.1)⟩
theorem wipe_get {σ : St} {i : Nat} : ∀ {vs : List Nat}, i ∈ vs → i < σ.length → (L2.wipe σ vs)[i]? = some none
  | [], h, _ => by cases h
  | v :: vs, h, hl => by
    show ((L2.wipe σ vs).set v none)[i]? = _
    by_cases e : v = i
    · subst e
      rw [List.getElem?_set_self (by rw [wipe_length]; exact hl)]
    · rw [List.getElem?_set_ne e]
      rcases List.mem_cons.mp h with z | z
      · exact absurd z.symm e
      · exact wipe_get z hl
theorem wipe_ext {σ σ' : St} {vs : List Nat} (h : SameOut vs σ σ') : L2.wipe σ' vs = L2.wipe σ vs := by
  apply List.ext_getElem?
  intro i
  by_cases hi : i ∈ vs
  · by_cases hl : i < σ.length
    · rw [wipe_get hi hl, wipe_get hi (by rw [h.1]; exact hl)]
    · rw [List.getElem?_eq_none (by rw [wipe_length, h.1]; omega), List.getElem?_eq_none (by rw [wipe_length]; omega)]
  · rw [wipe_out hi, wipe_out hi, h.2 i hi]
theorem wipe_same {σ : St} {vs : List Nat} : SameOut vs σ (L2.wipe σ vs) := ⟨wipe_length _ _, fun i hi => wipe_out hi⟩
theorem SameOut.sub {vs us : List Nat} {σ σ' : St} (h : SameOut vs σ σ') (hs : ∀ i ∈ vs, i ∈ us) : SameOut us σ σ' := ⟨h.1, fun i hi => h.2 i fun z => hi (hs i z)⟩
section
variable (C : Cc)
def tG (t : MT) : TG := fun v σ H Q => ∃ d env env' M w, Ok C.K H w M ∧ EnvOk C.K w env σ ∧ Rep C.K w d v ∧ stoT t d env = some env' ∧ ∀ σ', EnvOk C.K w env' σ' → SameOut (slT t) σ σ' → Q σ' H
def tGs (ts : List MT) : TGs := fun vs σ H Q => ∃ ds env env' M w, Ok C.K H w M ∧ EnvOk C.K w env σ ∧ Reps C.K w ds vs ∧ stoTs ts ds env = some env' ∧ ∀ σ', EnvOk C.K w env' σ' → SameOut (slTs ts) σ σ' → Q σ' H
end
section
variable {C : Cc} {W : WX} {X : Cx} {pos : Pos}
theorem pgMono {e : Expr} {t t' : TG} (h : PG X e t) (ht : ∀ v σ H Q, t' v σ H Q → t v σ H Q) : PG X e t' := ⟨fun pins s σ H v u Q I r q => h.run pins s σ H v u Q I r (ht _ _ _ _ q)⟩
theorem pgsMono {e : List Expr} {t t' : TGs} (h : PGs X e t) (ht : ∀ v σ H Q, t' v σ H Q → t v σ H Q) : PGs X e t' := ⟨fun pins s σ H v u Q I r q => h.run pins s σ H v u Q I r (ht _ _ _ _ q)⟩
theorem pg_Nm {i : Nat} {x : Str} (hN : X.N.Nodup) (hi : X.N[i]? = some x) (hx : Loc X.env.scope x) (hf : X.fn x = true ∨ X.env.scope.names.lookup x = some .local) : PG X (.Name x pos) (tG C (.nm i)) :=
  pgMono (pg_name hN hi hx hf) fun v σ H Q ⟨d, env, env', M, w, k, eo, r, hs, q⟩ => by
    have hs : (if i < env.length then some (env.set i (some d)) else none) = some env' := hs
    by_cases hl : i < env.length
    · rw [if_pos hl] at hs
      cases hs
      refine q _ (eo.set r) ⟨List.length_set, fun j hj => ?_⟩
      rw [List.getElem?_set_ne fun z => hj (by rw [z]; exact List.mem_singleton_self _)]
    · rw [if_neg hl] at hs; cases hs
theorem pgs_Nil : PGs X [] (tGs C []) := pgsMono pgs_nil fun vs σ H Q ⟨ds, env, env', M, w, k, eo, r, hs, q⟩ => by
  cases ds with
  | nil => cases hs; exact ⟨r, q σ eo .refl⟩
  | cons d ds => cases hs
theorem pgs_Cons {e : Expr} {es : List Expr} {t : MT} {ts : List MT} (h1 : PG X e (tG C t)) (h2 : PGs X es (tGs C ts)) (hs : (assignEach (e :: es) X.env).map (·.2) = assign e X.env :: (assignEach es X.env).map (·.2)) : PGs X (e :: es) (tGs C (t :: ts)) :=
  pgsMono (pgs_cons h1 h2 hs) fun vs σ H Q ⟨ds, env, env', M, w, k, eo, r, hs, q⟩ => by
    cases ds with
    | nil => cases hs
    | cons d ds =>
      obtain ⟨v, vr, e1, rd, rr⟩ := r
      have hs : ((stoT t d env).bind fun env' => stoTs ts ds env') = some env' := hs
      obtain ⟨env1, z1, z2⟩ := Option.bind_eq_some_iff.mp hs
      exact ⟨v, vr, e1, d, env, env1, M, w, k, eo, rd, z1, fun σ1 eo1 so1 => ⟨ds, env1, env', M, w, k, eo1, rr, z2, fun σ2 eo2 so2 => q σ2 eo2 (so1.trans so2)⟩⟩
theorem stoTs_len : ∀ {ts : List MT} {ds : List D} {env env' : EnvD}, stoTs ts ds env = some env' → ds.length = ts.length
  | [], [], _, _, _ => rfl
  | [], _ :: _, _, _, h => by cases h
  | _ :: _, [], _, _, h => by cases h
  | t :: ts, d :: ds, env, env', h => by
    have h : ((stoT t d env).bind fun env' => stoTs ts ds env') = some env' := h
    obtain ⟨env1, z1, z2⟩ := Option.bind_eq_some_iff.mp h
    rw [List.length_cons, List.length_cons, stoTs_len z2]
theorem pg_Tp (hK : X.K = C.K) {es : List Expr} {ts : List MT} {j : Nat} (hc : X.calm = true) (h : PGs X es (tGs C ts)) (hn : (assignEach es X.env).length = ts.length) (hst : (assignEach es X.env).findIdx? (·.1) = none) : PG X (.Tuple es j pos) (tG C (.tp ts)) :=
  pgMono (pg_tup hc h hn hst) fun v σ H Q ⟨d, env, env', M, w, k, eo, r, hs, q⟩ => by
    cases d with
    | tup ds =>
      obtain ⟨a, vs, e1, s, rr⟩ := r
      have hs : stoTs ts ds env = some env' := hs
      exact ⟨a, vs, e1, by rw [hK]; exact k.sqT s, by rw [rr.len, stoTs_len hs], ds, env, env', M, w, k, eo, rr, hs, q⟩
    | _ => cases hs
end
/-! ### what is walked -/
structure Later (w w' : Wd) : Prop where
  fz : ∀ a o, w.Fz a = some o → w'.Fz a = some o
  ow : ∃ l, w'.ow = w.ow ++ l
theorem Later.refl {w : Wd} : Later w w := ⟨fun _ _ h => h, ⟨[], (List.append_nil _).symm⟩⟩
theorem Later.trans {w w1 w2 : Wd} (h : Later w w1) (g : Later w1 w2) : Later w w2 := ⟨fun a o e => g.fz a o (h.fz a o e), by
  obtain ⟨l, e⟩ := h.ow
  obtain ⟨l', e'⟩ := g.ow
  exact ⟨l ++ l', by rw [e', e, List.append_assoc]⟩⟩
theorem Grow.later {H H' : Hp} {w w' : Wd} (g : Grow H w H' w') : Later w w' := ⟨g.fz, g.ow⟩
theorem Rep.later {K : PySem.W.Frag} {w w' : Wd} {d : D} {v : V} (l : Later w w') (r : Rep K w d v) : Rep K w' d v := Rep.mono l.fz l.ow d v r
theorem Reps.later {K : PySem.W.Frag} {w w' : Wd} {d : List D} {v : List V} (l : Later w w') (r : Reps K w d v) : Reps K w' d v := Reps.mono l.fz l.ow d v r
/-- the iterator gives out the source's items, while its cells stand still -/
structure Wkd (K : PySem.W.Frag) (J : It) (s : Src) (w0 : Wd) : Prop where
  go : ∀ i H w M, i < s.items.length → Ok K H w M → Later w0 w → s.ok M = true → J.go i H
  stop : ∀ H w M, Ok K H w M → Later w0 w → s.ok M = true → J.stop s.items.length H
  yld : ∀ i H w M x H', i < s.items.length → Ok K H w M → Later w0 w → s.ok M = true → J.yld i H x H' → ∃ d w', s.items[i]? = some d ∧ Grow H w H' w' ∧ Ok K H' w' M ∧ Rep K w' d x
section
variable (C : Cc) (W : WX)
def tI (it : MIt) : TI := fun σ H R => Rd0 C W (evIt C.F C.G it) σ H fun s _ H' w' _ => ∀ J, Wkd C.K J s w' → R J H'
end
section
variable {C : Cc} {W : WX} {X : Cx} {pos : Pos} {tg : Expr} {H : Hp} {M : Store} {w : Wd} {K : PySem.W.Frag}
theorem piMono {tg e : Expr} {t t' : TI} (h : PI X tg e t) (ht : ∀ σ H R, t' σ H R → t σ H R) : PI X tg e t' := ⟨fun pins s σ H R I q => h.run pins s σ H R I (ht _ _ _ q)⟩
theorem pi_Or {tg e : Expr} {t u : TI} (h : PI X tg e t) (g : PI X tg e u) : PI X tg e (fun σ H R => t σ H R ∨ u σ H R) := ⟨fun pins s σ H R I q => by
  rcases q with q | q
  · exact h.run pins s σ H R I q
  · exact g.run pins s σ H R I q⟩
/-- a source: a list (no tuple), which stands as long as its cell does -/
theorem srcL_of {x : D} {v : V} {s : Src} (r : Rep K w x v) (e : srcSeq x M = some s) (k : Ok K H w M) (hx : ∀ ds, x ≠ .tup ds) : s.ok M = true ∧ ∃ a, v = .ref a ∧ ∀ H' w' M', Ok K H' w' M' → Later w w' → s.ok M' = true → ∃ vs, SqL K H' a vs ∧ Reps K w' s.items vs := by
  cases x with
  | tup ds => exact absurd rfl (hx ds)
  | lst ds =>
    cases e
    obtain ⟨a, vs, e1, z, q⟩ := r
    exact ⟨rfl, a, e1, fun H' w' M' k' l _ => ⟨vs, .inl (.inl (k'.sub _ _ (l.fz _ _ z))), q.later l⟩⟩
  | ref n =>
    unfold srcSeq at e
    cases q : M[n]? with
    | none => simp only [q] at e; cases e
    | some c =>
      cases c with
      | lst ds =>
        simp only [q] at e
        cases e
        obtain ⟨a, vs, e1, eo, hH, q1, q2⟩ := k.lstAt r q
        refine ⟨by show (List.all _ _) = true; simp [q], a, e1, fun H' w' M' k' l ok => ?_⟩
        have ok : ([(n, Cell.lst ds)].all fun p => decide (M'[p.1]? = some p.2)) = true := ok
        have em : M'[n]? = some (.lst ds) := by simpa using ok
        obtain ⟨a', vs', e1', eo', hH', q1', q2'⟩ := k'.lstAt (r.later l) em
        cases e1.symm.trans e1'
        exact ⟨vs', .inl (.inl hH'), q2'⟩
      | dK _ _ => simp only [q] at e; cases e
      | dT _ _ => simp only [q] at e; cases e
  | _ => cases e
theorem wkd_seqL {a : Addr} {s : Src} (h : ∀ H' w' M', Ok K H' w' M' → Later w w' → s.ok M' = true → ∃ vs, SqL K H' a vs ∧ Reps K w' s.items vs) : Wkd K (Itl K a) s w where
  go := fun i H w M hi k l ok => by
    obtain ⟨vs, sq, r⟩ := h H w M k l ok
    exact ⟨vs, vs[i]'(by rw [r.len]; exact hi), sq, by rw [List.getElem?_eq_getElem]⟩
  stop := fun H w M k l ok => by
    obtain ⟨vs, sq, r⟩ := h H w M k l ok
    exact ⟨vs, sq, by rw [r.len]; exact Nat.le_refl _⟩
  yld := fun i H w M x H' hi k l ok y => by
    obtain ⟨vs, sq, r⟩ := h H w M k l ok
    obtain ⟨e, y⟩ := y
    subst e
    obtain ⟨v, h1, h2⟩ := r.at (i := i) (d := s.items[i]) (List.getElem?_eq_getElem hi)
    cases (y vs sq).symm.trans h1
    exact ⟨_, w, List.getElem?_eq_getElem hi, .refl, k, h2⟩
theorem wkd_seqT {a : Addr} {s : Src} (h : ∀ H' w' M', Ok K H' w' M' → Later w w' → ∃ vs, SqT K H' a vs ∧ Reps K w' s.items vs) : Wkd K (Itt K a) s w where
  go := fun i H w M hi k l ok => by
    obtain ⟨vs, sq, r⟩ := h H w M k l
    exact ⟨vs, vs[i]'(by rw [r.len]; exact hi), sq, by rw [List.getElem?_eq_getElem]⟩
  stop := fun H w M k l ok => by
    obtain ⟨vs, sq, r⟩ := h H w M k l
    exact ⟨vs, sq, by rw [r.len]; exact Nat.le_refl _⟩
  yld := fun i H w M x H' hi k l ok y => by
    obtain ⟨vs, sq, r⟩ := h H w M k l
    obtain ⟨e, y⟩ := y
    subst e
    obtain ⟨v, h1, h2⟩ := r.at (i := i) (d := s.items[i]) (List.getElem?_eq_getElem hi)
    cases (y vs sq).symm.trans h1
    exact ⟨_, w, List.getElem?_eq_getElem hi, .refl, k, h2⟩
theorem pi_Seq (hK : X.K = C.K) {e : Expr} {m : ME} (h : PE X e (tE C W m)) : PI X tg e (tI C W (.seq m)) :=
  piMono (pi_Or (pi_list h) (pi_tup h)) fun σ H R h => by
    rw [hK]
    have h := Rd0.bind (f := fun x env M => optR (srcSeq x M) M) h
    obtain ⟨env, M, w, k, eo, h⟩ := h
    cases e : evE C.F C.G m env M with
    | ok x M1 =>
      rw [e] at h
      -- which of the two does not depend on the heap that comes: by the value
      cases x with
      | tup ds =>
        refine .inr ⟨env, M, w, k, eo, ?_⟩
        rw [e]
        intro H1 w1 g1 k1 v rv
        have h := h H1 w1 g1 k1
        obtain ⟨s, e1, q⟩ := h.opt k1
        obtain ⟨a, vs, e2, z, q2⟩ := id rv
        cases e1
        exact ⟨a, e2, ⟨vs, k1.sqT z⟩, q _ (wkd_seqT fun H' w' M' k' l => ⟨vs, k'.sqT (l.fz _ _ z), q2.later l⟩)⟩
      | _ =>
        refine .inl ⟨env, M, w, k, eo, ?_⟩
        rw [e]
        intro H1 w1 g1 k1 v rv
        have h := h H1 w1 g1 k1
        obtain ⟨s, e1, q⟩ := h.opt k1
        obtain ⟨ok, a, e2, z⟩ := srcL_of rv e1 k1 (fun ds z => by cases z)
        obtain ⟨vs, sq, _⟩ := z H1 w1 M1 k1 .refl ok
        exact ⟨a, e2, ⟨vs, sq⟩, q _ (wkd_seqL z)⟩
    | ex c v M1 =>
      rw [e] at h
      refine .inl ⟨env, M, w, k, eo, ?_⟩
      rw [e]
      exact h
    | no => rw [e] at h; exact h.elim
theorem rangeD_len {lo : Int} {n : Nat} : (rangeD lo n).length = n := by unfold rangeD; rw [List.length_map, List.length_range]
theorem rangeD_at {lo : Int} {n i : Nat} (h : i < n) : (rangeD lo n)[i]? = some (.int (lo + i)) := by unfold rangeD; rw [List.getElem?_map, List.getElem?_range h]; rfl
theorem wkd_rng {lo : Int} {n : Nat} {w : Wd} : Wkd K (Itr lo n) ⟨rangeD lo n, []⟩ w where
  go := fun i H w M hi k l ok => by
    have hi : i < (rangeD lo n).length := hi
    rw [rangeD_len] at hi
    exact hi
  stop := fun H w M k l ok => by
    show n ≤ (rangeD lo n).length
    rw [rangeD_len]; exact Nat.le_refl _
  yld := fun i H w M x H' hi k l ok y => by
    have hi : i < (rangeD lo n).length := hi
    rw [rangeD_len] at hi
    obtain ⟨e, y⟩ := y
    subst e
    exact ⟨_, w, rangeD_at hi, .refl, k, y⟩
theorem rng_read {α : Type} {σ : St} {H : Hp} {m : List ME} {f : List D → Store → Res α} {P : α → Store → Hp → Wd → EnvD → Prop} (h : Rd0 C W (fun env M => (evEs C.F C.G m env M).bind fun x M => f x M) σ H P) :
    Rd0 C W (evEs C.F C.G m) σ H fun ds M' H' w' env => After C.K C.ca (fun c d H => W c d σ H) H' w' (f ds M') fun a M' H' w' => P a M' H' w' env := Rd0.bind (f := fun ds env M => f ds M) h
theorem ev1 {F : Fns} {G : List D} {α : Type} {m : ME} {f : D → Store → Res α} (env : EnvD) (M : Store) : ((evE F G m env M).bind fun x M => f x M) = (evEs F G [m] env M).bind fun ds M => match ds with
    | [x] => f x M
    | _ => .no := by
  show _ = ((evE F G m env M).bind fun x M => .ok [x] M).bind _
  rw [bind_assoc]
  rfl
theorem ev2 {F : Fns} {G : List D} {α : Type} {m n : ME} {f : D → D → Store → Res α} (env : EnvD) (M : Store) : ((evE F G m env M).bind fun x M => (evE F G n env M).bind fun y M => f x y M) = (evEs F G [m, n] env M).bind fun ds M => match ds with
    | [x, y] => f x y M
    | _ => .no := by
  show _ = ((evE F G m env M).bind fun x M => ((evE F G n env M).bind fun x M => .ok [x] M).bind fun xs M => .ok (x :: xs) M).bind _
  simp only [bind_assoc, ok_bind]
theorem pi_Rng1 (hg : Gl X "range") (hm : X.mg "range" = none) {e : Expr} {m : ME} {p : Pos} (h : PA X [e] (tA C W [m])) (hs : starEach [e] X.env = [(false, eval e X.env)]) : PI X tg (.Call (.Name "range" p) [e] [] pos) (tI C W (.rng1 m)) :=
  piMono (pi_range1 hg hm h hs) fun σ H R h => by
    have h : Rd0 C W (fun env M => (evE C.F C.G m env M).bind fun x M => match x with
      | .int n => if decide (-(2 ^ 60) < n ∧ n < 2 ^ 60) then .ok ⟨rangeD 0 n.toNat, []⟩ M else .no
      | _ => .no) σ H fun s _ H' w' _ => ∀ J, Wkd C.K J s w' → R J H' := h
    simp only [ev1] at h
    refine (rng_read h).imp fun ds M1 H1 w1 env k1 e1 h1 vs rs => ?_
    split at h1
    · obtain ⟨v, rfl, rv⟩ := reps1 rs
      split at h1
      · obtain ⟨hs, h1⟩ := h1.ifG
        simp only [decide_eq_true_eq] at hs
        exact ⟨_, by rw [show v = .int _ from rv], by omega, by omega, h1.here k1 _ wkd_rng⟩
      · exact h1.elim
    · exact h1.elim
theorem pi_Rng2 (hg : Gl X "range") (hm : X.mg "range" = none) {e e2 : Expr} {m n : ME} {p : Pos} (h : PA X [e, e2] (tA C W [m, n])) (hs : starEach [e, e2] X.env = [(false, eval e X.env), (false, eval e2 X.env)]) (hs2 : starEach [e2] X.env = [(false, eval e2 X.env)]) : PI X tg (.Call (.Name "range" p) [e, e2] [] pos) (tI C W (.rng2 m n)) :=
  piMono (pi_range2 hg hm h hs hs2) fun σ H R h => by
    have h : Rd0 C W (fun env M => (evE C.F C.G m env M).bind fun x M => (evE C.F C.G n env M).bind fun y M => match x, y with
      | .int i, .int j => if decide (-(2 ^ 60) < i ∧ i < 2 ^ 60 ∧ -(2 ^ 60) < j ∧ j < 2 ^ 60) then .ok ⟨rangeD i (j - i).toNat, []⟩ M else .no
      | _, _ => .no) σ H fun s _ H' w' _ => ∀ J, Wkd C.K J s w' → R J H' := h
    simp only [ev2] at h
    refine (rng_read h).imp fun ds M1 H1 w1 env k1 e1 h1 vs rs => ?_
    split at h1
    · obtain ⟨v, u, rfl, rv, ru⟩ := reps2 rs
      split at h1
      · obtain ⟨hs, h1⟩ := h1.ifG
        simp only [decide_eq_true_eq] at hs
        exact ⟨_, _, by rw [show v = .int _ from rv, show u = .int _ from ru], by omega, h1.here k1 _ wkd_rng⟩
      · exact h1.elim
    · exact h1.elim
end
end PM

/-! PMrg: list(range(..)), tuple(range(..)). -/
namespace PM
open PySem L2
section
variable {C : Cc} {W : WX} {X : Cx} {pos p : Pos} {H : Hp} {M : Store} {w : Wd} {K : PySem.W.Frag} {σ : St}
theorem reps_rg {a b : Int} : Reps K w (rangeD a (b - a).toNat) (rgV a b) := by
  unfold rangeD rgV
  generalize List.range (b - a).toNat = l
  induction l with
  | nil => exact rfl
  | cons i l ih => exact ⟨_, _, rfl, rfl, ih⟩
/-- what is made of the items -/
def ofB (b : BI) (ds : List D) (M : Store) : Res D := match b with
  | .listF => .ok (.lst ds) M
  | .listC => if D.pures ds then .ok (.ref M.length) (M ++ [.lst ds]) else .no
  | .tuple => .ok (.tup ds) M
  | _ => .no
theorem rng_pure {lo : Int} {n : Nat} : Src.ok ⟨rangeD lo n, []⟩ M = true := rfl
theorem of1_read {b : BI} {m : ME} {Q : VK} (h : tE C W (.ofIt b (.rng1 m)) σ H Q) : tRg1 (tE C W m) σ H fun x y H1 => RgOk x y ∧ ∃ M1 w1, Ok C.K H1 w1 M1 ∧ After C.K C.ca (fun c d H => W c d σ H) H1 w1 (ofB b (rangeD x (y - x).toNat) M1) fun d _ H' w' => ∀ v, Rep C.K w' d v → Q v H' := by
  have h : Rd0 C W (fun env M => ((evE C.F C.G m env M).bind fun x M => match x with
      | .int n => if decide (-(2 ^ 60) < n ∧ n < 2 ^ 60) then Res.ok (Src.mk (rangeD 0 n.toNat) []) M else .no
      | _ => .no).bind fun s M => if s.ok M && decide (s.items.length ≤ 16777216) then ofB b s.items M else .no) σ H fun d _ H' w' _ => ∀ v, Rep C.K w' d v → Q v H' := h
  simp only [bind_assoc] at h
  refine (Rd0.bind (f := fun x _ M => (match x with
      | .int n => if decide (-(2 ^ 60) < n ∧ n < 2 ^ 60) then Res.ok (Src.mk (rangeD 0 n.toNat) []) M else .no
      | _ => .no).bind fun s M => if s.ok M && decide (s.items.length ≤ 16777216) then ofB b s.items M else .no) h).imp fun x M1 H1 w1 env k1 e1 h1 v rv => ?_
  cases x with
  | int n =>
    by_cases hn : -(2 ^ 60) < n ∧ n < 2 ^ 60
    · simp only [decide_eq_true hn, if_true, ok_bind] at h1
      obtain ⟨h2, h1⟩ := h1.ifG
      rw [Bool.and_eq_true, decide_eq_true_eq, rangeD_len] at h2
      have e0 : (n - 0).toNat = n.toNat := by rw [Int.sub_zero]
      exact ⟨n, rv, ⟨by omega, by omega, by omega, by omega, by rw [e0]; exact h2.2⟩, M1, w1, k1, by rw [e0]; exact h1⟩
    · simp only [decide_eq_false hn] at h1; exact h1.elim
  | _ => exact h1.elim
theorem of2_read {b : BI} {m n : ME} {Q : VK} (h : tE C W (.ofIt b (.rng2 m n)) σ H Q) : tRg2 (tE C W m) (tE C W n) σ H fun x y H1 => RgOk x y ∧ ∃ M1 w1, Ok C.K H1 w1 M1 ∧ After C.K C.ca (fun c d H => W c d σ H) H1 w1 (ofB b (rangeD x (y - x).toNat) M1) fun d _ H' w' => ∀ v, Rep C.K w' d v → Q v H' := by
  have h : Rd0 C W (fun env M => ((evE C.F C.G m env M).bind fun x M => (evE C.F C.G n env M).bind fun y M => match x, y with
      | .int i, .int j => if decide (-(2 ^ 60) < i ∧ i < 2 ^ 60 ∧ -(2 ^ 60) < j ∧ j < 2 ^ 60) then Res.ok (Src.mk (rangeD i (j - i).toNat) []) M else .no
      | _, _ => .no).bind fun s M => if s.ok M && decide (s.items.length ≤ 16777216) then ofB b s.items M else .no) σ H fun d _ H' w' _ => ∀ v, Rep C.K w' d v → Q v H' := h
  simp only [bind_assoc] at h
  refine (Rd0.bind (f := fun x env M => (evE C.F C.G n env M).bind fun y M => (match x, y with
      | .int i, .int j => if decide (-(2 ^ 60) < i ∧ i < 2 ^ 60 ∧ -(2 ^ 60) < j ∧ j < 2 ^ 60) then Res.ok (Src.mk (rangeD i (j - i).toNat) []) M else .no
      | _, _ => .no).bind fun s M => if s.ok M && decide (s.items.length ≤ 16777216) then ofB b s.items M else .no) h).imp fun x M1 H1 w1 env k1 e1 h1 v rv => ?_
  refine ⟨env, M1, w1, k1, e1, h1.bind.imp fun y M2 H2 w2 g2 k2 h2 u ru => ?_⟩
  cases x with
  | int i =>
    cases y with
    | int j =>
      by_cases hn : -(2 ^ 60) < i ∧ i < 2 ^ 60 ∧ -(2 ^ 60) < j ∧ j < 2 ^ 60
      · simp only [decide_eq_true hn, if_true, ok_bind] at h2
        obtain ⟨h3, h2⟩ := h2.ifG
        rw [Bool.and_eq_true, decide_eq_true_eq, rangeD_len] at h3
        exact ⟨i, j, rv, ru, ⟨by omega, by omega, by omega, by omega, h3.2⟩, M2, w2, k2, h2⟩
      · simp only [decide_eq_false hn] at h2; exact h2.elim
    | _ => exact h2.elim
  | _ => cases y <;> exact h2.elim
theorem ofL {b : BI} {Q : VK} {W' : Value → Option Addr → Hp → Prop} {x y : Int} (hb : b = .listF ∨ b = .listC) (k : Ok C.K H w M) (h : After C.K C.ca W' H w (ofB b (rangeD x (y - x).toNat) M) fun d _ H' w' => ∀ v, Rep C.K w' d v → Q v H') : ∀ q, H q = none → Q (.ref q) (upd H q (.lst (rgV x y))) := by
  rcases hb with rfl | rfl
  · exact newL k reps_rg fun H' w' g k' v rv => h H' w' g k' v rv
  · obtain ⟨pu, h⟩ := (show After C.K C.ca W' H w (if D.pures (rangeD x (y - x).toNat) then Res.ok (D.ref M.length) (M ++ [.lst (rangeD x (y - x).toNat)]) else .no) (fun d _ H' w' => ∀ v, Rep C.K w' d v → Q v H') from h).ifG
    exact newC k reps_rg pu fun H' w' g k' v rv => h H' w' g k' v rv
theorem pe_OfL {b : BI} {e : Expr} {te : St → Hp → (Int → Int → Hp → Prop) → Prop} {m : ME} (hb : b = .listF ∨ b = .listC) (hc : X.calm = true) (hg : Gl X "list") (hm : X.mg "list" = none) (he : PRg X e te) (na : starEach [e] X.env = (false, eval e X.env) :: starEach [] X.env)
    (hr : ∀ {Q : VK} {σ : St} {H : Hp}, tE C W m σ H Q → te σ H fun x y H1 => RgOk x y ∧ ∃ M1 w1, Ok C.K H1 w1 M1 ∧ After C.K C.ca (fun c d H => W c d σ H) H1 w1 (ofB b (rangeD x (y - x).toNat) M1) fun d _ H' w' => ∀ v, Rep C.K w' d v → Q v H')
    (mono : ∀ {σ : St} {H : Hp} {P P' : Int → Int → Hp → Prop}, te σ H P → (∀ x y H, P x y H → P' x y H) → te σ H P') : PE X (.Call (.Name "list" p) [e] [] pos) (tE C W m) :=
  peMono (pe_listRg hc hg hm he na) fun σ H Q h => mono (hr h) fun x y H1 ⟨h1, M1, w1, k1, h2⟩ => ⟨h1, ofL hb k1 h2⟩
theorem pe_OfT {e : Expr} {te : St → Hp → (Int → Int → Hp → Prop) → Prop} {m : ME} (hc : X.calm = true) (hg : Gl X "tuple") (hm : X.mg "tuple" = none) (he : PRg X e te) (na : starEach [e] X.env = (false, eval e X.env) :: starEach [] X.env)
    (hr : ∀ {Q : VK} {σ : St} {H : Hp}, tE C W m σ H Q → te σ H fun x y H1 => RgOk x y ∧ ∃ M1 w1, Ok C.K H1 w1 M1 ∧ After C.K C.ca (fun c d H => W c d σ H) H1 w1 (ofB .tuple (rangeD x (y - x).toNat) M1) fun d _ H' w' => ∀ v, Rep C.K w' d v → Q v H')
    (mono : ∀ {σ : St} {H : Hp} {P P' : Int → Int → Hp → Prop}, te σ H P → (∀ x y H, P x y H → P' x y H) → te σ H P') : PE X (.Call (.Name "tuple" p) [e] [] pos) (tE C W m) :=
  peMono (pe_tupRg hc hg hm he na) fun σ H Q h => mono (hr h) fun x y H1 ⟨h1, M1, w1, k1, h2⟩ => ⟨h1, newT (P := fun _ _ => True) k1 reps_rg fun H' w' g k' v rv => (show After C.K C.ca _ H1 w1 (.ok (D.tup (rangeD x (y - x).toNat)) M1) _ from h2) H' w' g k' v rv⟩
theorem tE_mono {m : ME} {P P' : VK} (h : tE C W m σ H P) (hp : ∀ v H, P v H → P' v H) : tE C W m σ H P' := Rd0.imp h fun a M' H' w' env k e q v rv => hp v H' (q v rv)
theorem pe_Of1 {b : BI} {m : ME} {e : Expr} {p2 pos2 : Pos} {x : Str} (hc : X.calm = true) (hb : ((b = .listF ∨ b = .listC) ∧ x = "list") ∨ (b = .tuple ∧ x = "tuple")) (hg : Gl X x) (hm : X.mg x = none) (hgr : Gl X "range") (hmr : X.mg "range" = none) (ha : PE X e (tE C W m))
    (na : starEach [e] X.env = (false, eval e X.env) :: starEach [] X.env) : PE X (.Call (.Name x p) [.Call (.Name "range" p2) [e] [] pos2] [] pos) (tE C W (.ofIt b (.rng1 m))) := by
  have mono : ∀ {σ : St} {H : Hp} {P P' : Int → Int → Hp → Prop}, tRg1 (tE C W m) σ H P → (∀ x y H, P x y H → P' x y H) → tRg1 (tE C W m) σ H P' := fun h hp => tE_mono h fun v H ⟨n, e, q⟩ => ⟨n, e, hp _ _ _ q⟩
  rcases hb with ⟨hb, rfl⟩ | ⟨rfl, rfl⟩
  · exact pe_OfL hb hc hg hm (prg_1 hgr hmr ha na) rfl of1_read mono
  · exact pe_OfT hc hg hm (prg_1 hgr hmr ha na) rfl of1_read mono
theorem pe_Of2 {b : BI} {m n : ME} {e f : Expr} {p2 pos2 : Pos} {x : Str} (hc : X.calm = true) (hb : ((b = .listF ∨ b = .listC) ∧ x = "list") ∨ (b = .tuple ∧ x = "tuple")) (hg : Gl X x) (hm : X.mg x = none) (hgr : Gl X "range") (hmr : X.mg "range" = none) (ha : PE X e (tE C W m)) (hf : PE X f (tE C W n))
    (na : starEach [e, f] X.env = (false, eval e X.env) :: starEach [f] X.env) (nb : starEach [f] X.env = (false, eval f X.env) :: starEach [] X.env) (hpl : (backTo pos2 (starEach [f] X.env)).any (·.1) = false) : PE X (.Call (.Name x p) [.Call (.Name "range" p2) [e, f] [] pos2] [] pos) (tE C W (.ofIt b (.rng2 m n))) := by
  have mono : ∀ {σ : St} {H : Hp} {P P' : Int → Int → Hp → Prop}, tRg2 (tE C W m) (tE C W n) σ H P → (∀ x y H, P x y H → P' x y H) → tRg2 (tE C W m) (tE C W n) σ H P' := fun h hp => tE_mono h fun v H q => tE_mono q fun u H ⟨i, j, e1, e2, q⟩ => ⟨i, j, e1, e2, hp _ _ _ q⟩
  rcases hb with ⟨hb, rfl⟩ | ⟨rfl, rfl⟩
  · exact pe_OfL hb hc hg hm (prg_2 hgr hmr ha hf na nb hpl) rfl of2_read mono
  · exact pe_OfT hc hg hm (prg_2 hgr hmr ha hf na nb hpl) rfl of2_read mono
/-! ### list(d.values()) -/
theorem kv_vals {K : PySem.W.Frag} {w : Wd} : ∀ {kvs : List (Key × D)} {l : List (Key × V)} {vs : List (Key × Value)}, KvOk K w kvs l → KV l vs → Reps K w (kvs.map Prod.snd) (l.map Prod.snd) ∧ Vals (l.map Prod.snd) (vs.map Prod.snd)
  | [], l, vs, r, h => by
    rw [show l = [] from r] at h ⊢
    cases h
    exact ⟨rfl, .nil⟩
  | (k, d) :: kvs, l, vs, ⟨v, l', e, rd, rr⟩, h => by
    subst e
    cases h with
    | cons r t =>
      obtain ⟨h1, h2⟩ := kv_vals rr t
      exact ⟨⟨v, _, rfl, rd, h1⟩, .cons r.2 h2⟩
theorem acc_vals {vs : List (Key × Value)} {acc : Array Value} (h : ItemsOf (fun i v => ∃ k, vs[i]? = some (k, v)) acc vs.length) : acc.toList = vs.map Prod.snd := by
  apply List.ext_getElem?
  intro i
  by_cases hi : i < vs.length
  · have hl : i < acc.toList.length := by rw [Array.length_toList, h.1]; exact hi
    have e := List.getElem?_eq_getElem hl
    obtain ⟨k, hk⟩ := h.2 i acc.toList[i] (by rw [← e, Array.getElem?_toList])
    rw [e, List.getElem?_map, hk]; rfl
  · rw [List.getElem?_eq_none (by rw [Array.length_toList, h.1]; omega), List.getElem?_eq_none (by rw [List.length_map]; omega)]
theorem ofV_read {b : BI} {m : ME} {Q : VK} (h : tE C W (.ofIt b (.vals m)) σ H Q) : tE C W m σ H fun x H1 => ∃ (n : Nat) (kvs : List (Key × D)) (M1 : Store) (w1 : Wd) (as : List Addr) (a : Addr), x = .ref a ∧ Ok C.K H1 w1 M1 ∧ M1[n]? = some (Cell.dK false kvs) ∧ w1.ow[n]? = some (a :: as) ∧ After C.K C.ca (fun c d H => W c d σ H) H1 w1 (ofB b (kvs.map Prod.snd) M1) fun d _ H' w' => ∀ v, Rep C.K w' d v → Q v H' := by
  have h : Rd0 C W (fun env M => ((evE C.F C.G m env M).bind fun x M => match x with
      | .ref n => match M[n]? with
        | some (Cell.dK false kvs) => Res.ok (Src.mk (kvs.map Prod.snd) []) M
        | _ => .no
      | _ => .no).bind fun s M => if s.ok M && decide (s.items.length ≤ 16777216) then ofB b s.items M else .no) σ H fun d _ H' w' _ => ∀ v, Rep C.K w' d v → Q v H' := h
  simp only [bind_assoc] at h
  refine (Rd0.bind (f := fun x _ M => (match x with
      | .ref n => match M[n]? with
        | some (Cell.dK false kvs) => Res.ok (Src.mk (kvs.map Prod.snd) []) M
        | _ => .no
      | _ => .no).bind fun s M => if s.ok M && decide (s.items.length ≤ 16777216) then ofB b s.items M else .no) h).imp fun x M1 H1 w1 env k1 e1 h1 v rv => ?_
  cases x with
  | ref n =>
    simp only [] at h1
    split at h1
    · rename_i kvs hn
      rw [ok_bind] at h1
      obtain ⟨h2, h1⟩ := h1.ifG
      obtain ⟨a, as, rfl, eo⟩ := rv
      exact ⟨n, kvs, M1, w1, as, a, rfl, k1, hn, eo, h1⟩
    · exact h1.elim
  | _ => exact h1.elim
theorem pe_OfV {b : BI} {m : ME} {e : Expr} {apos cpos : Pos} (hK : X.K = C.K) (hb : b = .listF ∨ b = .listC) (hc : X.calm = true) (he : PE X e (tE C W m)) (hg : Gl X "list") (hm : X.mg "list" = none) (hv : bootBuiltins "list" = some (.type "list")) (hbase : attributeBase e "values" X.env (eval e X.env) = eval e X.env)
    (hline : (apos.endLine == cpos.line) = true) : PE X (.Call (.Name "list" p) [.Call (.Attribute e "values" apos) [] [] cpos] [] pos) (tE C W (.ofIt b (.vals m))) := by
  constructor
  intro pins s σ H Q I hq
  apply wpAny_Call_Name_kw
  apply ld_blt I hg hm hv
  refine PyProof.Rows.callWith_type1 ?_ rfl rfl
  show wpAny _ _ (spliced ((false, eval (.Call (.Attribute e "values" apos) [] [] cpos) X.env) :: backTo pos (starEach [] X.env))) _ _ s
  apply Calls.spliced_cons
  refine wpAny_Call_method (T := "dict") (id := "dict.values") hbase rfl hline F.plainAttrs_dict F.slot_dict_values F.type_dict_values (thn (he.run pins s σ H _ I (ofV_read hq)) fun u s1 ⟨x, H1, I1, rx, n, kvs, M1, w1, as, a, ex, k1, hM, eo, q⟩ => ?_)
  subst ex
  obtain rfl : u = Value.ref a := rx
  obtain ⟨a', l, e3, hH, kvo⟩ := k1.cell n _ _ hM eo
  cases e3
  have hH : H1 a = some (.dK l) := hH
  obtain ⟨hz, hs0, vs, kv, hdo⟩ := I1.hok a _ hH
  obtain ⟨ep, hat⟩ := hdo.dictAt
  have lk : l.length = vs.length := Paired.length kv
  have I2 : L2.Inv X pins σ H1 { s1 with heap := s1.heap.push { cls := .type "dict_values", data := .fields #[.ref a] } } := I1.kept (t' := s1.toks) fun b ob q => Heap.get?_push_of_some _ q
  refine ⟨hdo.typeIs, hdo.mapOf.noDict, ?_⟩
  show wpAny _ _ (callWith cpos (.builtin "dict.values") [.ref a] [] []) _ X.xe s1
  refine method_meetsIn F.slot_dict_values F.entry_dict_values rfl (PySem.evalArgs_none ⟨rfl, hdo.typeIs, F.args_dict_values_1 _, _, meets_dict_values (mixKind X.prog X.w) a hs0, ⟨vs, hdo⟩, ?_⟩)
  apply Calls.spliced_nil
  refine PySem.W.kdl_call (PySem.W.kdl_values (knd := mixKind X.prog X.w) (kvs := vs) (ep := ep) (d := a)) (I1.ok.hd hc) ⟨⟨_, Heap.get?_push_size _ rfl, rfl, rfl⟩, hat.push _⟩ (by rw [← lk]; exact hz) fun h' tk acc c hk hS hacc => ?_
  have ea := acc_vals hacc
  obtain ⟨rp, rv⟩ := kv_vals (KvOk.mono (w := w1.fz) (w1 := w1) (fun _ _ h => h) ⟨w1.ow, rfl⟩ kvs l kvo) kv
  rw [← ea] at rv
  have hn : H1 (s1.heap.push { cls := .type "dict_values", data := .fields #[.ref a] }).objs.size = none := I2.hok.fresh (Nat.le_refl _)
  refine ⟨.ref _, upd H1 _ (.lst (l.map Prod.snd)), I2.laid hk (Nat.le_refl _) ⟨by rw [List.length_map]; exact hz, acc.toList, c, rv, by rw [Array.toArray_toList]; exact hS⟩, rfl, ?_⟩
  rcases hb with rfl | rfl
  · exact newL k1 rp (fun H' w' g k' v rv => q H' w' g k' v rv) _ hn
  · obtain ⟨pu, q⟩ := (show After C.K C.ca (fun c d H => W c d σ H) H1 w1 (if D.pures (kvs.map Prod.snd) then Res.ok (D.ref M1.length) (M1 ++ [.lst (kvs.map Prod.snd)]) else .no) (fun d _ H' w' => ∀ v, Rep C.K w' d v → Q v H') from q).ifG
    exact newC k1 rp pu (fun H' w' g k' v rv => q H' w' g k' v rv) _ hn
end
end PM

/-! PMk: enumerate, zip of two and of three, over lists and tuples alike. -/
namespace PM
open PySem L2
section
variable {X : Cx} {pins : List (Addr × Obj)} {σ : St} {H : Hp} {s : Shared} {K : PySem.W.Frag}
/-- a list (true) or a tuple (false) -/
def SqX (K : PySem.W.Frag) : Bool → Hp → Addr → List V → Prop
  | true, H, a, xs => SqL K H a xs
  | false, H, a, xs => SqT K H a xs
def ItX : Bool → Heap → Addr → Addr → Nat → Prop
  | true, h, it, a, i => h.IsListIter it a i
  | false, h, it, a, i => h.IsTupleIter it a i
def hX : Bool → Heap → Addr → Array Value → Prop
  | true, h, a, xs => h.IsList a xs
  | false, h, a, xs => h.IsTuple a xs
def bgX : Bool → Addr → Obj
  | true, a => { cls := .type "list_iterator", data := .fields #[.ref a, .int 0 0] }
  | false, a => { cls := .type "tuple_iterator", data := .fields #[.ref a, .int 0 0] }
theorem seqX (I : L2.Inv X pins σ H s) {b : Bool} {a : Addr} {xs : List V} (h : SqX X.K b H a xs) : ∃ its : List Value, Vals xs its ∧ hX b s.heap a its.toArray ∧ xs.length ≤ sizeLine := by
  cases b with
  | true => obtain ⟨its, r, p, z⟩ := I.list h; exact ⟨its, r, p.isList, z⟩
  | false => obtain ⟨its, r, p, z⟩ := I.tuple h; exact ⟨its, r, p, z⟩
theorem seqX_inj (I : L2.Inv X pins σ H s) {b : Bool} {a : Addr} {xs ys : List V} (h : SqX X.K b H a xs) (h' : SqX X.K b H a ys) : xs = ys := by
  cases b with
  | true => exact I.list_inj h h'
  | false => exact I.tuple_inj h h'
theorem drawsX {prog : Program} {w : World} {A : Around} (hh : A.handled = none) (b : Bool) (it a : Addr) (hne : a ≠ it) (its : Array Value) :
    Draws prog w A it [it, a] its.size (fun i v => its[i]? = some v) (fun i h => ItX b h it a i ∧ hX b h a its) := by
  cases b with
  | true => exact Draws.list hh it a hne its
  | false => exact Draws.tuple hh it a hne its
theorem beginsX (b : Bool) (a : Addr) (its : Array Value) : Begins (.ref a) (bgX b a) fun h => hX b h a its := by
  cases b with
  | true => exact begins_list a its
  | false => exact begins_tuple a its
theorem itX0 {b : Bool} {h : Heap} {it a : Addr} (e : h.get? it = some (bgX b a)) : ItX b h it a 0 := by
  cases b with
  | true => exact ⟨_, e, rfl, rfl⟩
  | false => exact ⟨_, e, rfl, rfl⟩
theorem ItX.at {b : Bool} {h h' : Heap} {it a : Addr} {i : Nat} (x : ItX b h it a i) (k : ∀ o, h.get? it = some o → h'.get? it = some o) : ItX b h' it a i := by
  cases b with
  | true =>
    obtain ⟨o, e, c, d⟩ := x
    exact ⟨o, k o e, c, d⟩
  | false =>
    obtain ⟨o, e, c, d⟩ := x
    exact ⟨o, k o e, c, d⟩
theorem ItX.obj {b : Bool} {h : Heap} {it a : Addr} {i : Nat} (x : ItX b h it a i) : ∃ o, h.get? it = some o ∧ ∀ v, o.data ≠ .cell v := by
  cases b with
  | true =>
    obtain ⟨o, e, c, d⟩ := x
    exact ⟨o, e, fun v z => by rw [d] at z; cases z⟩
  | false =>
    obtain ⟨o, e, c, d⟩ := x
    exact ⟨o, e, fun v z => by rw [d] at z; cases z⟩
theorem hX.lt {b : Bool} {h : Heap} {a : Addr} {xs : Array Value} (x : hX b h a xs) : a < h.objs.size := by
  cases b with
  | true => obtain ⟨_, e, _⟩ := x; exact Heap.lt_size e
  | false => obtain ⟨_, e, _⟩ := x; exact Heap.lt_size e
/-- a new tuple, the iterators turned -/
theorem freshT {h' : Heap} {tk : Nat} {T : Addr} {ch : List Addr} {vs : List V} {us : List Value} (I : L2.Inv X pins σ H s) (k : ∀ b o, b ∉ ch → s.heap.get? b = some o → h'.get? b = some o) (hf : ∀ b ∈ ch, FpOk X pins H b) (hT : s.heap.objs.size ≤ T)
    (ht : h'.IsTuple T us.toArray) (rv : Vals vs us) (hz : vs.length ≤ sizeLine) : L2.Inv X pins σ (upd H T (.tup vs)) { s with heap := h', toks := tk } :=
  I.turnedNew k hf hT ⟨hz, us, rv, ht⟩
theorem fpKeep {T : Addr} {o : HO} {fp : List Addr} (hf : ∀ b ∈ fp, FpOk X pins H b) (he : ∀ b ∈ fp, ∃ o, s.heap.get? b = some o) (hT : s.heap.objs.size ≤ T) : ∀ b ∈ fp, upd H T o b = none := fun b hb => by
  obtain ⟨u, e⟩ := he b hb
  rw [upd_ne (Nat.ne_of_lt (Nat.lt_of_lt_of_le (Heap.lt_size e) hT))]
  exact (hf b hb).1
/-! ### enumerate -/
def Iex (K : PySem.W.Frag) (b : Bool) (a : Addr) : It :=
  ⟨fun i H => ∃ (xs : List V) (x : V), SqX K b H a xs ∧ xs[i]? = some x, fun i H v H' => ∃ T x, v = .ref T ∧ H T = none ∧ H' = upd H T (.tup [.int (i : Nat), x]) ∧ ∀ xs, SqX K b H a xs → xs[i]? = some x, fun i H => ∃ xs : List V, SqX K b H a xs ∧ xs.length = i⟩
theorem turn_enumX {P : Program} {w : World} {elts : List Expr} {kk : Nat} {tpos : Pos} (b : Bool) (a e it : Addr) (hei : e ≠ it) (hai : a ≠ it) (hae : a ≠ e) :
    Turn P w K (.Tuple elts kk tpos) (Iex K b a) [e, it] e (fun i h => (∃ old, IsEnum h e it (0 + (i : Int)) old) ∧ ItX b h it a i) where
  mem := by simp
  obj := fun i h st c hc => by
    obtain ⟨⟨old, he⟩, hi⟩ := st
    have e' : c = e ∨ c = it := by simpa using hc
    rcases e' with z | z
    · rw [z]; exact ⟨_, he, fun v q => nomatch q⟩
    · rw [z]; exact hi.obj
  keep := fun i h h' st k => let ⟨⟨old, he⟩, hi⟩ := st; ⟨⟨old, k e (by simp) _ he⟩, hi.at fun o q => k it (by simp) o q⟩
  item := by
    intro X hP hw hK hc i pins s σ H E I hf st hg
    subst hP hw hK
    obtain ⟨xs, x, hq, hx⟩ := hg
    obtain ⟨its, rv, p, hz⟩ := seqX I hq
    have W := GoesN.enumFrom (elts := elts) (x1 := kk) (pos := tpos) (prog := X.prog) (w := X.w) (A := X.A) 0 (drawsX (prog := X.prog) (w := X.w) (A := X.A.in1) (I.ok.hd hc) b it a hai its.toArray) e hei (by simp [hei, Ne.symm hae]) (by simp)
    have hi : i < its.toArray.size := by
      have := (List.getElem?_eq_some_iff.mp hx).1
      have := rv.length
      simp only [List.size_toArray]; omega
    refine W.goes i s _ E hi ⟨st.1, st.2, p⟩ fun v h' tk hY st' hk _ => ?_
    obtain ⟨T, t, u, ev, hT, hu, ht⟩ := hY
    obtain ⟨x', hx', rx⟩ : ∃ x', xs[i]? = some x' ∧ RelV x' u := by
      obtain ⟨u', hu', ru⟩ := rv.get hx
      have hu2 : its[i]? = some u := by simpa using hu
      rw [hu2] at hu'; cases hu'
      exact ⟨x, hx, ru⟩
    rw [hx] at hx'; cases hx'
    have I1 := freshT (tk := tk) (vs := [.int (i : Nat), x]) (us := [.int (0 + (i : Int)) t, u]) I hk hf hT ht (.cons ⟨t, by simp⟩ (.cons rx .nil)) (by show 2 ≤ sizeLine; decide)
    exact ⟨.ref T, _, I1, ev, ⟨T, x, rfl, I.hok.fresh hT, rfl, fun ys hy => by rw [seqX_inj I hy hq]; exact hx⟩, ⟨st'.1, st'.2.1⟩, fpKeep hf (fun c hc => by
      have e' : c = e ∨ c = it := by simpa using hc
      rcases e' with z | z
      · obtain ⟨⟨old, he⟩, _⟩ := st; rw [z]; exact ⟨_, he⟩
      · obtain ⟨o, q, _⟩ := st.2.obj; rw [z]; exact ⟨o, q⟩) hT⟩
  done := by
    intro X hP hw hK hc i pins s σ H E I hf st hg
    subst hP hw hK
    obtain ⟨xs, hq, hx⟩ := hg
    obtain ⟨its, rv, p, hz⟩ := seqX I hq
    have W := GoesN.enumFrom (elts := elts) (x1 := kk) (pos := tpos) (prog := X.prog) (w := X.w) (A := X.A) 0 (drawsX (prog := X.prog) (w := X.w) (A := X.A.in1) (I.ok.hd hc) b it a hai its.toArray) e hei (by simp [hei, Ne.symm hae]) (by simp)
    have hi : i = its.toArray.size := by
      have := rv.length
      simp only [List.size_toArray]; omega
    rw [hi] at st
    exact W.stops s _ E ⟨st.1, st.2, p⟩ fun h' tk hk _ => I.turnedL hk hf
  self := fun A i s Q E st h => let ⟨⟨_, he⟩, _⟩ := st; wpAny_pyIter_enum he h
/-- enumerate(v): its two new things -/
theorem meets_enum1 {v : Value} {o : Obj} {H : Heap → Prop} (B : Begins v o H) :
    Meets (Builtin.«enumerate.__new__» ⟨[.type "enumerate", v], []⟩) (fun _ R s => H s.heap ∧
      R (.ok (.ret (.ref (s.heap.push o).objs.size))) { s with heap := (s.heap.push o).push { cls := .type "enumerate", data := .fields #[.none, .bool false, .ref s.heap.objs.size, rawInt 0, .none, .none] } }) :=
  .of_wp fun prog w A R s h => by
    obtain ⟨hp, g, d, tk, os⟩ := s; obtain ⟨h1, h⟩ := h
    have hsub := sub_enumerate
    have q1 : ∀ {A' : Around} {E : Value → Shared → Prop} {Q : Value → Shared → Prop}, Q (.ref hp.objs.size) ⟨hp.push o, g, d, tk, os⟩ → wpAny (model prog w) A' (pyIter v) Q E ⟨hp, g, d, tk, os⟩ :=
      fun q => B.iter prog w _ _ ⟨hp, g, d, tk, os⟩ _ h1 q
    wp_walk using q1
    apply wpAny_stack_any; intro stk; apply wpAny_pure
    split
    · rename_i cl _ _ _ _ _
      rcases Bool.eq_false_or_eq_true (cl == Value.type "enumerate") with z | z <;>
        (rw [z]; wp_walk using q1; exact ⟨_, rfl, h⟩)
    · (wp_walk using q1); exact ⟨_, rfl, h⟩
theorem enum1 {prog : Program} {w : World} {A : Around} {E : Value → Shared → Prop} {v : Value} {o : Obj} {Hh : Heap → Prop} {Q : Value → Shared → Prop} (B : Begins v o Hh) (h1 : Hh s.heap)
    (h : ∀ h', IsEnum h' (s.heap.objs.size + 1) s.heap.objs.size 0 .none → h'.get? s.heap.objs.size = some o → (∀ b o, s.heap.get? b = some o → h'.get? b = some o) → Q (.ref (s.heap.objs.size + 1)) { s with heap := h' }) :
    wpAny (model prog w) A (call (.type "enumerate") [v]) Q E s := by
  refine callType_new F.called_enumerate (by decide) (F.typeCall_enumerate_1 _) (F.newCall_enumerate_1 _) (fun obj => F.args_object_init_2 obj _) F.entry_enumerate_new (meets_enum1 B) ⟨h1, ?_⟩
  have z1 : (s.heap.push o).objs.size = s.heap.objs.size + 1 := Heap.size_push ..
  have g1 := Heap.get?_push_size (s.heap.push o) (o := { cls := .type "enumerate", data := .fields #[.none, .bool false, .ref s.heap.objs.size, rawInt 0, .none, .none] }) rfl
  show _ ∧ _
  rw [z1] at g1 ⊢
  exact ⟨⟨_, g1, rfl⟩, h _ g1 (Heap.get?_push_of_some _ (Heap.get?_push_size _ B.free)) fun b o x => Heap.get?_push_of_some _ (Heap.get?_push_of_some _ x)⟩
def iEnumX (K : PySem.W.Frag) (ta : TA) : TI := fun σ H R => ta σ H fun vs H1 => ∃ b a xs, vs = [.ref a] ∧ SqX K b H1 a xs ∧ R (Iex K b a) H1
theorem pi_enumX {e : Expr} {ta : TA} {p pos tpos : Pos} {elts : List Expr} {kk : Nat} (hg : Gl X "enumerate") (hm : X.mg "enumerate" = none) (ha : PA X [e] ta) (hs : starEach [e] X.env = [(false, eval e X.env)]) :
    PI X (.Tuple elts kk tpos) (.Call (.Name "enumerate" p) [e] [] pos) (iEnumX X.K ta) := by
  refine ⟨fun pins s σ H R I h => ?_⟩
  refine PyProof.Rows.Call_ (ld_blt I hg hm PyProof.Rows.boot_enumerate (PyProof.Rows.callWith_type1 (thn (ha.run pos pins s σ H _ I h) fun us s1 ⟨vs, H1, I1, r1, q1⟩ => ?_) hs rfl))
  obtain ⟨b, a, xs, ex, hq, q⟩ := q1
  subst ex
  obtain ⟨u, us, ru, rr, rfl⟩ : ∃ u us', RelV (.ref a) u ∧ Vals [] us' ∧ us = u :: us' := by
    cases r1 with
    | cons r rr => exact ⟨_, _, r, rr, rfl⟩
  cases rr
  obtain rfl : u = Value.ref a := ru
  obtain ⟨its, rv, p', hz⟩ := seqX I1 hq
  refine enum1 (beginsX b a its.toArray) p' fun h' he hit hk => wpAny_pyIter_enum he ?_
  have la := p'.lt
  refine ⟨s1.heap.objs.size + 1, [s1.heap.objs.size + 1, s1.heap.objs.size], _, _, H1, rfl, I1.kept (t' := s1.toks) hk, turn_enumX b a (s1.heap.objs.size + 1) s1.heap.objs.size (Nat.succ_ne_self _) (Nat.ne_of_lt la) (Nat.ne_of_lt (Nat.lt_succ_of_lt la)),
    ⟨⟨.none, by simpa using he⟩, itX0 hit⟩, fun c hc => ?_, q⟩
  have hle : s1.heap.objs.size ≤ c := by
    have e' : c = s1.heap.objs.size + 1 ∨ c = s1.heap.objs.size := by simpa using hc
    rcases e' with z | z
    · rw [z]; exact Nat.le_add_right _ _
    · rw [z]; exact Nat.le_refl _
  exact I1.fpOk hle (I1.hok.fresh hle)
end
end PM

/-! PMl: zip of two and of three, over lists and tuples alike; what they give out in the small language. -/
namespace PM
open PySem L2
section
variable {X : Cx} {pins : List (Addr × Obj)} {σ : St} {H : Hp} {s : Shared} {K : PySem.W.Frag}
def Iz2 (K : PySem.W.Frag) (b c : Bool) (a1 a2 : Addr) : It :=
  ⟨fun i H => ∃ (xs ys : List V) (x y : V), SqX K b H a1 xs ∧ SqX K c H a2 ys ∧ xs[i]? = some x ∧ ys[i]? = some y,
   fun i H v H' => ∃ T x y, v = .ref T ∧ H T = none ∧ H' = upd H T (.tup [x, y]) ∧ (∀ xs, SqX K b H a1 xs → xs[i]? = some x) ∧ ∀ ys, SqX K c H a2 ys → ys[i]? = some y,
   fun i H => ∃ xs ys : List V, SqX K b H a1 xs ∧ SqX K c H a2 ys ∧ min xs.length ys.length = i⟩
def Iz3 (K : PySem.W.Frag) (b c d : Bool) (a1 a2 a3 : Addr) : It :=
  ⟨fun i H => ∃ (xs ys zs : List V) (x y z : V), SqX K b H a1 xs ∧ SqX K c H a2 ys ∧ SqX K d H a3 zs ∧ xs[i]? = some x ∧ ys[i]? = some y ∧ zs[i]? = some z,
   fun i H v H' => ∃ T x y z, v = .ref T ∧ H T = none ∧ H' = upd H T (.tup [x, y, z]) ∧ (∀ xs, SqX K b H a1 xs → xs[i]? = some x) ∧ (∀ ys, SqX K c H a2 ys → ys[i]? = some y) ∧ ∀ zs, SqX K d H a3 zs → zs[i]? = some z,
   fun i H => ∃ xs ys zs : List V, SqX K b H a1 xs ∧ SqX K c H a2 ys ∧ SqX K d H a3 zs ∧ min (min xs.length ys.length) zs.length = i⟩
theorem ltV {xs : List V} {its : List Value} (rv : Vals xs its) {i : Nat} {x : V} (h : xs[i]? = some x) : i < its.toArray.size := by
  have h1 := (List.getElem?_eq_some_iff.mp h).1
  have h2 := rv.length
  simp only [List.size_toArray]; omega
theorem atV {xs : List V} {its : List Value} (rv : Vals xs its) {i : Nat} {x : V} {u : Value} (h : xs[i]? = some x) (hu : its.toArray[i]? = some u) : RelV x u := by
  obtain ⟨u', hu', ru⟩ := rv.get h
  have hu2 : its[i]? = some u := by simpa using hu
  rw [hu2] at hu'; cases hu'
  exact ru
theorem sub4 {b z t a c d : Addr} (h : b ∉ [z, t, a, c, d]) : b ∉ [z, a, c, d] := by
  simp only [List.mem_cons, List.not_mem_nil, or_false, not_or] at h ⊢
  exact ⟨h.1, h.2.2⟩
theorem sub5 {b z t a c d e : Addr} (h : b ∉ [z, t, a, c, d, e]) : b ∉ [z, a, c, d, e] := by
  simp only [List.mem_cons, List.not_mem_nil, or_false, not_or] at h ⊢
  exact ⟨h.1, h.2.2⟩
theorem turn_z2 {P : Program} {w : World} {elts : List Expr} {kk : Nat} {tpos : Pos} (b c : Bool) {a1 a2 N : Addr} (h1 : a1 < N) (h2 : a2 < N) :
    Turn P w K (.Tuple elts kk tpos) (Iz2 K b c a1 a2) [N + 4, N + 2, N + 3, N, N + 1] (N + 4) (fun i h => IsZip h (N + 4) (N + 2) (N + 3) .none ∧ IsTupOf2 h (N + 2) (.ref N) (.ref (N + 1)) ∧ (∃ x y, IsTupOf2 h (N + 3) x y) ∧ ItX b h N a1 i ∧ ItX c h (N + 1) a2 i) where
  mem := by simp
  obj := fun i h st q hq => by
    obtain ⟨hz, ht, ⟨x, y, ho⟩, i1, i2⟩ := st
    have e' : q = N + 4 ∨ q = N + 2 ∨ q = N + 3 ∨ q = N ∨ q = N + 1 := by simpa using hq
    rcases e' with z | z | z | z | z <;> rw [z]
    · exact ⟨_, hz, fun v q => nomatch q⟩
    · exact ⟨_, ht, fun v q => nomatch q⟩
    · exact ⟨_, ho, fun v q => nomatch q⟩
    · exact i1.obj
    · exact i2.obj
  keep := fun i h h' st k => by
    obtain ⟨hz, ht, ⟨x, y, ho⟩, i1, i2⟩ := st
    exact ⟨k _ (by simp) _ hz, k _ (by simp) _ ht, ⟨x, y, k _ (by simp) _ ho⟩, i1.at fun o q => k N (by simp) o q, i2.at fun o q => k (N + 1) (by simp) o q⟩
  item := by
    intro X hP hw hK hc i pins s σ H E I hf st hg
    subst hP hw hK
    obtain ⟨xs, ys, x, y, hqx, hqy, hx, hy⟩ := hg
    obtain ⟨its, rv, p1, _⟩ := seqX I hqx
    obtain ⟨jts, rw', p2, _⟩ := seqX I hqy
    have W := GoesN.zip2 (elts := elts) (x1 := kk) (pos := tpos) (prog := X.prog) (w := X.w) (A := X.A) (zip_sep2 (N := N) (fp1 := [a1]) (fp2 := [a2]) (by simpa using h1) (by simpa using h2))
      (drawsX (prog := X.prog) (w := X.w) (A := X.A.in1) (I.ok.hd hc) b N a1 (Nat.ne_of_lt h1) its.toArray) (drawsX (prog := X.prog) (w := X.w) (A := X.A.in1) (I.ok.hd hc) c (N + 1) a2 (Nat.ne_of_lt (Nat.lt_succ_of_lt h2)) jts.toArray)
    refine W.goes i s _ E (Nat.lt_min.mpr ⟨ltV rv hx, ltV rw' hy⟩) ⟨st.1, st.2.1, st.2.2.1, ⟨st.2.2.2.1, p1⟩, ⟨st.2.2.2.2, p2⟩⟩ fun v h' tk hY st' hk _ => ?_
    obtain ⟨T, u1, u2, ev, hT, q1, q2, ht⟩ := hY
    have I1 := freshT (tk := tk) (vs := [x, y]) (us := [u1, u2]) (ch := [N + 4, N + 2, N + 3, N, N + 1]) I (fun b o hb e => hk b o (sub4 hb) e) hf hT ht (.cons (atV rv hx q1) (.cons (atV rw' hy q2) .nil)) (by show 2 ≤ sizeLine; decide)
    refine ⟨.ref T, _, I1, ev, ⟨T, x, y, rfl, I.hok.fresh hT, rfl, fun l hl => by rw [seqX_inj I hl hqx]; exact hx, fun l hl => by rw [seqX_inj I hl hqy]; exact hy⟩, ⟨st'.1, st'.2.1, st'.2.2.1, st'.2.2.2.1.1, st'.2.2.2.2.1⟩, fpKeep hf (fun q hq => ?_) hT⟩
    obtain ⟨hz, ht, ⟨x, y, ho⟩, i1, i2⟩ := st
    have e' : q = N + 4 ∨ q = N + 2 ∨ q = N + 3 ∨ q = N ∨ q = N + 1 := by simpa using hq
    rcases e' with z | z | z | z | z <;> rw [z]
    · exact ⟨_, hz⟩
    · exact ⟨_, ht⟩
    · exact ⟨_, ho⟩
    · obtain ⟨o, q, _⟩ := i1.obj; exact ⟨o, q⟩
    · obtain ⟨o, q, _⟩ := i2.obj; exact ⟨o, q⟩
  done := by
    intro X hP hw hK hc i pins s σ H E I hf st hg
    subst hP hw hK
    obtain ⟨xs, ys, hqx, hqy, hi⟩ := hg
    obtain ⟨its, rv, p1, _⟩ := seqX I hqx
    obtain ⟨jts, rw', p2, _⟩ := seqX I hqy
    have W := GoesN.zip2 (elts := elts) (x1 := kk) (pos := tpos) (prog := X.prog) (w := X.w) (A := X.A) (zip_sep2 (N := N) (fp1 := [a1]) (fp2 := [a2]) (by simpa using h1) (by simpa using h2))
      (drawsX (prog := X.prog) (w := X.w) (A := X.A.in1) (I.ok.hd hc) b N a1 (Nat.ne_of_lt h1) its.toArray) (drawsX (prog := X.prog) (w := X.w) (A := X.A.in1) (I.ok.hd hc) c (N + 1) a2 (Nat.ne_of_lt (Nat.lt_succ_of_lt h2)) jts.toArray)
    have hi' : i = min its.toArray.size jts.toArray.size := by
      rw [← hi, rv.length, rw'.length]; simp
    rw [hi'] at st
    exact W.stops s _ E ⟨st.1, st.2.1, st.2.2.1, ⟨st.2.2.2.1, p1⟩, ⟨st.2.2.2.2, p2⟩⟩ fun h' tk hk _ => I.turnedL (ch := [N + 4, N + 2, N + 3, N, N + 1]) (fun b o hb e => hk b o (sub4 hb) e) hf
  self := fun A i s Q E st h => wpAny_pyIter_zip st.1 h
theorem turn_z3 {P : Program} {w : World} {elts : List Expr} {kk : Nat} {tpos : Pos} (b c d : Bool) {a1 a2 a3 N : Addr} (h1 : a1 < N) (h2 : a2 < N) (h3 : a3 < N) :
    Turn P w K (.Tuple elts kk tpos) (Iz3 K b c d a1 a2 a3) [N + 5, N + 3, N + 4, N, N + 1, N + 2] (N + 5)
      (fun i h => IsZip h (N + 5) (N + 3) (N + 4) .none ∧ IsTupOf3 h (N + 3) (.ref N) (.ref (N + 1)) (.ref (N + 2)) ∧ (∃ x y z, IsTupOf3 h (N + 4) x y z) ∧ ItX b h N a1 i ∧ ItX c h (N + 1) a2 i ∧ ItX d h (N + 2) a3 i) where
  mem := by simp
  obj := fun i h st q hq => by
    obtain ⟨hz, ht, ⟨x, y, u, ho⟩, i1, i2, i3⟩ := st
    have e' : q = N + 5 ∨ q = N + 3 ∨ q = N + 4 ∨ q = N ∨ q = N + 1 ∨ q = N + 2 := by simpa using hq
    rcases e' with z | z | z | z | z | z <;> rw [z]
    · exact ⟨_, hz, fun v q => nomatch q⟩
    · exact ⟨_, ht, fun v q => nomatch q⟩
    · exact ⟨_, ho, fun v q => nomatch q⟩
    · exact i1.obj
    · exact i2.obj
    · exact i3.obj
  keep := fun i h h' st k => by
    obtain ⟨hz, ht, ⟨x, y, u, ho⟩, i1, i2, i3⟩ := st
    exact ⟨k _ (by simp) _ hz, k _ (by simp) _ ht, ⟨x, y, u, k _ (by simp) _ ho⟩, i1.at fun o q => k N (by simp) o q, i2.at fun o q => k (N + 1) (by simp) o q, i3.at fun o q => k (N + 2) (by simp) o q⟩
  item := by
    intro X hP hw hK hc i pins s σ H E I hf st hg
    subst hP hw hK
    obtain ⟨xs, ys, zs, x, y, z, hqx, hqy, hqz, hx, hy, hz⟩ := hg
    obtain ⟨its, rv, p1, _⟩ := seqX I hqx
    obtain ⟨jts, rw', p2, _⟩ := seqX I hqy
    obtain ⟨kts, ru, p3, _⟩ := seqX I hqz
    have W := GoesN.zip3 (elts := elts) (x1 := kk) (pos := tpos) (prog := X.prog) (w := X.w) (A := X.A) (zip_sep3 (N := N) (fp1 := [a1]) (fp2 := [a2]) (fp3 := [a3]) (by simpa using h1) (by simpa using h2) (by simpa using h3))
      (drawsX (prog := X.prog) (w := X.w) (A := X.A.in1) (I.ok.hd hc) b N a1 (Nat.ne_of_lt h1) its.toArray) (drawsX (prog := X.prog) (w := X.w) (A := X.A.in1) (I.ok.hd hc) c (N + 1) a2 (Nat.ne_of_lt (Nat.lt_succ_of_lt h2)) jts.toArray)
      (drawsX (prog := X.prog) (w := X.w) (A := X.A.in1) (I.ok.hd hc) d (N + 2) a3 (Nat.ne_of_lt (Nat.lt_succ_of_lt (Nat.lt_succ_of_lt h3))) kts.toArray)
    refine W.goes i s _ E (Nat.lt_min.mpr ⟨Nat.lt_min.mpr ⟨ltV rv hx, ltV rw' hy⟩, ltV ru hz⟩) ⟨st.1, st.2.1, st.2.2.1, ⟨st.2.2.2.1, p1⟩, ⟨st.2.2.2.2.1, p2⟩, ⟨st.2.2.2.2.2, p3⟩⟩ fun v h' tk hY st' hk _ => ?_
    obtain ⟨T, u1, u2, u3, ev, hT, q1, q2, q3, ht⟩ := hY
    have I1 := freshT (tk := tk) (vs := [x, y, z]) (us := [u1, u2, u3]) (ch := [N + 5, N + 3, N + 4, N, N + 1, N + 2]) I (fun b o hb e => hk b o (sub5 hb) e) hf hT ht (.cons (atV rv hx q1) (.cons (atV rw' hy q2) (.cons (atV ru hz q3) .nil))) (by show 3 ≤ sizeLine; decide)
    refine ⟨.ref T, _, I1, ev, ⟨T, x, y, z, rfl, I.hok.fresh hT, rfl, fun l hl => by rw [seqX_inj I hl hqx]; exact hx, fun l hl => by rw [seqX_inj I hl hqy]; exact hy, fun l hl => by rw [seqX_inj I hl hqz]; exact hz⟩, ⟨st'.1, st'.2.1, st'.2.2.1, st'.2.2.2.1.1, st'.2.2.2.2.1.1, st'.2.2.2.2.2.1⟩, fpKeep hf (fun q hq => ?_) hT⟩
    obtain ⟨hz, ht, ⟨x, y, u, ho⟩, i1, i2, i3⟩ := st
    have e' : q = N + 5 ∨ q = N + 3 ∨ q = N + 4 ∨ q = N ∨ q = N + 1 ∨ q = N + 2 := by simpa using hq
    rcases e' with z | z | z | z | z | z <;> rw [z]
    · exact ⟨_, hz⟩
    · exact ⟨_, ht⟩
    · exact ⟨_, ho⟩
    · obtain ⟨o, q, _⟩ := i1.obj; exact ⟨o, q⟩
    · obtain ⟨o, q, _⟩ := i2.obj; exact ⟨o, q⟩
    · obtain ⟨o, q, _⟩ := i3.obj; exact ⟨o, q⟩
  done := by
    intro X hP hw hK hc i pins s σ H E I hf st hg
    subst hP hw hK
    obtain ⟨xs, ys, zs, hqx, hqy, hqz, hi⟩ := hg
    obtain ⟨its, rv, p1, _⟩ := seqX I hqx
    obtain ⟨jts, rw', p2, _⟩ := seqX I hqy
    obtain ⟨kts, ru, p3, _⟩ := seqX I hqz
    have W := GoesN.zip3 (elts := elts) (x1 := kk) (pos := tpos) (prog := X.prog) (w := X.w) (A := X.A) (zip_sep3 (N := N) (fp1 := [a1]) (fp2 := [a2]) (fp3 := [a3]) (by simpa using h1) (by simpa using h2) (by simpa using h3))
      (drawsX (prog := X.prog) (w := X.w) (A := X.A.in1) (I.ok.hd hc) b N a1 (Nat.ne_of_lt h1) its.toArray) (drawsX (prog := X.prog) (w := X.w) (A := X.A.in1) (I.ok.hd hc) c (N + 1) a2 (Nat.ne_of_lt (Nat.lt_succ_of_lt h2)) jts.toArray)
      (drawsX (prog := X.prog) (w := X.w) (A := X.A.in1) (I.ok.hd hc) d (N + 2) a3 (Nat.ne_of_lt (Nat.lt_succ_of_lt (Nat.lt_succ_of_lt h3))) kts.toArray)
    have hi' : i = min (min its.toArray.size jts.toArray.size) kts.toArray.size := by
      rw [← hi, rv.length, rw'.length, ru.length]; simp
    rw [hi'] at st
    exact W.stops s _ E ⟨st.1, st.2.1, st.2.2.1, ⟨st.2.2.2.1, p1⟩, ⟨st.2.2.2.2.1, p2⟩, ⟨st.2.2.2.2.2, p3⟩⟩ fun h' tk hk _ => I.turnedL (ch := [N + 5, N + 3, N + 4, N, N + 1, N + 2]) (fun b o hb e => hk b o (sub5 hb) e) hf
  self := fun A i s Q E st h => wpAny_pyIter_zip st.1 h
def iZip2 (K : PySem.W.Frag) (ta : TA) : TI := fun σ H R => ta σ H fun vs H1 => ∃ b c a1 a2 xs ys, vs = [.ref a1, .ref a2] ∧ SqX K b H1 a1 xs ∧ SqX K c H1 a2 ys ∧ R (Iz2 K b c a1 a2) H1
def iZip3 (K : PySem.W.Frag) (ta : TA) : TI := fun σ H R => ta σ H fun vs H1 => ∃ b c d a1 a2 a3 xs ys zs, vs = [.ref a1, .ref a2, .ref a3] ∧ SqX K b H1 a1 xs ∧ SqX K c H1 a2 ys ∧ SqX K d H1 a3 zs ∧ R (Iz3 K b c d a1 a2 a3) H1
theorem vals1 {a : Addr} {vs : List V} {us : List Value} (r : Vals (.ref a :: vs) us) : ∃ us', us = .ref a :: us' ∧ Vals vs us' := by
  cases r with
  | cons r rr =>
    obtain rfl := (show _ = Value.ref a from r)
    exact ⟨_, rfl, rr⟩
theorem vals0 {us : List Value} (r : Vals [] us) : us = [] := by cases r; rfl
theorem pi_z2 {e e2 : Expr} {ta : TA} {p pos tpos : Pos} {elts : List Expr} {kk : Nat} (hg : Gl X "zip") (hm : X.mg "zip" = none) (ha : PA X [e, e2] ta) (hs : starEach [e, e2] X.env = (false, eval e X.env) :: starEach [e2] X.env) (hpl : (backTo pos (starEach [e2] X.env)).any (·.1) = false) :
    PI X (.Tuple elts kk tpos) (.Call (.Name "zip" p) [e, e2] [] pos) (iZip2 X.K ta) := by
  refine ⟨fun pins s σ H R I h => ?_⟩
  refine PyProof.Rows.Call_ (ld_blt I hg hm PyProof.Rows.boot_zip (PyProof.Rows.callWith_type1 (thn (ha.run pos pins s σ H _ I h) fun us s1 ⟨vs, H1, I1, r1, q1⟩ => ?_) hs hpl))
  obtain ⟨b, c, a1, a2, xs, ys, ex, hqx, hqy, q⟩ := q1
  subst ex
  obtain ⟨us1, rfl, r2⟩ := vals1 r1
  obtain ⟨us2, rfl, r3⟩ := vals1 r2
  obtain rfl := vals0 r3
  obtain ⟨its, rv, p1, _⟩ := seqX I1 hqx
  obtain ⟨jts, rw', p2, _⟩ := seqX I1 hqy
  refine zip_begins2 (beginsX b a1 its.toArray) (beginsX c a2 jts.toArray) p1 p2 fun h' hz ht ho g1 g2 _ hk => wpAny_pyIter_zip hz ?_
  refine ⟨s1.heap.objs.size + 4, _, _, _, H1, rfl, I1.kept (t' := s1.toks) hk, turn_z2 b c p1.lt p2.lt, ⟨hz, ht, ⟨_, _, ho⟩, itX0 g1, itX0 g2⟩, fun n hn => ?_, q⟩
  have hle : s1.heap.objs.size ≤ n := by
    have e' : n = s1.heap.objs.size + 4 ∨ n = s1.heap.objs.size + 2 ∨ n = s1.heap.objs.size + 3 ∨ n = s1.heap.objs.size ∨ n = s1.heap.objs.size + 1 := by simpa using hn
    rcases e' with z | z | z | z | z <;> rw [z] <;> first | exact Nat.le_add_right _ _ | exact Nat.le_refl _
  exact I1.fpOk hle (I1.hok.fresh hle)
theorem pi_z3 {e e2 e3 : Expr} {ta : TA} {p pos tpos : Pos} {elts : List Expr} {kk : Nat} (hg : Gl X "zip") (hm : X.mg "zip" = none) (ha : PA X [e, e2, e3] ta) (hs : starEach [e, e2, e3] X.env = (false, eval e X.env) :: starEach [e2, e3] X.env) (hpl : (backTo pos (starEach [e2, e3] X.env)).any (·.1) = false) :
    PI X (.Tuple elts kk tpos) (.Call (.Name "zip" p) [e, e2, e3] [] pos) (iZip3 X.K ta) := by
  refine ⟨fun pins s σ H R I h => ?_⟩
  refine PyProof.Rows.Call_ (ld_blt I hg hm PyProof.Rows.boot_zip (PyProof.Rows.callWith_type1 (thn (ha.run pos pins s σ H _ I h) fun us s1 ⟨vs, H1, I1, r1, q1⟩ => ?_) hs hpl))
  obtain ⟨b, c, d, a1, a2, a3, xs, ys, zs, ex, hqx, hqy, hqz, q⟩ := q1
  subst ex
  obtain ⟨us1, rfl, r2⟩ := vals1 r1
  obtain ⟨us2, rfl, r3⟩ := vals1 r2
  obtain ⟨us3, rfl, r4⟩ := vals1 r3
  obtain rfl := vals0 r4
  obtain ⟨its, rv, p1, _⟩ := seqX I1 hqx
  obtain ⟨jts, rw', p2, _⟩ := seqX I1 hqy
  obtain ⟨kts, ru, p3, _⟩ := seqX I1 hqz
  refine zip_begins3 (beginsX b a1 its.toArray) (beginsX c a2 jts.toArray) (beginsX d a3 kts.toArray) p1 p2 p3 fun h' hz ht ho g1 g2 g3 _ hk => wpAny_pyIter_zip hz ?_
  refine ⟨s1.heap.objs.size + 5, _, _, _, H1, rfl, I1.kept (t' := s1.toks) hk, turn_z3 b c d p1.lt p2.lt p3.lt, ⟨hz, ht, ⟨_, _, _, ho⟩, itX0 g1, itX0 g2, itX0 g3⟩, fun n hn => ?_, q⟩
  have hle : s1.heap.objs.size ≤ n := by
    have e' : n = s1.heap.objs.size + 5 ∨ n = s1.heap.objs.size + 3 ∨ n = s1.heap.objs.size + 4 ∨ n = s1.heap.objs.size ∨ n = s1.heap.objs.size + 1 ∨ n = s1.heap.objs.size + 2 := by simpa using hn
    rcases e' with z | z | z | z | z | z <;> rw [z] <;> first | exact Nat.le_add_right _ _ | exact Nat.le_refl _
  exact I1.fpOk hle (I1.hok.fresh hle)
end
/-! ### what is given out -/
section
variable {C : Cc} {W : WX} {X : Cx} {pos p tpos : Pos} {elts : List Expr} {kk : Nat} {H : Hp} {M : Store} {w : Wd} {K : PySem.W.Frag}
/-- a source, list or tuple -/
theorem srcX_of {x : D} {v : V} {s : Src} (r : Rep K w x v) (e : srcSeq x M = some s) (k : Ok K H w M) : s.ok M = true ∧ ∃ a b, v = .ref a ∧ ∀ H' w' M', Ok K H' w' M' → Later w w' → s.ok M' = true → ∃ vs, SqX K b H' a vs ∧ Reps K w' s.items vs := by
  by_cases hx : ∃ ds, x = .tup ds
  · obtain ⟨ds, rfl⟩ := hx
    cases e
    obtain ⟨a, vs, e1, z, q⟩ := r
    exact ⟨rfl, a, false, e1, fun H' w' M' k' l _ => ⟨vs, k'.sqT (l.fz _ _ z), q.later l⟩⟩
  · obtain ⟨h1, a, h2, h3⟩ := srcL_of r e k (fun ds z => hx ⟨ds, z⟩)
    exact ⟨h1, a, true, h2, h3⟩
theorem Src.ok_app {l : List D} {a b : List (Nat × Cell)} (h : Src.ok ⟨l, a ++ b⟩ M = true) (m m' : List D) : Src.ok ⟨m, a⟩ M = true ∧ Src.ok ⟨m', b⟩ M = true := by
  have h' : ((a ++ b).all fun p => decide (M[p.1]? = some p.2)) = true := h
  rw [List.all_append, Bool.and_eq_true] at h'
  exact h'
/-- a fresh tuple of data that stand -/
theorem freshTup {T : Addr} {ds : List D} {vs : List V} (k : Ok K H w M) (hT : H T = none) (r : Reps K w ds vs) : ∃ w', Grow H w (upd H T (.tup vs)) w' ∧ Ok K (upd H T (.tup vs)) w' M ∧ Rep K w' (.tup ds) (.ref T) :=
  ⟨w.addF T (.tup vs), grow_addF k hT _, k.addF hT trivial, T, vs, rfl, (show upd w.Fz T (.tup vs) T = _ from upd_same), r.grow (grow_addF k hT (.tup vs))⟩
theorem ltR {ds : List D} {vs : List V} (r : Reps K w ds vs) {i : Nat} (h : i < ds.length) : ∃ v, vs[i]? = some v ∧ Rep K w ds[i] v := r.at (List.getElem?_eq_getElem h)
theorem wkd_enum {x : D} {v : V} {s : Src} (r : Rep K w x v) (e : srcSeq x M = some s) (k : Ok K H w M) : ∃ a b, v = .ref a ∧ (∃ xs, SqX K b H a xs) ∧ Wkd K (Iex K b a) ⟨(s.items.zipIdx).map fun p => .tup [.int (p.2 : Nat), p.1], s.still⟩ w := by
  obtain ⟨h1, a, b, h2, h3⟩ := srcX_of r e k
  obtain ⟨vs, sq, _⟩ := h3 H w M k .refl h1
  refine ⟨a, b, h2, ⟨vs, sq⟩, ?_, ?_, ?_⟩
  · intro i H1 w1 M1 hi k1 l ok
    obtain ⟨vs, sq, rr⟩ := h3 H1 w1 M1 k1 l ok
    obtain ⟨v, hv, _⟩ := ltR rr (i := i) (by simpa using hi)
    exact ⟨vs, v, sq, hv⟩
  · intro H1 w1 M1 k1 l ok
    obtain ⟨vs, sq, rr⟩ := h3 H1 w1 M1 k1 l ok
    exact ⟨vs, sq, by simpa using rr.len⟩
  · intro i H1 w1 M1 x H' hi k1 l ok y
    obtain ⟨vs, sq, rr⟩ := h3 H1 w1 M1 k1 l ok
    have hi : i < s.items.length := by simpa using hi
    obtain ⟨v, hv, rv⟩ := ltR rr hi
    obtain ⟨T, u, rfl, hT, rfl, hu⟩ := y
    cases hv.symm.trans (hu vs sq)
    obtain ⟨w', g, k', r'⟩ := freshTup (ds := [.int (i : Nat), s.items[i]]) (vs := [.int (i : Nat), v]) k1 hT ⟨_, _, rfl, rfl, _, _, rfl, rv, rfl⟩
    exact ⟨_, w', by simp [hi], g, k', r'⟩
theorem pi_Enum (hK : X.K = C.K) (hg : Gl X "enumerate") (hm : X.mg "enumerate" = none) {e : Expr} {m : ME} (h : PA X [e] (tA C W [m])) (hs : starEach [e] X.env = [(false, eval e X.env)]) : PI X (.Tuple elts kk tpos) (.Call (.Name "enumerate" p) [e] [] pos) (tI C W (.enum m)) :=
  piMono (pi_enumX hg hm h hs) fun σ H R h => by
    rw [hK]
    have h : Rd0 C W (fun env M => (evE C.F C.G m env M).bind fun x M => match srcSeq x M with
      | some s => .ok ⟨(s.items.zipIdx).map fun p => .tup [.int (p.2 : Nat), p.1], s.still⟩ M
      | none => .no) σ H fun s _ H' w' _ => ∀ J, Wkd C.K J s w' → R J H' := h
    simp only [ev1] at h
    refine (rng_read h).imp fun ds M1 H1 w1 env k1 e1 h1 vs rs => ?_
    split at h1
    · obtain ⟨v, rfl, rv⟩ := reps1 rs
      split at h1
      · rename_i s hs
        obtain ⟨a, b, ev, ⟨xs, sq⟩, wk⟩ := wkd_enum rv hs k1
        exact ⟨b, a, xs, by rw [ev], sq, h1.here k1 _ wk⟩
      · exact h1.elim
    · exact h1.elim
theorem zipD2_at {l m : List D} {i : Nat} : ((zipD [l, m]).map D.tup)[i]? = (match l[i]?, m[i]? with
    | some x, some y => some (.tup [x, y])
    | _, _ => none) := by
  show ((List.zipWith (fun x l => x :: l) l (m.map fun x => [x])).map D.tup)[i]? = _
  rw [List.getElem?_map, List.getElem?_zipWith, List.getElem?_map]
  cases l[i]? <;> cases m[i]? <;> rfl
theorem zipD2_len {l m : List D} : ((zipD [l, m]).map D.tup).length = min l.length m.length := by
  show ((List.zipWith (fun x l => x :: l) l (m.map fun x => [x])).map D.tup).length = _
  simp
theorem zipD3_at {l m n : List D} {i : Nat} : ((zipD [l, m, n]).map D.tup)[i]? = (match l[i]?, m[i]?, n[i]? with
    | some x, some y, some z => some (.tup [x, y, z])
    | _, _, _ => none) := by
  show ((List.zipWith (fun x l => x :: l) l (List.zipWith (fun x l => x :: l) m (n.map fun x => [x]))).map D.tup)[i]? = _
  rw [List.getElem?_map, List.getElem?_zipWith, List.getElem?_zipWith, List.getElem?_map]
  cases l[i]? <;> cases m[i]? <;> cases n[i]? <;> rfl
theorem zipD3_len {l m n : List D} : ((zipD [l, m, n]).map D.tup).length = min (min l.length m.length) n.length := by
  show ((List.zipWith (fun x l => x :: l) l (List.zipWith (fun x l => x :: l) m (n.map fun x => [x]))).map D.tup).length = _
  simp only [List.length_map, List.length_zipWith]
  omega
theorem srcZip2 {d1 d2 : D} {l : List (List D)} {st : List (Nat × Cell)} (h : srcZip [d1, d2] M = some (l, st)) : ∃ s1 s2, srcSeq d1 M = some s1 ∧ srcSeq d2 M = some s2 ∧ l = [s1.items, s2.items] ∧ st = s1.still ++ (s2.still ++ []) := by
  unfold srcZip srcZip srcZip at h
  cases e1 : srcSeq d1 M with
  | none => rw [e1] at h; cases h
  | some s1 =>
    cases e2 : srcSeq d2 M with
    | none => rw [e1, e2] at h; cases h
    | some s2 => rw [e1, e2] at h; cases h; exact ⟨s1, s2, rfl, rfl, rfl, rfl⟩
theorem srcZip3 {d1 d2 d3 : D} {l : List (List D)} {st : List (Nat × Cell)} (h : srcZip [d1, d2, d3] M = some (l, st)) : ∃ s1 s2 s3, srcSeq d1 M = some s1 ∧ srcSeq d2 M = some s2 ∧ srcSeq d3 M = some s3 ∧ l = [s1.items, s2.items, s3.items] ∧ st = s1.still ++ (s2.still ++ (s3.still ++ [])) := by
  unfold srcZip srcZip srcZip srcZip at h
  cases e1 : srcSeq d1 M with
  | none => rw [e1] at h; cases h
  | some s1 =>
    cases e2 : srcSeq d2 M with
    | none => rw [e1, e2] at h; cases h
    | some s2 =>
      cases e3 : srcSeq d3 M with
      | none => rw [e1, e2, e3] at h; cases h
      | some s3 => rw [e1, e2, e3] at h; cases h; exact ⟨s1, s2, s3, rfl, rfl, rfl, rfl, rfl⟩
theorem evEs_len {F : Fns} {G : List D} : ∀ {l : List ME} {env : EnvD} {M M' : Store} {ds : List D}, evEs F G l env M = .ok ds M' → ds.length = l.length
  | [], _, _, _, _, e => by cases e; rfl
  | x :: l, env, M, M', ds, e => by
    have e : ((evE F G x env M).bind fun d M => (evEs F G l env M).bind fun xs M => .ok (d :: xs) M) = .ok ds M' := e
    cases h1 : evE F G x env M with
    | ok d M1 =>
      rw [h1, ok_bind] at e
      cases h2 : evEs F G l env M1 with
      | ok xs M2 =>
        rw [h2, ok_bind] at e
        cases e
        rw [List.length_cons, List.length_cons, evEs_len h2]
      | ex _ _ _ => rw [h2] at e; cases e
      | no => rw [h2] at e; cases e
    | ex _ _ _ => rw [h1] at e; cases e
    | no => rw [h1] at e; cases e
theorem rng_readL {α : Type} {σ : St} {H : Hp} {m : List ME} {f : List D → Store → Res α} {P : α → Store → Hp → Wd → EnvD → Prop} (h : Rd0 C W (fun env M => (evEs C.F C.G m env M).bind fun x M => f x M) σ H P) :
    Rd0 C W (evEs C.F C.G m) σ H fun ds M' H' w' env => ds.length = m.length ∧ After C.K C.ca (fun c d H => W c d σ H) H' w' (f ds M') fun a M' H' w' => P a M' H' w' env := by
  obtain ⟨env, M, w, k, eo, h⟩ := h
  refine ⟨env, M, w, k, eo, ?_⟩
  replace h : After C.K C.ca (fun c d H => W c d σ H) H w ((evEs C.F C.G m env M).bind fun x M => f x M) fun a M' H' w' => P a M' H' w' env := h
  cases e : evEs C.F C.G m env M with
  | ok ds M1 =>
    rw [e] at h
    exact fun H1 w1 g1 k1 => ⟨evEs_len e, After.grow g1 (show After C.K C.ca (fun c d H => W c d σ H) H w (f ds M1) _ from h)⟩
  | ex c v M1 => rw [e] at h; exact h
  | no => rw [e] at h; exact h.elim
theorem wkd_z2 {d1 d2 : D} {v1 v2 : V} {s1 s2 : Src} (r1 : Rep K w d1 v1) (r2 : Rep K w d2 v2) (e1 : srcSeq d1 M = some s1) (e2 : srcSeq d2 M = some s2) (k : Ok K H w M) :
    ∃ a1 b1 a2 b2, v1 = .ref a1 ∧ v2 = .ref a2 ∧ (∃ xs, SqX K b1 H a1 xs) ∧ (∃ xs, SqX K b2 H a2 xs) ∧ Wkd K (Iz2 K b1 b2 a1 a2) ⟨(zipD [s1.items, s2.items]).map .tup, s1.still ++ (s2.still ++ [])⟩ w := by
  obtain ⟨h1, a1, b1, f1, g1⟩ := srcX_of r1 e1 k
  obtain ⟨h2, a2, b2, f2, g2⟩ := srcX_of r2 e2 k
  obtain ⟨vs1, sq1, _⟩ := g1 H w M k .refl h1
  obtain ⟨vs2, sq2, _⟩ := g2 H w M k .refl h2
  have both : ∀ {H1 w1 M1}, Ok K H1 w1 M1 → Later w w1 → Src.ok ⟨(zipD [s1.items, s2.items]).map .tup, s1.still ++ (s2.still ++ [])⟩ M1 = true → (∃ vs, SqX K b1 H1 a1 vs ∧ Reps K w1 s1.items vs) ∧ ∃ vs, SqX K b2 H1 a2 vs ∧ Reps K w1 s2.items vs := fun k1 l ok =>
    ⟨g1 _ _ _ k1 l (Src.ok_app ok s1.items []).1, g2 _ _ _ k1 l (Src.ok_app (Src.ok_app ok [] s2.items).2 s2.items []).1⟩
  refine ⟨a1, b1, a2, b2, f1, f2, ⟨vs1, sq1⟩, ⟨vs2, sq2⟩, ?_, ?_, ?_⟩
  · intro i H1 w1 M1 hi k1 l ok
    obtain ⟨⟨xs, sx, rx⟩, ys, sy, ry⟩ := both k1 l ok
    have hi : i < min s1.items.length s2.items.length := by rw [← zipD2_len]; exact hi
    obtain ⟨x, hx, _⟩ := ltR rx (i := i) (by omega)
    obtain ⟨y, hy, _⟩ := ltR ry (i := i) (by omega)
    exact ⟨xs, ys, x, y, sx, sy, hx, hy⟩
  · intro H1 w1 M1 k1 l ok
    obtain ⟨⟨xs, sx, rx⟩, ys, sy, ry⟩ := both k1 l ok
    exact ⟨xs, ys, sx, sy, by rw [rx.len, ry.len]; exact zipD2_len.symm⟩
  · intro i H1 w1 M1 x H' hi k1 l ok y
    obtain ⟨⟨xs, sx, rx⟩, ys, sy, ry⟩ := both k1 l ok
    have hi : i < min s1.items.length s2.items.length := by rw [← zipD2_len]; exact hi
    have l1 : i < s1.items.length := by omega
    have l2 : i < s2.items.length := by omega
    obtain ⟨u1, hu1, q1⟩ := ltR rx l1
    obtain ⟨u2, hu2, q2⟩ := ltR ry l2
    obtain ⟨T, t1, t2, rfl, hT, rfl, z1, z2⟩ := y
    cases hu1.symm.trans (z1 xs sx)
    cases hu2.symm.trans (z2 ys sy)
    obtain ⟨w', g, k', r'⟩ := freshTup (ds := [s1.items[i], s2.items[i]]) (vs := [u1, u2]) k1 hT ⟨_, _, rfl, q1, _, _, rfl, q2, rfl⟩
    exact ⟨_, w', by rw [zipD2_at, List.getElem?_eq_getElem l1, List.getElem?_eq_getElem l2], g, k', r'⟩
theorem wkd_z3 {d1 d2 d3 : D} {v1 v2 v3 : V} {s1 s2 s3 : Src} (r1 : Rep K w d1 v1) (r2 : Rep K w d2 v2) (r3 : Rep K w d3 v3) (e1 : srcSeq d1 M = some s1) (e2 : srcSeq d2 M = some s2) (e3 : srcSeq d3 M = some s3) (k : Ok K H w M) :
    ∃ a1 b1 a2 b2 a3 b3, v1 = .ref a1 ∧ v2 = .ref a2 ∧ v3 = .ref a3 ∧ (∃ xs, SqX K b1 H a1 xs) ∧ (∃ xs, SqX K b2 H a2 xs) ∧ (∃ xs, SqX K b3 H a3 xs) ∧ Wkd K (Iz3 K b1 b2 b3 a1 a2 a3) ⟨(zipD [s1.items, s2.items, s3.items]).map .tup, s1.still ++ (s2.still ++ (s3.still ++ []))⟩ w := by
  obtain ⟨h1, a1, b1, f1, g1⟩ := srcX_of r1 e1 k
  obtain ⟨h2, a2, b2, f2, g2⟩ := srcX_of r2 e2 k
  obtain ⟨h3, a3, b3, f3, g3⟩ := srcX_of r3 e3 k
  obtain ⟨vs1, sq1, _⟩ := g1 H w M k .refl h1
  obtain ⟨vs2, sq2, _⟩ := g2 H w M k .refl h2
  obtain ⟨vs3, sq3, _⟩ := g3 H w M k .refl h3
  have both : ∀ {H1 w1 M1}, Ok K H1 w1 M1 → Later w w1 → Src.ok ⟨(zipD [s1.items, s2.items, s3.items]).map .tup, s1.still ++ (s2.still ++ (s3.still ++ []))⟩ M1 = true →
      (∃ vs, SqX K b1 H1 a1 vs ∧ Reps K w1 s1.items vs) ∧ (∃ vs, SqX K b2 H1 a2 vs ∧ Reps K w1 s2.items vs) ∧ ∃ vs, SqX K b3 H1 a3 vs ∧ Reps K w1 s3.items vs := fun k1 l ok =>
    ⟨g1 _ _ _ k1 l (Src.ok_app ok s1.items []).1, g2 _ _ _ k1 l (Src.ok_app (Src.ok_app ok [] []).2 s2.items []).1, g3 _ _ _ k1 l (Src.ok_app (Src.ok_app (Src.ok_app ok [] []).2 [] []).2 s3.items []).1⟩
  refine ⟨a1, b1, a2, b2, a3, b3, f1, f2, f3, ⟨vs1, sq1⟩, ⟨vs2, sq2⟩, ⟨vs3, sq3⟩, ?_, ?_, ?_⟩
  · intro i H1 w1 M1 hi k1 l ok
    obtain ⟨⟨xs, sx, rx⟩, ⟨ys, sy, ry⟩, zs, sz, rz⟩ := both k1 l ok
    have hi : i < min (min s1.items.length s2.items.length) s3.items.length := by rw [← zipD3_len]; exact hi
    obtain ⟨x, hx, _⟩ := ltR rx (i := i) (by omega)
    obtain ⟨y, hy, _⟩ := ltR ry (i := i) (by omega)
    obtain ⟨z, hz, _⟩ := ltR rz (i := i) (by omega)
    exact ⟨xs, ys, zs, x, y, z, sx, sy, sz, hx, hy, hz⟩
  · intro H1 w1 M1 k1 l ok
    obtain ⟨⟨xs, sx, rx⟩, ⟨ys, sy, ry⟩, zs, sz, rz⟩ := both k1 l ok
    exact ⟨xs, ys, zs, sx, sy, sz, by rw [rx.len, ry.len, rz.len]; exact zipD3_len.symm⟩
  · intro i H1 w1 M1 x H' hi k1 l ok y
    obtain ⟨⟨xs, sx, rx⟩, ⟨ys, sy, ry⟩, zs, sz, rz⟩ := both k1 l ok
    have hi : i < min (min s1.items.length s2.items.length) s3.items.length := by rw [← zipD3_len]; exact hi
    have l1 : i < s1.items.length := by omega
    have l2 : i < s2.items.length := by omega
    have l3 : i < s3.items.length := by omega
    obtain ⟨u1, hu1, q1⟩ := ltR rx l1
    obtain ⟨u2, hu2, q2⟩ := ltR ry l2
    obtain ⟨u3, hu3, q3⟩ := ltR rz l3
    obtain ⟨T, t1, t2, t3, rfl, hT, rfl, z1, z2, z3⟩ := y
    cases hu1.symm.trans (z1 xs sx)
    cases hu2.symm.trans (z2 ys sy)
    cases hu3.symm.trans (z3 zs sz)
    obtain ⟨w', g, k', r'⟩ := freshTup (ds := [s1.items[i], s2.items[i], s3.items[i]]) (vs := [u1, u2, u3]) k1 hT ⟨_, _, rfl, q1, _, _, rfl, q2, _, _, rfl, q3, rfl⟩
    exact ⟨_, w', by rw [zipD3_at, List.getElem?_eq_getElem l1, List.getElem?_eq_getElem l2, List.getElem?_eq_getElem l3], g, k', r'⟩
theorem len2 {α : Type} {l : List α} (h : l.length = 2) : ∃ a b, l = [a, b] := by
  match l, h with
  | [a, b], _ => exact ⟨a, b, rfl⟩
theorem len3 {α : Type} {l : List α} (h : l.length = 3) : ∃ a b c, l = [a, b, c] := by
  match l, h with
  | [a, b, c], _ => exact ⟨a, b, c, rfl⟩
theorem reps3 {d c b : D} {vs : List V} (r : Reps K w [d, c, b] vs) : ∃ v u t, vs = [v, u, t] ∧ Rep K w d v ∧ Rep K w c u ∧ Rep K w b t := by
  obtain ⟨v, l, e, h1, u, l2, e2, h2, t, l3, e3, h3, e4⟩ := r
  exact ⟨v, u, t, by rw [e, e2, e3, show l3 = [] from e4], h1, h2, h3⟩
theorem pi_Zip2 (hK : X.K = C.K) (hg : Gl X "zip") (hm : X.mg "zip" = none) {e e2 : Expr} {m n : ME} (h : PA X [e, e2] (tA C W [m, n])) (hs : starEach [e, e2] X.env = (false, eval e X.env) :: starEach [e2] X.env) (hpl : (backTo pos (starEach [e2] X.env)).any (·.1) = false) :
    PI X (.Tuple elts kk tpos) (.Call (.Name "zip" p) [e, e2] [] pos) (tI C W (.zip [m, n])) :=
  piMono (pi_z2 hg hm h hs hpl) fun σ H R h => by
    rw [hK]
    have h : Rd0 C W (fun env M => (evEs C.F C.G [m, n] env M).bind fun ds M => match srcZip ds M with
      | some (l, st) => Res.ok (Src.mk ((zipD l).map .tup) st) M
      | none => .no) σ H fun s _ H' w' _ => ∀ J, Wkd C.K J s w' → R J H' := h
    refine (rng_readL (f := fun ds M => match srcZip ds M with
      | some (l, st) => Res.ok (Src.mk ((zipD l).map .tup) st) M
      | none => .no) h).imp fun ds M1 H1 w1 env k1 e1 h1 vs rs => ?_
    obtain ⟨d1, d2, rfl⟩ := len2 h1.1
    replace h1 := h1.2
    obtain ⟨v1, v2, rfl, r1, r2⟩ := reps2 rs
    split at h1
    · rename_i l st hz
      obtain ⟨s1, s2, q1, q2, rfl, rfl⟩ := srcZip2 hz
      obtain ⟨a1, b1, a2, b2, rfl, rfl, ⟨xs, sx⟩, ⟨ys, sy⟩, wk⟩ := wkd_z2 r1 r2 q1 q2 k1
      exact ⟨b1, b2, a1, a2, xs, ys, rfl, sx, sy, h1.here k1 _ wk⟩
    · exact h1.elim
theorem pi_Zip3 (hK : X.K = C.K) (hg : Gl X "zip") (hm : X.mg "zip" = none) {e e2 e3 : Expr} {m n o : ME} (h : PA X [e, e2, e3] (tA C W [m, n, o])) (hs : starEach [e, e2, e3] X.env = (false, eval e X.env) :: starEach [e2, e3] X.env) (hpl : (backTo pos (starEach [e2, e3] X.env)).any (·.1) = false) :
    PI X (.Tuple elts kk tpos) (.Call (.Name "zip" p) [e, e2, e3] [] pos) (tI C W (.zip [m, n, o])) :=
  piMono (pi_z3 hg hm h hs hpl) fun σ H R h => by
    rw [hK]
    have h : Rd0 C W (fun env M => (evEs C.F C.G [m, n, o] env M).bind fun ds M => match srcZip ds M with
      | some (l, st) => Res.ok (Src.mk ((zipD l).map .tup) st) M
      | none => .no) σ H fun s _ H' w' _ => ∀ J, Wkd C.K J s w' → R J H' := h
    refine (rng_readL (f := fun ds M => match srcZip ds M with
      | some (l, st) => Res.ok (Src.mk ((zipD l).map .tup) st) M
      | none => .no) h).imp fun ds M1 H1 w1 env k1 e1 h1 vs rs => ?_
    obtain ⟨d1, d2, d3, rfl⟩ := len3 h1.1
    replace h1 := h1.2
    obtain ⟨v1, v2, v3, rfl, r1, r2, r3⟩ := reps3 rs
    split at h1
    · rename_i l st hz
      obtain ⟨s1, s2, s3, q1, q2, q3, rfl, rfl⟩ := srcZip3 hz
      obtain ⟨a1, b1, a2, b2, a3, b3, rfl, rfl, rfl, ⟨xs, sx⟩, ⟨ys, sy⟩, ⟨zs, sz⟩, wk⟩ := wkd_z3 r1 r2 r3 q1 q2 q3 k1
      exact ⟨b1, b2, b3, a1, a2, a3, xs, ys, zs, rfl, sx, sy, sz, h1.here k1 _ wk⟩
    · exact h1.elim
end
end PM

/-! PMm: list comprehensions. -/
namespace PM
open PySem L2
def WF : WX := fun _ _ _ _ => False
def hid (H : Hp) (p : Addr) : Hp := fun b => if b = p then none else H b
section
variable {K : PySem.W.Frag} {H H1 : Hp} {w w1 : Wd} {M : Store} {p : Addr}
theorem hid_same : hid H p p = none := by unfold hid; rw [if_pos rfl]
theorem hid_ne {b : Addr} (h : b ≠ p) : hid H p b = H b := by unfold hid; rw [if_neg h]
theorem upd_hid {o : HO} : upd (hid H p) p o = upd H p o := by
  funext b
  by_cases e : b = p
  · rw [e, upd_same, upd_same]
  · rw [upd_ne e, upd_ne e, hid_ne e]
theorem upd_self {o : HO} (h : H p = some o) : upd H p o = H := by
  funext b
  by_cases e : b = p
  · rw [e, upd_same, h]
  · rw [upd_ne e]
theorem Ok.hide (k : Ok K H w M) (h1 : p ∉ w.ow.flatten) (h2 : w.Fz p = none) : Ok K (hid H p) w M where
  sub := fun a o e => by
    rw [hid_ne (fun z => by rw [z, h2] at e; cases e)]
    exact k.sub a o e
  imm := k.imm
  len := k.len
  cell := fun n c as e1 e2 => CellOk.mono (fun _ _ h => h) (fun a u ha q => by rw [hid_ne (fun z => h1 (by rw [← z]; exact k.cellMem e2 ha))]; exact q) (k.cell n c as e1 e2)
  nd := k.nd
  dis := k.dis
theorem Grow.hide (g : Grow H w H1 w1) (h : H p = none) : Grow H w (hid H1 p) w1 where
  fz := g.fz
  ow := g.ow
  new := g.new
  fnew := g.fnew
  keep := fun a o e hw => by rw [hid_ne (ne_of_none e h)]; exact g.keep a o e hw
  lk := fun a o u e => by rw [hid_ne (ne_of_none e h)]; exact g.lk a o u e
  there := fun a e => by
    by_cases z : a = p
    · rw [z]; exact h
    · rw [hid_ne z] at e; exact g.there a e
/-- a thing beside all, changed -/
theorem Ok.other (k : Ok K H w M) (h1 : p ∉ w.ow.flatten) (h2 : w.Fz p = none) (o : HO) : Ok K (upd H p o) w M := by
  rw [← upd_hid]
  exact (k.hide h1 h2).beside hid_same o
theorem Grow.other (g : Grow H w H1 w1) (h : H p = none) (o : HO) : Grow H w (upd H1 p o) w1 where
  fz := g.fz
  ow := g.ow
  new := g.new
  fnew := g.fnew
  keep := fun a u e hw => by rw [upd_ne (ne_of_none e h)]; exact g.keep a u e hw
  lk := fun a o u e => by rw [upd_ne (ne_of_none e h)]; exact g.lk a o u e
  there := fun a e => by
    by_cases z : a = p
    · rw [z]; exact h
    · rw [upd_ne z] at e; exact g.there a e
theorem EnvOk.later {env : EnvD} {σ : St} (e : EnvOk K w env σ) (l : Later w w1) : EnvOk K w1 env σ :=
  ⟨e.len, fun i d h => let ⟨v, h1, h2⟩ := e.get i d h; ⟨v, h1, h2.later l⟩⟩
end
def tIfs (C : Cc) (W : WX) (ifs : List ME) : TT := fun σ H Q => Rd0 C W (evIfs C.F C.G ifs) σ H fun b _ H' _ _ => Q b H'
section
variable {C : Cc} {W : WX} {X : Cx} {pos : Pos}
theorem ptsMono {ifs : List Expr} {t t' : TT} (h : PTs X ifs t) (ht : ∀ σ H Q, t' σ H Q → t σ H Q) : PTs X ifs t' := ⟨fun pins s σ H Q I q => h.run pins s σ H Q I (ht σ H Q q)⟩
theorem pts_Nil : PTs X [] (tIfs C W []) := ptsMono pts_nil fun σ H Q ⟨env, M, w, k, eo, h⟩ => After.here (a := true) k h
theorem pts_One {e : Expr} {m : ME} (h : PT X e (tT C W m)) : PTs X [e] (tIfs C W [m]) := ptsMono (pts_one h) fun σ H Q ⟨env, M, w, k, eo, h⟩ => ⟨env, M, w, k, eo, by
  have h : After C.K C.ca (fun c d H => W c d σ H) H w ((evE C.F C.G m env M).bind fun x M => (optR (tru x M) M).bind fun b M => if b then .ok true M else .ok false M) (fun b _ H' _ => Q b H') := h
  rw [← bind_assoc] at h
  refine h.bind.imp fun b M' H' w' g k' h => ?_
  cases b with
  | true => exact After.here (a := true) k' h
  | false => exact After.here (a := false) k' h⟩
/-- one turn of a comprehension -/
def turnC (F : Fns) (G : List D) (e : ME) (t : MT) (ifs : List ME) (env : EnvD) (x : D) (M : Store) : Res (Option D) := match stoT t x env with
  | none => .no
  | some env' => (evIfs F G ifs env' M).bind fun b M => if b then (evE F G e env' M).bind fun y M => .ok (some y) M else .ok none M
theorem turnC_ok {F : Fns} {G : List D} {e : ME} {t : MT} {ifs : List ME} {env : EnvD} {x : D} {M M' : Store} {o : Option D} (h : turnC F G e t ifs env x M = .ok o M') :
    ∃ (env' : EnvD) (b : Bool) (M1 : Store), stoT t x env = some env' ∧ evIfs F G ifs env' M = .ok b M1 ∧ ((b = true ∧ ∃ y, o = some y ∧ evE F G e env' M1 = .ok y M') ∨ (b = false ∧ o = none ∧ M' = M1)) := by
  unfold turnC at h
  cases e1 : stoT t x env with
  | none => rw [e1] at h; cases h
  | some env' =>
    rw [e1] at h
    replace h : ((evIfs F G ifs env' M).bind fun b M => if b then (evE F G e env' M).bind fun y M => .ok (some y) M else .ok none M) = .ok o M' := h
    cases e2 : evIfs F G ifs env' M with
    | ok b M1 =>
      rw [e2, ok_bind] at h
      cases b with
      | true =>
        replace h : ((evE F G e env' M1).bind fun y M => .ok (some y) M) = .ok o M' := h
        cases e3 : evE F G e env' M1 with
        | ok y M2 => rw [e3, ok_bind] at h; cases h; exact ⟨env', true, M1, rfl, e2, .inl ⟨rfl, y, rfl, e3⟩⟩
        | ex _ _ _ => rw [e3] at h; cases h
        | no => rw [e3] at h; cases h
      | false => cases h; exact ⟨env', false, _, rfl, e2, .inr ⟨rfl, rfl, rfl⟩⟩
    | ex _ _ _ => rw [e2] at h; cases h
    | no => rw [e2] at h; cases h
theorem noEx_ok {α : Type} {r : Res α} {a : α} {M : Store} (h : noEx r = .ok a M) : r = .ok a M := by
  cases r with
  | ok b M' => exact h
  | ex _ _ _ => cases h
  | no => cases h
theorem compL_cons {f : D → Store → Res (Option D)} {s : Src} {x : D} {xs ys : List D} {M M' : Store} (h : compL f s (x :: xs) M = .ok ys M') : s.ok M = true ∧ ∃ (o : Option D) (M1 : Store) (zs : List D), f x M = .ok o M1 ∧ compL f s xs M1 = .ok zs M' ∧ ys = o.toList ++ zs := by
  replace h : (if s.ok M then (noEx (f x M)).bind fun o M1 => (compL f s xs M1).bind fun ys M2 => match o with
      | some y => .ok (y :: ys) M2
      | none => .ok ys M2
    else .no) = .ok ys M' := h
  by_cases hs : s.ok M = true
  · rw [if_pos hs] at h
    cases e1 : noEx (f x M) with
    | ok o M1 =>
      rw [e1, ok_bind] at h
      cases e2 : compL f s xs M1 with
      | ok zs M2 =>
        rw [e2, ok_bind] at h
        cases o with
        | none => cases h; exact ⟨hs, none, M1, _, noEx_ok e1, e2, rfl⟩
        | some y => cases h; exact ⟨hs, some y, M1, _, noEx_ok e1, e2, rfl⟩
      | ex _ _ _ => rw [e2] at h; cases h
      | no => rw [e2] at h; cases h
    | ex _ _ _ => rw [e1] at h; cases h
    | no => rw [e1] at h; cases h
  · rw [if_neg hs] at h; cases h
theorem compL_nil {f : D → Store → Res (Option D)} {s : Src} {ys : List D} {M M' : Store} (h : compL f s [] M = .ok ys M') : s.ok M = true ∧ ys = [] ∧ M' = M := by
  replace h : (if s.ok M then Res.ok ([] : List D) M else .no) = .ok ys M' := h
  by_cases hs : s.ok M = true
  · rw [if_pos hs] at h; cases h; exact ⟨hs, rfl, rfl⟩
  · rw [if_neg hs] at h; cases h
theorem compL_noex {f : D → Store → Res (Option D)} {s : Src} : ∀ {xs : List D} {M : Store} {c : Nat} {v : D} {M' : Store}, compL f s xs M ≠ .ex c v M'
  | [], M, c, v, M', h => by
    replace h : (if s.ok M then Res.ok ([] : List D) M else .no) = .ex c v M' := h
    split at h <;> cases h
  | x :: xs, M, c, v, M', h => by
    replace h : (if s.ok M then (noEx (f x M)).bind fun o M1 => (compL f s xs M1).bind fun ys M2 => match o with
      | some y => .ok (y :: ys) M2
      | none => .ok ys M2
    else .no) = .ex c v M' := h
    split at h
    · cases e1 : noEx (f x M) with
      | ok o M1 =>
        rw [e1, ok_bind] at h
        cases e2 : compL f s xs M1 with
        | ok zs M2 =>
          rw [e2, ok_bind] at h
          cases o <;> cases h
        | ex _ _ _ => exact compL_noex e2
        | no => rw [e2] at h; cases h
      | ex _ _ _ => cases q : f x M <;> (rw [q] at e1; cases e1)
      | no => rw [e1] at h; cases h
    · cases h
theorem iteT {A B : Prop} (h : A) : if true = true then A else B := by rw [if_pos rfl]; exact h
theorem iteF {A B : Prop} (h : B) : if false = true then A else B := by rw [if_neg (by decide)]; exact h
theorem lc_read {e : ME} {t : MT} {it : MIt} {ifs : List ME} {own : List Nat} {k : Kd} (hown : ∀ i ∈ slT t, i ∈ own) {σ : St} {H : Hp} {Q : VK} (h : tE C W (.comp k e t it ifs own) σ H Q) :
    tLc (tI C W it) (tG C t) (tIfs C WF ifs) (tE C WF e) own σ H Q := by
  have h : Rd0 C W (fun env M => (evIt C.F C.G it env M).bind fun s M => (compL (turnC C.F C.G e t ifs (wipeD env own)) s s.items M).bind fun ds M =>
        if lineOk s.items.length then (match k with
          | .frz => Res.ok (D.lst ds) M
          | .cell => if D.pures ds then Res.ok (D.ref M.length) (M ++ [.lst ds]) else .no) else .no) σ H fun d _ H' w' _ => ∀ v, Rep C.K w' d v → Q v H' := h
  refine (Rd0.bind (f := fun s env M => (compL (turnC C.F C.G e t ifs (wipeD env own)) s s.items M).bind fun ds M =>
        if lineOk s.items.length then (match k with
          | .frz => Res.ok (D.lst ds) M
          | .cell => if D.pures ds then Res.ok (D.ref M.length) (M ++ [.lst ds]) else .no) else .no) h).imp fun s M1 H1 w1 env k1 e1 h1 J wk D hD => ?_
  cases ec : compL (turnC C.F C.G e t ifs (wipeD env own)) s s.items M1 with
  | no => rw [ec] at h1; exact h1.elim
  | ex c v M2 => exact absurd ec compL_noex
  | ok ds M2 =>
    rw [ec, ok_bind] at h1
    obtain ⟨hline, h1⟩ := h1.ifG
    have hline : s.items.length ≤ sizeLine := of_decide_eq_true hline
    refine ⟨fun i m H => m = s.items.length - i ∧ i ≤ s.items.length ∧ ∃ M w acc vs rest, compL (turnC C.F C.G e t ifs (wipeD env own)) s (s.items.drop i) M = .ok rest M2 ∧ ds = acc ++ rest ∧ Ok C.K H w M ∧ Grow H1 w1 H w ∧ H D = some (.lst vs) ∧
      Reps C.K w acc vs ∧ acc.length ≤ i ∧ D ∉ w.ow.flatten ∧ w.Fz D = none, ⟨s.items.length, by simp, Nat.zero_le _, M1, w1, [], [], ds, by simpa using ec, rfl, k1.beside hD _, grow_upd k1 hD _, upd_same, rfl, Nat.le_refl _, k1.notin hD, k1.fzn hD⟩, ?_⟩
    rintro i m H2 ⟨rfl, hi, M, w, acc, vs, rest, ev, eds, k2, g2, hDv, racc, hacc, hn1, hn2⟩
    by_cases hlt : i < s.items.length
    · right
      rw [List.drop_eq_getElem_cons hlt] at ev
      obtain ⟨sok, o, M3, zs, ef, ev2, erest⟩ := compL_cons ev
      obtain ⟨env', b, M4, es, eif, eb⟩ := turnC_ok ef
      refine ⟨wk.go i H2 w M hlt k2 g2.later sok, _, fun H' p => ⟨s.items.length - (i + 1), by omega, p⟩, fun x H' y => ?_⟩
      obtain ⟨d, w', hd, g3, k3, rx⟩ := wk.yld i H2 w M x H' hlt k2 g2.later sok y
      rw [List.getElem?_eq_getElem hlt] at hd
      cases hd
      have g13 := g2.trans g3
      refine ⟨_, wipeD env own, env', M, w', k3, (e1.wipe own).grow g13, rx, es, fun σ2 eo2 so2 => ⟨?_, ?_⟩⟩
      · rw [wipe_ext (so2.sub hown), wipe_ext wipe_same]
      · refine ⟨env', M, w', k3, eo2, ?_⟩
        rw [eif]
        intro H4 w4 g4 k4
        have hD3 : H' D = some (.lst vs) := g3.keep _ _ hDv hn1
        have hn3 : D ∉ w'.ow.flatten := fun z => (g3.new _ z).elim hn1 fun q => by rw [hDv] at q; cases q
        have hf3 : w'.Fz D = none := by
          cases q : w'.Fz D with
          | none => rfl
          | some o => exact ((g3.fnew _ _ q).elim (fun z => by rw [hn2] at z; cases z) fun z => by rw [hDv] at z; cases z)
        have hD4 : H4 D = some (.lst vs) := g4.keep _ _ hD3 hn3
        have hn4 : D ∉ w4.ow.flatten := fun z => (g4.new _ z).elim hn3 fun q => by rw [hD3] at q; cases q
        have hf4 : w4.Fz D = none := by
          cases q : w4.Fz D with
          | none => rfl
          | some o => exact ((g4.fnew _ _ q).elim (fun z => by rw [hf3] at z; cases z) fun z => by rw [hD3] at z; cases z)
        rcases eb with ⟨rfl, y, rfl, ey⟩ | ⟨rfl, rfl, rfl⟩
        · refine iteT ?_
          refine ⟨env', M4, w4, k4, eo2.grow g4, ?_⟩
          rw [ey]
          intro H5 w5 g5 k5 v rv
          have hD5 : H5 D = some (.lst vs) := g5.keep _ _ hD4 hn4
          have hn5 : D ∉ w5.ow.flatten := fun z => (g5.new _ z).elim hn4 fun q => by rw [hD4] at q; cases q
          have hf5 : w5.Fz D = none := by
            cases q : w5.Fz D with
            | none => rfl
            | some o => exact ((g5.fnew _ _ q).elim (fun z => by rw [hf4] at z; cases z) fun z => by rw [hD4] at z; cases z)
          have g15 := g13.trans (g4.trans g5)
          exact ⟨vs, hD5, by rw [racc.len]; omega, rfl, hlt, M3, w5, acc ++ [y], vs ++ [v], zs, ev2, by rw [eds, erest, List.append_assoc]; rfl, k5.other hn5 hf5 _, g15.other hD _, upd_same,
            (racc.grow (g3.trans (g4.trans g5))).snoc rv, by rw [List.length_append]; exact Nat.succ_le_succ hacc, hn5, hf5⟩
        · refine iteF ?_
          exact ⟨rfl, hlt, _, w4, acc, vs, zs, ev2, by rw [eds, erest]; rfl, k4, g13.trans g4, hD4, racc.grow (g3.trans g4), by omega, hn4, hf4⟩
    · left
      have hi : i = s.items.length := by omega
      subst hi
      rw [List.drop_length] at ev
      obtain ⟨sok, rfl, rfl⟩ := compL_nil ev
      rw [List.append_nil] at eds
      subst eds
      refine ⟨wk.stop H2 w _ k2 g2.later sok, ?_⟩
      have k0 := k2.hide hn1 hn2
      have g0 := g2.hide hD
      have eH : upd (hid H2 D) D (.lst vs) = H2 := by rw [upd_hid, upd_self hDv]
      rw [← eH]
      cases k with
      | frz => exact newL k0 racc (fun H' w' g k' v rv => h1 H' w' (g0.trans g) k' v rv) D hid_same
      | cell =>
        obtain ⟨pu, h1⟩ := h1.ifG
        exact newC k0 racc pu (fun H' w' g k' v rv => h1 H' w' (g0.trans g) k' v rv) D hid_same
/-! ### dict comprehensions -/
def turnD (F : Fns) (G : List D) (a b : ME) (t : MT) (ifs : List ME) (env : EnvD) (x : D) (M : Store) : Res (Option (D × D)) := match stoT t x env with
  | none => .no
  | some env' => (evIfs F G ifs env' M).bind fun c M => if c then (evE F G a env' M).bind fun y M => (evE F G b env' M).bind fun z M => .ok (some (y, z)) M else .ok none M
theorem turnD_ok {F : Fns} {G : List D} {a b : ME} {t : MT} {ifs : List ME} {env : EnvD} {x : D} {M M' : Store} {o : Option (D × D)} (h : turnD F G a b t ifs env x M = .ok o M') :
    ∃ (env' : EnvD) (c : Bool) (M1 : Store), stoT t x env = some env' ∧ evIfs F G ifs env' M = .ok c M1 ∧ ((c = true ∧ ∃ y M2 z, o = some (y, z) ∧ evE F G a env' M1 = .ok y M2 ∧ evE F G b env' M2 = .ok z M') ∨ (c = false ∧ o = none ∧ M' = M1)) := by
  unfold turnD at h
  cases e1 : stoT t x env with
  | none => rw [e1] at h; cases h
  | some env' =>
    rw [e1] at h
    replace h : ((evIfs F G ifs env' M).bind fun c M => if c then (evE F G a env' M).bind fun y M => (evE F G b env' M).bind fun z M => .ok (some (y, z)) M else .ok none M) = .ok o M' := h
    cases e2 : evIfs F G ifs env' M with
    | ok c M1 =>
      rw [e2, ok_bind] at h
      cases c with
      | true =>
        replace h : ((evE F G a env' M1).bind fun y M => (evE F G b env' M).bind fun z M => .ok (some (y, z)) M) = .ok o M' := h
        cases e3 : evE F G a env' M1 with
        | ok y M2 =>
          rw [e3, ok_bind] at h
          cases e4 : evE F G b env' M2 with
          | ok z M3 => rw [e4, ok_bind] at h; cases h; exact ⟨env', true, M1, rfl, e2, .inl ⟨rfl, y, M2, z, rfl, e3, e4⟩⟩
          | ex _ _ _ => rw [e4] at h; cases h
          | no => rw [e4] at h; cases h
        | ex _ _ _ => rw [e3] at h; cases h
        | no => rw [e3] at h; cases h
      | false => cases h; exact ⟨env', false, _, rfl, e2, .inr ⟨rfl, rfl, rfl⟩⟩
    | ex _ _ _ => rw [e2] at h; cases h
    | no => rw [e2] at h; cases h
theorem compD_cons {f : D → Store → Res (Option (D × D))} {s : Src} {x : D} {xs : List D} {acc kvs : List (Key × D)} {M M' : Store} (h : compD f s (x :: xs) acc M = .ok kvs M') :
    s.ok M = true ∧ ∃ (o : Option (D × D)) (M1 : Store) (acc' : List (Key × D)), f x M = .ok o M1 ∧ compD f s xs acc' M1 = .ok kvs M' ∧ ((o = none ∧ acc' = acc) ∨ ∃ k v q, o = some (k, v) ∧ toKey k = some q ∧ D.pure v = true ∧ acc.length < sizeLine ∧ acc' = putOf acc q v) := by
  replace h : (if s.ok M then (noEx (f x M)).bind fun o M1 => match o with
      | some (k, v) => match toKey k with
        | some q => if D.pure v && decide (acc.length < sizeLine) then compD f s xs (putOf acc q v) M1 else .no
        | none => .no
      | none => compD f s xs acc M1
    else .no) = .ok kvs M' := h
  by_cases hs : s.ok M = true
  · rw [if_pos hs] at h
    cases e1 : noEx (f x M) with
    | ok o M1 =>
      rw [e1, ok_bind] at h
      cases o with
      | none => exact ⟨hs, none, M1, acc, noEx_ok e1, h, .inl ⟨rfl, rfl⟩⟩
      | some p =>
        obtain ⟨k, v⟩ := p
        replace h : (match toKey k with
          | some q => if D.pure v && decide (acc.length < sizeLine) then compD f s xs (putOf acc q v) M1 else .no
          | none => .no) = .ok kvs M' := h
        cases e2 : toKey k with
        | none => rw [e2] at h; cases h
        | some q =>
          rw [e2] at h
          replace h : (if D.pure v && decide (acc.length < sizeLine) then compD f s xs (putOf acc q v) M1 else .no) = .ok kvs M' := h
          by_cases hc : (D.pure v && decide (acc.length < sizeLine)) = true
          · rw [if_pos hc] at h
            rw [Bool.and_eq_true, decide_eq_true_eq] at hc
            exact ⟨hs, some (k, v), M1, _, noEx_ok e1, h, .inr ⟨k, v, q, rfl, e2, hc.1, hc.2, rfl⟩⟩
          · rw [if_neg hc] at h; cases h
    | ex _ _ _ => rw [e1] at h; cases h
    | no => rw [e1] at h; cases h
  · rw [if_neg hs] at h; cases h
theorem compD_nil {f : D → Store → Res (Option (D × D))} {s : Src} {acc kvs : List (Key × D)} {M M' : Store} (h : compD f s [] acc M = .ok kvs M') : s.ok M = true ∧ kvs = acc ∧ M' = M := by
  replace h : (if s.ok M then Res.ok acc M else .no) = .ok kvs M' := h
  by_cases hs : s.ok M = true
  · rw [if_pos hs] at h; cases h; exact ⟨hs, rfl, rfl⟩
  · rw [if_neg hs] at h; cases h
theorem compD_noex {f : D → Store → Res (Option (D × D))} {s : Src} : ∀ {xs : List D} {acc : List (Key × D)} {M : Store} {c : Nat} {v : D} {M' : Store}, compD f s xs acc M ≠ .ex c v M'
  | [], acc, M, c, v, M', h => by
    replace h : (if s.ok M then Res.ok acc M else .no) = .ex c v M' := h
    split at h <;> cases h
  | x :: xs, acc, M, c, v, M', h => by
    replace h : (if s.ok M then (noEx (f x M)).bind fun o M1 => match o with
      | some (k, v) => match toKey k with
        | some q => if D.pure v && decide (acc.length < sizeLine) then compD f s xs (putOf acc q v) M1 else .no
        | none => .no
      | none => compD f s xs acc M1
    else .no) = .ex c v M' := h
    split at h
    · cases e1 : noEx (f x M) with
      | ok o M1 =>
        rw [e1, ok_bind] at h
        cases o with
        | none => exact compD_noex h
        | some p =>
          obtain ⟨k, v⟩ := p
          replace h : (match toKey k with
            | some q => if D.pure v && decide (acc.length < sizeLine) then compD f s xs (putOf acc q v) M1 else .no
            | none => .no) = .ex c _ M' := h
          cases e2 : toKey k with
          | none => rw [e2] at h; cases h
          | some q =>
            rw [e2] at h
            replace h : (if D.pure v && decide (acc.length < sizeLine) then compD f s xs (putOf acc q v) M1 else .no) = .ex c _ M' := h
            split at h
            · exact compD_noex h
            · cases h
      | ex _ _ _ => cases q : f x M <;> (rw [q] at e1; cases e1)
      | no => rw [e1] at h; cases h
    · cases h
theorem KvOk.fzG {κ : Type} {K : PySem.W.Frag} {H H1 : Hp} {w w1 : Wd} {kvs : List (κ × D)} {l : List (κ × V)} (g : Grow H w H1 w1) (r : KvOk K w.fz kvs l) : KvOk K w1.fz kvs l := KvOk.mono (w := w.fz) (w1 := w1.fz) g.fz ⟨[], rfl⟩ kvs l r
theorem dc_read {a b : ME} {t : MT} {it : MIt} {ifs : List ME} {own : List Nat} (hown : ∀ i ∈ slT t, i ∈ own) {σ : St} {H : Hp} {Q : VK} (h : tE C W (.dcomp a b t it ifs own) σ H Q) :
    tDc (tI C W it) (tG C t) (tIfs C WF ifs) (tE C WF a) (tE C WF b) own σ H Q := by
  have h : Rd0 C W (fun env M => (evIt C.F C.G it env M).bind fun s M => (compD (turnD C.F C.G a b t ifs (wipeD env own)) s s.items [] M).bind fun kvs M => Res.ok (PM.D.ref M.length) (M ++ [Cell.dK false kvs])) σ H fun d _ H' w' _ => ∀ v, Rep C.K w' d v → Q v H' := h
  refine (Rd0.bind (f := fun s env M => (compD (turnD C.F C.G a b t ifs (wipeD env own)) s s.items [] M).bind fun kvs M => Res.ok (PM.D.ref M.length) (M ++ [Cell.dK false kvs])) h).imp fun s M1 H1 w1 env k1 e1 h1 J wk D hD => ?_
  cases ec : compD (turnD C.F C.G a b t ifs (wipeD env own)) s s.items [] M1 with
  | no => rw [ec] at h1; exact h1.elim
  | ex c v M2 => exact absurd ec compD_noex
  | ok kvs M2 =>
    rw [ec, ok_bind] at h1
    refine ⟨fun i m H => m = s.items.length - i ∧ i ≤ s.items.length ∧ ∃ M w acc l, compD (turnD C.F C.G a b t ifs (wipeD env own)) s (s.items.drop i) acc M = .ok kvs M2 ∧ Ok C.K H w M ∧ Grow H1 w1 H w ∧ H D = some (.dK l) ∧
      KvOk C.K w.fz acc l ∧ D ∉ w.ow.flatten ∧ w.Fz D = none, ⟨s.items.length, by simp, Nat.zero_le _, M1, w1, [], [], by simpa using ec, k1.beside hD _, grow_upd k1 hD _, upd_same, rfl, k1.notin hD, k1.fzn hD⟩, ?_⟩
    rintro i m H2 ⟨rfl, hi, M, w, acc, l, ev, k2, g2, hDv, racc, hn1, hn2⟩
    by_cases hlt : i < s.items.length
    · right
      rw [List.drop_eq_getElem_cons hlt] at ev
      obtain ⟨sok, o, M3, acc', ef, ev2, eo⟩ := compD_cons ev
      obtain ⟨env', c, M4, es, eif, eb⟩ := turnD_ok ef
      refine ⟨wk.go i H2 w M hlt k2 g2.later sok, _, fun H' p => ⟨s.items.length - (i + 1), by omega, p⟩, fun x H' y => ?_⟩
      obtain ⟨d, w', hd, g3, k3, rx⟩ := wk.yld i H2 w M x H' hlt k2 g2.later sok y
      rw [List.getElem?_eq_getElem hlt] at hd
      cases hd
      have g13 := g2.trans g3
      refine ⟨_, wipeD env own, env', M, w', k3, (e1.wipe own).grow g13, rx, es, fun σ2 eo2 so2 => ⟨?_, ?_⟩⟩
      · rw [wipe_ext (so2.sub hown), wipe_ext wipe_same]
      · have step : ∀ {Ha Hb : Hp} {wa wb : Wd}, Grow Ha wa Hb wb → (Ha D = some (.dK l) ∧ D ∉ wa.ow.flatten ∧ wa.Fz D = none) → (Hb D = some (.dK l) ∧ D ∉ wb.ow.flatten ∧ wb.Fz D = none) := fun {Ha Hb wa wb} g ⟨q1, q2, q3⟩ => by
          refine ⟨g.keep _ _ q1 q2, fun z => (g.new _ z).elim q2 fun q => by rw [q1] at q; (cases q), ?_⟩
          cases q : wb.Fz D with
          | none => rfl
          | some o => exact ((g.fnew _ _ q).elim (fun z => by rw [q3] at z; cases z) fun z => by rw [q1] at z; cases z)
        have d3 := step g3 ⟨hDv, hn1, hn2⟩
        refine ⟨env', M, w', k3, eo2, ?_⟩
        rw [eif]
        intro H4 w4 g4 k4
        have d4 := step g4 d3
        rcases eb with ⟨rfl, y, M5, z, rfl, ea, ebb⟩ | ⟨rfl, rfl, rfl⟩
        · refine iteT ?_
          refine ⟨env', M4, w4, k4, eo2.grow g4, ?_⟩
          rw [ea]
          intro H5 w5 g5 k5 vy ry
          have d5 := step g5 d4
          refine ⟨env', M5, w5, k5, eo2.grow (g4.trans g5), ?_⟩
          rw [ebb]
          intro H6 w6 g6 k6 vz rz
          have d6 := step g6 d5
          rcases eo with ⟨eo, _⟩ | ⟨kk, vv, q, eo, hq, hp, hz, rfl⟩
          · cases eo
          · cases eo
            have g26 := g3.trans (g4.trans (g5.trans g6))
            have racc6 := racc.fzG g26
            exact ⟨l, q, kV_of (ry.grow g6) hq, d6.1, by rw [racc.len]; exact hz, rfl, hlt, M3, w6, _, _, ev2, k6.other d6.2.1 d6.2.2 _, (g2.trans g26).other hD _, upd_same, racc6.put q (rz.fz hp), d6.2.1, d6.2.2⟩
        · refine iteF ?_
          rcases eo with ⟨_, rfl⟩ | ⟨_, _, _, eo, _⟩
          · exact ⟨rfl, hlt, _, w4, _, l, ev2, k4, g13.trans g4, d4.1, racc.fzG (g3.trans g4), d4.2.1, d4.2.2⟩
          · cases eo
    · left
      have hi : i = s.items.length := by omega
      subst hi
      rw [List.drop_length] at ev
      obtain ⟨sok, rfl, rfl⟩ := compD_nil ev
      refine ⟨wk.stop H2 w _ k2 g2.later sok, ?_⟩
      have k0 := k2.hide hn1 hn2
      have g0 := g2.hide hD
      have eH : upd (hid H2 D) D (.dK l) = H2 := by rw [upd_hid, upd_self hDv]
      have kc := k0.addC (p := D) (o := .dK l) (c := .dK false kvs) hid_same ⟨D, l, rfl, by show upd (hid H2 D) D (.dK l) D = _; exact upd_same, racc⟩
      rw [eH] at kc
      have gc := g0.trans (grow_addC k0 (p := D) hid_same (.dK l))
      rw [eH] at gc
      refine h1 H2 (w.addC D) gc kc (.ref D) ⟨D, [], rfl, ?_⟩
      show (w.ow ++ [[D]])[_]? = _
      rw [← k2.len, List.getElem?_append_right (Nat.le_refl _), Nat.sub_self]
      rfl
end
end PM

/-! PMn: statements. -/
namespace PM
open PySem L2
def cE (E : XK) : WX := fun c d _ H => E c d H
/-- how a statement ends: what the layer wants -/
def FlwOk (K : PySem.W.Frag) (D : Ends) (H : Hp) (w : Wd) : Flw → Prop
  | .next env => ∀ σ, EnvOk K w env σ → D.nx σ H
  | .ret d => ∀ v, Rep K w d v → D.rt v H
  | .brk env => ∀ σ, EnvOk K w env σ → D.bk σ H
  | .cnt env => ∀ σ, EnvOk K w env σ → D.ct σ H
def tS (C : Cc) (E : XK) (s : MS) : TS := fun D σ H => Rd0 C (cE E) (evS C.F C.G s) σ H fun r _ H' w' _ => FlwOk C.K D H' w' r
def tSs (C : Cc) (E : XK) (s : List MS) : TS := fun D σ H => Rd0 C (cE E) (evSs C.F C.G s) σ H fun r _ H' w' _ => FlwOk C.K D H' w' r
section
variable {C : Cc} {E : XK} {X : Cx} {pos : Pos} {st : Stmt} {sts : List Stmt}
theorem psMono {s : Stmt} {t t' : TS} (h : PS X s t) (ht : ∀ D σ H, t' D σ H → t D σ H) : PS X s t' := ⟨fun pins s σ H D I q => h.run pins s σ H D I (ht _ _ _ q)⟩
theorem pssMono {s : List Stmt} {t t' : TS} (h : PSs X s t) (ht : ∀ D σ H, t' D σ H → t D σ H) : PSs X s t' := ⟨fun pins s σ H D I q => h.run pins s σ H D I (ht _ _ _ q)⟩
theorem pss_Nil : PSs X [] (tSs C E []) := pssMono pss_nil fun D σ H ⟨env, M, w, k, eo, h⟩ => After.here (a := Flw.next env) k h σ eo
theorem pss_Cons {s : MS} {ss : List MS} (h1 : PS X st (tS C E s)) (h2 : PSs X sts (tSs C E ss)) : PSs X (st :: sts) (tSs C E (s :: ss)) := pssMono (pss_cons h1 h2) fun D σ H h => by
  have h : Rd0 C (cE E) (fun env M => (evS C.F C.G s env M).bind fun r M => match r with
      | .next env' => evSs C.F C.G ss env' M
      | r => .ok r M) σ H fun r _ H' w' _ => FlwOk C.K D H' w' r := h
  refine (Rd0.bind (f := fun r _ M => match r with
      | .next env' => evSs C.F C.G ss env' M
      | r => .ok r M) h).imp fun r M1 H1 w1 env k1 e1 h1 => ?_
  cases r with
  | next env' => exact fun σ' eo' => ⟨env', M1, w1, k1, eo', h1⟩
  | ret d => exact After.here (a := Flw.ret d) k1 h1
  | brk env' => exact After.here (a := Flw.brk env') k1 h1
  | cnt env' => exact After.here (a := Flw.cnt env') k1 h1
theorem ps_Pass : PS X (.Pass pos) (tS C E .pass) := psMono ps_pass fun D σ H ⟨env, M, w, k, eo, h⟩ => After.here (a := Flw.next env) k h σ eo
theorem ps_Brk : PS X (.Break pos) (tS C E .brk) := psMono ps_break fun D σ H ⟨env, M, w, k, eo, h⟩ => After.here (a := Flw.brk env) k h σ eo
theorem ps_Cnt : PS X (.Continue pos) (tS C E .cnt) := psMono ps_continue fun D σ H ⟨env, M, w, k, eo, h⟩ => After.here (a := Flw.cnt env) k h σ eo
theorem ps_Doc {x j pos'} : PS X (.Expr (.Constant (.str x) j pos) pos') (tS C E .pass) := psMono ps_doc fun D σ H ⟨env, M, w, k, eo, h⟩ => After.here (a := Flw.next env) k h σ eo
theorem ps_Ex {e : Expr} {m : ME} (h : PE X e (tE C (cE E) m)) (hs : swapsWith e none pos.line X.env = pure false) : PS X (.Expr e pos) (tS C E (.ex m)) := psMono (ps_expr h hs) fun D σ H h =>
  (Rd0.bind (f := fun _ env M => .ok (Flw.next env) M) (show Rd0 C (cE E) (fun env M => (evE C.F C.G m env M).bind fun _ M => .ok (Flw.next env) M) σ H fun r _ H' w' _ => FlwOk C.K D H' w' r from h)).imp fun x M1 H1 w1 env k1 e1 h1 v rv => After.here (a := Flw.next env) k1 h1 σ e1
theorem ps_Ret {e : Expr} {m : ME} (h : PE X e (tE C (cE E) m)) : PS X (.Return (some e) pos) (tS C E (.ret m)) := psMono (ps_ret h) fun D σ H h =>
  (Rd0.bind (f := fun x _ M => .ok (Flw.ret x) M) (show Rd0 C (cE E) (fun env M => (evE C.F C.G m env M).bind fun x M => .ok (Flw.ret x) M) σ H fun r _ H' w' _ => FlwOk C.K D H' w' r from h)).imp fun x M1 H1 w1 env k1 e1 h1 v rv => After.here (a := Flw.ret x) k1 h1 v rv
theorem ps_RetN : PS X (.Return none pos) (tS C E .retN) := psMono ps_retN fun D σ H ⟨env, M, w, k, eo, h⟩ => After.here (a := Flw.ret .non) k h .non rfl
theorem ps_If {c : Expr} {p q : List Stmt} {m : ME} {a b : List MS} (hc : PT X c (tT C (cE E) m)) (ha : PSs X p (tSs C E a)) (hb : PSs X q (tSs C E b)) : PS X (.If c p q pos) (tS C E (.if_ m a b)) := psMono (ps_if hc ha hb) fun D σ H h => by
  have h : Rd0 C (cE E) (fun env M => (evE C.F C.G m env M).bind fun x M => (optR (tru x M) M).bind fun c M => if c then evSs C.F C.G a env M else evSs C.F C.G b env M) σ H fun r _ H' w' _ => FlwOk C.K D H' w' r := h
  simp only [← bind_assoc] at h
  refine (Rd0.bind (ev := fun env M => (evE C.F C.G m env M).bind fun x M => optR (tru x M) M) (f := fun c env M => if c then evSs C.F C.G a env M else evSs C.F C.G b env M) h).imp fun c M1 H1 w1 env k1 e1 h1 => ?_
  cases c with
  | true => exact iteT ⟨env, M1, w1, k1, e1, h1⟩
  | false => exact iteF ⟨env, M1, w1, k1, e1, h1⟩
theorem asg_read {t : MT} {m : ME} {D : Ends} {σ : St} {H : Hp} (h : tS C E (.asg t m) D σ H) : tAsg (tE C (cE E) m) (tG C t) D σ H :=
  (Rd0.bind (f := fun x env M => optR ((stoT t x env).map Flw.next) M) (show Rd0 C (cE E) (fun env M => (evE C.F C.G m env M).bind fun x M => optR ((stoT t x env).map Flw.next) M) σ H fun r _ H' w' _ => FlwOk C.K D H' w' r from h)).imp fun x M1 H1 w1 env k1 e1 h1 v rv => by
    obtain ⟨fl, h2, h3⟩ := h1.opt k1
    obtain ⟨env', h4, rfl⟩ := Option.map_eq_some_iff.mp h2
    exact ⟨x, env, env', M1, w1, k1, e1, rv, h4, fun σ' eo' _ => h3 σ' eo'⟩
theorem ps_Asg {tg e : Expr} {t : MT} {m : ME} (he : PE X e (tE C (cE E) m)) (hg : PG X tg (tG C t)) (hs : swapsWithSole [tg] e pos.line X.env = pure false) (hw : swappedStores [tg] e X.env = pure none) (h1 : (assignEach [tg] X.env).map (·.2) = [assign tg X.env]) :
    PS X (.Assign [tg] e pos) (tS C E (.asg t m)) := psMono (ps_asg he hg hs hw h1) fun D σ H h => asg_read h
theorem ps_Par {i j : Nat} {x y : Str} {a b : Expr} {m n : ME} {px py pt : Pos} {kt k2 : Nat} {pt2 : Pos} (hc : X.calm = true) (hN : X.N.Nodup) (hi : X.N[i]? = some x) (hj : X.N[j]? = some y) (hij : i ≠ j)
    (hx : X.env.scope.names.lookup x = some .local) (hy : X.env.scope.names.lookup y = some .local) (ha : PA X [a, b] (tA C (cE E) [m, n])) (hw : swappedStores [.Tuple [.Name x px, .Name y py] kt pt] (.Tuple [a, b] k2 pt2) X.env = pure (some [x, y])) :
    PS X (.Assign [.Tuple [.Name x px, .Name y py] kt pt] (.Tuple [a, b] k2 pt2) pos) (tS C E (.asg (.tp [.nm i, .nm j]) (.tup [m, n]))) := psMono (ps_par hc hN hi hj hij hx hy ha hw rfl) fun D σ H h => by
  have h : Rd0 C (cE E) (fun env M => ((evEs C.F C.G [m, n] env M).bind fun ds M => if lineOk ds.length then Res.ok (PM.D.tup ds) M else .no).bind fun x M => optR ((stoT (.tp [.nm i, .nm j]) x env).map Flw.next) M) σ H fun r _ H' w' _ => FlwOk C.K D H' w' r := h
  simp only [bind_assoc] at h
  refine (Rd0.bind (ev := evEs C.F C.G [m, n]) (f := fun ds env M => (if lineOk ds.length then Res.ok (PM.D.tup ds) M else .no).bind fun x M => optR ((stoT (.tp [.nm i, .nm j]) x env).map Flw.next) M) h).imp fun ds M1 H1 w1 env k1 e1 h1 vs rs => ?_
  by_cases hl : lineOk ds.length = true
  · rw [if_pos hl, ok_bind] at h1
    obtain ⟨fl, h2, h3⟩ := h1.opt k1
    obtain ⟨env', h4, rfl⟩ := Option.map_eq_some_iff.mp h2
    have h4 : stoTs [.nm i, .nm j] ds env = some env' := h4
    obtain ⟨d1, d2, rfl⟩ := len2 (stoTs_len h4)
    obtain ⟨v1, v2, rfl, r1, r2⟩ := reps2 rs
    have h4 : ((stoT (.nm i) d1 env).bind fun env' => (stoT (.nm j) d2 env').bind fun env' => some env') = some env' := h4
    obtain ⟨env1, z1, z2⟩ := Option.bind_eq_some_iff.mp h4
    obtain ⟨env2, z3, z4⟩ := Option.bind_eq_some_iff.mp z2
    have e42 := Option.some.inj z4
    subst e42
    have z1 : (if i < env.length then some (env.set i (some d1)) else none) = some env1 := z1
    have z3 : (if j < env1.length then some (env1.set j (some d2)) else none) = some _ := z3
    split at z1
    · cases z1
      split at z3
      · cases z3
        exact ⟨v1, v2, rfl, h3 _ ((e1.set r1).set r2)⟩
      · cases z3
    · cases z1
  · rw [if_neg hl] at h1; exact h1.elim
theorem ps_Par3 {i j l : Nat} {x y z : Str} {a b c : Expr} {m n o : ME} {px py pz pt : Pos} {kt k2 : Nat} {pt2 : Pos} (hc : X.calm = true) (hN : X.N.Nodup) (hi : X.N[i]? = some x) (hj : X.N[j]? = some y) (hl : X.N[l]? = some z) (hij : i ≠ j) (hil : i ≠ l) (hjl : j ≠ l)
    (hx : X.env.scope.names.lookup x = some .local) (hy : X.env.scope.names.lookup y = some .local) (hz : X.env.scope.names.lookup z = some .local) (ha : PA X [a, b, c] (tA C (cE E) [m, n, o]))
    (hw : swappedStores [.Tuple [.Name x px, .Name y py, .Name z pz] kt pt] (.Tuple [a, b, c] k2 pt2) X.env = pure (some [x, y, z])) :
    PS X (.Assign [.Tuple [.Name x px, .Name y py, .Name z pz] kt pt] (.Tuple [a, b, c] k2 pt2) pos) (tS C E (.asg (.tp [.nm i, .nm j, .nm l]) (.tup [m, n, o]))) := psMono (ps_par3 hc hN hi hj hl hij hil hjl hx hy hz ha hw rfl) fun D σ H h => by
  have h : Rd0 C (cE E) (fun env M => ((evEs C.F C.G [m, n, o] env M).bind fun ds M => if lineOk ds.length then Res.ok (PM.D.tup ds) M else .no).bind fun x M => optR ((stoT (.tp [.nm i, .nm j, .nm l]) x env).map Flw.next) M) σ H fun r _ H' w' _ => FlwOk C.K D H' w' r := h
  simp only [bind_assoc] at h
  refine (Rd0.bind (ev := evEs C.F C.G [m, n, o]) (f := fun ds env M => (if lineOk ds.length then Res.ok (PM.D.tup ds) M else .no).bind fun x M => optR ((stoT (.tp [.nm i, .nm j, .nm l]) x env).map Flw.next) M) h).imp fun ds M1 H1 w1 env k1 e1 h1 vs rs => ?_
  by_cases hl : lineOk ds.length = true
  · rw [if_pos hl, ok_bind] at h1
    obtain ⟨fl, h2, h3⟩ := h1.opt k1
    obtain ⟨env', h4, rfl⟩ := Option.map_eq_some_iff.mp h2
    have h4 : stoTs [.nm i, .nm j, .nm l] ds env = some env' := h4
    obtain ⟨d1, d2, d3, rfl⟩ := len3 (stoTs_len h4)
    obtain ⟨v1, v2, v3, rfl, r1, r2, r3⟩ := reps3 rs
    have h4 : ((stoT (.nm i) d1 env).bind fun env' => (stoT (.nm j) d2 env').bind fun env' => (stoT (.nm l) d3 env').bind fun env' => some env') = some env' := h4
    obtain ⟨env1, z1, z2⟩ := Option.bind_eq_some_iff.mp h4
    obtain ⟨env2, z3, z4⟩ := Option.bind_eq_some_iff.mp z2
    obtain ⟨env3, z5, z6⟩ := Option.bind_eq_some_iff.mp z4
    have e42 := Option.some.inj z6
    subst e42
    have z1 : (if i < env.length then some (env.set i (some d1)) else none) = some env1 := z1
    have z3 : (if j < env1.length then some (env1.set j (some d2)) else none) = some env2 := z3
    have z5 : (if l < env2.length then some (env2.set l (some d3)) else none) = some _ := z5
    split at z1
    · cases z1
      split at z3
      · cases z3
        split at z5
        · cases z5
          exact ⟨v1, v2, v3, rfl, h3 _ (((e1.set r1).set r2).set r3)⟩
        · cases z5
      · cases z3
    · cases z1
  · rw [if_neg hl] at h1; exact h1.elim
theorem ps_SetI (hK : X.K = C.K) (hu : X.A.units + 1 < cLine) {o i v : Expr} {mo mi mv : ME} {tpos : Pos} (hv : PE X v (tE C (cE E) mv)) (ho : PE X o (tE C (cE E) mo)) (hi : PE X i (tE C (cE E) mi)) (hx : ∀ a b c p, i ≠ .Slice a b c p)
    (hs : swapsWithSole [.Subscript o i tpos] v pos.line X.env = pure false) (hw : swappedStores [.Subscript o i tpos] v X.env = pure none) : PS X (.Assign [.Subscript o i tpos] v pos) (tS C E (.setI mo mi mv)) := by
  have ha : ∀ u, assign (.Subscript o i tpos) X.env u = (do
      let ov ← holding [u] (eval o X.env)
      let iv ← holding [u, ov] (eval i X.env)
      standAt tpos
      holding [u, ov, iv] (setItem ov iv u)
      release [u, ov, iv] []) := by
    intro u
    cases i <;> first | rfl | exact absurd rfl (hx _ _ _ _)
  refine psMono (ps_asg hv (pg_sub ho hi (set_All hK hu) ha) hs hw rfl) fun D σ H h => ?_
  have h : Rd0 C (cE E) (fun env M => (evE C.F C.G mv env M).bind fun x M => (evE C.F C.G mo env M).bind fun y M => (evE C.F C.G mi env M).bind fun z M => match setD y z x M with
      | some M' => .ok (Flw.next env) M'
      | none => .no) σ H fun r _ H' w' _ => FlwOk C.K D H' w' r := h
  refine (Rd0.bind (f := fun x env M => (evE C.F C.G mo env M).bind fun y M => (evE C.F C.G mi env M).bind fun z M => match setD y z x M with
      | some M' => .ok (Flw.next env) M'
      | none => .no) h).imp fun x M1 H1 w1 env k1 e1 h1 vx rx => ?_
  refine ⟨env, M1, w1, k1, e1, h1.bind.imp fun y M2 H2 w2 g2 k2 h2 vy ry => ⟨env, M2, w2, k2, e1.grow g2, h2.bind.imp fun z M3 H3 w3 g3 k3 h3 vz rz => ?_⟩⟩
  split at h3
  · rename_i M' hM
    exact ⟨y, z, x, M3, w3, M', k3, ry.grow g3, rz, rx.grow (g2.trans g3), hM, fun H' w' g k' => h3 H' w' g k' σ (e1.grow (g2.trans (g3.trans g)))⟩
  · exact h3.elim
theorem ps_For {tg iter : Expr} {body : List Stmt} {t : MT} {it : MIt} {b : List MS} (hp : PassesOwn (model X.prog X.w) X.A X.env X.xe) (hc : X.calm = true) (hi : PI X tg iter (tI C (cE E) it)) (hg : PG X tg (tG C t)) (hb : PSs X body (tSs C E b))
    (hs : ∀ x, foldedSetIterable iter X.env x = pure x) : PS X (.For tg iter body [] pos) (tS C E (.for_ t it b)) := psMono (ps_for hp hc hi hg hb hs) fun D σ H h => by
  have h : Rd0 C (cE E) (fun env M => (evIt C.F C.G it env M).bind fun s M => forL (fun x env M => match stoT t x env with
      | none => (Res.no : Res Flw)
      | some env' => evSs C.F C.G b env' M) s s.items env M) σ H fun r _ H' w' _ => FlwOk C.K D H' w' r := h
  refine (Rd0.bind (f := fun s env M => forL (fun x env M => match stoT t x env with
      | none => (Res.no : Res Flw)
      | some env' => evSs C.F C.G b env' M) s s.items env M) h).imp fun s M1 H1 w1 env k1 e1 h1 J wk => ?_
  refine ⟨fun i m σ H => m = s.items.length - i ∧ i ≤ s.items.length ∧ ∃ env M w, Ok C.K H w M ∧ Later w1 w ∧ EnvOk C.K w env σ ∧ After C.K C.ca E H w (forL (fun x env M => match stoT t x env with
      | none => (Res.no : Res Flw)
      | some env' => evSs C.F C.G b env' M) s (s.items.drop i) env M) fun r _ H' w' => FlwOk C.K D H' w' r, ⟨s.items.length, by simp, Nat.zero_le _, env, M1, w1, k1, .refl, e1, h1⟩, ?_⟩
  rintro i m σ2 H2 ⟨rfl, hi, env2, M2, w2, k2, l2, eo2, h2⟩
  by_cases hlt : i < s.items.length
  · right
    rw [List.drop_eq_getElem_cons hlt] at h2
    have h2 : After C.K C.ca E H2 w2 (if s.ok M2 then (match stoT t s.items[i] env2 with
      | none => (Res.no : Res Flw)
      | some env' => evSs C.F C.G b env' M2).bind fun r M1 => match r with
      | .next env' => forL (fun x env M => match stoT t x env with
        | none => (Res.no : Res Flw)
        | some env' => evSs C.F C.G b env' M) s (s.items.drop (i + 1)) env' M1
      | .cnt env' => forL (fun x env M => match stoT t x env with
        | none => (Res.no : Res Flw)
        | some env' => evSs C.F C.G b env' M) s (s.items.drop (i + 1)) env' M1
      | .brk env' => .ok (.next env') M1
      | .ret d => .ok (.ret d) M1
    else .no) fun r _ H' w' => FlwOk C.K D H' w' r := h2
    obtain ⟨sok, h2⟩ := h2.ifG
    refine ⟨wk.go i H2 w2 M2 hlt k2 l2 sok, _, fun σ' H' p => ⟨s.items.length - (i + 1), by omega, p⟩, fun x H' y => ?_⟩
    obtain ⟨d, w', hd, g3, k3, rx⟩ := wk.yld i H2 w2 M2 x H' hlt k2 l2 sok y
    rw [List.getElem?_eq_getElem hlt] at hd
    cases hd
    cases es : stoT t s.items[i] env2 with
    | none => rw [es] at h2; exact h2.elim
    | some env' =>
      rw [es] at h2
      refine ⟨_, env2, env', M2, w', k3, eo2.grow g3, rx, es, fun σ3 eo3 _ => ⟨env', M2, w', k3, eo3, ?_⟩⟩
      refine (After.grow g3 h2).bind.imp fun r M4 H4 w4 g4 k4 h4 => ?_
      cases r with
      | next env4 => exact fun σ' eo' => ⟨rfl, hlt, env4, M4, w4, k4, l2.trans (g3.later.trans g4.later), eo', h4⟩
      | cnt env4 => exact fun σ' eo' => ⟨rfl, hlt, env4, M4, w4, k4, l2.trans (g3.later.trans g4.later), eo', h4⟩
      | brk env4 => exact After.here (a := Flw.next env4) k4 h4
      | ret d => exact After.here (a := Flw.ret d) k4 h4
  · left
    have hi : i = s.items.length := by omega
    subst hi
    rw [List.drop_length] at h2
    have h2 : After C.K C.ca E H2 w2 (if s.ok M2 then Res.ok (Flw.next env2) M2 else .no) fun r _ H' w' => FlwOk C.K D H' w' r := h2
    obtain ⟨sok, h2⟩ := h2.ifG
    exact ⟨wk.stop H2 w2 M2 k2 l2 sok, h2.here k2 σ2 eo2⟩
theorem ps_While {c : Expr} {body : List Stmt} {m : ME} {b : List MS} (hp : PassesOwn (model X.prog X.w) X.A X.env X.xe) (hc : PT X c (tT C (cE E) m)) (hb : PSs X body (tSs C E b)) : PS X (.While c body [] pos) (tS C E (.while_ m b)) := psMono (ps_while hp hc hb) fun D σ H h => by
  obtain ⟨env, M, w, k, eo, h⟩ := h
  have h : After C.K C.ca E H w (whL (fun env M => (evE C.F C.G m env M).bind fun x M => optR (tru x M) M) (fun env M => evSs C.F C.G b env M) env M) fun r _ H' w' => FlwOk C.K D H' w' r := h
  unfold whL at h
  split at h
  · rename_i hn
    refine ⟨fun n σ H => ∃ env M w, Ok C.K H w M ∧ EnvOk C.K w env σ ∧ After C.K C.ca E H w (whN (fun env M => (evE C.F C.G m env M).bind fun x M => optR (tru x M) M) (fun env M => evSs C.F C.G b env M) n env M) fun r _ H' w' => FlwOk C.K D H' w' r, ⟨hn.choose, env, M, w, k, eo, h⟩, ?_⟩
    rintro n σ2 H2 ⟨env2, M2, w2, k2, eo2, h2⟩
    cases n with
    | zero => exact h2.elim
    | succ n =>
      have h2 : After C.K C.ca E H2 w2 (((evE C.F C.G m env2 M2).bind fun x M => optR (tru x M) M).bind fun c M1 => if c then (evSs C.F C.G b env2 M1).bind fun r M2 => match r with
        | .next env' => whN (fun env M => (evE C.F C.G m env M).bind fun x M => optR (tru x M) M) (fun env M => evSs C.F C.G b env M) n env' M2
        | .cnt env' => whN (fun env M => (evE C.F C.G m env M).bind fun x M => optR (tru x M) M) (fun env M => evSs C.F C.G b env M) n env' M2
        | .brk env' => .ok (.next env') M2
        | .ret d => .ok (.ret d) M2
      else .ok (.next env2) M1) fun r _ H' w' => FlwOk C.K D H' w' r := h2
      refine ⟨env2, M2, w2, k2, eo2, h2.bind.imp fun c M3 H3 w3 g3 k3 h3 => ?_⟩
      cases c with
      | true =>
        refine iteT ⟨_, fun σ' H' p => ⟨n, Nat.lt_succ_self n, p⟩, env2, M3, w3, k3, eo2.grow g3, ?_⟩
        rw [if_pos rfl] at h3
        refine h3.bind.imp fun r M4 H4 w4 g4 k4 h4 => ?_
        cases r with
        | next env4 => exact fun σ' eo' => ⟨env4, M4, w4, k4, eo', h4⟩
        | cnt env4 => exact fun σ' eo' => ⟨env4, M4, w4, k4, eo', h4⟩
        | brk env4 => exact After.here (a := Flw.next env4) k4 h4
        | ret d => exact After.here (a := Flw.ret d) k4 h4
      | false => exact iteF (After.here (a := Flw.next env2) k3 h3 σ2 (eo2.grow g3))
  · exact h.elim
/-! ### over a dict's keys -/
theorem kV_rep {K : PySem.W.Frag} {w : Wd} (k : Key) : Rep K w (kD k) (L2.kV k) := by
  cases k <;> exact rfl
theorem KvOk.key {κ : Type} {K : PySem.W.Frag} {w : Wd} : ∀ {kvs : List (κ × D)} {l : List (κ × V)} {i : Nat} {k : κ} {v : V}, KvOk K w kvs l → l[i]? = some (k, v) → (kvs.map (·.1))[i]? = some k
  | [], l, i, k, v, r, h => by rw [show l = [] from r] at h; simp at h
  | (k', d) :: r, l, 0, k, v, ⟨u, l', e, _, _⟩, h => by
    rw [e] at h
    simp at h
    simp [h.1]
  | (k', d) :: r, l, i + 1, k, v, ⟨u, l', e, _, t⟩, h => by
    rw [e] at h
    have := KvOk.key t (i := i) (k := k) (v := v) (by simpa using h)
    simpa using this
theorem forL_cons {f : D → EnvD → Store → Res Flw} {s : Src} {x : D} {xs : List D} {env : EnvD} {M M' : Store} {fl : Flw} (h : forL f s (x :: xs) env M = .ok fl M') :
    s.ok M = true ∧ ∃ (r : Flw) (M1 : Store), f x env M = .ok r M1 ∧ (match r with
      | .next env' => forL f s xs env' M1 = .ok fl M'
      | .cnt env' => forL f s xs env' M1 = .ok fl M'
      | .brk env' => fl = .next env' ∧ M' = M1
      | .ret d => fl = .ret d ∧ M' = M1) := by
  replace h : (if s.ok M then (f x env M).bind fun r M1 => match r with
      | .next env' => forL f s xs env' M1
      | .cnt env' => forL f s xs env' M1
      | .brk env' => .ok (.next env') M1
      | .ret d => .ok (.ret d) M1
    else .no) = .ok fl M' := h
  by_cases hs : s.ok M = true
  · rw [if_pos hs] at h
    cases e1 : f x env M with
    | ok r M1 =>
      rw [e1, ok_bind] at h
      refine ⟨hs, r, M1, rfl, ?_⟩
      cases r with
      | next env' => exact h
      | cnt env' => exact h
      | brk env' => cases h; exact ⟨rfl, rfl⟩
      | ret d => cases h; exact ⟨rfl, rfl⟩
    | ex _ _ _ => rw [e1] at h; cases h
    | no => rw [e1] at h; cases h
  · rw [if_neg hs] at h; cases h
theorem forL_nil {f : D → EnvD → Store → Res Flw} {s : Src} {env : EnvD} {M M' : Store} {fl : Flw} (h : forL f s [] env M = .ok fl M') : s.ok M = true ∧ fl = .next env ∧ M' = M := by
  replace h : (if s.ok M then Res.ok (Flw.next env) M else .no) = .ok fl M' := h
  by_cases hs : s.ok M = true
  · rw [if_pos hs] at h; cases h; exact ⟨hs, rfl, rfl⟩
  · rw [if_neg hs] at h; cases h
theorem ps_ForK {tg : Expr} {body : List Stmt} {t : MT} {i : Nat} {x : Str} {b : List MS} {p : Pos} (hp : PassesOwn (model X.prog X.w) X.A X.env X.xe) (hc : X.calm = true) (hi : PE X (.Name x p) (tE C (cE E) (.var i))) (hg : PG X tg (tG C t)) (hb : PSs X body (tSs C E b)) :
    PS X (.For tg (.Name x p) body [] pos) (tS C E (.forK t i b)) := psMono (ps_lock (ps_for hp hc (pi_keys hi) hg hb fun _ => rfl)) fun D σ H h => by
  obtain ⟨env, M, w, k, eo, h⟩ := h
  have h : After C.K C.ca E H w (match dictAt (env[i]?).join M with
    | none => .no
    | some (n, kvs) => lockR n kvs (forL (fun x env M => match stoT t x env with
      | none => (Res.no : Res Flw)
      | some env' => evSs C.F C.G b env' M) ⟨kvs.map fun p => kD p.1, [(n, .dK true kvs)]⟩ (kvs.map fun p => kD p.1) env (M.set n (.dK true kvs)))) (fun r _ H' w' => FlwOk C.K D H' w' r) := h
  cases e1 : (env[i]?).join with
  | none => rw [e1] at h; exact h.elim
  | some d =>
    cases e2 : dictAt (some d) M with
    | none => rw [e1, e2] at h; exact h.elim
    | some q =>
      obtain ⟨n, kvs⟩ := q
      rw [e1, e2] at h
      obtain ⟨rfl, eM⟩ : d = .ref n ∧ M[n]? = some (.dK false kvs) := by
        unfold dictAt at e2
        cases d with
        | ref m =>
          simp only [] at e2
          split at e2
          · rename_i kvs' hm
            cases e2
            exact ⟨rfl, hm⟩
          · cases e2
        | _ => cases e2
      replace h : After C.K C.ca E H w (lockR n kvs (forL (fun x env M => match stoT t x env with
        | none => (Res.no : Res Flw)
        | some env' => evSs C.F C.G b env' M) ⟨kvs.map fun p => kD p.1, [(n, .dK true kvs)]⟩ (kvs.map fun p => kD p.1) env (M.set n (.dK true kvs)))) (fun r _ H' w' => FlwOk C.K D H' w' r) := h
      have ei : env[i]? = some (some (.ref n)) := by
        cases q : env[i]? with
        | none => rw [q] at e1; cases e1
        | some o => rw [q] at e1; rw [show o = some (PM.D.ref n) from e1]
      obtain ⟨v, hv, rv⟩ := eo.get i _ ei
      obtain ⟨a, as, rfl, eow, a', l, e3, hH, kvo⟩ := k.cellAt rv eM
      cases e3
      have hH : H a = some (.dK l) := hH
      cases ef : forL (fun x env M => match stoT t x env with
        | none => (Res.no : Res Flw)
        | some env' => evSs C.F C.G b env' M) ⟨kvs.map fun p => kD p.1, [(n, .dK true kvs)]⟩ (kvs.map fun p => kD p.1) env (M.set n (.dK true kvs)) with
      | no => rw [ef] at h; exact h.elim
      | ex c v M' => rw [ef] at h; exact h.elim
      | ok fl M' =>
        rw [ef] at h
        obtain ⟨hM', h⟩ := (show After C.K C.ca E H w (if M'[n]? = some (.dK true kvs) then Res.ok fl (M'.set n (.dK false kvs)) else .no) (fun r _ H' w' => FlwOk C.K D H' w' r) from h).ifG
        refine ⟨a, .dK l, hH, trivial, fun od => ?_⟩
        have nf : ∀ o u, H a ≠ some (.frz o u) := nfz hH fun _ _ z => nomatch z
        have k1 : Ok C.K (upd H a (.frz od (.dK l))) w (M.set n (.dK true kvs)) := k.set eow ⟨a, l, rfl, ⟨od, upd_same⟩, kvo⟩
        have atL : (upd H a (.frz od (.dK l))) a = some (.frz od (.dK l)) := upd_same
        have amem : a ∈ w.ow.flatten := k.cellMem eow (List.mem_singleton_self a)
        -- from the locked heap back
        have back : ∀ H' w', Grow (upd H a (.frz od (.dK l))) w H' w' → Ok C.K H' w' M' → FlwOk C.K D (upd H' a (.dK l)) w' fl := fun H' w' g k' => by
          have eow' : w'.ow[n]? = some [a] := by
            obtain ⟨z, ez⟩ := g.ow
            rw [ez, List.getElem?_append_left (List.getElem?_eq_some_iff.mp eow).1]
            exact eow
          refine h (upd H' a (.dK l)) w' ⟨g.fz, g.ow, fun c hc => ?_, fun c o hc => ?_, fun c o e hw => ?_, fun c e => ?_, fun c o u e => ?_⟩ (k'.set eow' ⟨a, l, rfl, upd_same, KvOk.mono (w := w.fz) (w1 := w'.fz) g.fz ⟨[], rfl⟩ kvs l kvo⟩)
          · rcases g.new c hc with z | z
            · exact .inl z
            · refine .inr ?_
              by_cases hca : c = a
              · rw [hca, atL] at z; cases z
              · rw [upd_ne hca] at z; exact z
          · rcases g.fnew c o hc with z | z
            · exact .inl z
            · refine .inr ?_
              by_cases hca : c = a
              · rw [hca, atL] at z; cases z
              · rw [upd_ne hca] at z; exact z
          · have hca : c ≠ a := fun z => hw (by rw [z]; exact amem)
            rw [upd_ne hca]
            exact g.keep c o (by rw [upd_ne hca]; exact e) hw
          · by_cases hca : c = a
            · rw [hca, upd_same] at e; cases e
            · rw [upd_ne hca] at e
              have := g.there c e
              rw [upd_ne hca] at this; exact this
          · have hca : c ≠ a := fun z => nf o u (by rw [← z]; exact e)
            rw [upd_ne hca]
            exact g.lk c o u (by rw [upd_ne hca]; exact e)
        show tE C (cE E) (.var i) σ (upd H a (.frz od (.dK l))) _
        refine ⟨env, _, w, k1, eo, ?_⟩
        show After C.K C.ca E _ w (optR (env[i]?).join _) _
        rw [e1]
        intro H1 w1 g1 kk1 v1 rv1
        obtain ⟨a1, as1, ev1, eow1⟩ := rv1
        have eow1' : w1.ow[n]? = some [a] := by
          obtain ⟨z, ez⟩ := g1.ow
          rw [ez, List.getElem?_append_left (List.getElem?_eq_some_iff.mp eow).1]
          exact eow
        rw [eow1'] at eow1
        cases eow1
        have h1a := g1.lk a od _ atL
        refine ⟨a, od, ev1, .inl ⟨l, h1a, ?_⟩⟩
        have lenK : l.length = kvs.length := kvo.len
        refine ⟨fun j m σ H => m = kvs.length - j ∧ j ≤ kvs.length ∧ ∃ env M w, Ok C.K H w M ∧ Grow (upd _ a (.frz od (.dK l))) _ H w ∧ EnvOk C.K w env σ ∧ H a = some (.frz od (.dK l)) ∧ forL (fun x env M => match stoT t x env with
          | none => (Res.no : Res Flw)
          | some env' => evSs C.F C.G b env' M) ⟨kvs.map fun p => kD p.1, [(n, .dK true kvs)]⟩ ((kvs.map fun p => kD p.1).drop j) env M = .ok fl M', ⟨kvs.length, by simp, Nat.zero_le _, env, _, w1, kk1, g1, eo.grow g1, h1a, by simpa using ef⟩, ?_⟩
        rintro j m σ2 H2 ⟨rfl, hj, env2, M2, w2, k2, g2, eo2, h2a, ev⟩
        by_cases hlt : j < kvs.length
        · right
          have hlt' : j < (kvs.map fun p => kD p.1).length := by rw [List.length_map]; exact hlt
          rw [List.drop_eq_getElem_cons hlt'] at ev
          obtain ⟨sok, r, M3, efx, er⟩ := forL_cons ev
          refine ⟨⟨h2a, by rw [lenK]; exact hlt⟩, _, fun σ' H' p => ⟨kvs.length - (j + 1), by omega, p⟩, fun y H' yy => ?_⟩
          obtain ⟨rfl, kk, vv, hk, rfl⟩ := yy
          have hkey := kvo.key hk
          have hkd : (kvs.map fun p => kD p.1)[j] = kD kk := by
            have : (kvs.map fun p => kD p.1)[j]? = some (kD kk) := by
              rw [List.getElem?_map]
              rw [List.getElem?_map] at hkey
              obtain ⟨p, hp1, hp2⟩ := Option.map_eq_some_iff.mp hkey
              rw [hp1, ← hp2]; rfl
            rw [List.getElem?_eq_getElem hlt'] at this
            exact Option.some.inj this
          rw [hkd] at efx
          cases es : stoT t (kD kk) env2 with
          | none => rw [es] at efx; cases efx
          | some env' =>
            rw [es] at efx
            replace efx : evSs C.F C.G b env' M2 = .ok r M3 := efx
            refine ⟨kD kk, env2, env', M2, w2, k2, eo2, kV_rep kk, es, fun σ3 eo3 _ => ⟨env', M2, w2, k2, eo3, ?_⟩⟩
            rw [efx]
            intro H4 w4 g4 k4
            have h4a := g4.lk a od _ h2a
            cases r with
            | next env4 => exact fun σ' eo' => ⟨rfl, hlt, env4, M3, w4, k4, g2.trans g4, eo', h4a, er⟩
            | cnt env4 => exact fun σ' eo' => ⟨rfl, hlt, env4, M3, w4, k4, g2.trans g4, eo', h4a, er⟩
            | brk env4 =>
              obtain ⟨rfl, rfl⟩ := er
              exact fun σ' eo' => ⟨h4a, back H4 w4 (g2.trans g4) k4 σ' eo'⟩
            | ret d =>
              obtain ⟨rfl, rfl⟩ := er
              exact fun v rv => ⟨h4a, back H4 w4 (g2.trans g4) k4 v rv⟩
        · left
          have hj : j = kvs.length := by omega
          subst hj
          rw [show (kvs.map fun p => kD p.1).drop kvs.length = [] from by rw [List.drop_eq_nil_iff, List.length_map]; exact Nat.le_refl _] at ev
          obtain ⟨sok, rfl, rfl⟩ := forL_nil ev
          exact ⟨⟨h2a, by rw [lenK]; exact Nat.le_refl _⟩, h2a, back H2 w2 g2 k2 σ2 eo2⟩
end
end PM

/-! PMv: tuples turned about; dicts displayed. -/
namespace PM
open PySem PySem.Spec PyProof.Rows L2 HT
section
variable {prog : Program} {wo : World} {A : Around} {E : Value → Shared → Prop} {s : Shared}
theorem applied_rev {sl : Addr} {vk : Value} {n : Nat} {Q : Int × Int × Nat → Shared → Prop} (hS : s.heap.IsSliceOf sl .none .none vk) (pk : IsPart vk (some (-1)))
    (h : Q ((n : Int) - 1, -1, n) s) : wpAny (model prog wo) A (Builtin.Slice.sliceApplied (.ref sl) (pure (n : Int))) Q E s := by
  obtain ⟨o1, ho1, hc1, hd1⟩ := id hS
  unfold Builtin.Slice.sliceApplied Builtin.Slice.sliceFields
  refine wpAny_bind (wpAny_bind (wpAny_field ho1 hd1 (x := .none) rfl (wpAny_bind (wpAny_field ho1 hd1 (x := .none) rfl (wpAny_bind (wpAny_field ho1 hd1 (x := vk) rfl (wpAny_pure ?_)))))))
  refine wpAny_bind (slicePart_ pk ?_)
  show wpAny _ _ (if ((-1 : Int) == 0) = true then _ else _) _ _ s
  rw [if_neg (show ¬ (((-1 : Int) == 0) = true) by decide)]
  refine wpAny_bind (slicePart_none (wpAny_bind (slicePart_none (wpAny_bind (wpAny_pure ?_)))))
  have e : Builtin.Slice.slicePlaces ((n : Int) - 1) (-1) (-1) = n := by
    unfold Builtin.Slice.slicePlaces
    rw [if_neg (by decide)]
    by_cases h0 : n = 0
    · subst h0; simp
    · rw [if_pos (by omega)]
      have : ((n : Int) - 1 - -1 - 1) / -(-1) + 1 = n := by
        rw [show -(-1 : Int) = 1 by decide, Int.ediv_one]; omega
      rw [this]; simp
  show wpAny _ _ (pure ((n : Int) - 1, (-1 : Int), Builtin.Slice.slicePlaces ((n : Int) - 1) (-1) (-1))) _ _ s
  rw [e]
  exact wpAny_pure h
theorem pick_rev (xs : Array Value) : ((List.range xs.size).filterMap fun (m : Nat) => xs[(((xs.size : Int) - 1) + (m : Int) * (-1)).toNat]?).toArray = xs.toList.reverse.toArray := by
  congr 1
  have e : ∀ m ∈ List.range xs.size, xs[(((xs.size : Int) - 1) + (m : Int) * (-1)).toNat]? = some (xs.toList.reverse.getD m .none) := fun m hm => by
    have hm := List.mem_range.mp hm
    have : (((xs.size : Int) - 1) + (m : Int) * (-1)).toNat = xs.size - 1 - m := by omega
    rw [this, Array.getElem?_eq_getElem (by omega)]
    congr 1
    rw [List.getD_eq_getElem?_getD, List.getElem?_reverse (by simpa using hm)]
    simp
    rw [Array.getElem?_eq_getElem (by omega)]; rfl
  have e2 : ((List.range xs.size).filterMap fun (m : Nat) => xs[(((xs.size : Int) - 1) + (m : Int) * (-1)).toNat]?) = (List.range xs.size).map fun m => xs.toList.reverse.getD m .none := by
    rw [← List.filterMap_eq_map]
    have cg : ∀ {l : List Nat} {f g : Nat → Option Value}, (∀ m ∈ l, f m = g m) → l.filterMap f = l.filterMap g := by
      intro l f g
      induction l with
      | nil => intro _; rfl
      | cons a l ih =>
        intro h
        rw [List.filterMap_cons, List.filterMap_cons, h a List.mem_cons_self, ih fun m hm => h m (List.mem_cons_of_mem a hm)]
    exact cg e
  rw [e2]
  apply List.ext_getElem
  · simp
  · intro i h1 h2
    rw [List.getElem_map, List.getElem_range, List.getD_eq_getElem?_getD, List.getElem?_eq_getElem h2]; rfl
theorem getItem_tuple_rev {t sl : Addr} {items : Array Value} {vk : Value} {Q : Value → Shared → Prop} (hT : IsTup s.heap t items) (hS : s.heap.IsSliceOf sl .none .none vk) (pk : IsPart vk (some (-1)))
    (h : Q (.ref s.heap.objs.size) { s with heap := s.heap.push { cls := .type "tuple", data := .seq items.toList.reverse.toArray } }) (hz : items.size ≤ sizeLine) : wpAny (model prog wo) A (getItem (.ref t) (.ref sl)) Q E s := by
  have hz' : sizeOk (.seq items.toList.reverse.toArray) := by
    show items.toList.reverse.toArray.size ≤ sizeLine
    simpa using hz
  obtain ⟨o1, ho1, hc1, hd1⟩ := id hS
  have tS : s.TypeIs (.ref sl) "slice" := ⟨o1, ho1, hc1⟩
  unfold getItem
  try with_reducible refine wpAny_holding ?_
  first | refine wpAny_bind (wpAny_pure ?_) | skip
  refine wpAny_bind (wpAny_sequenceKey hT.typeIs (by decide) (wpAny_bind (wpAny_callSpecial?_slot (name := Str.ofString "__getitem__") hT.typeIs PyProof.Rows.slot_tuple_getitem (wpAny_call_entry PyProof.Rows.slot_tuple_getitem hT.typeIs entry_tuple_getitem ?_ (args_tuple_getitem _ _)))))
  show wpAny _ _ (Builtin.Tuple.tupleItemsOf (.ref t) >>= _) _ _ s
  refine wpAny_bind (tupleItemsOf_ hT (wpAny_bind (wpAny_typeOf tS ?_)))
  rw [if_pos (show _ by decide)]
  refine wpAny_bind (applied_rev hS pk ?_)
  have hno : ¬ ((((items.size : Int) - 1) == 0 && (-1 : Int) == 1 && items.size == items.size) = true) := by
    rw [show ((-1 : Int) == 1) = false by decide]; simp
  show wpAny _ _ (if (((items.size : Int) - 1) == 0 && (-1 : Int) == 1 && items.size == items.size) = true then _ else _) _ _ s
  rw [if_neg hno, pick_rev]
  first
    | exact wpAny_bind (m := Builtin.Tuple.tupleExact _) (wpAny_newObj_type (wpAny_pure ⟨_, rfl, wpAny_pure h⟩) hz')
    | exact wpAny_bind (m := Builtin.Tuple.tupleExact _) (wpAny_newObj_type (wpAny_bind (wpAny_pure (wpAny_pure ⟨_, rfl, wpAny_pure h⟩))) hz')
    | exact wpAny_bind (wpAny_bind (m := Builtin.Tuple.tupleExact _) (wpAny_newObj_type (wpAny_pure (wpAny_pure ⟨_, rfl, wpAny_pure h⟩)) hz'))
    | exact wpAny_bind (wpAny_bind (m := Builtin.Tuple.tupleExact _) (wpAny_newObj_type (wpAny_pure ⟨_, rfl, wpAny_pure h⟩) hz'))
end
section
variable {C : Cc} {W : WX} {X : Cx} {a : ME} {ea : Expr} {pos : Pos}
/-- t[::-1] -/
theorem pe_Rev (hK : X.K = C.K) {est : Expr} {p2 : Pos} (hea : PE X ea (tE C W a)) (hst : PO X (some est) (tO C W (some (.neg (.c (.int 1)))))) : PE X (.Subscript ea (.Slice none none (some est) p2) pos) (tE C W (.rev a)) := by
  refine ⟨fun pins s σ H Q I h => ?_⟩
  have h' : tE C W a σ H fun x H1 => tO C W (some (.neg (.c (.int 1)))) σ H1 fun o H2 => o = some (-1) ∧ ∃ q xs, x = .ref q ∧ SqT C.K H2 q xs ∧ ∀ p, H2 p = none → Q (.ref p) (upd H2 p (.tup xs.reverse)) := by
    obtain ⟨env0, M0, w0, k0, eo, h⟩ := h
    have h : After C.K C.ca (fun c d H => W c d σ H) H w0 ((evE C.F C.G a env0 M0).bind fun x M => match x with
      | .tup ds => Res.ok (D.tup ds.reverse) M
      | _ => .no) fun d _ H' w' => ∀ v, Rep C.K w' d v → Q v H' := h
    refine (Rd0.bind (f := fun x _ M => match x with
      | .tup ds => Res.ok (D.tup ds.reverse) M
      | _ => .no) (P := fun d _ H' w' _ => ∀ v, Rep C.K w' d v → Q v H') ⟨env0, M0, w0, k0, eo, h⟩).imp fun x M1 H1 w1 env k1 e1 h1 v rv => ?_
    refine ⟨env, M1, w1, k1, e1, ?_⟩
    show After _ _ _ _ _ (Res.ok (some (-1 : Int)) M1) _
    refine fun H2 w2 g2 k2 => ⟨rfl, ?_⟩
    cases x with
    | tup ds =>
      obtain ⟨q, vs, e2, s2, r2⟩ := rv.grow g2
      refine ⟨q, vs, e2, k2.sqT s2, ?_⟩
      have rr : Reps C.K w2 ds.reverse vs.reverse := by
        have : ∀ {ds : List D} {vs : List V} {ds' : List D} {vs' : List V}, Reps C.K w2 ds vs → Reps C.K w2 ds' vs' → Reps C.K w2 (ds.reverse ++ ds') (vs.reverse ++ vs') := by
          intro ds
          induction ds with
          | nil => intro vs ds' vs' r1 r2; rw [show vs = [] from r1]; exact r2
          | cons d ds ih =>
            rintro vs ds' vs' ⟨v, l, e, p, q⟩ r2
            rw [e, List.reverse_cons, List.reverse_cons, List.append_assoc, List.append_assoc]
            exact ih q (⟨v, vs', rfl, p, r2⟩ : Reps C.K w2 (d :: ds') (v :: vs'))
        have := this r2 (show Reps C.K w2 [] [] from rfl)
        rwa [List.append_nil, List.append_nil] at this
      exact newT (P := fun _ _ => True) k2 rr (h1.grow g2)
    | _ => exact False.elim h1
  refine Subscript_ (thn (hea.run pins s σ H _ I h') fun v s1 ⟨x, H1, I1, r1, q1⟩ => ?_)
  refine wpAny_Slice ?_
  rw [evalPart_none]
  refine wpAny_pure (wpAny_pure ?_)
  refine thn (hst.run pins s1 σ H1 _ I1 q1) fun vk s2 ⟨o, H2, I2, pk, e2, q, xs, e3, sq, q2⟩ => ?_
  subst e2
  subst e3
  obtain rfl : v = Value.ref q := r1
  have I4 : Inv X pins σ H2 { s2 with heap := s2.heap.push { cls := .type "slice", data := .fields #[.none, .none, vk] } } := I2.kept (t' := s2.toks) fun b ob z => Heap.get?_push_of_some _ z
  obtain ⟨its, r, hT, hz⟩ := I4.tuple (hK ▸ sq)
  have hlen : its.toArray.size = xs.length := by rw [List.size_toArray]; exact r.length.symm
  show wpAny (model X.prog X.w) X.A (subscriptTail ea (.Slice none none (some est) p2) (.ref q) (.ref s2.heap.objs.size)) (EP X pins σ Q) X.xe _
  refine tail_any (ops := [.ref q, .ref s2.heap.objs.size]) hT.typeIs PyProof.Rows.slot_tuple_getitem.lookup ?_ (by with_unfolding_all rfl)
  refine getItem_tuple_rev hT (Heap.IsSliceOf.new ..) pk ?_ (by rw [hlen]; exact hz)
  refine ⟨.ref _, _, I4.laid (t' := s2.toks) (o := .tup xs.reverse) (fun b ob z => Heap.get?_push_of_some _ z) (Nat.le_refl _) ?_, rfl, q2 _ (I4.hok.fresh (Nat.le_refl _))⟩
  exact ⟨by rw [List.length_reverse]; exact hz, _, r.reverse, IsTup.new _ _⟩
end
/-! ### dicts displayed -/
section
variable {K : PySem.W.Frag} {H H2 : Hp} {w w2 : Wd} {M M2 : Store} {p : Addr} {o u : HO}
/-- something new at p that nobody knows -/
theorem Ok.fresh (k : Ok K H w M) (hp : H p = none) : Ok K (upd H p o) w M where
  sub := fun a v e => by rw [upd_ne (fun z => by rw [z, k.fzn hp] at e; cases e)]; exact k.sub a v e
  imm := k.imm
  len := k.len
  cell := fun n c as e1 e2 => CellOk.mono (w1 := w) (fun _ _ z => z) (fun a v _ q => by rw [upd_ne (ne_of_none q hp)]; exact q) (k.cell n c as e1 e2)
  nd := k.nd
  dis := k.dis
theorem grow_fresh (k : Ok K H w M) (hp : H p = none) (o : HO) : Grow H w (upd H p o) w where
  fz := fun _ _ z => z
  ow := ⟨[], (List.append_nil _).symm⟩
  new := fun _ z => .inl z
  fnew := fun _ _ z => .inl z
  keep := fun a v e _ => by rw [upd_ne (ne_of_none e hp)]; exact e
  there := fun a e => by
    by_cases z : a = p
    · rw [z]; exact hp
    · rw [upd_ne z] at e; exact e
  lk := fun a v y e => by rw [upd_ne (ne_of_none e hp)]; exact e
theorem grow_late (k : Ok K H w M) (hp : H p = none) (g : Grow (upd H p o) w H2 w2) (k2 : Ok K H2 w2 M2) (hu : Imm u) : Grow H w (upd H2 p u) (w2.addF p u) ∧ Ok K (upd H2 p u) (w2.addF p u) M2 := by
  have n1 : p ∉ w2.ow.flatten := fun hm => by
    rcases g.new p hm with z | z
    · exact k.notin hp z
    · rw [upd_same] at z; cases z
  have n2 : w2.Fz p = none := by
    cases q : w2.Fz p with
    | none => rfl
    | some v =>
      rcases g.fnew p v q with z | z
      · rw [k.fzn hp] at z; cases z
      · rw [upd_same] at z; cases z
  have ne : ∀ {a : Addr} {v : HO}, H a = some v → a ≠ p := fun e z => by rw [z, hp] at e; cases e
  have nn : ∀ {a : Addr}, (upd H p o) a = none → H a = none := fun {a} e => by
    by_cases z : a = p
    · rw [z]; exact hp
    · rw [upd_ne z] at e; exact e
  refine ⟨⟨fun a v e => ?_, ?_, fun a ha => ?_, fun a v e => ?_, fun a v e hw => ?_, fun a e => ?_, fun a v y e => ?_⟩, ⟨fun a v e => ?_, fun a v e => ?_, k2.len, fun n c as e1 e2 => ?_, k2.nd, fun a ha => ?_⟩⟩
  · show upd w2.Fz p u a = some v
    have := g.fz a v e
    rw [upd_ne (fun z => by rw [z, n2] at this; cases this)]; exact this
  · exact g.ow
  · rcases g.new a ha with z | z
    · exact .inl z
    · exact .inr (nn z)
  · have e : upd w2.Fz p u a = some v := e
    by_cases z : a = p
    · rw [z]; exact .inr hp
    · rw [upd_ne z] at e
      rcases g.fnew a v e with y | y
      · exact .inl y
      · exact .inr (nn y)
  · rw [upd_ne (ne e)]
    exact g.keep a v (by rw [upd_ne (ne e)]; exact e) hw
  · by_cases z : a = p
    · rw [z]; exact hp
    · rw [upd_ne z] at e; exact nn (g.there a e)
  · rw [upd_ne (ne e)]
    exact g.lk a v y (by rw [upd_ne (ne e)]; exact e)
  · have e : upd w2.Fz p u a = some v := e
    by_cases z : a = p
    · rw [z] at e ⊢
      rw [upd_same] at e ⊢; exact e
    · rw [upd_ne z] at e ⊢; exact k2.sub a v e
  · have e : upd w2.Fz p u a = some v := e
    by_cases z : a = p
    · rw [z, upd_same] at e; cases e; exact hu
    · rw [upd_ne z] at e; exact k2.imm a v e
  · have e2 : w2.ow[n]? = some as := e2
    refine CellOk.mono (w1 := w2.addF p u) (fun a v h => ?_) (fun a v ha q => ?_) (k2.cell n c as e1 e2)
    · show upd w2.Fz p u a = some v
      rw [upd_ne (fun z => by rw [z, n2] at h; cases h)]; exact h
    · rw [upd_ne (fun z => n1 (by rw [← z]; exact List.mem_flatten.mpr ⟨as, List.mem_of_getElem? e2, ha⟩))]; exact q
  · have ha : a ∈ w2.ow.flatten := ha
    show upd w2.Fz p u a = none
    rw [upd_ne (fun z => n1 (by rw [← z]; exact ha))]
    exact k2.dis a ha
end
section
variable {C : Cc} {W : WX} {X : Cx} {a : ME} {ea : Expr} {pos : Pos}
theorem pe_Dis0 : PE X (.Dict [] [] pos) (tE C W .dis0) := peMono pe_dnewK fun σ H Q h => by
  obtain ⟨env, M, w, k, e, h⟩ := h
  have h : ∀ H' w', Grow H w H' w' → Ok C.K H' w' M → ∀ v, Rep C.K w' (.dic []) v → Q v H' := h
  intro p hp
  exact h _ _ (grow_addF k hp (.dK [])) (k.addF hp trivial) _ ⟨p, [], rfl, upd_same, rfl⟩
theorem pe_Dis1 {z : Str} {j : Nat} {q : Pos} (hea : PE X ea (tE C W a)) : PE X (.Dict [some (.Constant (.str z) j q)] [ea] pos) (tE C W (.dis1 z a)) :=
  peMono (pe_disp (pps_cons pe_str hea pps_nil) rfl rfl (by simp) (by simp)) fun σ H Q h => by
    obtain ⟨env, M, w, k, e, h⟩ := h
    intro p hp
    have k1 : Ok C.K (upd H p (.dK [])) w M := k.fresh hp
    show tE C W a σ (upd H p (.dK [])) fun y H2 => (fun ps (H3 : Hp) => H3 p = some (.dK []) ∧ ∃ kvs : List (Key × V), ps = kvs.map (fun kv => (kV kv.1, kv.2)) ∧ kvs.length ≤ 15 ∧ Q (.ref p) (upd H3 p (.dK (mergeK [] kvs)))) [(V.str z, y)] H2
    refine ⟨env, M, w, k1, e, ?_⟩
    have h : After C.K C.ca (fun c d H => W c d σ H) H w ((evE C.F C.G a env M).bind fun x M => if x.pure = true then Res.ok (D.dic [(.str z, x)]) M else .no) fun d _ H' w' => ∀ v, Rep C.K w' d v → Q v H' := h
    cases hr : evE C.F C.G a env M with
    | ok x M1 =>
      rw [hr] at h
      obtain ⟨hp1, h⟩ := (show After _ _ _ _ _ (if x.pure = true then Res.ok (D.dic [(.str z, x)]) M1 else .no) _ from h).ifG
      intro H1 w1 g1 k1 v rv
      refine ⟨g1.keep p _ upd_same (k.notin hp), [(.inr z, v)], rfl, by simp, ?_⟩
      have e3 : mergeK [] [((.inr z : Key), v)] = [(.inr z, v)] := rfl
      rw [e3]
      obtain ⟨g2, k2⟩ := grow_late (u := .dK [((.inr z : Key), v)]) k hp g1 k1 trivial
      exact h _ _ g2 k2 _ ⟨p, _, rfl, upd_same, _, _, _, rfl, rfl, Rep.drop (fun a o q => by
        show upd w1.Fz p _ a = some o
        rw [upd_ne (fun y => by
          rw [y] at q
          rcases g1.fnew p o q with y | y
          · rw [k.fzn hp] at y; cases y
          · rw [upd_same] at y; cases y)]
        exact q) x v hp1 rv, rfl⟩
    | ex c v M1 =>
      rw [hr] at h
      exact fun H' w' cls dd g1 k1 x => h H' w' cls dd ((grow_fresh k hp _).trans g1) k1 x
    | no => rw [hr] at h; exact h
/-- {}, a cell of its own -/
theorem pe_Dct : PE X (.Dict [] [] pos) (tE C W .dct) := peMono pe_dnewK fun σ H Q h => by
  obtain ⟨env, M, w, k, e, h⟩ := h
  have h : ∀ H' w', Grow H w H' w' → Ok C.K H' w' (M ++ [.dK false []]) → ∀ v, Rep C.K w' (.ref M.length) v → Q v H' := h
  intro p hp
  refine h _ (w.addC p) (grow_addC k hp _) (k.addC hp ⟨p, [], rfl, upd_same, rfl⟩) _ ⟨p, [], rfl, ?_⟩
  show (w.ow ++ [[p]])[M.length]? = _
  rw [← k.len, List.getElem?_append_right (Nat.le_refl _), Nat.sub_self]
  rfl
end
end PM

/-! PMy: sorted(set(l)), l's items ints. -/
namespace PM
open PySem L2 PySem.Spec PyProof.Rows
section
variable {P : Program} {w : World} {A : Around} {E : Value → Shared → Prop} {s : Shared}
set_option maxRecDepth 100000 in
set_option maxHeartbeats 3200000 in
theorem call_set_lstI {l : Addr} {items : Array Value} (ns : List Int) {Q : Value → Shared → Prop} (hh : A.handled = none) (hl : s.heap.IsList l items) (hit : IntsAre items.toList ns) (hb : ns.length + 1 < scanBound)
    (h : ∀ (h' : Heap) (tk c : Nat), SetR w h' s.heap.objs.size (fun j => decide (j ∈ ns)) c → c ≤ ns.length → (∀ b o, s.heap.get? b = some o → h'.get? b = some o) → Q (.ref s.heap.objs.size) { s with heap := h', toks := tk }) :
    wpAny (model P w) A (call (.type "set") [.ref l]) Q E s := by
  have hisz : items.size = ns.length := by
    have q := IntsAre.length hit
    rw [Array.length_toList] at q
    exact q
  obtain ⟨c, tl, hmro⟩ := F.called_set.mro
  have hmade := F.called_set.made
  have hsub := F.called_set.sub
  refine wpAny_call (codeAny_of_tree ?_)
  show wpAny _ _ (callAny (.type "set") _) _ _ _
  refine wpAny_pure ⟨Code.quiet_builtin _ (by decide +kernel), codeAny_builtin F.entry_type_call ?_⟩
  rw [Around.under_plain (weight_type_call_type "set" [.ref l] []) rfl]
  have h1 := F.called_set.notType
  have h2 := F.called_set.canCreate
  have hct := F.typeCall_set_1 (.ref l)
  repeat (any_goals (first | assumption | wp_step))

  refine codeAny_mono (code_set_led1 (.ref l) (E := E) (Q₁ := fun obj s₁ => obj = .ref s.heap.objs.size ∧ s₁ = { s with heap := s.heap.push { cls := .type "set", dict := none, data := .set #[] 0 (.fresh 0 0 (!w.params.followText "set-order")) } }) ⟨rfl, rfl⟩) fun r s₁ hr => ?_
  cases r with
  | error e => exact hr
  | ok fl =>
    cases fl with
    | ret obj =>
      obtain ⟨rfl, rfl⟩ := hr
      have hS : (s.heap.push { cls := .type "set", dict := none, data := .set #[] 0 (.fresh 0 0 (!w.params.followText "set-order")) }).get? s.heap.objs.size = some { cls := .type "set", dict := none, data := .set #[] 0 (.fresh 0 0 (!w.params.followText "set-order")) } := Heap.get?_push_size _ rfl
      have hT : Shared.TypeIs { s with heap := s.heap.push { cls := .type "set", dict := none, data := .set #[] 0 (.fresh 0 0 (!w.params.followText "set-order")) } } (.ref s.heap.objs.size) "set" := ⟨_, hS, rfl⟩
      have hli := F.called_set.init.lookup
      have hbi := F.called_set.init.bind (.ref s.heap.objs.size)
      repeat (any_goals (first | assumption | wp_step))

      refine codeAny_mono (codeAny_call_builtin (R := wants (fun r s₂ => r = .none ∧ ∃ h' tk c, s₂ = { s with heap := h', toks := tk } ∧ SetR w h' s.heap.objs.size (fun j => decide (j ∈ ns)) c ∧ c ≤ ns.length ∧
          (∀ b o, s.heap.get? b = some o → h'.get? b = some o)) E) F.called_set.init.plain F.entry_set_init (check_set_init_1 hT ?_)) fun r₂ s₂ hr₂ => ?_
      · obtain ⟨ol, hol, hcl, nl, hdl⟩ := hl
        obtain ⟨ocls, odict, odata, oslots⟩ := ol
        simp only at hcl hdl
        subst hcl; subst hdl
        have hol' : (s.heap.push { cls := .type "set", dict := none, data := .set #[] 0 (.fresh 0 0 (!w.params.followText "set-order")) }).get? l = some { cls := .type "list", dict := odict, data := .seq items nl, slots := oslots } := Heap.get?_push_of_some _ hol
        have hsls := F.sub_list_set
        have hslf := F.sub_list_frozenset
        have hne : (Value.type "list" == Value.type "dict") = false := by decide
        have hl1 : (s.heap.push { cls := .type "set", dict := none, data := .set #[] 0 (.fresh 0 0 (!w.params.followText "set-order")) }).IsList l items := ⟨_, hol', rfl, nl, rfl⟩
        unfold Builtin.«set.__init__» noKeywords Builtin.Frozenset.updateFrom
        generalize hPI : pyIter = PI
        wp_walk
        subst hPI

        refine wpAny_pyIter_list hl1 ?_
        refine wpAny_bind (wpAny_runValue ?_)
        have hlS : l < s.heap.objs.size := Heap.lt_size hol
        have hh3 : A.in1.in1.in1.handled = none := by simp [hh]
        have hz1 : (s.heap.push { cls := .type "set", dict := none, data := .set #[] 0 (.fresh 0 0 (!w.params.followText "set-order")) }).objs.size = s.heap.objs.size + 1 := Heap.size_push ..
        have hneI : l ≠ (s.heap.push { cls := .type "set", dict := none, data := .set #[] 0 (.fresh 0 0 (!w.params.followText "set-order")) }).objs.size := by
          rw [Heap.size_push]; exact Nat.ne_of_lt (Nat.lt_succ_of_lt hlS)
        have hSf : s.heap.objs.size ∉ [(s.heap.push { cls := .type "set", dict := none, data := .set #[] 0 (.fresh 0 0 (!w.params.followText "set-order")) }).objs.size, l] := by
          rw [Heap.size_push]; simp only [List.mem_cons, List.mem_singleton, List.not_mem_nil, or_false, not_or]
          exact ⟨Nat.ne_of_lt (Nat.lt_succ_self _), Nat.ne_of_gt hlS⟩
        have hval : ∀ (i : Nat) (v : Value), items[i]? = some v → ∃ k t, ns[i]? = some k ∧ v = .int k t := fun i v hv => by
          have hi : i < ns.length := by rw [← hisz]; exact (Array.getElem?_eq_some_iff.mp hv).1
          obtain ⟨t, e⟩ := PyProof.Rows.IntsAre.int_at hit i v (by rw [Array.getElem?_toList]; exact hv)
          refine ⟨ns[i], t, List.getElem?_eq_getElem hi, ?_⟩
          rw [e, List.getD_eq_getElem?_getD, List.getElem?_eq_getElem hi] <;> rfl
        refine set_update_ints ((Walks.list hh3 _ l hneI items).toS) s.heap.objs.size
          hSf ns hisz hb hval (items.size - 0) 0 _ (by omega) (Nat.zero_le _)
          ⟨⟨_, Heap.get?_push_size _ rfl, rfl, rfl⟩, (hl1.push _)⟩ ?hS0 ?hR
        case hS0 =>
          have hget : ((s.heap.push { cls := .type "set", dict := none, data := .set #[] 0 (.fresh 0 0 (!w.params.followText "set-order")) }).push { cls := .type "list_iterator", data := .fields #[.ref l, .int 0 0] }).get? s.heap.objs.size
              = some { cls := .type "set", dict := none, data := .set #[] 0 (.fresh 0 0 (!w.params.followText "set-order")) } := Heap.get?_push_of_some _ hS
          exact ⟨0, Nat.le_refl 0, setR_new_at hget⟩
        case hR =>
          intro s' c' hm hc' hS'
          obtain ⟨h', g2, d', tk', os'⟩ := s'
          have eg : g2 = s.gens := hm.gens
          have ed : d' = s.drawn := hm.drawn
          have eo : os' = s.os := hm.os
          subst eg; subst ed; subst eo
          show wpAny _ _ _ _ _ _
          refine wpAny_pure ?_
          show wpAny _ _ (ret Value.none) _ _ _
          rw [hisz] at hc'
          refine wpAny_pure ⟨rfl, h', tk', c', rfl, hS', hc', fun b o e => ?_⟩
          have hb0 : b < s.heap.objs.size := Heap.lt_size e
          have hb1 : b ≠ s.heap.objs.size := Nat.ne_of_lt hb0
          have hb2 : b ≠ (s.heap.push { cls := .type "set", dict := none, data := .set #[] 0 (.fresh 0 0 (!w.params.followText "set-order")) }).objs.size := by
            rw [Heap.size_push]; exact Nat.ne_of_lt (Nat.lt_succ_of_lt hb0)
          exact hm.heap b o (by simp only [List.mem_cons, List.mem_singleton, List.not_mem_nil, or_false, not_or]; exact ⟨hb1, hb2⟩) (Heap.get?_push_of_some _ (Heap.get?_push_of_some _ e))

      · cases r₂ with
        | error e => exact hr₂
        | ok fl₂ =>
          cases fl₂ with
          | ret r =>
            obtain ⟨rfl, h', tk, c', rfl, hS', hc', hk'⟩ := hr₂
            repeat (any_goals (first | assumption | wp_step))
            exact h _ _ _ hS' hc' hk'
          | _ => exact hr₂.elim
    | _ => exact hr.elim

end
theorem uniqI_mem : ∀ (l : List Int) (x : Int), x ∈ uniqI l ↔ x ∈ l
  | [], x => Iff.rfl
  | a :: r, x => by
    have ih := uniqI_mem r x
    have e : uniqI (a :: r) = (match uniqI r with
      | y :: l => if a = y then y :: l else a :: y :: l
      | [] => [a]) := rfl
    rw [e]
    cases h : uniqI r with
    | nil =>
      rw [h] at ih
      show x ∈ [a] ↔ _
      rw [List.mem_cons, List.mem_cons, ← ih]
    | cons y l =>
      rw [h] at ih
      show x ∈ (if a = y then y :: l else a :: y :: l) ↔ _
      by_cases hy : a = y
      · rw [if_pos hy, List.mem_cons (a := x) (b := a), ← ih, hy]
        exact ⟨.inr, fun z => z.elim (fun z => by rw [z]; exact List.mem_cons_self) id⟩
      · rw [if_neg hy, List.mem_cons (b := a), List.mem_cons (b := a), ← ih]
theorem uniqI_lt : ∀ (l : List Int), l.Pairwise (· ≤ ·) → (uniqI l).Pairwise (· < ·)
  | [], _ => .nil
  | a :: r, h => by
    have ih := uniqI_lt r (List.pairwise_cons.mp h).2
    have h1 := (List.pairwise_cons.mp h).1
    have e : uniqI (a :: r) = (match uniqI r with
      | y :: l => if a = y then y :: l else a :: y :: l
      | [] => [a]) := rfl
    rw [e]
    cases hu : uniqI r with
    | nil => exact List.pairwise_singleton ..
    | cons y l =>
      rw [hu] at ih
      show (if a = y then y :: l else a :: y :: l).Pairwise (· < ·)
      by_cases hy : a = y
      · rw [if_pos hy]; exact ih
      · rw [if_neg hy]
        refine List.pairwise_cons.mpr ⟨fun z hz => ?_, ih⟩
        have hz' : z ∈ r := (uniqI_mem r z).mp (by rw [hu]; exact hz)
        have hy' : y ∈ r := (uniqI_mem r y).mp (by rw [hu]; exact List.mem_cons_self)
        rcases List.mem_cons.mp hz with q | q
        · have := h1 y hy'; omega
        · have h3 := (List.pairwise_cons.mp ih).1 z q
          have := h1 y hy'; omega
theorem setI_mem (l : List Int) (x : Int) : x ∈ setI l ↔ x ∈ l := (uniqI_mem _ x).trans (sortI_perm l).mem_iff
theorem setI_lt (l : List Int) : (setI l).Pairwise (· < ·) := uniqI_lt _ (sortI_sort l)
theorem lt_uniq {l m : List Int} (h1 : l.Pairwise (· < ·)) (h2 : m.Pairwise (· < ·)) (h : ∀ x, x ∈ l ↔ x ∈ m) : l = m := by
  have n1 : l.Nodup := h1.imp fun h e => by omega
  have n2 : m.Nodup := h2.imp fun h e => by omega
  exact sorted_uniq (h1.imp Int.le_of_lt) (h2.imp Int.le_of_lt) ((List.perm_ext_iff_of_nodup n1 n2).mpr h)
theorem setI_uniq {l m : List Int} (h1 : m.Pairwise (· < ·)) (h : ∀ x, x ∈ m ↔ x ∈ l) : setI l = m := lt_uniq (setI_lt l) h1 fun x => (setI_mem l x).trans (h x).symm
section
variable {C : Cc} {W : WX} {X : Cx} {a : ME} {ea : Expr} {p p2 q pos : Pos}
theorem setR_len {w : World} {h : Heap} {b : Addr} {ns : List Int} {c : Nat} (R : SetR w h b (fun j => decide (j ∈ ns)) c) : c = (setI ns).length := by
  obtain ⟨o, es, ep, t, ho, hex, hd, g, nd, hm, hb, hf, hn, hr, hl⟩ := R
  have n2 : (setI ns).Nodup := (setI_lt ns).imp fun h e => by omega
  have pm : (es.toList.map keyOf).Perm (setI ns) := (List.perm_ext_iff_of_nodup nd n2).mpr fun x => by
    rw [← hm x, setI_mem, decide_eq_true_eq]
  have := pm.length_eq
  rw [List.length_map, Array.length_toList] at this
  omega
/-- sorted(set(a)) -/
theorem pe_Srs (hK : X.K = C.K) (hc : X.calm = true) (hg : Gl X "sorted") (hm : X.mg "sorted" = none) (hg2 : Gl X "set") (hm2 : X.mg "set" = none) (hea : PE X ea (tE C W a))
    (na : starEach [ea] X.env = (false, eval ea X.env) :: starEach [] X.env := by rfl) : PE X (.Call (.Name "sorted" p) [.Call (.Name "set" p2) [ea] [] q] [] pos) (tE C W (.srs a)) := by
  refine ⟨fun pins s σ H Q I h => ?_⟩
  have h' : tE C W a σ H fun x H1 => ∃ l ns, x = .ref l ∧ SqL C.K H1 l (ns.map V.int) ∧ ns.length ≤ 4000 ∧ (setI ns).length < 64 ∧ ∀ p, H1 p = none → Q (.ref p) (upd H1 p (.lst ((setI ns).map V.int))) := by
    obtain ⟨env0, M0, w0, k0, eo, h⟩ := h
    have h : After C.K C.ca (fun c d H => W c d σ H) H w0 ((evE C.F C.G a env0 M0).bind fun x M => srsD x M) fun d _ H' w' => ∀ v, Rep C.K w' d v → Q v H' := h
    refine (Rd0.bind (f := fun x _ M => srsD x M) (P := fun d _ H' w' _ => ∀ v, Rep C.K w' d v → Q v H') ⟨env0, M0, w0, k0, eo, h⟩).imp fun x M1 H1 w1 env k1 e1 h1 v rv => ?_
    have h1 : After C.K C.ca _ H1 w1 (match (lstOf x M1).bind intsOf with
      | some ns => if (decide (ns.length ≤ 4000) && decide ((setI ns).length < 64)) = true then Res.ok (D.lst ((setI ns).map .int)) M1 else .no
      | none => .no) (fun d _ H' w' => ∀ v, Rep C.K w' d v → Q v H') := h1
    cases e : (lstOf x M1).bind intsOf with
    | none => rw [e] at h1; exact h1.elim
    | some ns =>
      rw [e] at h1
      obtain ⟨hif, h2⟩ := h1.ifG
      rw [Bool.and_eq_true] at hif
      obtain ⟨l, e5, e6⟩ := Option.bind_eq_some_iff.mp e
      obtain ⟨b, vs, e7, sq, q2⟩ := k1.lstS rv e5
      rw [Reps.ints q2 e6] at sq
      refine ⟨b, ns, e7, sq, of_decide_eq_true hif.1, of_decide_eq_true hif.2, fun p hp => ?_⟩
      exact newL k1 (Reps.ofInts (setI ns)) (fun H' w' g k' v rv => h2 H' w' g k' v rv) p hp
  refine Call_ (ld_blt I hg hm boot_sorted ?_)
  refine PyProof.Rows.callWith_builtin1 (PyProof.Rows.args_cons ?_ rfl) rfl rfl
  refine Call_ (ld_blt I hg2 hm2 boot_set ?_)
  refine PyProof.Rows.callWith_type1 (PyProof.Rows.args_cons (thn (hea.run pins s σ H _ I h') fun v s1 ⟨x, H1, I1, r1, q1⟩ => PyProof.Rows.args_nil ?_) na) na rfl
  obtain ⟨l, ns, rfl, hq, hl, h64, q1⟩ := q1
  cases r1
  obtain ⟨its, r, pl, hz⟩ := I1.list (hK ▸ hq)
  refine call_set_lstI ns (I1.ok.hd hc) pl.isList (by simpa using ints_of_vals r) (by unfold scanBound; omega) fun h' tk c R1 hcn hk => ?_
  refine PyProof.Rows.args_nil ?_
  have I2 : Inv X pins σ H1 { s1 with heap := h', toks := tk } := I1.kept hk
  refine sorted_set R1 (I2.ok.hd hc) (by rw [setR_len R1]; exact h64) fun s' p out c ns' k g o hp hg hi hs hm hl => ?_
  have hs1 : setI ns = ns' := setI_uniq hs fun x => (hm x).trans (by simp)
  subst hs1
  have hlen : ((setI ns).map V.int).length ≤ sizeLine := by rw [List.length_map, sizeLine_eq]; omega
  have hn : H1 p = none := I2.hok.fresh hp
  have J : Inv X pins σ (upd H1 p (.lst ((setI ns).map V.int))) { ({ s1 with heap := h', toks := tk } : Shared) with heap := s'.heap, gens := s'.gens, drawn := s'.drawn, toks := s'.toks } :=
    I2.call (ch := []) (Un.laid k hp hn) (I2.hok.laid k hp ⟨hlen, out.toList, c, vals_of_ints hi, hg⟩) (by rw [g]; exact I2.bare) (fun _ z => nomatch z)
  have e : s' = { ({ s1 with heap := h', toks := tk } : Shared) with heap := s'.heap, gens := s'.gens, drawn := s'.drawn, toks := s'.toks } := by
    cases s'
    cases o
    rfl
  rw [e]
  exact ⟨.ref p, _, J, rfl, q1 p hn⟩
end
end PM

/-! PMo: a def's written expression is a given text of the small language: a check, and that it suffices. -/
namespace PM
open PySem L2
/-- what the check knows: the slots' names, the scope's names (a block's own, as written), the defs by number, the constants by number, names that are built-ins, names of what is imported -/
structure MC where
  N : List Str
  names : List (Str × NameKind)
  blk : Option (List (Str × NameKind)) := none
  fns : List (Str × Nat)
  gls : List Str
  free : List Str
  imp : List (Str × BI)
def MC.into (c : MC) (scope : Scope) : MC :=
  { c with names := scope.names.map fun (n, k) => if (k == .free && c.names.lookup n == some .cell) then (n, .cell) else (n, k), blk := some scope.names }
def nameOk (x : Str) : Bool := !(x == ("__debug__" : Str)) && !(x == ("__classdict__" : Str)) && !(x == ("__name__" : Str))
def MC.vis (c : MC) (x : Str) : Bool := match c.names.lookup x with
  | some .local | some .cell | some .free => true
  | _ => false
def MC.loc (c : MC) (x : Str) : Bool := (match c.names.lookup x with
  | some .local | some .cell => true
  | _ => false) && ((match c.names.lookup x with
  | some .local => true
  | _ => false) || (match c.blk with
  | some l => l.lookup x == some .cell
  | none => true))
def MC.lcl (c : MC) (x : Str) : Bool := c.names.lookup x == some .local
def MC.gl (c : MC) (x : Str) : Bool := c.names.lookup x == some .globalImplicit && nameOk x
def MC.blt (c : MC) (x : Str) : Bool := c.gl x && c.free.contains x
def noStar : List Expr → Bool
  | [] => true
  | .Starred _ _ :: _ => false
  | _ :: r => noStar r
def notSlice : Expr → Bool
  | .Slice _ _ _ _ => false
  | _ => true
def notCall : Expr → Bool
  | .Call _ _ _ _ => false
  | _ => true
def okBb : Cmp → ME → Bool
  | .isB k, .c (.bl j) => k == j
  | .notB k, .c (.bl j) => k == j
  | .isB _, _ => false
  | .notB _, _ => false
  | _, _ => true
def biStr : BI → Str
  | .len => "len" | .sum => "sum" | .abs => "abs" | .int => "int" | .repr => "repr" | .all => "all" | .any => "any" | .max => "max" | .min => "min"
  | .tuple => "tuple" | .listF => "list" | .listC => "list" | .sorted => "sorted" | .gcd => "gcd" | .str => "str" | .isa _ => "isinstance"
def biTy : BI → Bool
  | .int | .tuple | .listF | .listC | .str => true
  | _ => false
def ofOk (b : BI) (x : Str) : Bool := decide (((b = .listF ∨ b = .listC) ∧ x = "list") ∨ (b = .tuple ∧ x = "tuple"))
def plainBi : BI → Bool
  | .gcd | .isa _ => false
  | _ => true
def isDict0 : Expr → Bool
  | .Dict [] [] _ => true
  | _ => false
theorem isDict0_eq {e : Expr} (h : isDict0 e = true) : ∃ p, e = .Dict [] [] p := by
  unfold isDict0 at h
  split at h
  · exact ⟨_, rfl⟩
  · cases h
def dict1 : Expr → Option (Str × Expr)
  | .Dict [some (.Constant (.str y) _ _)] [v] _ => some (y, v)
  | _ => none
theorem dict1_eq {e : Expr} {q : Str × Expr} (h : dict1 e = some q) : ∃ j p1 p, e = .Dict [some (.Constant (.str q.1) j p1)] [q.2] p := by
  unfold dict1 at h
  split at h
  · cases h; exact ⟨_, _, _, rfl⟩
  · cases h
def rev1 : Expr → Option Expr
  | .Subscript l (.Slice none none (some (.UnaryOp .USub (.Constant (.int 1) _ _) _)) _) _ => some l
  | _ => none
theorem rev1_eq {e l : Expr} (h : rev1 e = some l) : ∃ j p1 p2 p3 p4, e = .Subscript l (.Slice none none (some (.UnaryOp .USub (.Constant (.int 1) j p1) p2)) p3) p4 := by
  unfold rev1 at h
  split at h
  · cases h; exact ⟨_, _, _, _, _, rfl⟩
  · cases h
def srs1 : Expr → Option (Str × Str × Expr)
  | .Call (.Name x _) [.Call (.Name y _) [v] [] _] [] _ => some (x, y, v)
  | _ => none
theorem srs1_eq {e : Expr} {q : Str × Str × Expr} (h : srs1 e = some q) : ∃ p1 p2 p3 p4, e = .Call (.Name q.1 p1) [.Call (.Name q.2.1 p2) [q.2.2] [] p3] [] p4 := by
  unfold srs1 at h
  split at h
  · cases h; exact ⟨_, _, _, _, rfl⟩
  · cases h
mutual
def matT (c : MC) : MT → Expr → Bool
  | .nm i, e => (match e with
    | .Name x _ => decide (c.N[i]? = some x) && c.loc x
    | _ => false)
  | .tp ts, e => (match e with
    | .Tuple es _ _ => matTs c ts es
    | _ => false)
termination_by structural t => t
def matTs (c : MC) : List MT → List Expr → Bool
  | [], es => (match es with
    | [] => true
    | _ => false)
  | t :: ts, es => (match es with
    | e :: es => matT c t e && matTs c ts es
    | [] => false)
termination_by structural t => t
end
mutual
def matE : ME → MC → Expr → Bool
  | .c d, _, e => (match e with
    | .Constant k _ _ => (match d, k with
      | .non, .none => true
      | .bl b, .bool b' => b == b'
      | .int i, .int j => decide (i = j)
      | .str s, .str t => decide (s = t)
      | _, _ => false)
    | _ => false)
  | .var i, c, e => (match e with
    | .Name x _ => decide (c.N[i]? = some x) && c.vis x && nameOk x
    | _ => false)
  | .glo i, c, e => (match e with
    | .Name x _ => decide (c.gls[i]? = some x) && c.gl x
    | _ => false)
  | .add a b, c, e => (match e with
    | .BinOp l .Add r _ => matE a c l && matE b c r
    | _ => false)
  | .sub a b, c, e => (match e with
    | .BinOp l .Sub r _ => matE a c l && matE b c r
    | _ => false)
  | .mul a b, c, e => (match e with
    | .BinOp l .Mult r _ => matE a c l && matE b c r
    | _ => false)
  | .fdiv a b, c, e => (match e with
    | .BinOp l .FloorDiv r _ => matE a c l && matE b c r
    | _ => false)
  | .mod a b, c, e => (match e with
    | .BinOp l .Mod r _ => matE a c l && matE b c r
    | _ => false)
  | .pow a b, c, e => (match e with
    | .BinOp l .Pow r _ => matE a c l && matE b c r
    | _ => false)
  | .neg a, c, e => (match e with
    | .UnaryOp .USub x _ => matE a c x
    | _ => false)
  | .not a, c, e => (match e with
    | .UnaryOp .Not x _ => matE a c x
    | _ => false)
  | .and es, c, e => (match e with
    | .BoolOp .And vs _ => matBs es c vs
    | _ => false)
  | .or es, c, e => (match e with
    | .BoolOp .Or vs _ => matBs es c vs
    | _ => false)
  | .ife t a b, c, e => (match e with
    | .IfExp x y z _ => matE t c x && matE a c y && matE b c z
    | _ => false)
  | .cmp k a b, c, e => (match e with
    | .Compare l ops rs _ => (match ops, rs with
      | [op], [r] => decide (op = opOf k) && okBb k b && !(behindInMarks op r) && matE a c l && matE b c r
      | _, _ => false)
    | _ => false)
  | .chain k1 k2 a b d, c, e => (match e with
    | .Compare l ops rs _ => (match ops, rs with
      | [o1, o2], [r1, r2] => decide (o1 = opOf k1) && decide (o2 = opOf k2) && okBb k1 b && okBb k2 d && !(behindInMarks o2 r2) && matE a c l && matE b c r1 && matE d c r2
      | _, _ => false)
    | _ => false)
  | .tup es, c, e => (match e with
    | .Tuple vs _ _ => noStar vs && matEs es c vs
    | _ => false)
  | .lst _ es, c, e => (match e with
    | .List vs _ => noStar vs && matEs es c vs
    | _ => false)
  | .dct, _, e => isDict0 e
  | .dis0, _, e => isDict0 e
  | .srs a, c, e => (match srs1 e with
    | some q => decide (q.1 = ("sorted" : Str)) && decide (q.2.1 = ("set" : Str)) && c.blt q.1 && c.blt q.2.1 && noStar [q.2.2] && matE a c q.2.2
    | none => false)
  | .dis1 z a, c, e => (match dict1 e with
    | some q => decide (q.1 = z) && matE a c q.2
    | none => false)
  | .ix a i, c, e => (match e with
    | .Subscript l r _ => notSlice r && matE a c l && matE i c r
    | _ => false)
  | .sl a lo hi, c, e => (match e with
    | .Subscript l r _ => (match r with
      | .Slice x y none _ => matE a c l && matO lo c x && matO hi c y
      | _ => false)
    | _ => false)
  | .rev a, c, e => (match rev1 e with
    | some l => matE a c l
    | none => false)
  | .call f es, c, e => (match e with
    | .Call g vs ks _ => (match g, vs, ks with
      | .Name x _, v :: vs, [] => decide (c.fns[f]? = some (x, es.length)) && c.gl x && noStar (v :: vs) && matEs es c (v :: vs)
      | _, _, _ => false)
    | _ => false)
  | .bi b es, c, e => (match e with
    | .Call g vs ks _ => (match g, vs, ks with
      | .Name x _, v :: vs, [] => (match b, es, vs with
        | .isa t, [m], [.Name y _] => decide (x = ("isinstance" : Str)) && decide (y = (tyName t : Str)) && c.blt x && c.blt y && noStar [v] && matE m c v
        | .isa _, _, _ => false
        | b, es, vs => noStar (v :: vs) && matEs es c (v :: vs) && ((plainBi b && decide (x = biStr b) && c.blt x) || (decide (b = .gcd) && c.imp.lookup x == some .gcd && c.gl x)))
      | _, _, _ => false)
    | _ => false)
  | .me m o es, c, e => (match e with
    | .Call g vs ks pos => (match g, ks with
      | .Attribute w nm apos, [] => decide (nm = miName m) && notCall w && apos.endLine == pos.line && matE o c w && noStar vs && matEs es c vs && decide (vs.length < 20)
      | _, _ => false)
    | _ => false)
  | .comp _ d t it ifs own, c, e => (match e with
    | .ListComp elt gs scope _ => (match gs with
      | [⟨tg, iter, qs, as⟩] => as == 0 && matIt it c tg iter && matT (c.into scope) t tg && matIfs ifs (c.into scope) qs && matE d (c.into scope) elt && (slT t).all (fun i => own.contains i) &&
          blkC c.N { scope with names := c.names } scope (own.map fun i => ((c.N[i]?).getD "", i))
      | _ => false)
    | _ => false)
  | .dcomp a b t it ifs own, c, e => (match e with
    | .DictComp kx vx gs scope _ => (match gs with
      | [⟨tg, iter, qs, as⟩] => as == 0 && matIt it c tg iter && matT (c.into scope) t tg && matIfs ifs (c.into scope) qs && matE a (c.into scope) kx && matE b (c.into scope) vx && (slT t).all (fun i => own.contains i) &&
          blkC c.N { scope with names := c.names } scope (own.map fun i => ((c.N[i]?).getD "", i))
      | _ => false)
    | _ => false)
  | .ofIt b (.rng1 m), c, e => (match e with
    | .Call g vs ks _ => (match g, vs, ks with
      | .Name x _, [.Call g2 vs2 ks2 _], [] => (match g2, vs2, ks2 with
        | .Name y _, [v], [] => ofOk b x && decide (y = ("range" : Str)) && c.blt x && c.blt y && noStar [v] && matE m c v
        | _, _, _ => false)
      | _, _, _ => false)
    | _ => false)
  | .ofIt b (.rng2 m n), c, e => (match e with
    | .Call g vs ks _ => (match g, vs, ks with
      | .Name x _, [.Call g2 vs2 ks2 _], [] => (match g2, vs2, ks2 with
        | .Name y _, [v, u], [] => ofOk b x && decide (y = ("range" : Str)) && c.blt x && c.blt y && noStar [v, u] && matE m c v && matE n c u
        | _, _, _ => false)
      | _, _, _ => false)
    | _ => false)
  | .ofIt b (.vals m), c, e => (match e with
    | .Call g vs ks _ => (match g, vs, ks with
      | .Name x _, [.Call g2 vs2 ks2 cpos], [] => (match g2, vs2, ks2 with
        | .Attribute w nm apos, [], [] => decide (b = .listF ∨ b = .listC) && decide (x = ("list" : Str)) && decide (nm = ("values" : Str)) && c.blt x && notCall w && apos.endLine == cpos.line && matE m c w
        | _, _, _ => false)
      | _, _, _ => false)
    | _ => false)
  | .ofIt _ _, _, _ => false
  | .stk, _, _ => true
termination_by structural e => e
def matEs : List ME → MC → List Expr → Bool
  | [], _, vs => (match vs with
    | [] => true
    | _ => false)
  | e :: es, c, vs => (match vs with
    | v :: vs => matE e c v && matEs es c vs
    | [] => false)
termination_by structural es => es
def matBs : List ME → MC → List Expr → Bool
  | [], _, _ => false
  | e :: es, c, vs => (match vs with
    | v :: vs => matE e c v && (match es, vs with
      | [], [] => true
      | [], _ => false
      | _, _ => matBs es c vs)
    | [] => false)
termination_by structural es => es
def matIfs : List ME → MC → List Expr → Bool
  | [], _, vs => (match vs with
    | [] => true
    | _ => false)
  | e :: es, c, vs => (match es, vs with
    | [], [v] => matE e c v
    | _, _ => false)
termination_by structural es => es
def matO : Option ME → MC → Option Expr → Bool
  | none, _, v => v.isNone
  | some e, c, v => (match v with
    | some v => matE e c v
    | none => false)
termination_by structural es => es
def matIt : MIt → MC → Expr → Expr → Bool
  | .seq m, c, _, e => (match e with
    | .Set _ _ _ => false
    | e => matE m c e)
  | .rng1 m, c, _, e => (match e with
    | .Call g vs ks _ => (match g, vs, ks with
      | .Name x _, [v], [] => decide (x = ("range" : Str)) && c.blt x && noStar [v] && matE m c v
      | _, _, _ => false)
    | _ => false)
  | .rng2 m n, c, _, e => (match e with
    | .Call g vs ks _ => (match g, vs, ks with
      | .Name x _, [v, u], [] => decide (x = ("range" : Str)) && c.blt x && noStar [v, u] && matE m c v && matE n c u
      | _, _, _ => false)
    | _ => false)
  | .enum m, c, tg, e => (match tg, e with
    | .Tuple _ _ _, .Call g vs ks _ => (match g, vs, ks with
      | .Name x _, [v], [] => decide (x = ("enumerate" : Str)) && c.blt x && noStar [v] && matE m c v
      | _, _, _ => false)
    | _, _ => false)
  | .zip ms, c, tg, e => (match tg, e with
    | .Tuple _ _ _, .Call g vs ks _ => (match g, ks with
      | .Name x _, [] => decide (x = ("zip" : Str)) && c.blt x && noStar vs && (vs.length == 2 || vs.length == 3) && matEs ms c vs
      | _, _ => false)
    | _, _ => false)
  | .keys _, _, _, _ => false
  | .items _, _, _, _ => false
  | .vals _, _, _, _ => false
termination_by structural it => it
end
/-! ### what the check leans on -/
structure XOk (C : Cc) (W : WX) (X : Cx) (c : MC) : Prop where
  hK : X.K = C.K
  hc : X.calm = true
  hg : X.A.guards = some []
  hu : X.A.units + 64 < cLine
  hN : X.N.Nodup
  tk : Takes X W
  N : X.N = c.N
  names : X.env.scope.names = c.names
  kind : X.env.scope.kind = .function
  fn : ∀ x, (∀ l, c.blk = some l → l.lookup x = some .cell) → X.fn x = true
  free : ∀ x, x ∈ c.free → X.mg x = none
  imp : ∀ x b, c.imp.lookup x = some b → X.mg x = some (biVal b)
  gls : ∀ (i : Nat) (x : Str), c.gls[i]? = some x → ∃ (u : Value) (v : V) (d : D), X.mg x = some u ∧ RelV v u ∧ C.G[i]? = some d ∧ ∀ w, Rep C.K w d v
  fns : ∀ (f : Nat) (x : Str) (n : Nat), c.fns[f]? = some (x, n) → ∃ (k : Nat) (fa : Addr) (fd : FuncData) (ps : List Str), X.mg x = some (.ref fa) ∧ PySem.W.keepIn X.K (.ref fa) = true ∧ Binds X.K fd ps [] ∧ FnG X.prog X.w X.K X.mg X.base k fa fd ps (spF C.K C.ca C.F n f) ∧ Room k X.A
section
variable {C : Cc} {W : WX} {X : Cx} {c : MC}
theorem noStar_each : ∀ {e : Expr} {es : List Expr} {env : Env}, noStar (e :: es) = true → starEach (e :: es) env = (false, eval e env) :: starEach es env := by
  intro e es env h
  cases e <;> first | rfl | exact absurd (show false = true from h) (by decide)
theorem noStar_tl : ∀ {e : Expr} {es : List Expr}, noStar (e :: es) = true → noStar es = true := by
  intro e es h
  cases e <;> first | exact h | exact absurd (show false = true from h) (by decide)
theorem noStar_any : ∀ {es : List Expr} {env : Env} {pos : Pos}, noStar es = true → (backTo pos (starEach es env)).any (·.1) = false
  | [], env, pos, _ => rfl
  | e :: es, env, pos, h => by
    rw [noStar_each h]
    show (false || (backTo pos (starEach es env)).any (·.1)) = false
    rw [noStar_any (noStar_tl h)]; rfl
theorem XOk.visX (o : XOk C W X c) {x : Str} (h : c.vis x = true) : Vis X.env.scope x := by
  unfold MC.vis at h
  unfold Vis
  rw [o.names]
  split at h
  · exact .inl (by assumption)
  · exact .inr (.inl (by assumption))
  · exact .inr (.inr (by assumption))
  · cases h
theorem XOk.locX (o : XOk C W X c) {x : Str} (h : c.loc x = true) : L2.Loc X.env.scope x ∧ (X.fn x = true ∨ X.env.scope.names.lookup x = some .local) := by
  unfold MC.loc at h
  unfold L2.Loc
  rw [o.names]
  rw [Bool.and_eq_true] at h
  obtain ⟨h1, h2⟩ := h
  refine ⟨?_, ?_⟩
  · split at h1
    · exact .inl (by assumption)
    · exact .inr (by assumption)
    · cases h1
  · rw [Bool.or_eq_true] at h2
    rcases h2 with h2 | h2
    · split at h2
      · exact .inr (by assumption)
      · cases h2
    · refine .inl (o.fn x fun l hb => ?_)
      rw [hb] at h2
      exact beq_iff_eq.mp h2
theorem XOk.glX (o : XOk C W X c) {x : Str} (h : c.gl x = true) : Gl X x ∧ (x == ("__debug__" : Str)) = false ∧ x ≠ "__name__" := by
  unfold MC.gl nameOk at h
  simp only [Bool.and_eq_true, Bool.not_eq_true', beq_iff_eq] at h
  refine ⟨?_, h.2.1.1, fun e => ?_⟩
  · show X.env.scope.names.lookup x = _
    rw [o.names]; exact h.1
  · have z := h.2.2
    rw [e] at z
    exact absurd z (by decide)
theorem XOk.bltX (o : XOk C W X c) {x : Str} (h : c.blt x = true) : Gl X x ∧ (x == ("__debug__" : Str)) = false ∧ x ≠ "__name__" ∧ X.mg x = none := by
  unfold MC.blt at h
  rw [Bool.and_eq_true] at h
  obtain ⟨h1, h2, h3⟩ := o.glX h.1
  exact ⟨h1, h2, h3, o.free x (by simpa using h.2)⟩
theorem folded_none {e : Expr} {env : Env} (h : ∀ a b c, e ≠ .Set a b c) : ∀ x, foldedSetIterable e env x = pure x := by
  intro x
  cases e <;> first | rfl | exact absurd rfl (h _ _ _)
theorem isTrue_plain {e : Expr} {env : Env} (h1 : ∀ x p, e ≠ .UnaryOp .Not x p) (h2 : ∀ o v p, e ≠ .BoolOp o v p) (h3 : ∀ a b c p, e ≠ .IfExp a b c p) (h4 : ∀ a b c p, e ≠ .Compare a b c p) :
    ∀ whole, PySem.isTrue e env whole = (do let v ← whole; standAt e.pos; holding [v] (truthy v)) := by
  intro whole
  cases e with
  | UnaryOp op x p => cases op <;> first | rfl | exact absurd rfl (h1 _ _)
  | BoolOp => exact absurd rfl (h2 _ _ _)
  | IfExp => exact absurd rfl (h3 _ _ _ _)
  | Compare => exact absurd rfl (h4 _ _ _ _)
  | _ => rfl
theorem bi_boot : ∀ b : BI, plainBi b = true → (∃ id, biVal b = .builtin id ∧ bootBuiltins (biStr b) = some (.builtin id)) ∨ (∃ id, biVal b = .type id ∧ bootBuiltins (biStr b) = some (.type id)) := by
  intro b h
  cases b <;> first
    | exact absurd (show false = true from h) (by decide)
    | exact .inl ⟨_, rfl, by decide +kernel⟩
    | exact .inr ⟨_, rfl, by decide +kernel⟩
theorem ty_boot : ∀ t : Ty, bootBuiltins (tyName t : Str) = some (.type (tyName t)) := by
  intro t
  cases t <;> decide +kernel
theorem okB_of {k : Cmp} {b : ME} (h : okBb k b = true) : okB k b := by
  cases k with
  | isB k =>
    cases b with
    | c d => cases d with
      | bl j =>
        obtain rfl : k = j := beq_iff_eq.mp h
        exact rfl
      | _ => cases h
    | _ => cases h
  | notB k =>
    cases b with
    | c d => cases d with
      | bl j =>
        obtain rfl : k = j := beq_iff_eq.mp h
        exact rfl
      | _ => cases h
    | _ => cases h
  | _ => exact trivial
/-- targets -/
theorem assignEach_plain {e : Expr} {es : List Expr} {env : Env} (h : ∀ x p, e ≠ .Starred x p) : assignEach (e :: es) env = (false, assign e env) :: assignEach es env := by
  cases e <;> first | rfl | exact absurd rfl (h _ _)
theorem matT_plain {t : MT} {e : Expr} (h : matT c t e = true) : ∀ x p, e ≠ .Starred x p := by
  intro x p he
  subst he
  cases t <;> exact absurd (show false = true from h) (by decide)
theorem matTs_each : ∀ {ts : List MT} {es : List Expr} {env : Env}, matTs c ts es = true → (assignEach es env).length = ts.length ∧ (assignEach es env).findIdx? (·.1) = none
  | [], es, env, h => by
    cases es with
    | nil => exact ⟨rfl, rfl⟩
    | cons _ _ => exact absurd (show false = true from h) (by decide)
  | t :: ts, es, env, h => by
    cases es with
    | nil => exact absurd (show false = true from h) (by decide)
    | cons e es =>
      have h : (matT c t e && matTs c ts es) = true := h
      rw [Bool.and_eq_true] at h
      obtain ⟨h1, h2⟩ := matTs_each (env := env) h.2
      rw [assignEach_plain (matT_plain h.1)]
      refine ⟨by rw [List.length_cons, List.length_cons, h1], ?_⟩
      rw [List.findIdx?_cons, h2]; rfl
mutual
theorem matT_ok (o : XOk C W X c) : ∀ (t : MT) (e : Expr), matT c t e = true → PG X e (tG C t) := by
  intro t
  cases t with
  | nm i =>
    intro e h
    cases e <;> first | exact absurd (show false = true from h) (by decide) | skip
    rename_i x p
    have h : (decide (c.N[i]? = some x) && c.loc x) = true := h
    rw [Bool.and_eq_true] at h
    obtain ⟨h1, h2⟩ := o.locX h.2
    exact pg_Nm o.hN (by rw [o.N]; exact of_decide_eq_true h.1) h1 h2
  | tp ts =>
    intro e h
    cases e <;> first | exact absurd (show false = true from h) (by decide) | skip
    rename_i es k p
    have h : matTs c ts es = true := h
    obtain ⟨h1, h2⟩ := matTs_each (env := X.env) h
    exact pg_Tp o.hK o.hc (matTs_ok o ts es h) h1 h2
theorem matTs_ok (o : XOk C W X c) : ∀ (t : List MT) (e : List Expr), matTs c t e = true → PGs X e (tGs C t) := by
  intro ts
  cases ts with
  | nil =>
    intro es h
    cases es with
    | nil => exact pgs_Nil
    | cons _ _ => exact absurd (show false = true from h) (by decide)
  | cons t ts =>
    intro es h
    cases es with
    | nil => exact absurd (show false = true from h) (by decide)
    | cons e es =>
      have h : (matT c t e && matTs c ts es) = true := h
      rw [Bool.and_eq_true] at h
      exact pgs_Cons (matT_ok o t e h.1) (matTs_ok o ts es h.2) (by rw [assignEach_plain (matT_plain h.1)]; rfl)
end
/-- a block's own context -/
theorem XOk.blkX (o : XOk C W X c) (s : Shared) (H : Hp) (A : Addr) (cl : List (Str × Addr)) (fp : List Addr) (scope : Scope) (hk : scope.kind = .function) : XOk C WF (X.blk s H scope (compEnvC scope cl A X.env) fp) (c.into scope) where
  hK := o.hK
  hc := o.hc
  hg := o.hg
  hu := o.hu
  hN := o.hN
  tk := fun u s' ⟨a, B, sI, pins, σ, H, cls, d, e, I, nb, up, sky, na, os, ag, w⟩ => w.elim
  N := o.N
  names := by
    show (scope.names.map fun (n, k) => if (k == NameKind.free && X.env.scope.kind == ScopeKind.function && X.env.kindOf n == some NameKind.cell) then (n, NameKind.cell) else (n, k)) = scope.names.map _
    refine List.map_congr_left fun p hp => ?_
    obtain ⟨n, k⟩ := p
    have e : X.env.kindOf n = c.names.lookup n := by show X.env.scope.names.lookup n = _; rw [o.names]
    simp only [e, o.kind]
    simp
  kind := hk
  fn := fun x h => by
    show (scope.names.lookup x == some .cell) = true
    rw [h _ rfl]; rfl
  free := o.free
  imp := o.imp
  gls := o.gls
  fns := o.fns
end
end PM

/-! PMp: what the check lets through is read so: expressions. -/
namespace PM
open PySem L2
section
variable {C : Cc}
theorem noStar_all : ∀ {es : List Expr} {env : Env} {pos : Pos}, noStar es = true → (backTo pos (starEach es env)).all (fun x => !x.1) = true
  | [], env, pos, _ => rfl
  | e :: es, env, pos, h => by
    rw [noStar_each h]
    show (true && (backTo pos (starEach es env)).all (fun x => !x.1)) = true
    rw [noStar_all (noStar_tl h)]; rfl
theorem noStar_two {e e2 : Expr} {env : Env} (h : noStar [e, e2] = true) : starEach [e, e2] env = [(false, eval e env), (false, eval e2 env)] := by
  rw [noStar_each h, noStar_each (noStar_tl h)]; rfl
theorem abase_plain {o : Expr} {attr : Str} {env : Env} {whole : Sem Value} (h : notCall o = true) : attributeBase o attr env whole = whole := by
  cases o <;> first | rfl | exact absurd (show false = true from h) (by decide)
theorem ptv {W : WX} {X : Cx} {e : Expr} {m : ME} (hK : X.K = C.K) (h : PE X e (tE C W m)) (h1 : ∀ x p, e ≠ .UnaryOp .Not x p) (h2 : ∀ o v p, e ≠ .BoolOp o v p) (h3 : ∀ a b c p, e ≠ .IfExp a b c p) (h4 : ∀ a b c p, e ≠ .Compare a b c p) :
    PE X e (tE C W m) ∧ PT X e (tT C W m) := ⟨h, pt_Val hK h (isTrue_plain h1 h2 h3 h4)⟩
theorem andB {a b : Bool} (h : (a && b) = true) : a = true ∧ b = true := by rwa [Bool.and_eq_true] at h
theorem noB {p : Prop} (h : false = true) : p := nomatch h
mutual
theorem matE_ok : ∀ (m : ME) {W : WX} {X : Cx} {c : MC} (o : XOk C W X c) (e : Expr), matE m c e = true → PE X e (tE C W m) ∧ PT X e (tT C W m) := by
  intro m
  cases m with
  | c d =>
    intro W X c o e h
    cases e <;> first | exact noB (by assumption) | skip
    rename_i k j p
    cases d <;> cases k <;> first | exact noB (by assumption) | skip
    · exact ptv o.hK pe_Non (fun _ _ z => nomatch z) (fun _ _ _ z => nomatch z) (fun _ _ _ _ z => nomatch z) (fun _ _ _ _ z => nomatch z)
    · obtain rfl := beq_iff_eq.mp (show (_ == _) = true from h)
      exact ptv o.hK pe_Bl (fun _ _ z => nomatch z) (fun _ _ _ z => nomatch z) (fun _ _ _ _ z => nomatch z) (fun _ _ _ _ z => nomatch z)
    · obtain rfl := of_decide_eq_true (show decide (_ = _) = true from h)
      exact ptv o.hK pe_Int (fun _ _ z => nomatch z) (fun _ _ _ z => nomatch z) (fun _ _ _ _ z => nomatch z) (fun _ _ _ _ z => nomatch z)
    · obtain rfl := of_decide_eq_true (show decide (_ = _) = true from h)
      exact ptv o.hK pe_Str (fun _ _ z => nomatch z) (fun _ _ _ z => nomatch z) (fun _ _ _ _ z => nomatch z) (fun _ _ _ _ z => nomatch z)
  | var i =>
    intro W X c o e h
    cases e <;> first | exact noB (by assumption) | skip
    rename_i x p
    obtain ⟨h, h3⟩ := andB (show (decide (c.N[i]? = some x) && c.vis x && nameOk x) = true from h)
    obtain ⟨h1, h2⟩ := andB h
    unfold nameOk at h3
    simp only [Bool.and_eq_true, Bool.not_eq_true'] at h3
    exact ptv o.hK (pe_Var (by rw [o.N]; exact of_decide_eq_true h1) (o.visX h2) h3.1.1 h3.1.2) (fun _ _ z => nomatch z) (fun _ _ _ z => nomatch z) (fun _ _ _ _ z => nomatch z) (fun _ _ _ _ z => nomatch z)
  | glo i =>
    intro W X c o e h
    cases e <;> first | exact noB (by assumption) | skip
    rename_i x p
    obtain ⟨h1, h2⟩ := andB (show (decide (c.gls[i]? = some x) && c.gl x) = true from h)
    obtain ⟨g1, g2, g3⟩ := o.glX h2
    obtain ⟨u, v, d, q1, q2, q3, q4⟩ := o.gls i x (of_decide_eq_true h1)
    exact ptv o.hK (pe_Glo g1 q1 q2 g2 q3 q4) (fun _ _ z => nomatch z) (fun _ _ _ z => nomatch z) (fun _ _ _ _ z => nomatch z) (fun _ _ _ _ z => nomatch z)
  | add a b =>
    intro W X c o e h
    cases e <;> first | exact noB (by assumption) | skip
    rename_i l op r p
    cases op <;> first | exact noB (by assumption) | skip
    obtain ⟨h1, h2⟩ := andB (show (matE a c l && matE b c r) = true from h)
    exact ptv o.hK (pe_Add o.hK (matE_ok a o l h1).1 (matE_ok b o r h2).1) (fun _ _ z => nomatch z) (fun _ _ _ z => nomatch z) (fun _ _ _ _ z => nomatch z) (fun _ _ _ _ z => nomatch z)
  | sub a b =>
    intro W X c o e h
    cases e <;> first | exact noB (by assumption) | skip
    rename_i l op r p
    cases op <;> first | exact noB (by assumption) | skip
    obtain ⟨h1, h2⟩ := andB (show (matE a c l && matE b c r) = true from h)
    exact ptv o.hK (pe_Sub (matE_ok a o l h1).1 (matE_ok b o r h2).1) (fun _ _ z => nomatch z) (fun _ _ _ z => nomatch z) (fun _ _ _ _ z => nomatch z) (fun _ _ _ _ z => nomatch z)
  | mul a b =>
    intro W X c o e h
    cases e <;> first | exact noB (by assumption) | skip
    rename_i l op r p
    cases op <;> first | exact noB (by assumption) | skip
    obtain ⟨h1, h2⟩ := andB (show (matE a c l && matE b c r) = true from h)
    exact ptv o.hK (pe_Mul o.hK (matE_ok a o l h1).1 (matE_ok b o r h2).1) (fun _ _ z => nomatch z) (fun _ _ _ z => nomatch z) (fun _ _ _ _ z => nomatch z) (fun _ _ _ _ z => nomatch z)
  | fdiv a b =>
    intro W X c o e h
    cases e <;> first | exact noB (by assumption) | skip
    rename_i l op r p
    cases op <;> first | exact noB (by assumption) | skip
    obtain ⟨h1, h2⟩ := andB (show (matE a c l && matE b c r) = true from h)
    exact ptv o.hK (pe_Fdiv (matE_ok a o l h1).1 (matE_ok b o r h2).1) (fun _ _ z => nomatch z) (fun _ _ _ z => nomatch z) (fun _ _ _ _ z => nomatch z) (fun _ _ _ _ z => nomatch z)
  | mod a b =>
    intro W X c o e h
    cases e <;> first | exact noB (by assumption) | skip
    rename_i l op r p
    cases op <;> first | exact noB (by assumption) | skip
    obtain ⟨h1, h2⟩ := andB (show (matE a c l && matE b c r) = true from h)
    exact ptv o.hK (pe_Mod (matE_ok a o l h1).1 (matE_ok b o r h2).1) (fun _ _ z => nomatch z) (fun _ _ _ z => nomatch z) (fun _ _ _ _ z => nomatch z) (fun _ _ _ _ z => nomatch z)
  | pow a b =>
    intro W X c o e h
    cases e <;> first | exact noB (by assumption) | skip
    rename_i l op r p
    cases op <;> first | exact noB (by assumption) | skip
    obtain ⟨h1, h2⟩ := andB (show (matE a c l && matE b c r) = true from h)
    exact ptv o.hK (pe_Pow (matE_ok a o l h1).1 (matE_ok b o r h2).1) (fun _ _ z => nomatch z) (fun _ _ _ z => nomatch z) (fun _ _ _ _ z => nomatch z) (fun _ _ _ _ z => nomatch z)
  | neg a =>
    intro W X c o e h
    cases e <;> first | exact noB (by assumption) | skip
    rename_i op x p
    cases op <;> first | exact noB (by assumption) | skip
    have h : matE a c x = true := h
    exact ptv o.hK (pe_Neg (matE_ok a o x h).1) (fun _ _ z => nomatch z) (fun _ _ _ z => nomatch z) (fun _ _ _ _ z => nomatch z) (fun _ _ _ _ z => nomatch z)
  | not a =>
    intro W X c o e h
    cases e <;> first | exact noB (by assumption) | skip
    rename_i op x p
    cases op <;> first | exact noB (by assumption) | skip
    have h : matE a c x = true := h
    obtain ⟨h1, h2⟩ := matE_ok a o x h
    exact ⟨pe_Not o.hK h1, pt_Not h2⟩
  | and es =>
    intro W X c o e h
    cases e <;> first | exact noB (by assumption) | skip
    rename_i op vs p
    cases op <;> first | exact noB (by assumption) | skip
    have h : matBs es c vs = true := h
    obtain ⟨h1, h2, _⟩ := matBs_ok es o vs p h
    exact ⟨h1, h2.pt⟩
  | or es =>
    intro W X c o e h
    cases e <;> first | exact noB (by assumption) | skip
    rename_i op vs p
    cases op <;> first | exact noB (by assumption) | skip
    have h : matBs es c vs = true := h
    obtain ⟨_, _, h1, h2, _⟩ := matBs_ok es o vs p h
    exact ⟨h1, h2.pt⟩
  | ife t a b =>
    intro W X c o e h
    cases e <;> first | exact noB (by assumption) | skip
    rename_i x y z p
    obtain ⟨h, h3⟩ := andB (show (matE t c x && matE a c y && matE b c z) = true from h)
    obtain ⟨h1, h2⟩ := andB h
    exact ⟨pe_Ife (matE_ok t o x h1).2 (matE_ok a o y h2).1 (matE_ok b o z h3).1, pt_Ife (matE_ok t o x h1).2 (matE_ok a o y h2).2 (matE_ok b o z h3).2⟩
  | cmp k a b =>
    intro W X c o e h
    cases e <;> first | exact noB (by assumption) | skip
    rename_i l ops rs p
    match ops, rs, h with
    | [op], [r], h =>
      obtain ⟨h, h5⟩ := andB (show (decide (op = opOf k) && okBb k b && !(behindInMarks op r) && matE a c l && matE b c r) = true from h)
      obtain ⟨h, h4⟩ := andB h
      obtain ⟨h, h3⟩ := andB h
      obtain ⟨h1, h2⟩ := andB h
      obtain rfl := of_decide_eq_true h1
      have hm : behindInMarks (opOf k) r = false := by simpa using h3
      exact ⟨pe_Cmp o.hK o.hu (okB_of h2) hm (matE_ok a o l h4).1 (matE_ok b o r h5).1, pt_Cmp o.hK o.hu (okB_of h2) hm (matE_ok a o l h4).1 (matE_ok b o r h5).1⟩
    | [], _, h => exact noB (by assumption)
    | [_], [], h => exact noB (by assumption)
    | [_], _ :: _ :: _, h => exact noB (by assumption)
    | _ :: _ :: _, _, h => exact noB (by assumption)
  | chain k1 k2 a b d =>
    intro W X c o e h
    cases e <;> first | exact noB (by assumption) | skip
    rename_i l ops rs p
    match ops, rs, h with
    | [o1, o2], [r1, r2], h =>
      obtain ⟨h, h8⟩ := andB (show (decide (o1 = opOf k1) && decide (o2 = opOf k2) && okBb k1 b && okBb k2 d && !(behindInMarks o2 r2) && matE a c l && matE b c r1 && matE d c r2) = true from h)
      obtain ⟨h, h7⟩ := andB h
      obtain ⟨h, h6⟩ := andB h
      obtain ⟨h, h5⟩ := andB h
      obtain ⟨h, h4⟩ := andB h
      obtain ⟨h, h3⟩ := andB h
      obtain ⟨h1, h2⟩ := andB h
      obtain rfl := of_decide_eq_true h1
      obtain rfl := of_decide_eq_true h2
      have hm : lastMarks [opOf k1, opOf k2] [r1, r2] = false := by
        show behindInMarks (opOf k2) r2 = false
        simpa using h5
      exact ⟨pe_Chain o.hK o.hu (okB_of h3) (okB_of h4) hm (matE_ok a o l h6).1 (matE_ok b o r1 h7).1 (matE_ok d o r2 h8).1, pt_Chain o.hK o.hu (okB_of h3) (okB_of h4) hm (matE_ok a o l h6).1 (matE_ok b o r1 h7).1 (matE_ok d o r2 h8).1⟩
    | [], _, h => exact noB (by assumption)
    | [_], _, h => exact noB (by assumption)
    | [_, _], [], h => exact noB (by assumption)
    | [_, _], [_], h => exact noB (by assumption)
    | [_, _], _ :: _ :: _ :: _, h => exact noB (by assumption)
    | _ :: _ :: _ :: _, _, h => exact noB (by assumption)
  | tup es =>
    intro W X c o e h
    cases e <;> first | exact noB (by assumption) | skip
    rename_i vs k p
    obtain ⟨h1, h2⟩ := andB (show (noStar vs && matEs es c vs) = true from h)
    exact ptv o.hK (pe_Tup (matEs_ok es o vs h1 h2)) (fun _ _ z => nomatch z) (fun _ _ _ z => nomatch z) (fun _ _ _ _ z => nomatch z) (fun _ _ _ _ z => nomatch z)
  | lst k es =>
    intro W X c o e h
    cases e <;> first | exact noB (by assumption) | skip
    rename_i vs p
    obtain ⟨h1, h2⟩ := andB (show (noStar vs && matEs es c vs) = true from h)
    cases k with
    | frz => exact ptv o.hK (pe_LstF (matEs_ok es o vs h1 h2)) (fun _ _ z => nomatch z) (fun _ _ _ z => nomatch z) (fun _ _ _ _ z => nomatch z) (fun _ _ _ _ z => nomatch z)
    | cell => exact ptv o.hK (pe_LstC (matEs_ok es o vs h1 h2)) (fun _ _ z => nomatch z) (fun _ _ _ z => nomatch z) (fun _ _ _ _ z => nomatch z) (fun _ _ _ _ z => nomatch z)
  | dct =>
    intro W X c o e h
    obtain ⟨p, rfl⟩ := isDict0_eq (show isDict0 e = true from h)
    exact ptv o.hK pe_Dct (fun _ _ z => nomatch z) (fun _ _ _ z => nomatch z) (fun _ _ _ _ z => nomatch z) (fun _ _ _ _ z => nomatch z)
  | dis0 =>
    intro W X c o e h
    obtain ⟨p, rfl⟩ := isDict0_eq (show isDict0 e = true from h)
    exact ptv o.hK pe_Dis0 (fun _ _ z => nomatch z) (fun _ _ _ z => nomatch z) (fun _ _ _ _ z => nomatch z) (fun _ _ _ _ z => nomatch z)
  | srs a =>
    intro W X c o e h
    have h : (match srs1 e with
      | some q => decide (q.1 = ("sorted" : Str)) && decide (q.2.1 = ("set" : Str)) && c.blt q.1 && c.blt q.2.1 && noStar [q.2.2] && matE a c q.2.2
      | none => false) = true := h
    cases hq : srs1 e with
    | none => rw [hq] at h; exact noB h
    | some q =>
      rw [hq] at h
      obtain ⟨h, h6⟩ := andB h
      obtain ⟨h, h5⟩ := andB h
      obtain ⟨h, h4⟩ := andB h
      obtain ⟨h, h3⟩ := andB h
      obtain ⟨h1, h2⟩ := andB h
      obtain ⟨p1, p2, p3, p4, rfl⟩ := srs1_eq hq
      obtain ⟨g1, _, _, g4⟩ := o.bltX h3
      obtain ⟨f1, _, _, f4⟩ := o.bltX h4
      rw [of_decide_eq_true h1] at g1 g4 ⊢
      rw [of_decide_eq_true h2] at f1 f4 ⊢
      exact ptv o.hK (pe_Srs o.hK o.hc g1 g4 f1 f4 (matE_ok a o q.2.2 h6).1 (noStar_each h5)) (fun _ _ z => nomatch z) (fun _ _ _ z => nomatch z) (fun _ _ _ _ z => nomatch z) (fun _ _ _ _ z => nomatch z)
  | dis1 z a =>
    intro W X c o e h
    have h : (match dict1 e with
      | some q => decide (q.1 = z) && matE a c q.2
      | none => false) = true := h
    cases hq : dict1 e with
    | none => rw [hq] at h; exact noB h
    | some q =>
      rw [hq] at h
      obtain ⟨h1, h2⟩ := andB h
      obtain ⟨j, p1, p, rfl⟩ := dict1_eq hq
      rw [of_decide_eq_true h1]
      exact ptv o.hK (pe_Dis1 (matE_ok a o q.2 h2).1) (fun _ _ z => nomatch z) (fun _ _ _ z => nomatch z) (fun _ _ _ _ z => nomatch z) (fun _ _ _ _ z => nomatch z)
  | ix a i =>
    intro W X c o e h
    cases e <;> first | exact noB (by assumption) | skip
    rename_i l r p
    obtain ⟨h, h3⟩ := andB (show (notSlice r && matE a c l && matE i c r) = true from h)
    obtain ⟨h1, h2⟩ := andB h
    have u1 : X.A.units + 1 < cLine := by have := o.hu; omega
    exact ptv o.hK (pe_Ix o.hK u1 (fun _ _ _ _ z => by rw [z] at h1; exact noB (by assumption)) (matE_ok a o l h2).1 (matE_ok i o r h3).1) (fun _ _ z => nomatch z) (fun _ _ _ z => nomatch z) (fun _ _ _ _ z => nomatch z) (fun _ _ _ _ z => nomatch z)
  | sl a lo hi =>
    intro W X c o e h
    cases e <;> first | exact noB (by assumption) | skip
    rename_i l r p
    cases r <;> first | exact noB (by assumption) | skip
    rename_i x y st p2
    cases st <;> first | exact noB (by assumption) | skip
    obtain ⟨h, h3⟩ := andB (show (matE a c l && matO lo c x && matO hi c y) = true from h)
    obtain ⟨h1, h2⟩ := andB h
    exact ptv o.hK (pe_Sl o.hK (matE_ok a o l h1).1 (matO_ok lo o x h2) (matO_ok hi o y h3)) (fun _ _ z => nomatch z) (fun _ _ _ z => nomatch z) (fun _ _ _ _ z => nomatch z) (fun _ _ _ _ z => nomatch z)
  | rev a =>
    intro W X c o e h
    have h : (match rev1 e with
      | some l => matE a c l
      | none => false) = true := h
    cases hq : rev1 e with
    | none => rw [hq] at h; exact noB h
    | some l =>
      rw [hq] at h
      obtain ⟨j, p1, p2, p3, p4, rfl⟩ := rev1_eq hq
      exact ptv o.hK (pe_Rev o.hK (matE_ok a o l h).1 (po_Some (pe_Neg pe_Int))) (fun _ _ z => nomatch z) (fun _ _ _ z => nomatch z) (fun _ _ _ _ z => nomatch z) (fun _ _ _ _ z => nomatch z)
  | call f es =>
    intro W X c o e h
    cases e <;> first | exact noB (by assumption) | skip
    rename_i g vs ks p
    cases g <;> first | exact noB (by assumption) | skip
    rename_i x p2
    match vs, ks, h with
    | v :: vs, [], h =>
      obtain ⟨h, h4⟩ := andB (show (decide (c.fns[f]? = some (x, es.length)) && c.gl x && noStar (v :: vs) && matEs es c (v :: vs)) = true from h)
      obtain ⟨h, h3⟩ := andB h
      obtain ⟨h1, h2⟩ := andB h
      obtain ⟨g1, g2, g3⟩ := o.glX h2
      obtain ⟨k, fa, fd, ps, q1, q2, q3, q4, q5⟩ := o.fns f x _ (of_decide_eq_true h1)
      exact ptv o.hK (pe_Call o.hK q4 q5 o.hg q3 o.tk g1 q1 q2 rfl g2 (matEs_ok es o _ h3 h4) (noStar_each h3) (noStar_any (noStar_tl h3))) (fun _ _ z => nomatch z) (fun _ _ _ z => nomatch z) (fun _ _ _ _ z => nomatch z) (fun _ _ _ _ z => nomatch z)
    | [], _, h => exact noB (by assumption)
    | _ :: _, _ :: _, h => exact noB (by assumption)
  | bi b es =>
    intro W X c o e h
    cases e <;> first | exact noB (by assumption) | skip
    rename_i g vs ks p
    cases g <;> first | exact noB (by assumption) | skip
    rename_i x p2
    match vs, ks, h with
    | v :: vs, [], h =>
      by_cases hb : ∃ t, b = .isa t
      · obtain ⟨t, rfl⟩ := hb
        match es, vs, h with
        | [m], [u], h =>
          cases u <;> first | exact noB (by assumption) | skip
          rename_i y p3
          obtain ⟨h, h6⟩ := andB (show (decide (x = ("isinstance" : Str)) && decide (y = (tyName t : Str)) && c.blt x && c.blt y && noStar [v] && matE m c v) = true from h)
          obtain ⟨h, h5⟩ := andB h
          obtain ⟨h, h4⟩ := andB h
          obtain ⟨h, h3⟩ := andB h
          obtain ⟨h1, h2⟩ := andB h
          obtain ⟨g1, g2, g3, g4⟩ := o.bltX h3
          obtain ⟨f1, f2, f3, f4⟩ := o.bltX h4
          obtain rfl := of_decide_eq_true h1
          obtain rfl := of_decide_eq_true h2
          have hs : noStar [v, .Name (tyName t : Str) p3] = true := by
            cases v <;> first | rfl | exact absurd (show false = true from h5) (by decide)
          exact ptv o.hK (pe_Isa o.hK g1 g4 f1 f4 (matE_ok m o v h6).1 (ty_boot t) f3 f2 (noStar_two hs)) (fun _ _ z => nomatch z) (fun _ _ _ z => nomatch z) (fun _ _ _ _ z => nomatch z) (fun _ _ _ _ z => nomatch z)
        | [], _, h => exact noB (by assumption)
        | [_], [], h => exact noB (by assumption)
        | [_], u :: w :: _, h => cases u <;> exact noB (by assumption)
        | _ :: _ :: _, _, h => exact noB (by assumption)
      · have hb : ∀ t, b ≠ .isa t := fun t z => hb ⟨t, z⟩
        have h : (noStar (v :: vs) && matEs es c (v :: vs) && ((plainBi b && decide (x = biStr b) && c.blt x) || (decide (b = .gcd) && c.imp.lookup x == some .gcd && c.gl x))) = true := by
          cases b <;> first | exact h | exact absurd rfl (hb _)
        obtain ⟨h, h3⟩ := andB h
        obtain ⟨h1, h2⟩ := andB h
        have ha := matEs_ok es o _ h1 h2
        refine ptv o.hK ?_ (fun _ _ z => nomatch z) (fun _ _ _ z => nomatch z) (fun _ _ _ _ z => nomatch z) (fun _ _ _ _ z => nomatch z)
        rw [Bool.or_eq_true] at h3
        rcases h3 with h3 | h3
        · obtain ⟨h3, h6⟩ := andB h3
          obtain ⟨h4, h5⟩ := andB h3
          obtain ⟨g1, g2, g3, g4⟩ := o.bltX h6
          obtain rfl := of_decide_eq_true h5
          rcases bi_boot b h4 with ⟨id, e1, e2⟩ | ⟨id, e1, e2⟩
          · exact pe_Bi o.hK o.hc o.hg o.hu hb e1 g1 g4 e2 g3 g2 ha (noStar_each h1) (noStar_any (noStar_tl h1))
          · exact pe_BiTy o.hK o.hc o.hg o.hu hb e1 g1 g4 e2 g3 g2 ha (noStar_each h1) (noStar_any (noStar_tl h1))
        · obtain ⟨h3, h6⟩ := andB h3
          obtain ⟨h4, h5⟩ := andB h3
          obtain rfl := of_decide_eq_true h4
          obtain ⟨g1, g2, g3⟩ := o.glX h6
          exact pe_BiG o.hK o.hc o.hg o.hu hb rfl g1 (o.imp x .gcd (beq_iff_eq.mp h5)) g2 ha (noStar_each h1) (noStar_any (noStar_tl h1))
    | [], _, h => exact noB (by assumption)
    | _ :: _, _ :: _, h => exact noB (by assumption)
  | me m ob es =>
    intro W X c o e h
    cases e <;> first | exact noB (by assumption) | skip
    rename_i g vs ks p
    cases g <;> first | exact noB (by assumption) | skip
    rename_i w nm ap
    match ks, h with
    | [], h =>
      obtain ⟨h, h7⟩ := andB (show (decide (nm = miName m) && notCall w && ap.endLine == p.line && matE ob c w && noStar vs && matEs es c vs && decide (vs.length < 20)) = true from h)
      obtain ⟨h, h6⟩ := andB h
      obtain ⟨h, h5⟩ := andB h
      obtain ⟨h, h4⟩ := andB h
      obtain ⟨h, h3⟩ := andB h
      obtain ⟨h1, h2⟩ := andB h
      obtain rfl := of_decide_eq_true h1
      have ha := matEs_ok es o vs h5 h6
      refine ptv o.hK ?_ (fun _ _ z => nomatch z) (fun _ _ _ z => nomatch z) (fun _ _ _ _ z => nomatch z) (fun _ _ _ _ z => nomatch z)
      match vs, h5, h6, h7, ha with
      | [], h5, h6, h7, ha =>
        cases es with
        | nil => exact pe_Me0 o.hK (matE_ok ob o w h4).1 (abase_plain h2) h3
        | cons _ _ => exact noB (by assumption)
      | v :: vs, h5, h6, h7, ha =>
        refine pe_Me o.hK (matE_ok ob o w h4).1 ha (abase_plain h2) ?_ h3 (noStar_each h5) (noStar_any (noStar_tl h5))
        rw [noStar_all h5]
        have : (v :: vs).length < 20 := of_decide_eq_true h7
        have h8 : decide ((v :: vs).length + 0 + 0 < 30) = true := decide_eq_true (by omega)
        exact h8
    | _ :: _, h => exact noB (by assumption)
  | comp k d t it ifs own =>
    intro W X c o e h
    cases e <;> first | exact noB (by assumption) | skip
    rename_i elt gs scope p
    match gs, h with
    | [⟨tg, iter, qs, as⟩], h =>
      obtain ⟨h, h7⟩ := andB (show (as == 0 && matIt it c tg iter && matT (c.into scope) t tg && matIfs ifs (c.into scope) qs && matE d (c.into scope) elt && (slT t).all (fun i => own.contains i) &&
          blkC c.N { scope with names := c.names } scope (own.map fun i => ((c.N[i]?).getD "", i))) = true from h)
      obtain ⟨h, h6⟩ := andB h
      obtain ⟨h, h5⟩ := andB h
      obtain ⟨h, h4⟩ := andB h
      obtain ⟨h, h3⟩ := andB h
      obtain ⟨h1, h2⟩ := andB h
      obtain rfl : as = 0 := beq_iff_eq.mp h1
      have hown : ∀ i ∈ slT t, i ∈ own := fun i hi => by
        have z := List.all_eq_true.mp h6 i hi
        simpa using z
      have eown : (own.map fun i => ((c.N[i]?).getD ("" : Str), i)).map (·.2) = own := by rw [List.map_map]; simp [Function.comp_def]
      have bok : BlkOk X.N X.env.scope scope (own.map fun i => ((c.N[i]?).getD ("" : Str), i)) := by
        have z := blkOk_by h7
        refine ⟨z.kind, z.uniq, by rw [o.N]; exact z.ix, fun y hy e => ?_, fun y hy e => by rw [o.N]; exact z.own y hy e⟩
        rw [o.names]; exact z.free y hy e
      have ob := fun s H A cl fp => o.blkX s H A cl fp scope bok.kind
      have q1 := matIt_ok it o tg iter h2
      have key : ∀ {st}, PE X (.ListComp elt [⟨tg, iter, qs, 0⟩] scope p) st → (∀ σ H Q, tE C W (.comp k d t it ifs own) σ H Q → st σ H Q) → PE X (.ListComp elt [⟨tg, iter, qs, 0⟩] scope p) (tE C W (.comp k d t it ifs own)) := fun h h' => peMono h h'
      have pe := key (pe_lc o.hc o.hN q1.1 bok (fun s H A cl fp => matT_ok (ob s H A cl fp) t tg h3) (fun s H A cl fp => matIfs_ok ifs (ob s H A cl fp) qs h4) (fun s H A cl fp => (matE_ok d (ob s H A cl fp) elt h5).1) (folded_none q1.2))
        (fun σ H Q h => by rw [eown]; exact lc_read hown h)
      exact ptv o.hK pe (fun _ _ z => nomatch z) (fun _ _ _ z => nomatch z) (fun _ _ _ _ z => nomatch z) (fun _ _ _ _ z => nomatch z)
    | [], h => exact noB (by assumption)
    | ⟨_, _, _, _⟩ :: _ :: _, h => exact noB (by assumption)
  | dcomp ka kb t it ifs own =>
    intro W X c o e h
    cases e <;> first | exact noB (by assumption) | skip
    rename_i kx vx gs scope p
    match gs, h with
    | [⟨tg, iter, qs, as⟩], h =>
      obtain ⟨h, h7⟩ := andB (show (as == 0 && matIt it c tg iter && matT (c.into scope) t tg && matIfs ifs (c.into scope) qs && matE ka (c.into scope) kx && matE kb (c.into scope) vx && (slT t).all (fun i => own.contains i) &&
          blkC c.N { scope with names := c.names } scope (own.map fun i => ((c.N[i]?).getD "", i))) = true from h)
      obtain ⟨h, h6⟩ := andB h
      obtain ⟨h, h8⟩ := andB h
      obtain ⟨h, h5⟩ := andB h
      obtain ⟨h, h4⟩ := andB h
      obtain ⟨h, h3⟩ := andB h
      obtain ⟨h1, h2⟩ := andB h
      obtain rfl : as = 0 := beq_iff_eq.mp h1
      have hown : ∀ i ∈ slT t, i ∈ own := fun i hi => by
        have z := List.all_eq_true.mp h6 i hi
        simpa using z
      have eown : (own.map fun i => ((c.N[i]?).getD ("" : Str), i)).map (·.2) = own := by rw [List.map_map]; simp [Function.comp_def]
      have bok : BlkOk X.N X.env.scope scope (own.map fun i => ((c.N[i]?).getD ("" : Str), i)) := by
        have z := blkOk_by h7
        refine ⟨z.kind, z.uniq, by rw [o.N]; exact z.ix, fun y hy e => ?_, fun y hy e => by rw [o.N]; exact z.own y hy e⟩
        rw [o.names]; exact z.free y hy e
      have ob := fun s H A cl fp => o.blkX s H A cl fp scope bok.kind
      have q1 := matIt_ok it o tg iter h2
      have pe : PE X (.DictComp kx vx [⟨tg, iter, qs, 0⟩] scope p) (tE C W (.dcomp ka kb t it ifs own)) := peMono (pe_dc o.hc o.hN q1.1 bok (fun s H A cl fp => matT_ok (ob s H A cl fp) t tg h3) (fun s H A cl fp => matIfs_ok ifs (ob s H A cl fp) qs h4)
        (fun s H A cl fp => (matE_ok ka (ob s H A cl fp) kx h5).1) (fun s H A cl fp => (matE_ok kb (ob s H A cl fp) vx h8).1) (folded_none q1.2)) fun σ H Q h => by rw [eown]; exact dc_read hown h
      exact ptv o.hK pe (fun _ _ z => nomatch z) (fun _ _ _ z => nomatch z) (fun _ _ _ _ z => nomatch z) (fun _ _ _ _ z => nomatch z)
    | [], h => exact noB (by assumption)
    | ⟨_, _, _, _⟩ :: _ :: _, h => exact noB (by assumption)
  | ofIt b it =>
    cases it with
    | rng1 m =>
      intro W X c o e h
      cases e <;> first | exact noB (by assumption) | skip
      rename_i g vs ks p
      cases g <;> first | exact noB (by assumption) | skip
      rename_i x p2
      match vs, ks, h with
      | [v0], [], h =>
        cases v0 <;> first | exact noB (by assumption) | skip
        rename_i g2 vs2 ks2 p3
        cases g2 <;> first | exact noB (by assumption) | skip
        rename_i y p4
        match vs2, ks2, h with
        | [v], [], h =>
          obtain ⟨h, h6⟩ := andB (show (ofOk b x && decide (y = ("range" : Str)) && c.blt x && c.blt y && noStar [v] && matE m c v) = true from h)
          obtain ⟨h, h5⟩ := andB h
          obtain ⟨h, h4⟩ := andB h
          obtain ⟨h, h3⟩ := andB h
          obtain ⟨h1, h2⟩ := andB h
          obtain rfl := of_decide_eq_true h2
          obtain ⟨g1, _, _, g4⟩ := o.bltX h3
          obtain ⟨f1, _, _, f4⟩ := o.bltX h4
          exact ptv o.hK (pe_Of1 o.hc (of_decide_eq_true h1) g1 g4 f1 f4 (matE_ok m o v h6).1 (noStar_each h5)) (fun _ _ z => nomatch z) (fun _ _ _ z => nomatch z) (fun _ _ _ _ z => nomatch z) (fun _ _ _ _ z => nomatch z)
        | [], _, h => exact noB (by assumption)
        | _ :: _ :: _, _, h => exact noB (by assumption)
        | [_], _ :: _, h => exact noB (by assumption)
      | [], _, h => exact noB (by assumption)
      | [v], _ :: _, h => cases v <;> exact noB (by assumption)
      | v :: _ :: _, _, h => cases v <;> exact noB (by assumption)
    | rng2 m n =>
      intro W X c o e h
      cases e <;> first | exact noB (by assumption) | skip
      rename_i g vs ks p
      cases g <;> first | exact noB (by assumption) | skip
      rename_i x p2
      match vs, ks, h with
      | [v0], [], h =>
        cases v0 <;> first | exact noB (by assumption) | skip
        rename_i g2 vs2 ks2 p3
        cases g2 <;> first | exact noB (by assumption) | skip
        rename_i y p4
        match vs2, ks2, h with
        | [v, u], [], h =>
          obtain ⟨h, h7⟩ := andB (show (ofOk b x && decide (y = ("range" : Str)) && c.blt x && c.blt y && noStar [v, u] && matE m c v && matE n c u) = true from h)
          obtain ⟨h, h6⟩ := andB h
          obtain ⟨h, h5⟩ := andB h
          obtain ⟨h, h4⟩ := andB h
          obtain ⟨h, h3⟩ := andB h
          obtain ⟨h1, h2⟩ := andB h
          obtain rfl := of_decide_eq_true h2
          obtain ⟨g1, _, _, g4⟩ := o.bltX h3
          obtain ⟨f1, _, _, f4⟩ := o.bltX h4
          exact ptv o.hK (pe_Of2 o.hc (of_decide_eq_true h1) g1 g4 f1 f4 (matE_ok m o v h6).1 (matE_ok n o u h7).1 (noStar_each h5) (noStar_each (noStar_tl h5)) (by rw [noStar_each (noStar_tl h5)]; rfl)) (fun _ _ z => nomatch z) (fun _ _ _ z => nomatch z) (fun _ _ _ _ z => nomatch z) (fun _ _ _ _ z => nomatch z)
        | [], _, h => exact noB (by assumption)
        | [_], _, h => exact noB (by assumption)
        | _ :: _ :: _ :: _, _, h => exact noB (by assumption)
        | [_, _], _ :: _, h => exact noB (by assumption)
      | [], _, h => exact noB (by assumption)
      | [v], _ :: _, h => cases v <;> exact noB (by assumption)
      | v :: _ :: _, _, h => cases v <;> exact noB (by assumption)
    | vals m =>
      intro W X c o e h
      cases e <;> first | exact noB (by assumption) | skip
      rename_i g vs ks p
      cases g <;> first | exact noB (by assumption) | skip
      rename_i x p2
      match vs, ks, h with
      | [v0], [], h =>
        cases v0 <;> first | exact noB (by assumption) | skip
        rename_i g2 vs2 ks2 p3
        cases g2 <;> first | exact noB (by assumption) | skip
        rename_i w nm apos
        match vs2, ks2, h with
        | [], [], h =>
          obtain ⟨h, h7⟩ := andB (show (decide (b = .listF ∨ b = .listC) && decide (x = ("list" : Str)) && decide (nm = ("values" : Str)) && c.blt x && notCall w && apos.endLine == p3.line && matE m c w) = true from h)
          obtain ⟨h, h6⟩ := andB h
          obtain ⟨h, h5⟩ := andB h
          obtain ⟨h, h4⟩ := andB h
          obtain ⟨h, h3⟩ := andB h
          obtain ⟨h1, h2⟩ := andB h
          obtain rfl := of_decide_eq_true h2
          obtain rfl := of_decide_eq_true h3
          obtain ⟨g1, _, _, g4⟩ := o.bltX h4
          exact ptv o.hK (pe_OfV o.hK (of_decide_eq_true h1) o.hc (matE_ok m o w h7).1 g1 g4 (by decide +kernel) (abase_plain h5) h6) (fun _ _ z => nomatch z) (fun _ _ _ z => nomatch z) (fun _ _ _ _ z => nomatch z) (fun _ _ _ _ z => nomatch z)
        | _ :: _, _, h => exact noB (by assumption)
        | [], _ :: _, h => exact noB (by assumption)
      | [], _, h => exact noB (by assumption)
      | [v], _ :: _, h => cases v <;> exact noB (by assumption)
      | v :: _ :: _, _, h => cases v <;> exact noB (by assumption)
    | seq m => intro W X c o e h; exact noB (by assumption)
    | enum m => intro W X c o e h; exact noB (by assumption)
    | zip ms => intro W X c o e h; exact noB (by assumption)
    | keys m => intro W X c o e h; exact noB (by assumption)
    | items m => intro W X c o e h; exact noB (by assumption)
  | stk => intro W X c o e h; exact ⟨⟨fun pins s σ H Q I ⟨env, M, w, k, eo, h⟩ => h.elim⟩, ⟨fun pins s σ H Q I ⟨env, M, w, k, eo, h⟩ => h.elim⟩⟩
termination_by structural m => m
theorem matEs_ok : ∀ (l : List ME) {W : WX} {X : Cx} {c : MC} (o : XOk C W X c) (es : List Expr), noStar es = true → matEs l c es = true → PA X es (tA C W l) := by
  intro l
  cases l with
  | nil =>
    intro W X c o es _ h
    cases es with
    | nil => exact pa_Nil
    | cons _ _ => exact noB (by assumption)
  | cons m l =>
    intro W X c o es hs h
    cases es with
    | nil => exact noB (by assumption)
    | cons e es =>
      obtain ⟨h1, h2⟩ := andB (show (matE m c e && matEs l c es) = true from h)
      exact pa_Cons (matE_ok m o e h1).1 (matEs_ok l o es (noStar_tl hs) h2) (noStar_each hs)
termination_by structural l => l
theorem matBs_ok : ∀ (l : List ME) {W : WX} {X : Cx} {c : MC} (o : XOk C W X c) (es : List Expr) (pos : Pos), matBs l c es = true →
    PE X (.BoolOp .And es pos) (tE C W (.and l)) ∧ PW X (.BoolOp .And es pos) (tT C W (.and l)) ∧ PE X (.BoolOp .Or es pos) (tE C W (.or l)) ∧ PW X (.BoolOp .Or es pos) (tT C W (.or l)) ∧ True := by
  intro l
  cases l with
  | nil => intro W X c o es pos h; exact noB (by assumption)
  | cons m l =>
    intro W X c o es pos h
    cases es with
    | nil => exact noB (by assumption)
    | cons e es =>
      obtain ⟨h1, h2⟩ := andB (show (matE m c e && (match (generalizing := false) l, es with
      | [], [] => true
      | [], _ => false
      | _, _ => matBs l c es)) = true from h)
      obtain ⟨q1, q2⟩ := matE_ok m o e h1
      cases l with
      | nil =>
        cases es with
        | nil => exact ⟨pe_And1 q1, pw_And1 q2, pe_Or1 q1, pw_Or1 q2, trivial⟩
        | cons _ _ => exact noB (by assumption)
      | cons m2 l =>
        have h2 : matBs (m2 :: l) c es = true := h2
        have ih := matBs_ok (m2 :: l) o es pos h2
        cases es with
        | nil => exact noB (by assumption)
        | cons e2 es =>
          obtain ⟨i1, i2, i3, i4, _⟩ := ih
          exact ⟨pe_AndC o.hK q1 i1, pw_AndC q2 i2, pe_OrC o.hK q1 i3, pw_OrC q2 i4, trivial⟩
termination_by structural l => l
theorem matIfs_ok : ∀ (l : List ME) {W : WX} {X : Cx} {c : MC} (o : XOk C W X c) (es : List Expr), matIfs l c es = true → PTs X es (tIfs C W l) := by
  intro l
  cases l with
  | nil =>
    intro W X c o es h
    cases es with
    | nil => exact pts_Nil
    | cons _ _ => exact noB (by assumption)
  | cons m l =>
    intro W X c o es h
    cases l with
    | cons _ _ => exact noB (by assumption)
    | nil =>
      match es, h with
      | [v], h =>
        have h : matE m c v = true := h
        exact pts_One (matE_ok m o v h).2
      | [], h => exact noB (by assumption)
      | _ :: _ :: _, h => exact noB (by assumption)
termination_by structural l => l
theorem matO_ok : ∀ (l : Option ME) {W : WX} {X : Cx} {c : MC} (o : XOk C W X c) (e : Option Expr), matO l c e = true → PO X e (tO C W l) := by
  intro l
  cases l with
  | none =>
    intro W X c o e h
    cases e with
    | none => exact po_None
    | some _ => exact noB (by assumption)
  | some m =>
    intro W X c o e h
    cases e with
    | none => exact noB (by assumption)
    | some v =>
      have h : matE m c v = true := h
      exact po_Some (matE_ok m o v h).1
termination_by structural l => l
theorem matIt_ok : ∀ (it : MIt) {W : WX} {X : Cx} {c : MC} (o : XOk C W X c) (tg e : Expr), matIt it c tg e = true → PI X tg e (tI C W it) ∧ ∀ a b d, e ≠ .Set a b d := by
  intro it
  cases it with
  | seq m =>
    intro W X c o tg e h
    by_cases hs : ∃ a b d, e = .Set a b d
    · obtain ⟨a, b, d, rfl⟩ := hs
      exact noB (by assumption)
    · have h : matE m c e = true := by
        cases e <;> first | exact h | exact absurd ⟨_, _, _, rfl⟩ hs
      exact ⟨pi_Seq o.hK (matE_ok m o e h).1, fun a b d z => hs ⟨a, b, d, z⟩⟩
  | rng1 m =>
    intro W X c o tg e h
    cases e <;> first | exact noB (by assumption) | skip
    rename_i g vs ks p
    cases g <;> first | exact noB (by assumption) | skip
    rename_i x p2
    match vs, ks, h with
    | [v], [], h =>
      obtain ⟨h, h4⟩ := andB (show (decide (x = ("range" : Str)) && c.blt x && noStar [v] && matE m c v) = true from h)
      obtain ⟨h, h3⟩ := andB h
      obtain ⟨h1, h2⟩ := andB h
      obtain ⟨g1, g2, g3, g4⟩ := o.bltX h2
      obtain rfl := of_decide_eq_true h1
      exact ⟨pi_Rng1 g1 g4 (pa_Cons (matE_ok m o v h4).1 pa_Nil (noStar_each h3)) (noStar_each h3), fun _ _ _ z => nomatch z⟩
    | [], _, h => exact noB (by assumption)
    | _ :: _ :: _, _, h => exact noB (by assumption)
    | [_], _ :: _, h => exact noB (by assumption)
  | rng2 m n =>
    intro W X c o tg e h
    cases e <;> first | exact noB (by assumption) | skip
    rename_i g vs ks p
    cases g <;> first | exact noB (by assumption) | skip
    rename_i x p2
    match vs, ks, h with
    | [v, u], [], h =>
      obtain ⟨h, h5⟩ := andB (show (decide (x = ("range" : Str)) && c.blt x && noStar [v, u] && matE m c v && matE n c u) = true from h)
      obtain ⟨h, h4⟩ := andB h
      obtain ⟨h, h3⟩ := andB h
      obtain ⟨h1, h2⟩ := andB h
      obtain ⟨g1, g2, g3, g4⟩ := o.bltX h2
      obtain rfl := of_decide_eq_true h1
      exact ⟨pi_Rng2 g1 g4 (pa_Cons (matE_ok m o v h4).1 (pa_Cons (matE_ok n o u h5).1 pa_Nil (noStar_each (noStar_tl h3))) (noStar_each h3)) (noStar_two h3) (noStar_each (noStar_tl h3)), fun _ _ _ z => nomatch z⟩
    | [], _, h => exact noB (by assumption)
    | [_], _, h => exact noB (by assumption)
    | _ :: _ :: _ :: _, _, h => exact noB (by assumption)
    | [_, _], _ :: _, h => exact noB (by assumption)
  | enum m =>
    intro W X c o tg e h
    cases tg <;> first | exact noB (by assumption) | skip
    cases e <;> first | exact noB (by assumption) | skip
    rename_i g vs ks p
    cases g <;> first | exact noB (by assumption) | skip
    rename_i x p2
    match vs, ks, h with
    | [v], [], h =>
      obtain ⟨h, h4⟩ := andB (show (decide (x = ("enumerate" : Str)) && c.blt x && noStar [v] && matE m c v) = true from h)
      obtain ⟨h, h3⟩ := andB h
      obtain ⟨h1, h2⟩ := andB h
      obtain ⟨g1, g2, g3, g4⟩ := o.bltX h2
      obtain rfl := of_decide_eq_true h1
      exact ⟨pi_Enum o.hK g1 g4 (pa_Cons (matE_ok m o v h4).1 pa_Nil (noStar_each h3)) (noStar_each h3), fun _ _ _ z => nomatch z⟩
    | [], _, h => exact noB (by assumption)
    | _ :: _ :: _, _, h => exact noB (by assumption)
    | [_], _ :: _, h => exact noB (by assumption)
  | zip ms =>
    intro W X c o tg e h
    cases tg <;> first | exact noB (by assumption) | skip
    cases e <;> first | exact noB (by assumption) | skip
    rename_i g vs ks p
    cases g <;> first | exact noB (by assumption) | skip
    rename_i x p2
    match ks, h with
    | [], h =>
      obtain ⟨h, h5⟩ := andB (show (decide (x = ("zip" : Str)) && c.blt x && noStar vs && (vs.length == 2 || vs.length == 3) && matEs ms c vs) = true from h)
      obtain ⟨h, h4⟩ := andB h
      obtain ⟨h, h3⟩ := andB h
      obtain ⟨h1, h2⟩ := andB h
      obtain ⟨g1, g2, g3, g4⟩ := o.bltX h2
      obtain rfl := of_decide_eq_true h1
      have ha := matEs_ok ms o vs h3 h5
      refine ⟨?_, fun _ _ _ z => nomatch z⟩
      match vs, ms, h3, h4, h5, ha with
      | [v, u], [m, n], h3, h4, h5, ha => exact pi_Zip2 o.hK g1 g4 ha (noStar_each h3) (noStar_any (noStar_tl h3))
      | [v, u, t], [m, n, q], h3, h4, h5, ha => exact pi_Zip3 o.hK g1 g4 ha (noStar_each h3) (noStar_any (noStar_tl h3))
      | [], _, _, h4, _, _ => exact noB (by assumption)
      | [_], _, _, h4, _, _ => exact noB (by assumption)
      | _ :: _ :: _ :: _ :: _, _, _, h4, _, _ => exact absurd h4 (by simp)
      | [_, _], [], _, _, h5, _ => exact noB (by assumption)
      | [a, b], [m], _, _, h5, _ =>
        obtain ⟨_, z⟩ := andB (show (matE m c a && matEs [] c [b]) = true from h5)
        exact noB (by assumption)
      | [a, b], m :: n :: k :: l, _, _, h5, _ =>
        obtain ⟨_, z⟩ := andB (show (matE m c a && (matE n c b && matEs (k :: l) c [])) = true from h5)
        obtain ⟨_, z⟩ := andB z
        exact noB (by assumption)
      | [_, _, _], [], _, _, h5, _ => exact noB (by assumption)
      | [a, b, d], [m], _, _, h5, _ =>
        obtain ⟨_, z⟩ := andB (show (matE m c a && matEs [] c [b, d]) = true from h5)
        exact noB (by assumption)
      | [a, b, d], [m, n], _, _, h5, _ =>
        obtain ⟨_, z⟩ := andB (show (matE m c a && (matE n c b && matEs [] c [d])) = true from h5)
        obtain ⟨_, z⟩ := andB z
        exact noB (by assumption)
      | [a, b, d], m :: n :: k :: l :: r, _, _, h5, _ =>
        obtain ⟨_, z⟩ := andB (show (matE m c a && (matE n c b && (matE k c d && matEs (l :: r) c []))) = true from h5)
        obtain ⟨_, z⟩ := andB z
        obtain ⟨_, z⟩ := andB z
        exact noB (by assumption)
    | _ :: _, h => exact noB (by assumption)
  | keys _ => intro W X c o tg e h; exact noB (by assumption)
  | items _ => intro W X c o tg e h; exact noB (by assumption)
  | vals _ => intro W X c o tg e h; exact noB (by assumption)
termination_by structural it => it
end
end
end PM

/-! PMq: the check of statements, and that it suffices. -/
namespace PM
open PySem L2
/-- is the value stored before its block ends -/
def swW (c : MC) (tg e : Expr) : Bool := match e with
  | .ListComp _ _ s p => (match tg with
    | .Name x q => c.lcl x && q.line == p.line && !(s.names.any fun (n, k) => n == x && (k == .local || k == .cell))
    | _ => false)
  | .SetComp _ _ s p => (match tg with
    | .Name x q => c.lcl x && q.line == p.line && !(s.names.any fun (n, k) => n == x && (k == .local || k == .cell))
    | _ => false)
  | .DictComp _ _ _ s p => (match tg with
    | .Name x q => c.lcl x && q.line == p.line && !(s.names.any fun (n, k) => n == x && (k == .local || k == .cell))
    | _ => false)
  | _ => false
def notComp : Expr → Bool
  | .ListComp _ _ _ _ => false
  | .SetComp _ _ _ _ => false
  | .DictComp _ _ _ _ _ => false
  | _ => true
def isStar : Expr → Bool
  | .Starred _ _ => true
  | _ => false
def swL (c : MC) (ts vs : List Expr) : Option (Option (List Str)) :=
  if !(ts.length == 2 || ts.length == 3) || vs.length != ts.length then some none else
  if vs.any (fun | .Starred .. => true | _ => false) then some none else
  let line := (ts.head?.map (·.pos.line)).getD 0
  let names := ts.filterMap fun
    | .Name id pos => if c.names.lookup id == some .local && pos.line == line then some id else none
    | _ => none
  if names.length != ts.length || names.eraseDups.length != names.length then some none else
  if vs.all (foldedForSure 8) then some none else
  if vs.all (constantsAlone 8) then none else some (some names)
def swP (c : MC) (tg e : Expr) : Option (Option (List Str)) := match e with
  | .Tuple vs _ _ => (match tg with
    | .Tuple ts _ _ => swL c ts vs
    | .List ts _ => swL c ts vs
    | _ => some none)
  | _ => some none
/-- which way a store goes -/
def matA (t : MT) (m : ME) (c : MC) (tg e : Expr) : Bool :=
  if swW c tg e then (match t, m, tg with
    | .nm i, .comp k d u it ifs own, .Name x _ => decide (c.N[i]? = some x) && c.lcl x && matE (.comp k d u it ifs own) c e
    | .nm i, .dcomp a b u it ifs own, .Name x _ => decide (c.N[i]? = some x) && c.lcl x && matE (.dcomp a b u it ifs own) c e
    | _, _, _ => false)
  else match swP c tg e with
    | some none => matT c t tg && matE m c e
    | some (some _) => (match tg, e, t, m with
      | .Tuple [.Name x _, .Name y _] _ _, .Tuple [a, b] _ _, .tp [.nm i, .nm j], .tup [m1, m2] =>
        decide (swP c tg e = some (some [x, y])) && decide (c.N[i]? = some x) && decide (c.N[j]? = some y) && c.lcl x && c.lcl y && decide (i ≠ j) && noStar [a, b] && matE m1 c a && matE m2 c b
      | .Tuple [.Name x _, .Name y _, .Name z _] _ _, .Tuple [a, b, d] _ _, .tp [.nm i, .nm j, .nm l], .tup [m1, m2, m3] =>
        decide (swP c tg e = some (some [x, y, z])) && decide (c.N[i]? = some x) && decide (c.N[j]? = some y) && decide (c.N[l]? = some z) && c.lcl x && c.lcl y && c.lcl z && decide (i ≠ j) && decide (i ≠ l) && decide (j ≠ l) && noStar [a, b, d] && matE m1 c a && matE m2 c b && matE m3 c d
      | _, _, _, _ => false)
    | none => false
mutual
def matS : MS → MC → Stmt → Bool
  | .asg t m, c, s => (match s with
    | .Assign tgs e _ => (match tgs with
      | [tg] => matA t m c tg e
      | _ => false)
    | _ => false)
  | .setI o i v, c, s => (match s with
    | .Assign tgs e _ => (match tgs with
      | [.Subscript lo li _] => notSlice li && matE v c e && matE o c lo && matE i c li
      | _ => false)
    | _ => false)
  | .ex m, c, s => (match s with
    | .Expr e _ => notComp e && matE m c e
    | _ => false)
  | .ret m, c, s => (match s with
    | .Return (some e) _ => matE m c e
    | _ => false)
  | .retN, _, s => (match s with
    | .Return none _ => true
    | _ => false)
  | .if_ t a b, c, s => (match s with
    | .If x p q _ => matE t c x && matSs a c p && matSs b c q
    | _ => false)
  | .for_ t it b, c, s => (match s with
    | .For tg iter body orelse _ => (match orelse with
      | [] => matT c t tg && matIt it c tg iter && matSs b c body
      | _ => false)
    | _ => false)
  | .forK t i b, c, s => (match s with
    | .For tg iter body orelse _ => (match orelse, iter with
      | [], .Name x p => matT c t tg && matE (.var i) c (.Name x p) && matSs b c body
      | _, _ => false)
    | _ => false)
  | .while_ t b, c, s => (match s with
    | .While x body orelse _ => (match orelse with
      | [] => matE t c x && matSs b c body
      | _ => false)
    | _ => false)
  | .raise_ _ _, _, _ => false
  | .stk, _, _ => true
  | .pass, _, s => (match s with
    | .Pass _ => true
    | .Expr e _ => (match e with
      | .Constant (.str _) _ _ => true
      | _ => false)
    | _ => false)
  | .brk, _, s => (match s with
    | .Break _ => true
    | _ => false)
  | .cnt, _, s => (match s with
    | .Continue _ => true
    | _ => false)
termination_by structural s => s
def matSs : List MS → MC → List Stmt → Bool
  | [], _, l => (match l with
    | [] => true
    | _ => false)
  | s :: ss, c, l => (match l with
    | st :: sts => matS s c st && matSs ss c sts
    | [] => false)
termination_by structural s => s
end
section
variable {C : Cc} {W : WX} {X : Cx} {c : MC}
theorem kindOfX (o : XOk C W X c) (x : Str) : X.env.kindOf x = c.names.lookup x := by
  show X.env.scope.names.lookup x = _
  rw [o.names]
theorem blockX (o : XOk C W X c) : X.env.blockKind = .function := by
  unfold Env.blockKind
  rw [o.kind]; rfl
theorem swW_ok (o : XOk C W X c) (tg e : Expr) (l : Nat) : swapsWith e (some tg) l X.env = pure (swW c tg e) := by
  have hb := blockX o
  cases e <;> first | rfl | skip
  all_goals
    cases tg <;> first | rfl | skip
    unfold swapsWith swW MC.lcl
    simp only [hb, kindOfX o, Expr.pos]
    rfl
theorem swapsNone {e : Expr} {l : Nat} {env : Env} (h : notComp e = true) : swapsWith e none l env = pure false := by
  cases e <;> first | rfl | exact absurd (show false = true from h) (by decide)
theorem swL_ok (o : XOk C W X c) {ts vs : List Expr} {r : Option (List Str)} (h : swL c ts vs = some r) {kt kv : Nat} {pt pv : Pos} :
    swappedStores [.Tuple ts kt pt] (.Tuple vs kv pv) X.env = pure r ∧ swappedStores [.List ts pt] (.Tuple vs kv pv) X.env = pure r := by
  have hb := blockX o
  have key : swappedStores [.Tuple ts kt pt] (.Tuple vs kv pv) X.env = pure r := by
    unfold swL at h
    unfold swappedStores
    simp only [hb, kindOfX o, bne_self_eq_false, Bool.or_false]
    split at h
    · rename_i h1
      cases h
      simp only [h1, if_true]
    · rename_i h1
      simp only [h1, if_false]
      refine (if_neg (by decide)).trans ?_
      split at h
      · rename_i h2
        cases h
        exact if_pos h2
      · rename_i h2
        refine (if_neg h2).trans ?_
        replace h : (if ((ts.filterMap fun
            | .Name id pos => if c.names.lookup id == some .local && pos.line == (ts.head?.map (·.pos.line)).getD 0 then some id else none
            | _ => none).length != ts.length || (ts.filterMap fun
            | .Name id pos => if c.names.lookup id == some .local && pos.line == (ts.head?.map (·.pos.line)).getD 0 then some id else none
            | _ => none).eraseDups.length != (ts.filterMap fun
            | .Name id pos => if c.names.lookup id == some .local && pos.line == (ts.head?.map (·.pos.line)).getD 0 then some id else none
            | _ => none).length) = true then some none else if vs.all (foldedForSure 8) = true then some none else if vs.all (constantsAlone 8) = true then none else some (some (ts.filterMap fun
            | .Name id pos => if c.names.lookup id == some .local && pos.line == (ts.head?.map (·.pos.line)).getD 0 then some id else none
            | _ => none))) = some r := h
        split at h
        · rename_i h3
          cases h
          exact if_pos h3
        · rename_i h3
          refine (if_neg h3).trans ?_
          split at h
          · rename_i h4
            cases h
            exact if_pos h4
          · rename_i h4
            refine (if_neg h4).trans ?_
            split at h
            · cases h
            · rename_i h5
              cases h
              exact if_neg h5
  exact ⟨key, key⟩
theorem swP_ok (o : XOk C W X c) {tg e : Expr} {r : Option (List Str)} (h : swP c tg e = some r) : swappedStores [tg] e X.env = pure r := by
  unfold swP at h
  split at h
  · split at h
    · exact (swL_ok o h).1
    · exact (swL_ok (kt := 0) o h).2
    · cases h
      rename_i h1 h2
      cases tg <;> first | rfl | exact absurd rfl (h1 _ _ _) | exact absurd rfl (h2 _ _)
  · cases h
    rename_i h1
    cases tg <;> cases e <;> first | rfl | exact absurd rfl (h1 _ _ _)
end
section
variable {C : Cc} {E : XK} {X : Cx} {c : MC} {pos : Pos}
theorem comp_parts {k : Kd} {d : ME} {t : MT} {it : MIt} {ifs : List ME} {own : List Nat} {e : Expr} (h : matE (.comp k d t it ifs own) c e = true) : ∃ elt tg iter qs scope p, e = .ListComp elt [⟨tg, iter, qs, 0⟩] scope p ∧ matIt it c tg iter = true ∧ matT (c.into scope) t tg = true ∧
    matIfs ifs (c.into scope) qs = true ∧ matE d (c.into scope) elt = true ∧ (∀ i ∈ slT t, i ∈ own) ∧ blkC c.N { scope with names := c.names } scope (own.map fun i => ((c.N[i]?).getD "", i)) = true := by
  cases e <;> first | exact noB (by assumption) | skip
  rename_i elt gs scope p
  match gs, h with
  | [⟨tg, iter, qs, as⟩], h =>
    obtain ⟨h, h7⟩ := andB (show (as == 0 && matIt it c tg iter && matT (c.into scope) t tg && matIfs ifs (c.into scope) qs && matE d (c.into scope) elt && (slT t).all (fun i => own.contains i) &&
        blkC c.N { scope with names := c.names } scope (own.map fun i => ((c.N[i]?).getD "", i))) = true from h)
    obtain ⟨h, h6⟩ := andB h
    obtain ⟨h, h5⟩ := andB h
    obtain ⟨h, h4⟩ := andB h
    obtain ⟨h, h3⟩ := andB h
    obtain ⟨h1, h2⟩ := andB h
    obtain rfl : as = 0 := beq_iff_eq.mp h1
    exact ⟨elt, tg, iter, qs, scope, p, rfl, h2, h3, h4, h5, fun i hi => by
      have z := List.all_eq_true.mp h6 i hi
      simpa using z, h7⟩
  | [], h => exact noB (by assumption)
  | ⟨_, _, _, _⟩ :: _ :: _, h => exact noB (by assumption)
theorem dcomp_parts {a b : ME} {t : MT} {it : MIt} {ifs : List ME} {own : List Nat} {e : Expr} (h : matE (.dcomp a b t it ifs own) c e = true) : ∃ kx vx tg iter qs scope p, e = .DictComp kx vx [⟨tg, iter, qs, 0⟩] scope p ∧ matIt it c tg iter = true ∧ matT (c.into scope) t tg = true ∧
    matIfs ifs (c.into scope) qs = true ∧ matE a (c.into scope) kx = true ∧ matE b (c.into scope) vx = true ∧ (∀ i ∈ slT t, i ∈ own) ∧ blkC c.N { scope with names := c.names } scope (own.map fun i => ((c.N[i]?).getD "", i)) = true := by
  cases e <;> first | exact noB (by assumption) | skip
  rename_i kx vx gs scope p
  match gs, h with
  | [⟨tg, iter, qs, as⟩], h =>
    obtain ⟨h, h7⟩ := andB (show (as == 0 && matIt it c tg iter && matT (c.into scope) t tg && matIfs ifs (c.into scope) qs && matE a (c.into scope) kx && matE b (c.into scope) vx && (slT t).all (fun i => own.contains i) &&
        blkC c.N { scope with names := c.names } scope (own.map fun i => ((c.N[i]?).getD "", i))) = true from h)
    obtain ⟨h, h6⟩ := andB h
    obtain ⟨h, h8⟩ := andB h
    obtain ⟨h, h5⟩ := andB h
    obtain ⟨h, h4⟩ := andB h
    obtain ⟨h, h3⟩ := andB h
    obtain ⟨h1, h2⟩ := andB h
    obtain rfl : as = 0 := beq_iff_eq.mp h1
    exact ⟨kx, vx, tg, iter, qs, scope, p, rfl, h2, h3, h4, h5, h8, fun i hi => by
      have z := List.all_eq_true.mp h6 i hi
      simpa using z, h7⟩
  | [], h => exact noB (by assumption)
  | ⟨_, _, _, _⟩ :: _ :: _, h => exact noB (by assumption)
/-- name = {..} on one line, the name a local -/
theorem ps_setDc {i : Nat} {y : Str} {py : Pos} {kx vx tg iter : Expr} {ifs : List Expr} {scope : Scope} {own : List (Str × Nat)} {pos spos : Pos} {wi : TI} {g : TG} {tt : TT} {tk tv : TE} (hc : X.calm = true) (hN : X.N.Nodup) (hy : X.N[i]? = some y) (hyl : X.env.scope.names.lookup y = some .local)
    (hsw : swapsWith (.DictComp kx vx [⟨tg, iter, ifs, 0⟩] scope pos) (some (.Name y py)) spos.line X.env = pure true) (hi : PI X tg iter wi) (ok : BlkOk X.N X.env.scope scope own)
    (hg : ∀ (s : Shared) (H : Hp) (A : Addr) (cl : List (Str × Addr)) (fp : List Addr), PG (X.blk s H scope (compEnvC scope cl A X.env) fp) tg g) (ht : ∀ (s : Shared) (H : Hp) (A : Addr) (cl : List (Str × Addr)) (fp : List Addr), PTs (X.blk s H scope (compEnvC scope cl A X.env) fp) ifs tt)
    (hk : ∀ (s : Shared) (H : Hp) (A : Addr) (cl : List (Str × Addr)) (fp : List Addr), PE (X.blk s H scope (compEnvC scope cl A X.env) fp) kx tk) (he : ∀ (s : Shared) (H : Hp) (A : Addr) (cl : List (Str × Addr)) (fp : List Addr), PE (X.blk s H scope (compEnvC scope cl A X.env) fp) vx tv)
    (hs : ∀ x, foldedSetIterable iter X.env x = pure x) : PS X (.Assign [.Name y py] (.DictComp kx vx [⟨tg, iter, ifs, 0⟩] scope pos) spos) (tAsg (tDc wi g tt tk tv (own.map (·.2))) (gName i)) := by
  constructor
  intro pins s σ H D I h
  rw [exec_Assign_Name_used _ _ _ _ hsw]
  apply wpAny_bind
  apply wpAny_standAt
  apply wpAny_bind
  show wpAny _ X.A (do let _ ← comprehension (.DictComp kx vx [⟨tg, iter, ifs, 0⟩] scope pos) scope X.env (firstIterPos [⟨tg, iter, ifs, 0⟩] pos) newDict false (eval iter X.env) (some (assign (.Name y py) X.env))) _ _ s
  replace h : tDc wi g tt tk tv (own.map (·.2)) σ H (fun x H1 => gName i x σ H1 D.nx) := h
  refine wpAny_bind (thn (dc_core (Qf := fun _ s' => SP X pins D .next s') hc hN I hi ok hg ht hk he hs h fun L A s' m H' I' q hn f => ?_) fun _ s' hq => wpAny_pure (wpAny_pure hq))
  show wpAny _ _ (assign (.Name y py) X.env (.ref L)) _ _ _
  apply wpAny_assign_Name
  refine store_ok2 (v := V.ref L) I' hN hy (.inl hyl) rfl (fun s2 I2 ⟨a, sb, ha⟩ => ?_) (.inr hyl)
  obtain ⟨f0, f1, f2, f3, f4, f5⟩ := f
  have far : A ≠ a := ha.elim (fun z => by rw [z]; exact f1) fun z e => f4 y a z e.symm
  exact ⟨m, hn.sameBut sb far, fun h3 sb3 => ⟨_, H', I2.turned (t' := s2.toks) (fun b o hb e => (sb3.2 b hb).trans e) f0 f1 f3 f4 f5, q⟩⟩
theorem lclX {W : WX} (o : XOk C W X c) {x : Str} (h : c.lcl x = true) : X.env.scope.names.lookup x = some .local := by
  rw [o.names]; exact beq_iff_eq.mp h
theorem matA_ok (o : XOk C (cE E) X c) {t : MT} {m : ME} {tg e : Expr} (h : matA t m c tg e = true) : PS X (.Assign [tg] e pos) (tS C E (.asg t m)) := by
  unfold matA at h
  split at h
  · rename_i hw
    split at h
    · rename_i i k d u it ifs own x px
      obtain ⟨h, h3⟩ := andB h
      obtain ⟨h1, h2⟩ := andB h
      obtain ⟨elt, tg, iter, qs, scope, p, rfl, q1, q2, q3, q4, q5, q6⟩ := comp_parts h3
      have eown : (own.map fun i => ((c.N[i]?).getD ("" : Str), i)).map (·.2) = own := by rw [List.map_map]; simp [Function.comp_def]
      have bok : BlkOk X.N X.env.scope scope (own.map fun i => ((c.N[i]?).getD ("" : Str), i)) := by
        have z := blkOk_by q6
        refine ⟨z.kind, z.uniq, by rw [o.N]; exact z.ix, fun y hy e => ?_, fun y hy e => by rw [o.N]; exact z.own y hy e⟩
        rw [o.names]; exact z.free y hy e
      have ob := fun s H A cl fp => o.blkX s H A cl fp scope bok.kind
      have r1 := matIt_ok it o tg iter q1
      refine psMono (ps_setLc (i := i) o.hc o.hN (by rw [o.N]; exact of_decide_eq_true h1) (lclX o h2) ((swW_ok o _ _ _).trans (by rw [hw])) r1.1 bok (fun s H A cl fp => matT_ok (ob s H A cl fp) u tg q2)
        (fun s H A cl fp => matIfs_ok ifs (ob s H A cl fp) qs q3) (fun s H A cl fp => (matE_ok d (ob s H A cl fp) elt q4).1) (folded_none r1.2)) fun D σ H h => ?_
      rw [eown]
      refine lc_read (k := k) q5 ?_
      have h := asg_read h
      obtain ⟨env, M, w, k', eo, h⟩ := h
      refine ⟨env, M, w, k', eo, h.imp fun x M1 H1 w1 g1 k1 h v rv => ?_⟩
      obtain ⟨d', env2, env', M2, w2, k2, eo2, rx, es, q⟩ := h v rv
      have es : (if i < env2.length then some (env2.set i (some d')) else none) = some env' := es
      split at es
      · cases es
        exact q _ (eo2.set rx) ⟨List.length_set, fun j hj => by rw [List.getElem?_set_ne fun z => hj (by rw [z]; exact List.mem_singleton_self _)]⟩
      · cases es
    · rename_i i a b u it ifs own x px
      obtain ⟨h, h3⟩ := andB h
      obtain ⟨h1, h2⟩ := andB h
      obtain ⟨kx, vx, tg, iter, qs, scope, p, rfl, q1, q2, q3, q4, q4', q5, q6⟩ := dcomp_parts h3
      have eown : (own.map fun i => ((c.N[i]?).getD ("" : Str), i)).map (·.2) = own := by rw [List.map_map]; simp [Function.comp_def]
      have bok : BlkOk X.N X.env.scope scope (own.map fun i => ((c.N[i]?).getD ("" : Str), i)) := by
        have z := blkOk_by q6
        refine ⟨z.kind, z.uniq, by rw [o.N]; exact z.ix, fun y hy e => ?_, fun y hy e => by rw [o.N]; exact z.own y hy e⟩
        rw [o.names]; exact z.free y hy e
      have ob := fun s H A cl fp => o.blkX s H A cl fp scope bok.kind
      have r1 := matIt_ok it o tg iter q1
      refine psMono (ps_setDc (i := i) o.hc o.hN (by rw [o.N]; exact of_decide_eq_true h1) (lclX o h2) ((swW_ok o _ _ _).trans (by rw [hw])) r1.1 bok (fun s H A cl fp => matT_ok (ob s H A cl fp) u tg q2)
        (fun s H A cl fp => matIfs_ok ifs (ob s H A cl fp) qs q3) (fun s H A cl fp => (matE_ok a (ob s H A cl fp) kx q4).1) (fun s H A cl fp => (matE_ok b (ob s H A cl fp) vx q4').1) (folded_none r1.2)) fun D σ H h => ?_
      rw [eown]
      refine dc_read q5 ?_
      have h := asg_read h
      obtain ⟨env, M, w, k', eo, h⟩ := h
      refine ⟨env, M, w, k', eo, h.imp fun x M1 H1 w1 g1 k1 h v rv => ?_⟩
      obtain ⟨d', env2, env', M2, w2, k2, eo2, rx, es, q⟩ := h v rv
      have es : (if i < env2.length then some (env2.set i (some d')) else none) = some env' := es
      split at es
      · cases es
        exact q _ (eo2.set rx) ⟨List.length_set, fun j hj => by rw [List.getElem?_set_ne fun z => hj (by rw [z]; exact List.mem_singleton_self _)]⟩
      · cases es
    · cases h
  · rename_i hw
    have hw : swW c tg e = false := by simpa using hw
    have hs : ∀ l, swapsWithSole [tg] e l X.env = pure false := fun l => (swW_ok o tg e l).trans (by rw [hw])
    split at h
    · rename_i hp
      obtain ⟨h1, h2⟩ := andB h
      exact ps_Asg (matE_ok m o e h2).1 (matT_ok o t tg h1) (hs _) (swP_ok o hp) (by rw [assignEach_plain (matT_plain h1)]; rfl)
    · rename_i hp
      split at h
      · rename_i x p1 y p2 kt pt a b k2 pt2 i j m1 m2 hw0
        obtain ⟨h, h9⟩ := andB h
        obtain ⟨h, h8⟩ := andB h
        obtain ⟨h, h7⟩ := andB h
        obtain ⟨h, h6⟩ := andB h
        obtain ⟨h, h5⟩ := andB h
        obtain ⟨h, h4⟩ := andB h
        obtain ⟨h, h3⟩ := andB h
        obtain ⟨h1, h2⟩ := andB h
        have ha := pa_Cons (matE_ok m1 o a h8).1 (pa_Cons (matE_ok m2 o b h9).1 pa_Nil (noStar_each (noStar_tl h7))) (noStar_each h7)
        exact ps_Par o.hc o.hN (by rw [o.N]; exact of_decide_eq_true h2) (by rw [o.N]; exact of_decide_eq_true h3) (of_decide_eq_true h6) (lclX o h4) (lclX o h5) ha (swP_ok o (of_decide_eq_true h1))
      · rename_i x p1 y p2 z p3 kt pt a b d k2 pt2 i j l m1 m2 m3 hw0
        obtain ⟨h, h14⟩ := andB h
        obtain ⟨h, h13⟩ := andB h
        obtain ⟨h, h12⟩ := andB h
        obtain ⟨h, h11⟩ := andB h
        obtain ⟨h, h10⟩ := andB h
        obtain ⟨h, h9⟩ := andB h
        obtain ⟨h, h8⟩ := andB h
        obtain ⟨h, h7⟩ := andB h
        obtain ⟨h, h6⟩ := andB h
        obtain ⟨h, h5⟩ := andB h
        obtain ⟨h, h4⟩ := andB h
        obtain ⟨h, h3⟩ := andB h
        obtain ⟨h1, h2⟩ := andB h
        have ha := pa_Cons (matE_ok m1 o a h12).1 (pa_Cons (matE_ok m2 o b h13).1 (pa_Cons (matE_ok m3 o d h14).1 pa_Nil (noStar_each (noStar_tl (noStar_tl h11)))) (noStar_each (noStar_tl h11))) (noStar_each h11)
        exact ps_Par3 o.hc o.hN (by rw [o.N]; exact of_decide_eq_true h2) (by rw [o.N]; exact of_decide_eq_true h3) (by rw [o.N]; exact of_decide_eq_true h4) (of_decide_eq_true h8) (of_decide_eq_true h9) (of_decide_eq_true h10) (lclX o h5) (lclX o h6) (lclX o h7) ha (swP_ok o (of_decide_eq_true h1))
      · cases h
    · cases h
mutual
theorem matS_ok (o : XOk C (cE E) X c) (hp : PassesOwn (model X.prog X.w) X.A X.env X.xe) : ∀ (m : MS) (s : Stmt), matS m c s = true → PS X s (tS C E m) := by
  intro m
  cases m with
  | asg t m =>
    intro s h
    cases s <;> first | exact noB (by assumption) | skip
    rename_i tgs e p
    match tgs, h with
    | [tg], h => exact matA_ok o h
    | [], h => exact noB (by assumption)
    | _ :: _ :: _, h => exact noB (by assumption)
  | setI ob i v =>
    intro s h
    cases s <;> first | exact noB (by assumption) | skip
    rename_i tgs e p
    match tgs, h with
    | [tg], h =>
      cases tg <;> first | exact noB (by assumption) | skip
      rename_i lo li tp
      obtain ⟨h, h4⟩ := andB (show (notSlice li && matE v c e && matE ob c lo && matE i c li) = true from h)
      obtain ⟨h, h3⟩ := andB h
      obtain ⟨h1, h2⟩ := andB h
      have u1 : X.A.units + 1 < cLine := by have := o.hu; omega
      have hs0 : swapsWithSole [.Subscript lo li tp] e p.line X.env = pure false := (swW_ok o (.Subscript lo li tp) e p.line).trans (by
        have z : swW c (.Subscript lo li tp) e = false := by unfold swW; cases e <;> rfl
        rw [z])
      have hw0 : swappedStores [.Subscript lo li tp] e X.env = pure none := swP_ok o (by unfold swP; cases e <;> rfl)
      exact ps_SetI o.hK u1 (matE_ok v o e h2).1 (matE_ok ob o lo h3).1 (matE_ok i o li h4).1 (fun _ _ _ _ z => by rw [z] at h1; exact noB (by assumption)) hs0 hw0
    | [], h => exact noB (by assumption)
    | tg :: _ :: _, h => cases tg <;> exact noB (by assumption)
  | ex m =>
    intro s h
    cases s <;> first | exact noB (by assumption) | skip
    rename_i e p
    obtain ⟨h1, h2⟩ := andB (show (notComp e && matE m c e) = true from h)
    exact ps_Ex (matE_ok m o e h2).1 (swapsNone h1)
  | ret m =>
    intro s h
    cases s <;> first | exact noB (by assumption) | skip
    rename_i e p
    cases e with
    | none => exact noB (by assumption)
    | some e =>
      have h : matE m c e = true := h
      exact ps_Ret (matE_ok m o e h).1
  | retN =>
    intro s h
    cases s <;> first | exact noB (by assumption) | skip
    rename_i e p
    cases e with
    | none => exact ps_RetN
    | some e => exact noB (by assumption)
  | if_ t a b =>
    intro s h
    cases s <;> first | exact noB (by assumption) | skip
    rename_i x p q ps
    obtain ⟨h, h3⟩ := andB (show (matE t c x && matSs a c p && matSs b c q) = true from h)
    obtain ⟨h1, h2⟩ := andB h
    exact ps_If (matE_ok t o x h1).2 (matSs_ok o hp a p h2) (matSs_ok o hp b q h3)
  | for_ t it b =>
    intro s h
    cases s <;> first | exact noB (by assumption) | skip
    rename_i tg iter body orelse p
    cases orelse with
    | cons _ _ => exact noB (by assumption)
    | nil =>
      obtain ⟨h, h3⟩ := andB (show (matT c t tg && matIt it c tg iter && matSs b c body) = true from h)
      obtain ⟨h1, h2⟩ := andB h
      obtain ⟨q1, q2⟩ := matIt_ok it o tg iter h2
      exact ps_For hp o.hc q1 (matT_ok o t tg h1) (matSs_ok o hp b body h3) (folded_none q2)
  | forK t i b =>
    intro s h
    cases s <;> first | exact noB (by assumption) | skip
    rename_i tg iter body orelse p
    cases orelse with
    | cons _ _ => exact noB (by assumption)
    | nil =>
      cases iter <;> first | exact noB (by assumption) | skip
      rename_i x p2
      obtain ⟨h, h3⟩ := andB (show (matT c t tg && matE (.var i) c (.Name x p2) && matSs b c body) = true from h)
      obtain ⟨h1, h2⟩ := andB h
      exact ps_ForK hp o.hc (matE_ok (.var i) o _ h2).1 (matT_ok o t tg h1) (matSs_ok o hp b body h3)
  | while_ t b =>
    intro s h
    cases s <;> first | exact noB (by assumption) | skip
    rename_i x body orelse p
    cases orelse with
    | cons _ _ => exact noB (by assumption)
    | nil =>
      obtain ⟨h1, h2⟩ := andB (show (matE t c x && matSs b c body) = true from h)
      exact ps_While hp (matE_ok t o x h1).2 (matSs_ok o hp b body h2)
  | raise_ _ _ => intro s h; exact noB (by assumption)
  | stk => intro s h; exact ⟨fun pins s σ H D I ⟨env, M, w, k, eo, h⟩ => h.elim⟩
  | pass =>
    intro s h
    cases s <;> first | exact noB (by assumption) | skip
    · rename_i e p
      cases e <;> first | exact noB (by assumption) | skip
      rename_i k j p
      cases k <;> first | exact noB (by assumption) | skip
      exact ps_Doc
    · exact ps_Pass
  | brk =>
    intro s h
    cases s <;> first | exact noB (by assumption) | skip
    exact ps_Brk
  | cnt =>
    intro s h
    cases s <;> first | exact noB (by assumption) | skip
    exact ps_Cnt
termination_by structural m => m
theorem matSs_ok (o : XOk C (cE E) X c) (hp : PassesOwn (model X.prog X.w) X.A X.env X.xe) : ∀ (m : List MS) (s : List Stmt), matSs m c s = true → PSs X s (tSs C E m) := by
  intro m
  cases m with
  | nil =>
    intro s h
    cases s with
    | nil => exact pss_Nil
    | cons _ _ => exact noB (by assumption)
  | cons m ms =>
    intro s h
    cases s with
    | nil => exact noB (by assumption)
    | cons s ss =>
      obtain ⟨h1, h2⟩ := andB (show (matS m c s && matSs ms c ss) = true from h)
      exact pss_Cons (matS_ok o hp m s h1) (matSs_ok o hp ms ss h2)
termination_by structural m => m
end
end
end PM

/-! PMr: the defs: a checked body keeps the promise that the small language makes of it, so many calls deep. -/
namespace PM
open PySem L2
section
variable {K : PySem.W.Frag} {H H1 : Hp} {w w1 : Wd} {M M1 : Store}
def Wd.cut (w : Wd) (n : Nat) : Wd := ⟨w.Fz, w.ow.take n⟩
theorem cut_ow (g : Grow H w H1 w1) (k : Ok K H w M) : (w1.cut M.length).ow = w.ow := by
  obtain ⟨l, e⟩ := g.ow
  show w1.ow.take M.length = w.ow
  rw [e, ← k.len, List.take_left']
  rfl
theorem mem_take {α : Type} {l : List (List α)} {n : Nat} {a : α} (h : a ∈ (l.take n).flatten) : a ∈ l.flatten := by
  obtain ⟨x, h1, h2⟩ := List.mem_flatten.mp h
  exact List.mem_flatten.mpr ⟨x, List.mem_of_mem_take h1, h2⟩
theorem Ok.cut (k1 : Ok K H1 w1 M1) (n : Nat) (hn : n ≤ M1.length) : Ok K H1 (w1.cut n) (M1.take n) where
  sub := k1.sub
  imm := k1.imm
  len := by
    show (w1.ow.take n).length = _
    rw [List.length_take, List.length_take, k1.len]
  cell := fun i c as e1 e2 => by
    have e2 : (w1.ow.take n)[i]? = some as := e2
    have hi : i < n := by
      have := (List.getElem?_eq_some_iff.mp e1).1
      rw [List.length_take] at this; omega
    rw [List.getElem?_take_of_lt hi] at e1 e2
    exact CellOk.mono (w := w1) (w1 := w1.cut n) (fun _ _ h => h) (fun _ _ _ h => h) (k1.cell i c as e1 e2)
  nd := by
    have h := k1.nd
    rw [← List.take_append_drop n w1.ow, List.flatten_append, List.nodup_append] at h
    exact h.1
  dis := fun a ha => k1.dis a (mem_take ha)
theorem Grow.cut (g : Grow H w H1 w1) (k : Ok K H w M) : Grow H w H1 (w1.cut M.length) where
  fz := g.fz
  ow := ⟨[], by rw [cut_ow g k, List.append_nil]⟩
  new := fun a ha => by rw [cut_ow g k] at ha; exact .inl ha
  fnew := g.fnew
  keep := g.keep
  there := g.there
  lk := g.lk
theorem grow_len (g : Grow H w H1 w1) (k : Ok K H w M) (k1 : Ok K H1 w1 M1) : M.length ≤ M1.length := by
  obtain ⟨l, e⟩ := g.ow
  rw [← k.len, ← k1.len, e, List.length_append]
  exact Nat.le_add_right _ _
/-- one's own list, made to stand still -/
def Wd.frz (w : Wd) (n : Nat) (a : Addr) (o : HO) : Wd := ⟨upd w.Fz a o, w.ow.take n⟩
theorem frz_ok (k1 : Ok K H1 w1 M1) {n i : Nat} (hn : n ≤ M1.length) (hi : n ≤ i) {a : Addr} {xs : List V} (e : w1.ow[i]? = some [a]) (hH : H1 a = some (.lst xs)) : Ok K H1 (w1.frz n a (.lst xs)) (M1.take n) where
  sub := fun b o q => by
    by_cases z : b = a
    · subst z
      have q : upd w1.Fz b (.lst xs) b = some o := q
      rw [upd_same] at q; cases q; exact hH
    · have q : upd w1.Fz a (.lst xs) b = some o := q
      rw [upd_ne z] at q; exact k1.sub b o q
  imm := fun b o q => by
    by_cases z : b = a
    · subst z
      have q : upd w1.Fz b (.lst xs) b = some o := q
      rw [upd_same] at q; cases q; trivial
    · have q : upd w1.Fz a (.lst xs) b = some o := q
      rw [upd_ne z] at q; exact k1.imm b o q
  len := (k1.cut n hn).len
  cell := fun j c as e1 e2 => by
    refine CellOk.mono (w := w1.cut n) (w1 := w1.frz n a (.lst xs)) (fun b o q => ?_) (fun _ _ _ h => h) ((k1.cut n hn).cell j c as e1 e2)
    show upd w1.Fz a (.lst xs) b = some o
    have q : w1.Fz b = some o := q
    rw [upd_ne fun z => by rw [z, k1.dis a (k1.cellMem e (List.mem_singleton_self a))] at q; cases q]
    exact q
  nd := (k1.cut n hn).nd
  dis := fun b hb => by
    show upd w1.Fz a (.lst xs) b = none
    have hb' : b ∈ (w1.ow.take n).flatten := hb
    have ne : b ≠ a := fun z => by
      subst z
      obtain ⟨as, h1, h2⟩ := List.mem_flatten.mp hb'
      obtain ⟨j, hj, ej⟩ := List.getElem_of_mem h1
      have hjn : j < n := by rw [List.length_take] at hj; omega
      have e' : w1.ow[j]? = some as := by
        rw [← List.getElem?_take_of_lt hjn, List.getElem?_eq_getElem hj, ej]
      have := flat_inj k1.nd e' e h2 (List.mem_singleton_self b)
      omega
    rw [upd_ne ne]
    exact k1.dis b (mem_take hb')
theorem frz_grow (g : Grow H w H1 w1) (k : Ok K H w M) (k1 : Ok K H1 w1 M1) {i : Nat} (hi : M.length ≤ i) {a : Addr} {xs : List V} (e : w1.ow[i]? = some [a]) : Grow H w H1 (w1.frz M.length a (.lst xs)) where
  fz := fun b o q => by
    show upd w1.Fz a (.lst xs) b = some o
    have q' := g.fz b o q
    rw [upd_ne fun z => by rw [z, k1.dis a (k1.cellMem e (List.mem_singleton_self a))] at q'; cases q']
    exact q'
  ow := (g.cut k).ow
  new := (g.cut k).new
  fnew := fun b o q => by
    have q : upd w1.Fz a (.lst xs) b = some o := q
    by_cases z : b = a
    · subst z
      refine .inr ?_
      rcases g.new b (k1.cellMem e (List.mem_singleton_self b)) with h | h
      · exfalso
        obtain ⟨as, h1, h2⟩ := List.mem_flatten.mp h
        obtain ⟨j, hj, ej⟩ := List.getElem_of_mem h1
        obtain ⟨l, el⟩ := g.ow
        have e' : w1.ow[j]? = some as := by rw [el, List.getElem?_append_left hj, List.getElem?_eq_getElem hj, ej]
        have := flat_inj k1.nd e' e h2 (List.mem_singleton_self b)
        rw [k.len] at hj; omega
      · exact h
    · rw [upd_ne z] at q; exact g.fnew b o q
  keep := g.keep
  there := g.there
  lk := g.lk
theorem Rep.cut {d : D} {v : V} {n : Nat} (p : d.pure = true) (r : Rep K w1 d v) : Rep K (w1.cut n) d v := Rep.drop (w := w1) (w1 := w1.cut n) (fun _ _ h => h) d v p r
end
/-- what a def hands back -/
theorem fin_ok {K : PySem.W.Frag} {ca : Nat → Addr} {W : Value → Option Addr → Hp → Prop} {H : Hp} {w : Wd} {M : Store} {rm : RM} {d : D} {M' : Store} {Q : VK} (k : Ok K H w M)
    (h : After K ca W H w (fin rm M.length d M') fun d _ H' w' => ∀ v, Rep K w' d v → Q v H') : ∀ H' w', Grow H w H' w' → Ok K H' w' M' → ∀ v, Rep K w' d v → Q v H' := by
  intro H' w' g k' v r
  have hn := grow_len g k k'
  have dat : ∀ {d : D} {v : V}, Rep K w' d v → After K ca W H w (if d.pure then Res.ok d (M'.take M.length) else .no) (fun d _ H' w' => ∀ v, Rep K w' d v → Q v H') → Q v H' := fun {d v} r h => by
    obtain ⟨p, h⟩ := h.ifG
    exact h H' (w'.cut M.length) (g.cut k) (k'.cut _ hn) v (Rep.cut p r)
  cases rm with
  | data => exact dat r h
  | keep => exact h H' w' g k' v r
  | frz =>
    cases d with
    | ref i =>
      have h : After K ca W H w (if i < M.length then .no else (match M'[i]? with
        | some (.lst ds) => Res.ok (D.lst ds) (M'.take M.length)
        | _ => .no)) (fun d _ H' w' => ∀ v, Rep K w' d v → Q v H') := h
      by_cases hi : i < M.length
      · rw [if_pos hi] at h; exact h.elim
      · rw [if_neg hi] at h
        split at h
        · rename_i ds hc
          obtain ⟨a, vs, rfl, eo, hH, q1, q2⟩ := k'.lstAt r hc
          have hi := Nat.le_of_not_lt hi
          refine h H' (w'.frz M.length a (.lst vs)) (frz_grow g k k' hi eo) (frz_ok k' hn hi eo hH) (.ref a) ⟨a, vs, rfl, upd_same, Reps.mono (w := w'.fz) (w1 := w'.frz M.length a (.lst vs)) (fun b o q => ?_) ⟨_, (List.nil_append _).symm⟩ ds vs q1⟩
          show upd w'.Fz a (.lst vs) b = some o
          have q : w'.Fz b = some o := q
          rw [upd_ne fun z => by rw [z, k'.dis a (k'.cellMem eo (List.mem_singleton_self a))] at q; cases q]
          exact q
        · exact h.elim
    | _ => exact dat r h
/-! ### the defs of a text -/
/-- a def of the text as it stands: its number, name and number of parameters -/
structure DefAt (K : PySem.W.Frag) (mg : Str → Option Value) (c : MC) (T : List FnD) (f : Nat) (x : Str) (n : Nat) (fa : Addr) (fd : FuncData) (ps : List Str) (N : List Str) (qual : Str) (params : Arguments) (body : List Stmt) (scope : Scope) (fn : FnD) : Prop where
  ref : mg x = some (.ref fa)
  fun_ : FunD K x qual params body scope [] [] fa fd
  sc : FnScope N ps scope
  bind : Binds K fd ps []
  at_ : T[f]? = some fn
  ps_ : fn.ps = n
  pl : ps.length = n
  N_ : fn.N = N.length
  mat : matSs fn.body { c with N := N, names := scope.names, blk := none } body = true
structure Lay (K : PySem.W.Frag) (mg : Str → Option Value) (c : MC) (T : List FnD) (G : List D) : Prop where
  free : ∀ x, x ∈ c.free → mg x = none
  imp : ∀ x b, c.imp.lookup x = some b → mg x = some (biVal b)
  gls : ∀ (i : Nat) (x : Str), c.gls[i]? = some x → ∃ (u : Value) (v : V) (d : D), mg x = some u ∧ RelV v u ∧ G[i]? = some d ∧ ∀ w, Rep K w d v
  fns : ∀ (f : Nat) (x : Str) (n : Nat), c.fns[f]? = some (x, n) → ∃ fa fd ps N qual params body scope fn, DefAt K mg c T f x n fa fd ps N qual params body scope fn
theorem start_ok {K : PySem.W.Frag} {w : Wd} {ds : List D} {vs : List V} {N : List Str} {n : Nat} (r : Reps K w ds vs) (hn : n = N.length) (hl : ds.length ≤ n) : EnvOk K w (ds.map some ++ List.replicate (n - ds.length) none) (L2.start N vs) := by
  subst hn
  refine ⟨?_, fun i d h => ?_⟩
  · unfold L2.start
    simp [r.len]
  · unfold L2.start
    by_cases hi : i < ds.length
    · rw [List.getElem?_append_left (by simpa using hi), List.getElem?_map] at h
      obtain ⟨v, hv, rv⟩ := r.at (i := i) (d := d) (by
        cases q : ds[i]? with
        | none => rw [q] at h; cases h
        | some e => rw [q] at h; cases h; rfl)
      refine ⟨v, ?_, rv⟩
      rw [List.getElem?_append_left (by rw [List.length_map, r.len]; exact hi), List.getElem?_map, hv]
      rfl
    · rw [List.getElem?_append_right (by simpa using Nat.le_of_not_lt hi), List.getElem?_replicate] at h
      split at h <;> cases h
section
variable {P : Program} {w : World} {K : PySem.W.Frag} {mg : Str → Option Value} {base : Heap} {c : MC} {T : List FnD} {G : List D} {ca : Nat → Addr}
/-- a def's body, in its frame -/
theorem fnG_of {k : Nat} {f : Addr} {name qual : Str} {params : Arguments} {body : List Stmt} {scope : Scope} {dvs : List V} {kws : List (Str × V)} {fd : FuncData} {N ps : List Str} {sp : Sp}
    (F : FunD K name qual params body scope dvs kws f fd) (S : FnScope N ps scope) (len : ∀ vs H Q E, sp vs H Q E → vs.length = ps.length)
    (hbody : ∀ (cdv : Value) (A : Around) (outer : List Env) (s : Shared) (H : Hp) (vs : List V) (Q : VK) (E : XK), Room k (A.deeper (PyProof.Rows.envOfC qual scope s.heap.objs.size f cdv)) → A.guards = some [] → sp vs H Q E →
      ∃ t, PSs (cxOf (L2.CX P w) P w K mg base N qual scope f cdv A outer s H E) body t ∧ t { nx := fun _ H' => Q .non H', rt := Q } (L2.start N vs) H) :
    FnG P w K mg base (k + 1) f fd ps sp := by
  obtain ⟨oc, od, dV, kV, doc, pm, an, cdv, ct, osl, rfl, lk, hcd, _, _⟩ := F.ex
  constructor
  · exact len
  intro A outer s H args us vs Q E hr hg e0 hb r hsp
  have hl : vs.length = ps.length := len _ _ _ _ hsp
  have kin : K.In s.heap := e0.mod.kin.keeps fun b o e => And.left (e0.bs b o e)
  have nol : s.heap.NoLimit := e0.mod.nolimit.keeps fun b o e => And.left (e0.bs b o e)
  have kinds : ∀ y ∈ ps.zip us, scope.names.lookup y.1 = some .local ∨ (scope.names.lookup y.1 = some .cell ∧ ((cellsFrom (s.heap.objs.size + 1) scope.names []).lookup y.1).isSome = true) := by
    rintro ⟨n, v⟩ hy
    have hp := S.par n (List.of_mem_zip hy).1
    exact hp.imp id fun q => ⟨q, PySem.W.cellsFrom_some _ _ _ (.inl q)⟩
  refine codeAny_call_function hr.depth (kin _ _ lk) rfl S.co S.gen rfl (PySem.W.codeRec_of kin hcd) (hb _ _ _ _ (wpAny_newFunctionEnv_cells S.kind kinds fun env he s1 x => ?_))
  subst he
  refine ⟨nol.keeps x.toInCall.keep, codeAny_func ?_⟩
  obtain ⟨t, ht, hq⟩ := hbody cdv A outer s H vs Q E (hr.deeper _) hg hsp
  have I : L2.Inv (cxOf (L2.CX P w) P w K mg base N qual scope f cdv A outer s H E) [] (L2.start N vs) H s1 := inv_start S hr.hd e0 hl r x
  refine wpAny_mono (ht.run [] s1 _ H _ I hq) (fun fl s' hs => ?_) fun e s' hs => hs
  match fl, hs with
  | .ret u, ⟨v, σ', H', J, rv, q⟩ => exact ⟨v, H', J.os, J.bare, J.base, J.hok, rv, q⟩
  | .next, ⟨σ', H', J, q⟩ => exact ⟨.non, H', J.os, J.bare, J.base, J.hok, rfl, q⟩
  | .brk, ⟨_, _, _, q⟩ => exact False.elim q
  | .cont, ⟨_, _, _, q⟩ => exact False.elim q
/-- every def of the text, k calls deep -/
theorem fnG_all (L : Lay K mg c T G) : ∀ (k : Nat) {f : Nat} {x : Str} {n : Nat} {fa : Addr} {fd : FuncData} {ps N : List Str} {qual : Str} {params : Arguments} {body : List Stmt} {scope : Scope} {fn : FnD}, DefAt K mg c T f x n fa fd ps N qual params body scope fn →
    FnG P w K mg base k fa fd ps (spF K ca (callF T G k) n f) := by
  intro k
  induction k with
  | zero =>
    intro f x n fa fd ps N qual params body scope fn d
    exact ⟨fun vs H Q E ⟨ds, M, w, k, r, hl, h⟩ => h.elim, fun A outer s H args us vs Q E _ _ _ _ _ ⟨ds, M, w, k, r, hl, h⟩ => h.elim⟩
  | succ k ih =>
    intro f x n fa fd ps N qual params body scope fn d
    refine fnG_of d.fun_ d.sc (fun vs H Q E ⟨ds, M, w, k, r, hl, h⟩ => by rw [r.len, hl, d.pl]) fun cdv A outer s H vs Q E hr hg hsp => ?_
    let C : Cc := ⟨K, mg, ca, callF T G k, G, [], [], []⟩
    have o : XOk C (cE E) (cxOf (L2.CX P w) P w K mg base N qual scope fa cdv A outer s H E) { c with N := N, names := scope.names, blk := none } :=
      { hK := rfl, hc := rfl, hg := hg, hu := hr.units, hN := d.sc.nd, tk := takes_of rfl rfl rfl rfl, N := rfl, names := rfl, kind := d.sc.kind,
        fn := fun x _ => rfl, free := L.free, imp := L.imp, gls := L.gls,
        fns := fun g y m hy => by
          obtain ⟨fa', fd', ps', N', q', pa', b', sc', fn', d'⟩ := L.fns g y m hy
          exact ⟨k, fa', fd', ps', d'.ref, d'.fun_.kp, d'.bind, ih d', hr⟩ }
    refine ⟨tSs C E fn.body, matSs_ok o (passes_of rfl) fn.body body d.mat, ?_⟩
    obtain ⟨ds, M, w', k', r, hl, h⟩ := hsp
    have hps : fn.ps ≤ fn.N := by
      have := congrArg List.length d.sc.pre
      rw [List.length_take] at this
      rw [d.ps_, d.N_, ← d.pl]; omega
    refine ⟨_, M, w', k', start_ok r d.N_ (by rw [hl, ← d.ps_]; exact hps), ?_⟩
    have h : After K ca E H w' (match T[f]? with
      | none => .no
      | some fd => if ds.length = fd.ps then (match evSs (callF T G k) G fd.body (ds.map some ++ List.replicate (fd.N - fd.ps) none) M with
        | .ok (.ret d) M' => fin fd.rm M.length d M'
        | .ok (.next _) M' => fin fd.rm M.length .non M'
        | .ok _ _ => .no
        | .ex c v M' => if v.pure then .ex c v (M'.take M.length) else .no
        | .no => .no) else .no) (fun d _ H' w' => ∀ v, Rep K w' d v → Q v H') := h
    rw [d.at_] at h
    have hl' : ds.length = fn.ps := by rw [hl, d.ps_]
    simp only [if_pos hl'] at h
    rw [← hl'] at h
    show After K ca E H w' (evSs (callF T G k) G fn.body (ds.map some ++ List.replicate (fn.N - ds.length) none) M) _
    cases e : evSs (callF T G k) G fn.body (ds.map some ++ List.replicate (fn.N - ds.length) none) M with
    | no => rw [e] at h; exact h
    | ex c v M' =>
      rw [e] at h
      obtain ⟨hp, h⟩ := (show After K ca E H w' (if v.pure then Res.ex c v (M'.take M.length) else .no) _ from h).ifG
      intro H1 w1 cls dd g1 k1 ⟨q1, d', v', q2, q3, q4, q5, q6⟩
      exact h H1 (w1.cut M.length) cls dd (g1.cut k') (k1.cut _ (grow_len g1 k' k1)) ⟨q1, d', v', q2, q3, Rep.cut hp q4, fun z => q5 (mem_take z), q6⟩
    | ok fl M' =>
      rw [e] at h
      cases fl with
      | ret dd => exact fun H1 w1 g1 k1 v rv => fin_ok k' h H1 w1 g1 k1 v rv
      | next env => exact fun H1 w1 g1 k1 σ' _ => fin_ok k' h H1 w1 g1 k1 .non rfl
      | brk env => exact h.elim
      | cnt env => exact h.elim
end
end PM

/-! PMs: a text's defs are found behind its top; the law's call; the end. -/
namespace PM
open PySem L2
theorem look_zip : ∀ {ps : List Str} {us : List Value} {x : Str}, us.length = ps.length → x ∈ ps → ((ps.zip us).lookup x).isSome = true
  | [], _, _, _, h => by cases h
  | p :: ps, [], _, h, _ => by simp at h
  | p :: ps, u :: us, x, h, hx => by
    rw [List.zip_cons_cons, List.lookup_cons]
    cases hb : x == p with
    | true => rfl
    | false =>
      rcases List.mem_cons.mp hx with z | z
      · rw [z] at hb; simp at hb
      · exact look_zip (by simpa using h) z
theorem fm_congr {α β : Type} {f g : α → Option β} : ∀ {l : List α}, (∀ x ∈ l, f x = g x) → l.filterMap f = l.filterMap g
  | [], _ => rfl
  | x :: l, h => by
    rw [List.filterMap_cons, List.filterMap_cons, h x (List.mem_cons_self ..), fm_congr fun y hy => h y (List.mem_cons_of_mem _ hy)]
theorem map_zip : ∀ {ps : List Str} {us : List Value}, us.length = ps.length → ps.Nodup → (ps.filterMap fun n => ((ps.zip us).lookup n).map (n, ·)) = ps.zip us
  | [], us, _, _ => by simp
  | p :: ps, [], h, _ => by simp at h
  | p :: ps, u :: us, h, nd => by
    rw [List.zip_cons_cons, List.filterMap_cons]
    have e : List.lookup p ((p, u) :: ps.zip us) = some u := by rw [List.lookup_cons]; simp
    rw [e]
    have ih := map_zip (ps := ps) (us := us) (by simpa using h) (List.nodup_cons.mp nd).2
    show (p, u) :: _ = _
    congr 1
    rw [← ih]
    refine fm_congr fun n hn => ?_
    have hne : (n == p) = false := by
      rw [beq_eq_false_iff_ne]
      intro z; rw [z] at hn; exact (List.nodup_cons.mp nd).1 hn
    rw [List.lookup_cons, hne, ih]
theorem bindPlain {name qual : Str} {as : List Arg} {body : List Stmt} {scope : Scope} {kV doc pm cdv ct : Value} {an : Option Addr} {us : List Value} (hl : us.length = as.length) (nd : (as.map (·.arg)).Nodup) :
    bindArgs (PySem.W.fnOf name qual ⟨[], as, none, [], [], none, []⟩ body scope .none kV doc pm an cdv ct) ⟨us, []⟩ = pure ((as.map (·.arg)).zip us) := by
  obtain ⟨ps, hps⟩ : ∃ ps, ps = as.map (·.arg) := ⟨_, rfl⟩
  have hl' : us.length = ps.length := by rw [hps, List.length_map]; exact hl
  have hm : (ps.filter (fun n => ((ps.zip us).lookup n).isNone)) = [] := by
    rw [List.filter_eq_nil_iff]
    intro x hx
    have := look_zip (ps := ps) (us := us) (x := x) hl' hx
    cases q : (ps.zip us).lookup x with
    | none => rw [q] at this; cases this
    | some _ => simp
  have e0 : seqItems? Value.none = pure none := rfl
  have hz := map_zip hl' (by rw [hps]; exact nd)
  unfold bindArgs
  simp only [List.map_nil, List.nil_append, List.forIn_nil, pure_bind, e0, ← hps, Option.getD_none, List.toList_toArray]
  have h1 : (decide (us.length > ps.length) && (none : Option Arg).isNone) = false := by simp [hl']
  simp only [h1, Bool.false_eq_true, if_false]
  simp only [List.drop_nil, List.length_nil, Nat.sub_zero, List.take_length, hm, List.isEmpty_nil, Bool.not_true, Bool.false_eq_true, if_false, List.drop_length, List.append_nil, hz, pure_bind, List.zip_nil_right, List.forIn_nil]
/-! ### a text's defs -/
/-- a def as the top has it, its slots, its form in the small language -/
structure DefE where
  st : Stmt
  N : List Str
  fn : FnD
def stName : Stmt → Str
  | .FunctionDef n _ _ _ _ _ _ _ _ _ => n
  | _ => ""
def stArgs : Stmt → Arguments
  | .FunctionDef _ a _ _ _ _ _ _ _ _ => a
  | _ => ⟨[], [], none, [], [], none, []⟩
def stBody : Stmt → List Stmt
  | .FunctionDef _ _ b _ _ _ _ _ _ _ => b
  | _ => []
def stScope : Stmt → Scope
  | .FunctionDef _ _ _ _ _ _ s _ _ _ => s
  | _ => ⟨.function, [], false, false, []⟩
def stPs (s : Stmt) : List Str := (stArgs s).args.map (·.arg)
def plainArgs : Arguments → Bool
  | ⟨[], _, none, [], [], none, []⟩ => true
  | _ => false
def DefE.rec_ (d : DefE) : He.DefD := ⟨(stName d.st, none), stName d.st, stName d.st, stArgs d.st, stBody d.st, stScope d.st, [], []⟩
def scopeB (N ps : List Str) (sc : Scope) : Bool := sc.kind == .function && !sc.isCoroutine && !sc.isGenerator && decide N.Nodup && decide (N.take ps.length = ps) && (ps.all fun x => sc.names.lookup x == some .local || sc.names.lookup x == some .cell) && (sc.names.all fun y => !(y.2 == .free))
def DefE.okB (c : MC) (d : DefE) : Bool := plainArgs (stArgs d.st) && scopeB d.N (stPs d.st) (stScope d.st) && decide (stPs d.st).Nodup && decide (d.fn.ps = (stPs d.st).length) && decide (d.fn.N = d.N.length) && matSs d.fn.body { c with N := d.N, names := (stScope d.st).names, blk := none } (stBody d.st)
theorem scopeB_ok {N ps : List Str} {sc : Scope} (h : scopeB N ps sc = true) : FnScope N ps sc := by
  unfold scopeB at h
  simp only [Bool.and_eq_true, beq_iff_eq, Bool.not_eq_true', decide_eq_true_eq, List.all_eq_true, Bool.or_eq_true] at h
  obtain ⟨⟨⟨⟨⟨⟨h1, h2⟩, h3⟩, h4⟩, h5⟩, h6⟩, h7⟩ := h
  exact ⟨h1, h2, h3, h4, h5, h6, fun y hy z => by
    have := h7 y hy
    rw [z] at this
    exact absurd this (by decide)⟩
theorem plain_eq {a : Arguments} (h : plainArgs a = true) : a = ⟨[], a.args, none, [], [], none, []⟩ := by
  unfold plainArgs at h
  split at h
  · rfl
  · cases h
/-- what else the top has bound: constants -/
inductive GV where
  | int (x : Str) (i : Int)
  | str (x z : Str)
def GV.name : GV → Str
  | .int x _ => x
  | .str x _ => x
def GV.d : GV → D
  | .int _ i => .int i
  | .str _ z => .str z
def GV.fact : GV → He.Fa
  | .int x i => .int x i
  | .str x z => .str x z
/-- a text -/
structure Txt where
  defs : List DefE
  gvs : List GV := []
  free : List Str
  imp : List (Str × BI) := []
def Txt.mc (t : Txt) : MC := { N := [], names := [], fns := t.defs.map fun d => (stName d.st, d.fn.ps), gls := t.gvs.map GV.name, free := t.free, imp := t.imp }
def Txt.fns (t : Txt) : List FnD := t.defs.map (·.fn)
def Txt.G (t : Txt) : List D := t.gvs.map GV.d
def Txt.fa (t : Txt) : List He.Fa := (t.defs.map fun d => He.Fa.glo (stName d.st)) ++ t.gvs.map GV.fact ++ t.free.map He.Fa.free
def Txt.fn (t : Txt) : List He.DefD := t.defs.map DefE.rec_
def impB (im : List (Str × BI)) (K : PySem.W.Frag) : Bool := im.all fun p => He.eqO (PySem.W.nsIn K mainGlobals p.1) (some (some (biVal p.2)))
abbrev AlP : Type := Bool × He.AlD
def obsP (n : Nat) (im : List (Str × BI)) (fa : List He.Fa) (fn : List He.DefD) (g : Addr → Option Obj) : AlP := (impB im (He.frG g (He.asD g n)), He.obsD fa fn (He.frG g (He.asD g n)))
def hookP (n : Nat) (im : List (Str × BI)) (fa : List He.Fa) (fn : List He.DefD) : PySem.W.Hook where
  α := AlP
  obs := fun s => obsP n im fa fn s.heap.get?
  val := fun _ => (true, He.valD fn)
  says := fun _ h => ∃ K : PySem.W.Frag, K.In h ∧ impB im K = true ∧ He.SaysD fa fn K
  of := fun _ s e => ⟨_, He.frG_in, congrArg Prod.fst e, congrArg Prod.snd e⟩
  keeps := fun _ _ _ ⟨K, hK, c⟩ k => ⟨K, PySem.W.Frag.In.keeps hK k, c⟩
theorem obsP_eq {n : Nat} {im : List (Str × BI)} {fa : List He.Fa} {fn : List He.DefD} {g : Addr → Option Obj} {s : Shared} (h : ∀ a, g a = s.heap.get? a) : obsP n im fa fn g = (hookP n im fa fn).obs s := by
  have e : g = s.heap.get? := funext h
  rw [e] <;> rfl
theorem layOf {t : Txt} {K : PySem.W.Frag} {h : Heap} {mg : Str → Option Value} (X : K.In h) (Gm : h.Ns mainGlobals mg) (ci : impB t.imp K = true) (c : He.SaysD t.fa t.fn K) (ok : t.defs.all (DefE.okB t.mc) = true) : Lay K mg t.mc t.fns t.G := by
  have all : ∀ f ∈ t.fa, f.ok K = true := fun f hf => by
    obtain ⟨i, hi, e⟩ := List.getElem_of_mem hf
    exact c.fact i (f := f) (by rw [List.getElem?_eq_getElem hi, e])
  have e1 : ∀ {f : He.Fa}, f ∈ (t.defs.map fun d => He.Fa.glo (stName d.st)) → f ∈ t.fa := fun h => List.mem_append_left _ (List.mem_append_left _ h)
  have e2 : ∀ {f : He.Fa}, f ∈ t.gvs.map GV.fact → f ∈ t.fa := fun h => List.mem_append_left _ (List.mem_append_right _ h)
  have e3 : ∀ {f : He.Fa}, f ∈ t.free.map He.Fa.free → f ∈ t.fa := fun h => List.mem_append_right _ h
  refine ⟨fun x hx => He.free_ok X Gm (all (.free x) (e3 (List.mem_map.mpr ⟨x, hx, rfl⟩))), fun x b hx => ?_, fun i x hx => ?_, fun f x n hf => ?_⟩
  · have hm := PySem.mem_of_lookup hx
    have z := List.all_eq_true.mp ci _ hm
    exact PySem.W.mg_of X Gm (He.eqO_ok z)
  · have hx : (t.gvs.map GV.name)[i]? = some x := hx
    rw [List.getElem?_map] at hx
    obtain ⟨g, hg, rfl⟩ := Option.map_eq_some_iff.mp hx
    have hm := all g.fact (e2 (List.mem_map.mpr ⟨g, List.mem_of_getElem? hg, rfl⟩))
    have hG : t.G[i]? = some g.d := by show (t.gvs.map GV.d)[i]? = _; rw [List.getElem?_map, hg]; rfl
    cases g with
    | int y j =>
      obtain ⟨tk, q⟩ := He.int_ok X Gm hm
      exact ⟨_, .int j, _, q, ⟨tk, rfl⟩, hG, fun _ => rfl⟩
    | str y z =>
      obtain ⟨tk, q⟩ := He.str_ok X Gm hm
      exact ⟨_, .str z, _, q, ⟨tk, rfl⟩, hG, fun _ => rfl⟩
  · have hf : (t.defs.map fun d => (stName d.st, d.fn.ps))[f]? = some (x, n) := hf
    rw [List.getElem?_map] at hf
    obtain ⟨d, hd, e⟩ := Option.map_eq_some_iff.mp hf
    cases e
    have hmem := List.mem_of_getElem? hd
    have okd := List.all_eq_true.mp ok d hmem
    obtain ⟨okd, q6⟩ := andB okd
    obtain ⟨okd, q5⟩ := andB okd
    obtain ⟨okd, q4⟩ := andB okd
    obtain ⟨okd, q3⟩ := andB okd
    obtain ⟨q1, q2⟩ := andB okd
    obtain ⟨fd, F⟩ := c.def_ f (d := d.rec_) (by show (t.defs.map DefE.rec_)[f]? = _; rw [List.getElem?_map, hd]; rfl)
    have F : FunD K (stName d.st) (stName d.st) (stArgs d.st) (stBody d.st) (stScope d.st) [] [] (He.fAd K (stName d.st, none)) fd := F
    have gl := He.glo_ok X Gm (all (.glo (stName d.st)) (e1 (List.mem_map.mpr ⟨d, hmem, rfl⟩)))
    have hps : (stPs d.st).length = (stArgs d.st).args.length := by unfold stPs; rw [List.length_map]
    refine ⟨_, fd, stPs d.st, d.N, stName d.st, stArgs d.st, stBody d.st, stScope d.st, d.fn, gl, F, scopeB_ok q2, ?_, by show (t.defs.map (·.fn))[f]? = _; rw [List.getElem?_map, hd]; rfl, rfl, (of_decide_eq_true q4).symm, of_decide_eq_true q5, q6⟩
    refine FunD.bindsN F fun kV doc pm an cdv ct us hl => ?_
    rw [plain_eq q1]
    exact bindPlain (by rw [← hps]; exact hl) (of_decide_eq_true q3)
open PyProof.Rows (IntsAre AllBare)
/-! ### the law's call -/
theorem callG {P : Program} {w : World} {K : PySem.W.Frag} {mg mb : Str → Option Value} {k : Nat} {fa a : Addr} {fd : FuncData} {x : Str} {sp : Sp} {s₁ : Shared} {vs : List Value} {ns : List Int}
    (KX : K.In s₁.heap) (hns : s₁.heap.Ns mainGlobals mg) (hb : s₁.heap.Ns builtinsNs mb) (hbb : ∀ x : Str, x ≠ "__name__" → mb x = bootBuiltins x) (hlim : s₁.heap.NoLimit) (hg : s₁.gens = #[])
    (ha : s₁.heap.get? a = some { cls := .type "list", data := .seq vs.toArray }) (hi : IntsAre vs ns) (hl : ns.length ≤ sizeLine) (hr : Room k callerA)
    (F : ∀ base : Heap, K.In base → base.Ns mainGlobals mg → FnG P w K mg base k fa fd [x] sp) (hbind : ∀ u : Value, BindsTo s₁ fd ⟨[u], []⟩ [(x, u)])
    (hsp : ∀ H : Hp, Only H → SqL K H a (ns.map V.int) → sp [.ref a] H (fun v _ => v = .bl true) fun _ _ _ => False) :
    codeAny (model P w) callerA (.call (.ref fa) ⟨[.ref a], []⟩) (fun r s' => r = .ok (.ret (.bool true)) ∧ OldK s₁.heap s'.heap ∧ s'.os = s₁.os ∧ AllBare s'.gens) s₁ := by
  have one : ∀ H : Hp, Only H → SqL K H a (ns.map V.int) → HOk P w H s₁.heap → (∀ b, H b ≠ none → b = a) → (H a ≠ none → K.lookup a = none) →
      codeAny (model P w) callerA (.call (.ref fa) ⟨[.ref a], []⟩) (fun r s' => r = .ok (.ret (.bool true)) ∧ OldK s₁.heap s'.heap ∧ s'.os = s₁.os ∧ AllBare s'.gens) s₁ := by
    intro H hO hS hok hA hK
    have under : ∀ {b : Addr} {o : Obj}, s₁.heap.get? b = some o → H b = none → (hidT s₁.heap H).get? b = some o := fun e n => hidT_get e n
    have nodict : ∀ {b : Addr} {o : Obj} {es : Array DictEntry} {ep : Nat}, s₁.heap.get? b = some o → o.data = .dict es ep → H b = none := by
      intro b o es ep e d
      cases q : H b with
      | none => rfl
      | some u =>
        cases hA b (by rw [q]; simp)
        rw [ha] at e
        cases e
        exact nomatch (show Data.seq vs.toArray _ = Data.dict es ep from d)
    have names : ∀ {b : Addr} {m : Str → Option Value}, s₁.heap.Ns b m → (hidT s₁.heap H).Ns b m := by
      rintro b m ⟨o, es, ep, e, d, r⟩
      exact ⟨o, es, ep, under e (nodict e d), d, r⟩
    have inK : K.In (hidT s₁.heap H) := by
      intro b o e
      refine under (KX b o e) ?_
      cases q : H b with
      | none => rfl
      | some u =>
        cases hA b (by rw [q]; simp)
        rw [hK (by rw [q]; simp)] at e
        cases e
    obtain ⟨mc, m1, m2⟩ := hlim
    have md : Mod K mg (hidT s₁.heap H) := ⟨inK, names hns, ⟨mb, names hb, hbb⟩, ⟨mc, names m1, m2⟩⟩
    have e0 : Env0 P w K mg (hidT s₁.heap H) callerA [] s₁ H := ⟨rfl, md, fun b o e => of_hidT e, Nat.le_of_eq (hidT_size _ _), trivial, fun b hb => absurd (show b ∈ ([] : List Addr) from hb) (by simp), hok, .of_eq hg⟩
    have go := (F _ inK (names hns)).run callerA [] s₁ H ⟨[.ref a], []⟩ [.ref a] [.ref a] _ _ hr rfl e0 (hbind (.ref a)) (.cons rfl .nil) (hsp H hO hS)
    refine codeAny_mono go fun r s' h => ?_
    match r, h with
    | .error e, h =>
      obtain ⟨_, _, _, _, _, z⟩ := (show L2.CX P w [] H s₁ (fun _ _ _ => False) e s' from h)
      exact False.elim z.2.2.2.2.2.2.2
    | .ok .next, h => exact False.elim h
    | .ok .brk, h => exact False.elim h
    | .ok .cont, h => exact False.elim h
    | .ok (.ret u), h =>
      obtain ⟨v, H', os, bare, un, hok', r', q⟩ := (show CE [] P w H s₁ (fun v _ => v = .bl true) u s' from h)
      have q : v = .bl true := q
      subst q
      cases (show u = Value.bool true from r')
      refine ⟨rfl, OldK.of_keep fun b o e => ?_, os, bare⟩
      cases hO b with
      | inl q => exact un.keep b o e q (fun z => absurd (show b ∈ ([] : List Addr) from z) (by simp)) (by simp)
      | inr q =>
        obtain ⟨ob, xs, z⟩ := q
        have e1 := (hok b _ z).1
        have e2 := (hok' b _ (un.frzs b ob _ z)).1
        cases e.symm.trans e1
        exact e2
  have rv := vals_ints hi
  have lenV := hi.length
  by_cases hk : ∃ o, K.lookup a = some o
  · obtain ⟨o, hk⟩ := hk
    have e := KX a o hk
    rw [ha] at e
    cases e
    exact one (fun _ => none) (fun _ => .inl rfl) (.inr ⟨_, vs.toArray, _, hk, rfl, rfl, rfl, by rw [List.size_toArray, lenV]; exact hl, by simpa using rv⟩) (fun b u z => nomatch (show (none : Option HO) = some u from z)) (fun b z => absurd rfl z) fun z => absurd rfl z
  · have hk : K.lookup a = none := by
      cases q : K.lookup a with
      | none => rfl
      | some o => exact absurd ⟨o, q⟩ hk
    obtain ⟨ob, eob⟩ : ∃ ob : Obj, ob = { cls := .type "list", data := .seq vs.toArray } := ⟨_, rfl⟩
    obtain ⟨H0, eH⟩ : ∃ H0 : Hp, H0 = upd (fun _ => none) a (.frz ob (.lst (ns.map V.int))) := ⟨_, rfl⟩
    have at_ : H0 a = some (.frz ob (.lst (ns.map V.int))) := by rw [eH]; exact upd_same
    have off : ∀ b, b ≠ a → H0 b = none := fun b hb => by rw [eH, upd_ne hb]
    refine one H0 (fun b => ?_) (.inl (.inr ⟨ob, at_⟩)) (fun b u z => ?_) (fun b z => ?_) fun _ => hk
    · by_cases hb : b = a
      · exact .inr ⟨_, _, by rw [hb]; exact at_⟩
      · exact .inl (off b hb)
    · by_cases hb : b = a
      · subst hb
        cases at_.symm.trans z
        exact ⟨by rw [eob]; exact ha, by rw [List.length_map]; exact hl, vs, _, rv, by rw [ha]⟩
      · rw [off b hb] at z; cases z
    · exact Classical.byContradiction fun hb => z (off b hb)
/-- THE END: a law whose text is checked keeps its word where the small language says so -/
theorem walkG {l : PySem.W.OpenLaw} {n k m f : Nat} {q : Program} {loose : List Str} {XP : (Str → Option Value) → Heap → Prop} {d : DefRec} {t : Txt}
    (hn : l.most = some n) (hn2 : n ≤ sizeLine) (hdf : d.params.defaults = []) (hr : Room k callerA) (hf : t.mc.fns[f]? = some (d.name, 1)) (ok : t.defs.all (DefE.okB t.mc) = true)
    (law : ∀ ns : List Int, ns.length ≤ n → ∃ M, callF t.fns t.G k f [.scr ns] [] = .ok (.bl true) M) :
    PySem.W.WalkO q loose XP (hookP m t.imp t.fa t.fn).says l.row.toRowW d [] (fun f vs => PySem.call f vs) := by
  refine Att.attach_call hn hdf fun w s₀ s₁ mg mb fa o pm cd doc a vs ns G Y ho hd hcd hmg hobj hints hlen hg => ?_
  obtain ⟨K, KX, ci, c⟩ := Y
  have L := layOf KX G.T.g ci c ok
  obtain ⟨fa', fd, ps, N, qual, params, body, scope, fn, D1⟩ := L.fns f d.name 1 hf
  obtain rfl : fa' = fa := by
    have z := D1.ref.symm.trans hmg
    cases z; rfl
  obtain ⟨x, rfl⟩ : ∃ x, ps = [x] := by
    match ps, D1.pl with
    | [x], _ => exact ⟨x, rfl⟩
  refine callG (sp := spF K (fun _ => 0) (callF t.fns t.G k) 1 f) KX G.T.g G.T.b G.T.builtins G.T.nolimit hg hobj hints (Nat.le_trans hlen hn2) hr (fun base _ _ => fnG_all L k D1) (fun u => D1.bind s₁ [u] KX rfl) fun H hO hS => ?_
  obtain ⟨M, e⟩ := law ns hlen
  have imm : ∀ a o, H a = some o → Imm o := fun a o e => by
    rcases hO a with z | ⟨ob, xs, z⟩
    · rw [e] at z; cases z
    · rw [e] at z; cases z; trivial
  refine ⟨[.scr ns], [], ⟨H, []⟩, ⟨fun _ _ h => h, imm, rfl, fun n c as h => by simp at h, List.nodup_nil, fun a h => by simp at h⟩, ⟨.ref a, [], rfl, ⟨a, rfl, hS⟩, rfl⟩, rfl, ?_⟩
  rw [e]
  exact fun H' w' _ _ v rv => rv
end PM

/-! PLa: stepping through the small language: statements, loops, calls; the script's pot. -/
namespace PM
open PySem L2
theorem callF_eq {T : List FnD} {G : List D} {k f : Nat} {ds : List D} {M : Store} (fd : FnD) {d : D} {M' : Store} (h : T[f]? = some fd) (hl : ds.length = fd.ps)
    (hb : evSs (callF T G k) G fd.body (ds.map some ++ List.replicate (fd.N - fd.ps) none) M = .ok (.ret d) M') : callF T G (k + 1) f ds M = fin fd.rm M.length d M' := by
  unfold callF; simp only [h, hl, if_true, hb]
theorem callF_non {T : List FnD} {G : List D} {k f : Nat} {ds : List D} {M : Store} (fd : FnD) {env : EnvD} {M' : Store} (h : T[f]? = some fd) (hl : ds.length = fd.ps)
    (hb : evSs (callF T G k) G fd.body (ds.map some ++ List.replicate (fd.N - fd.ps) none) M = .ok (.next env) M') : callF T G (k + 1) f ds M = fin fd.rm M.length .non M' := by
  unfold callF; simp only [h, hl, if_true, hb]
/-- data comes back, the def's cells go -/
theorem callF_data {T : List FnD} {G : List D} {k f : Nat} {ds : List D} {M : Store} (fd : FnD) {d : D} {M' : Store} (h : T[f]? = some fd) (hl : ds.length = fd.ps) (hr : fd.rm = .data) (hd : d.pure = true)
    (hb : evSs (callF T G k) G fd.body (ds.map some ++ List.replicate (fd.N - fd.ps) none) M = .ok (.ret d) M') : callF T G (k + 1) f ds M = .ok d (M'.take M.length) := by
  rw [callF_eq fd h hl hb, hr]; show (if d.pure then _ else _) = _; rw [hd]; rfl
theorem take_app (M N : Store) : (M ++ N).take M.length = M := by simp
theorem take_self (M : Store) : M.take M.length = M := List.take_length
section
variable {F : Fns} {G : List D} {env env' : EnvD} {M M1 M2 : Store} {ss : List MS} {r : Res Flw}
theorem sNil : evSs F G [] env M = .ok (.next env) M := rfl
theorem sNext {s : MS} (h : evS F G s env M = .ok (.next env') M1) (h2 : evSs F G ss env' M1 = r) : evSs F G (s :: ss) env M = r := by
  rw [← h2]; show (evS F G s env M).bind _ = _; rw [h]; rfl
theorem sRetS {s : MS} {d : D} (h : evS F G s env M = .ok (.ret d) M1) : evSs F G (s :: ss) env M = .ok (.ret d) M1 := by
  show (evS F G s env M).bind _ = _; rw [h]; rfl
theorem sAsg {t : MT} {e : ME} {x : D} (he : evE F G e env M = .ok x M1) (ht : stoT t x env = some env') (h2 : evSs F G ss env' M1 = r) : evSs F G (.asg t e :: ss) env M = r :=
  sNext (by show (evE F G e env M).bind _ = _; rw [he, ok_bind, ht]; rfl) h2
theorem sRet {e : ME} {x : D} (he : evE F G e env M = .ok x M1) : evSs F G (.ret e :: ss) env M = .ok (.ret x) M1 :=
  sRetS (by show (evE F G e env M).bind _ = _; rw [he]; rfl)
theorem sEx {e : ME} {x : D} (he : evE F G e env M = .ok x M1) (h2 : evSs F G ss env M1 = r) : evSs F G (.ex e :: ss) env M = r :=
  sNext (by show (evE F G e env M).bind _ = _; rw [he]; rfl) h2
theorem sIfF {t : ME} {a b : List MS} {x : D} (he : evE F G t env M = .ok x M1) (hx : tru x M1 = some false) (hb : evSs F G b env M1 = .ok (.next env') M2) (h2 : evSs F G ss env' M2 = r) : evSs F G (.if_ t a b :: ss) env M = r :=
  sNext (by show (evE F G t env M).bind _ = _; rw [he, ok_bind, hx]; exact hb) h2
theorem sIfT {t : ME} {a b : List MS} {x : D} (he : evE F G t env M = .ok x M1) (hx : tru x M1 = some true) (ha : evSs F G a env M1 = .ok (.next env') M2) (h2 : evSs F G ss env' M2 = r) : evSs F G (.if_ t a b :: ss) env M = r :=
  sNext (by show (evE F G t env M).bind _ = _; rw [he, ok_bind, hx]; exact ha) h2
theorem sIfR {t : ME} {a b : List MS} {x d : D} (he : evE F G t env M = .ok x M1) (hx : tru x M1 = some true) (ha : evSs F G a env M1 = .ok (.ret d) M2) : evSs F G (.if_ t a b :: ss) env M = .ok (.ret d) M2 :=
  sRetS (by show (evE F G t env M).bind _ = _; rw [he, ok_bind, hx]; exact ha)
/-- an if that is not taken -/
theorem sNo {t : ME} {a : List MS} (he : evE F G t env M = .ok (.bl false) M1) (h2 : evSs F G ss env M1 = r) : evSs F G (.if_ t a [] :: ss) env M = r := sIfF he rfl sNil h2
noncomputable def forF (F : Fns) (G : List D) (t : MT) (b : List MS) (x : D) (env : EnvD) (M : Store) : Res Flw := match stoT t x env with
  | none => .no
  | some env' => evSs F G b env' M
theorem sFor {t : MT} {it : MIt} {b : List MS} {s : Src} (hi : evIt F G it env M = .ok s M1) (hl : forL (forF F G t b) s s.items env M1 = .ok (.next env') M2) (h2 : evSs F G ss env' M2 = r) : evSs F G (.for_ t it b :: ss) env M = r :=
  sNext (by show (evIt F G it env M).bind _ = _; rw [hi, ok_bind]; exact hl) h2
/-- a loop with an invariant: the items done, the variables, the store -/
theorem forL_inv {f : D → EnvD → Store → Res Flw} {s : Src} (P : List D → EnvD → Store → Prop) {xs : List D} {env : EnvD} {M : Store} (h0 : P [] env M) (hs : ∀ done env M, P done env M → s.ok M = true)
    (step : ∀ done x rest env M, xs = done ++ x :: rest → P done env M → ∃ env' M', f x env M = .ok (.next env') M' ∧ P (done ++ [x]) env' M') : ∃ env' M', forL f s xs env M = .ok (.next env') M' ∧ P xs env' M' := by
  suffices H : ∀ (rest done : List D) (env : EnvD) (M : Store), xs = done ++ rest → P done env M → ∃ env' M', forL f s rest env M = .ok (.next env') M' ∧ P xs env' M' from H xs [] env M rfl h0
  intro rest
  induction rest with
  | nil =>
    intro done env M e p
    rw [List.append_nil] at e
    subst e
    exact ⟨env, M, by show (if s.ok M = true then _ else _) = _; rw [if_pos (hs _ _ _ p)], p⟩
  | cons x rest ih =>
    intro done env M e p
    obtain ⟨env1, M1, e1, p1⟩ := step done x rest env M e p
    obtain ⟨env2, M2, e2, p2⟩ := ih (done ++ [x]) env1 M1 (by rw [e, List.append_assoc]; rfl) p1
    exact ⟨env2, M2, by show (if s.ok M = true then _ else _) = _; rw [if_pos (hs _ _ _ p), e1]; exact e2, p2⟩
/-- a comprehension that leaves the store as it is -/
theorem compL_pure {f : D → Store → Res (Option D)} {s : Src} {g : D → Option D} {M : Store} (hs : s.ok M = true) : ∀ {xs : List D}, (∀ x ∈ xs, f x M = .ok (g x) M) → compL f s xs M = .ok (xs.filterMap g) M
  | [], _ => by show (if s.ok M = true then _ else _) = _; rw [if_pos hs]; rfl
  | x :: xs, h => by
    have e := h x List.mem_cons_self
    have ih := compL_pure (f := f) (s := s) (g := g) hs (fun y hy => h y (List.mem_cons_of_mem x hy))
    show (if s.ok M = true then (noEx (f x M)).bind _ else _) = _
    rw [if_pos hs, e]
    show (compL f s xs M).bind _ = _
    rw [ih]
    cases hg : g x <;> simp [hg]
/-- a comprehension with an invariant of the store -/
theorem compL_inv {f : D → Store → Res (Option D)} {s : Src} (P : List D → List D → Store → Prop) {xs : List D} {M : Store} (h0 : P [] [] M) (hs : ∀ done out M, P done out M → s.ok M = true)
    (step : ∀ done x rest out M, xs = done ++ x :: rest → P done out M → ∃ y M', f x M = .ok (some y) M' ∧ P (done ++ [x]) (out ++ [y]) M') : ∃ out M', compL f s xs M = .ok out M' ∧ P xs out M' := by
  suffices H : ∀ (rest done out : List D) (M : Store), xs = done ++ rest → P done out M → ∃ out' M', compL f s rest M = .ok out' M' ∧ P xs (out ++ out') M' by
    obtain ⟨o, M', e, p⟩ := H xs [] [] M rfl h0
    exact ⟨o, M', e, p⟩
  intro rest
  induction rest with
  | nil =>
    intro done out M e p
    rw [List.append_nil] at e
    subst e
    exact ⟨[], M, by show (if s.ok M = true then _ else _) = _; rw [if_pos (hs _ _ _ p)], by rw [List.append_nil]; exact p⟩
  | cons x rest ih =>
    intro done out M e p
    obtain ⟨y, M1, e1, p1⟩ := step done x rest out M e p
    obtain ⟨o, M2, e2, p2⟩ := ih (done ++ [x]) (out ++ [y]) M1 (by rw [e, List.append_assoc]; rfl) p1
    refine ⟨y :: o, M2, ?_, by rw [List.append_assoc] at p2; exact p2⟩
    show (if s.ok M = true then (noEx (f x M)).bind _ else _) = _
    rw [if_pos (hs _ _ _ p), e1]
    show (compL f s rest M1).bind _ = _
    rw [e2]; rfl
end
/-! ### the pot -/
def potD (a b c : Int) : Cell := .lst [.int a, .int b, .int c]
/-- at i lies a pot from which n may still be taken -/
def Pot (n i : Nat) (M : Store) : Prop := ∃ a b c : Int, M[i]? = some (potD a b c) ∧ 0 ≤ a ∧ 0 ≤ b ∧ b < 2 ^ 64 ∧ 0 ≤ c ∧ c + n ≤ 2 ^ 30
theorem Pot.mono {n m i : Nat} {M : Store} (h : Pot n i M) (hm : m ≤ n) : Pot m i M := by
  obtain ⟨a, b, c, h1, h2, h3, h4, h5, h6⟩ := h
  exact ⟨a, b, c, h1, h2, h3, h4, h5, by omega⟩
theorem Pot.at {n i j : Nat} {M : Store} {c : Cell} (h : Pot n i M) (hj : j ≠ i) : Pot n i (M.set j c) := by
  obtain ⟨a, b, c', h1, h2⟩ := h
  exact ⟨a, b, c', by rw [List.getElem?_set_ne hj]; exact h1, h2⟩
theorem Pot.app {n i : Nat} {M N : Store} (h : Pot n i M) : Pot n i (M ++ N) := by
  obtain ⟨a, b, c', h1, h2⟩ := h
  have hi : i < M.length := (List.getElem?_eq_some_iff.mp h1).1
  exact ⟨a, b, c', by rw [List.getElem?_append_left hi]; exact h1, h2⟩
theorem Pot.lt {n i : Nat} {M : Store} (h : Pot n i M) : i < M.length := by
  obtain ⟨a, b, c', h1, h2⟩ := h
  exact (List.getElem?_eq_some_iff.mp h1).1
theorem natAbs_log {i : Int} (h : i.natAbs < 2 ^ 1000) : i.natAbs.log2 ≤ 1000 := by
  by_cases h0 : i.natAbs = 0
  · rw [h0]; decide
  · exact Nat.le_of_lt ((Nat.log2_lt h0).mpr h)
/-- what is taken: a number below u; the pot alone is another -/
def Takes1 (F : Fns) (f : Nat) : Prop := ∀ (n i : Nat) (M : Store) (u : Int), Pot (n + 1) i M → 0 < u → u < 2 ^ 64 → ∃ (x : Int) (p : Cell), 0 ≤ x ∧ x < u ∧ F f [.ref i, .int u] M = .ok (.int x) (M.set i p) ∧ Pot n i (M.set i p)
end PM

namespace PM
open PySem L2
section
variable {F : Fns} {G : List D}
abbrev tk10 (p1 p2 p3 p4 p5 A B m C q D1 : Int) : List MS := [.if_ (.cmp .gt (.ix (.var 0) (.c (.int 0))) (.c (.int 0))) [.asg (.nm 4) (.mod (.bi .int [.ix (.var 0) (.c (.int 0))]) (.var 1)), .setI (.var 0) (.c (.int 0)) (.fdiv (.ix (.var 0) (.c (.int 0))) (.var 1)), .ret (.var 4)] [],
  .setI (.var 0) (.c (.int 2)) (.add (.ix (.var 0) (.c (.int 2))) (.c (.int 1))),
  .asg (.nm 2) (.ix (.lst .frz [.c (.int p1), .c (.int p2), .c (.int p3), .c (.int p4), .c (.int p5)]) (.mod (.bi .int [.ix (.var 0) (.c (.int 2))]) (.c (.int 5)))),
  .asg (.nm 3) (.mod (.bi .int [.pow (.bi .int [.add (.add (.ix (.var 0) (.c (.int 1))) (.mul (.mul (.c (.int A)) (.ix (.var 0) (.c (.int 2)))) (.ix (.var 0) (.c (.int 2))))) (.c (.int B))]) (.c (.int 3))]) (.var 2)),
  .asg (.nm 3) (.mod (.bi .int [.mul (.var 3) (.add (.mod (.bi .int [.var 3]) (.c (.int m))) (.mul (.c (.int C)) (.ix (.var 0) (.c (.int 2)))))]) (.c (.int q))),
  .ret (.mod (.bi .int [.fdiv (.var 3) (.c (.int D1))]) (.var 1))]
theorem ix_ref0 {M : Store} {i : Nat} {a b c : Int} (h : M[i]? = some (potD a b c)) : ixD (.ref i) (.int 0) M = some (.int a) := by simp only [ixD, h]; rfl
theorem ix_ref1 {M : Store} {i : Nat} {a b c : Int} (h : M[i]? = some (potD a b c)) : ixD (.ref i) (.int 1) M = some (.int b) := by simp only [ixD, h]; rfl
theorem ix_ref2 {M : Store} {i : Nat} {a b c : Int} (h : M[i]? = some (potD a b c)) : ixD (.ref i) (.int 2) M = some (.int c) := by simp only [ixD, h]; rfl
theorem set_ref0 {M : Store} {i : Nat} {a b c x : Int} (h : M[i]? = some (potD a b c)) : setD (.ref i) (.int 0) (.int x) M = some (M.set i (potD x b c)) := by simp only [setD, h]; rfl
theorem set_ref2 {M : Store} {i : Nat} {a b c x : Int} (h : M[i]? = some (potD a b c)) : setD (.ref i) (.int 2) (.int x) M = some (M.set i (potD a b x)) := by simp only [setD, h]; rfl
theorem ixD_lst {ds : List D} {k : Int} {M : Store} : ixD (.lst ds) (.int k) M = atI ds k := rfl
theorem ixD_tup {ds : List D} {k : Int} {M : Store} : ixD (.tup ds) (.int k) M = atI ds k := rfl
theorem bi_int {i : Int} {M : Store} : bi .int [.int i] M = .ok (.int i) M := rfl
theorem addD_int {i j : Int} {M : Store} : addD (.int i) (.int j) M = some (.int (i + j)) := rfl
theorem subD_int {i j : Int} : subD (.int i) (.int j) = some (.int (i - j)) := rfl
theorem mulD_int {i j : Int} (h : mulOk i j = true) : mulD (.int i) (.int j) = some (.int (i * j)) := by simp only [mulD, h, if_true]
theorem fdivD_int {i j : Int} (h : divOk j = true) : fdivD (.int i) (.int j) = some (.int (i / j)) := by simp only [fdivD, h, if_true]
theorem modD_int {i j : Int} (h : 0 < j) : modD (.int i) (.int j) = some (.int (i % j)) := by simp only [modD, h, if_true]
theorem res_int {i : Int} {M : Store} : res (.int i) M = .int i := rfl
theorem small_of {i : Int} (h : -(2 ^ 64) < i) (h2 : i < 2 ^ 64) : small i = true := by simp only [small, decide_eq_true h, decide_eq_true h2, Bool.and_self]
theorem mulOk_l {i j : Int} (h : -(2 ^ 64) < i) (h2 : i < 2 ^ 64) : mulOk i j = true := by simp only [mulOk, small_of h h2, Bool.true_or]
theorem mulOk_r {i j : Int} (h : -(2 ^ 64) < j) (h2 : j < 2 ^ 64) : mulOk i j = true := by simp only [mulOk, small_of h h2, Bool.true_or, Bool.or_true]
theorem divOk64 {j : Int} (h : 0 < j) (h2 : j < 2 ^ 64) : divOk j = true := by
  have : j.natAbs.log2 < 64 := (Nat.log2_lt (by omega)).mpr (by omega)
  simp only [divOk, decide_eq_true h, Bool.true_and, decide_eq_true_eq]; omega
theorem get_set {M : Store} {i : Nat} {x y : Cell} (h : M[i]? = some x) : (M.set i y)[i]? = some y := by
  rw [List.getElem?_set_self (List.getElem?_eq_some_iff.mp h).1]
theorem b_take (p1 p2 p3 p4 p5 A B m C q D1 : Int) (hp : ∀ p ∈ [p1, p2, p3, p4, p5], 0 < p ∧ p < 2 ^ 31) (hA : 0 ≤ A ∧ A < 2 ^ 30) (hB : 0 ≤ B ∧ B < 2 ^ 30) (hm : 0 < m ∧ m < 2 ^ 30) (hC : 0 ≤ C ∧ C < 2 ^ 30) (hq : 0 < q ∧ q < 2 ^ 64) (hD : 0 < D1 ∧ D1 < 2 ^ 30)
    {n i : Nat} {M : Store} {u : Int} (h : Pot (n + 1) i M) (hu : 0 < u) (hu2 : u < 2 ^ 64) : ∃ (x : Int) (p : Cell), 0 ≤ x ∧ x < u ∧ evSs F G (tk10 p1 p2 p3 p4 p5 A B m C q D1) [some (.ref i), some (.int u), none, none, none] M = .ok (.ret (.int x)) (M.set i p) ∧ Pot n i (M.set i p) := by
  obtain ⟨a, b, c, hM, ha, hb, hb2, hc, hn⟩ := h
  by_cases h0 : 0 < a
  · refine ⟨a % u, potD (a / u) b c, Int.emod_nonneg _ (by omega), Int.emod_lt_of_pos _ hu, ?_, a / u, b, c, get_set hM, Int.ediv_nonneg ha (by omega), hb, hb2, hc, by omega⟩
    refine sIfR (x := .bl true) (M1 := M) ?_ rfl ?_
    · simp [evE, ix_ref0 hM, cmpD, ltI, h0]
    refine sAsg (x := .int (a % u)) (M1 := M) (env' := [some (.ref i), some (.int u), none, none, some (.int (a % u))]) ?_ rfl ?_
    · simp [evE, evEs, ix_ref0 hM, bi_int, modD_int hu]
    refine sNext (env' := [some (.ref i), some (.int u), none, none, some (.int (a % u))]) (M1 := M.set i (potD (a / u) b c)) ?_ (sRet rfl)
    simp [evS, evE, ix_ref0 hM, fdivD_int (divOk64 hu hu2), set_ref0 hM]
  · have a0 : a = 0 := by omega
    subst a0
    obtain ⟨p, hpp, hpx⟩ : ∃ p : Int, (0 < p ∧ p < 2 ^ 31) ∧ atI [D.int p1, D.int p2, D.int p3, D.int p4, D.int p5] ((c + 1) % 5) = some (.int p) := by
      have : (c + 1) % 5 = 0 ∨ (c + 1) % 5 = 1 ∨ (c + 1) % 5 = 2 ∨ (c + 1) % 5 = 3 ∨ (c + 1) % 5 = 4 := by omega
      rcases this with e | e | e | e | e <;> rw [e] <;> exact ⟨_, hp _ (by simp), rfl⟩
    have hM1 : (M.set i (potD 0 b (c + 1)))[i]? = some (potD 0 b (c + 1)) := get_set hM
    generalize hMM : M.set i (potD 0 b (c + 1)) = M1 at hM1
    let y := (b + A * (c + 1) * (c + 1) + B)
    let z := y ^ 3 % p
    let v := z * (z % m + C * (c + 1)) % q
    have k1 : 0 ≤ A * (c + 1) := Int.mul_nonneg hA.1 (by omega)
    have k2 : A * (c + 1) < 2 ^ 62 := by
      have : A * (c + 1) ≤ 2 ^ 30 * 2 ^ 31 := Int.mul_le_mul (by omega) (by omega) (by omega) (by omega)
      omega
    have k3 : 0 ≤ A * (c + 1) * (c + 1) := Int.mul_nonneg k1 (by omega)
    have k4 : A * (c + 1) * (c + 1) < 2 ^ 94 := by
      have : A * (c + 1) * (c + 1) ≤ 2 ^ 62 * 2 ^ 31 := Int.mul_le_mul (by omega) (by omega) (by omega) (by omega)
      omega
    have ky : 0 ≤ y ∧ y < 2 ^ 95 := ⟨by show 0 ≤ b + _ + B; omega, by show b + _ + B < _; omega⟩
    have kz : 0 ≤ z ∧ z < 2 ^ 31 := ⟨Int.emod_nonneg _ (by omega), Int.lt_trans (Int.emod_lt_of_pos _ hpp.1) hpp.2⟩
    have kv : 0 ≤ v := Int.emod_nonneg _ (by omega)
    refine ⟨v / D1 % u, potD 0 b (c + 1), Int.emod_nonneg _ (by omega), Int.emod_lt_of_pos _ hu, ?_, 0, b, c + 1, by rw [hMM]; exact hM1, Int.le_refl _, hb, hb2, by omega, by omega⟩
    refine sNo (M1 := M) ?_ (sNext (env' := [some (.ref i), some (.int u), none, none, none]) (M1 := M1) ?_ ?_)
    · simp [evE, ix_ref0 hM, cmpD, ltI]
    · simp [evS, evE, ix_ref2 hM, res_int, addD_int, set_ref2 hM, hMM]
    rw [hMM]
    refine sAsg (x := .int p) (M1 := M1) (env' := [some (.ref i), some (.int u), some (.int p), none, none]) ?_ rfl ?_
    · simp [evE, evEs, ix_ref2 hM1, bi_int, modD_int, lineOk, sizeLine, ixD_lst, hpx]
    have hpow : powD (.int y) (.int 3) = some (.int (y ^ 3)) := by
      have : y.natAbs < 2 ^ 3000 := Nat.lt_of_lt_of_le (show y.natAbs < 2 ^ 95 by omega) (Nat.pow_le_pow_right (by decide) (by decide))
      simp only [powD, this]; rfl
    refine sAsg (x := .int z) (M1 := M1) (env' := [some (.ref i), some (.int u), some (.int p), some (.int z), none]) ?_ rfl ?_
    · simp only [evE, evEs, List.getElem?_cons_zero, List.getElem?_cons_succ, Option.join_some, optR_some, ok_bind, ix_ref1 hM1, ix_ref2 hM1, mulD_int (mulOk_l (i := A) (j := c + 1) (by omega) (by omega)), mulD_int (mulOk_r (i := A * (c + 1)) (j := c + 1) (by omega) (by omega)), res_int, addD_int, bi_int]
      rw [show powD (.int (b + A * (c + 1) * (c + 1) + B)) (.int 3) = _ from hpow]
      simp only [optR_some, ok_bind, bi_int, modD_int hpp.1]; rfl
    refine sAsg (x := .int v) (M1 := M1) (env' := [some (.ref i), some (.int u), some (.int p), some (.int v), none]) ?_ rfl ?_
    · simp only [evE, evEs, List.getElem?_cons_zero, List.getElem?_cons_succ, Option.join_some, optR_some, ok_bind, ix_ref2 hM1, mulD_int (mulOk_l (i := C) (j := c + 1) (by omega) (by omega)), mulD_int (mulOk_l (i := z) (j := z % m + C * (c + 1)) (by omega) (by omega)), res_int, addD_int, bi_int, modD_int hm.1, modD_int hq.1]; rfl
    refine sRet ?_
    simp only [evE, evEs, List.getElem?_cons_zero, List.getElem?_cons_succ, Option.join_some, optR_some, ok_bind, fdivD_int (divOk64 hD.1 (by omega)), bi_int, modD_int hu]
end
end PM

set_option exponentiation.threshold 4000
namespace PM
open PySem L2
section
variable {F : Fns} {G : List D}
/-! ### the pot's making -/
abbrev pot10 (A B Kk E C P Q : Int) : List MS := [.asg (.nm 2) (.ife (.cmp .lt (.var 1) (.bi .len [.var 0])) (.ix (.var 0) (.var 1)) (.add (.mul (.c (.int A)) (.var 1)) (.c (.int B)))),
  .asg (.nm 3) (.mul (.mod (.bi .int [.bi .abs [.var 2]]) (.pow (.pow (.c (.int 10)) (.c (.int 60))) (.c (.int 5)))) (.bi .int [.cmp .ge (.bi .abs [.var 2]) (.pow (.c (.int 10)) (.c (.int 18)))])),
  .asg (.nm 4) (.mod (.bi .int [.var 2]) (.c (.int P))),
  .ret (.lst .cell [.var 3, .mod (.bi .int [.add (.add (.mul (.var 4) (.c (.int Kk))) (.mul (.mul (.c (.int E)) (.var 1)) (.var 1))) (.c (.int C))]) (.c (.int Q)), .c (.int 0)])]
theorem bi_len_scr {ns : List Int} {M : Store} : bi .len [.scr ns] M = .ok (.int ns.length) M := by simp [bi, seqOf]
theorem bi_len_tup {ds : List D} {M : Store} : bi .len [.tup ds] M = .ok (.int ds.length) M := rfl
theorem bi_len_lst {ds : List D} {M : Store} : bi .len [.lst ds] M = .ok (.int ds.length) M := rfl
theorem bi_abs {i : Int} {M : Store} : bi .abs [.int i] M = .ok (.int (absI i)) M := rfl
theorem bi_bl {b : Bool} {M : Store} : bi .int [.bl b] M = .ok (.int (if b then 1 else 0)) M := rfl
theorem cmp_lt {i j : Int} {M : Store} : cmpD .lt (.int i) (.int j) M = some (decide (i < j)) := rfl
theorem cmp_le {i j : Int} {M : Store} : cmpD .le (.int i) (.int j) M = some (decide (i ≤ j)) := rfl
theorem cmp_gt {i j : Int} {M : Store} : cmpD .gt (.int i) (.int j) M = some (decide (j < i)) := rfl
theorem cmp_ge {i j : Int} {M : Store} : cmpD .ge (.int i) (.int j) M = some (decide (j ≤ i)) := rfl
theorem tru_bl {b : Bool} {M : Store} : tru (.bl b) M = some b := rfl
theorem eVar {i : Nat} {env : EnvD} {M : Store} {d : D} (h : env[i]? = some (some d)) : evE F G (.var i) env M = .ok d M := by
  show optR (env[i]?).join M = _; rw [h]; rfl
theorem ixN_at {n k : Nat} (h : k < n) : ixN n (k : Int) = some k := by
  unfold ixN; rw [if_pos (by omega), if_pos (by omega)]; simp
theorem atI_nat {α : Type} {l : List α} {k : Nat} (h : k < l.length) : atI l (k : Int) = some l[k] := by
  unfold atI; rw [ixN_at h, Option.bind_some, List.getElem?_eq_getElem h]
theorem b_pot (A B Kk E C P Q : Int) (hA : 0 ≤ A ∧ A < 2 ^ 30) (hB : 0 ≤ B) (hK : 0 ≤ Kk ∧ Kk < 2 ^ 30) (hE : 0 ≤ E ∧ E < 2 ^ 30) (hP : 0 < P) (hQ : 0 < Q ∧ Q < 2 ^ 64)
    {ns : List Int} {pl : Nat} {M : Store} (hpl : pl < 2 ^ 30) : ∃ a b : Int, evSs F G (pot10 A B Kk E C P Q) [some (.scr ns), some (.int pl), none, none, none] M = .ok (.ret (.ref M.length)) (M ++ [potD a b 0]) ∧ 0 ≤ a ∧ 0 ≤ b ∧ b < 2 ^ 64 := by
  obtain ⟨c, hc⟩ : ∃ c : Int, evE F G (.ife (.cmp .lt (.var 1) (.bi .len [.var 0])) (.ix (.var 0) (.var 1)) (.add (.mul (.c (.int A)) (.var 1)) (.c (.int B)))) [some (.scr ns), some (.int pl), none, none, none] M = .ok (.int c) M := by
    by_cases h : pl < ns.length
    · refine ⟨ns[pl], ?_⟩
      have e : ixD (.scr ns) (.int pl) M = some (.int ns[pl]) := by
        show (atI ns (pl : Int)).map D.int = _
        rw [atI_nat h]; rfl
      simp [evE, evEs, bi_len_scr, cmp_lt, tru_bl, h, e]
    · refine ⟨A * pl + B, ?_⟩
      simp [evE, evEs, bi_len_scr, cmp_lt, tru_bl, h, mulD_int (mulOk_l (i := A) (j := (pl : Int)) (by omega) (by omega)), res_int, addD_int]
  have ha : 0 ≤ absI c := by unfold absI; split <;> omega
  have h1 : powD (.int 10) (.int 60) = some (.int (10 ^ 60)) := by decide +kernel
  have h2 : powD (.int (10 ^ 60)) (.int 5) = some (.int ((10 ^ 60) ^ 5)) := by decide +kernel
  have h3 : powD (.int 10) (.int 18) = some (.int (10 ^ 18)) := by decide +kernel
  let o : Int := absI c % (10 ^ 60) ^ 5 * (if decide ((10 : Int) ^ 18 ≤ absI c) = true then 1 else 0)
  have ho : 0 ≤ o := Int.mul_nonneg (Int.emod_nonneg _ (by decide +kernel)) (by split <;> decide)
  have hmul : mulOk (absI c % (10 ^ 60) ^ 5) (if decide ((10 : Int) ^ 18 ≤ absI c) = true then 1 else 0) = true := by
    by_cases h : (10 : Int) ^ 18 ≤ absI c
    · rw [if_pos (decide_eq_true h)]; exact mulOk_r (by decide) (by decide)
    · rw [if_neg (by simpa using h)]; exact mulOk_r (by decide) (by decide)
  refine ⟨o, (c % P * Kk + E * pl * pl + C) % Q, ?_, ho, Int.emod_nonneg _ (by omega), Int.lt_trans (Int.emod_lt_of_pos _ hQ.1) hQ.2⟩
  refine sAsg hc rfl ?_
  refine sAsg (x := .int o) (M1 := M) (env' := [some (.scr ns), some (.int pl), some (.int c), some (.int o), none]) ?_ rfl ?_
  · simp only [evE, evEs, List.set_cons_succ, List.set_cons_zero, List.getElem?_cons_zero, List.getElem?_cons_succ, Option.join_some, optR_some, ok_bind, bi_abs, bi_int, h1, h2, h3, cmp_ge, Option.map_some, bi_bl, modD_int (show (0 : Int) < (10 ^ 60) ^ 5 by decide +kernel), mulD_int hmul]
    rfl
  refine sAsg (x := .int (c % P)) (M1 := M) (env' := [some (.scr ns), some (.int pl), some (.int c), some (.int o), some (.int (c % P))]) ?_ rfl ?_
  · simp only [evE, evEs, List.getElem?_cons_zero, List.getElem?_cons_succ, Option.join_some, optR_some, ok_bind, bi_int, modD_int hP]
  refine sRet ?_
  have k1 : 0 ≤ E * pl := Int.mul_nonneg hE.1 (by omega)
  simp only [evE, evEs, List.getElem?_cons_zero, List.getElem?_cons_succ, Option.join_some, optR_some, ok_bind, bi_int, modD_int hQ.1, mulD_int (mulOk_r (i := c % P) (j := Kk) (by omega) (by omega)), mulD_int (mulOk_l (i := E) (j := (pl : Int)) (by omega) (by omega)), mulD_int (mulOk_r (i := E * pl) (j := (pl : Int)) (by omega) (by omega)), res_int, addD_int]
  rfl
/-! ### one of some -/
theorem pures_mem : ∀ {ds : List D} {d : D}, D.pures ds = true → d ∈ ds → d.pure = true
  | _ :: _, _, h, .head _ => (Bool.and_eq_true _ _ ▸ h : _ ∧ _).1
  | _ :: _, _, h, .tail _ m => pures_mem (Bool.and_eq_true _ _ ▸ h : _ ∧ _).2 m
theorem b_of1 {tk : Nat} {i : Nat} {M : Store} {ds : List D} {p : Cell} {k : Nat} (hk : k < ds.length) (e : F tk [.ref i, .int ds.length] M = .ok (.int k) (M.set i p)) :
    evSs F G [.ret (.ix (.var 1) (.call tk [.var 0, .bi .len [.var 1]]))] [some (.ref i), some (.tup ds)] M = .ok (.ret ds[k]) (M.set i p) := by
  refine sRet ?_
  simp only [evE, evEs, List.getElem?_cons_zero, List.getElem?_cons_succ, Option.join_some, optR_some, ok_bind, bi_len_tup, e, ixD_tup, atI_nat hk]
theorem b_of2 {tk : Nat} {i : Nat} {M : Store} {ds : List D} {p : Cell} {k : Nat} (hk : k < ds.length) (e : F tk [.ref i, .int ds.length] M = .ok (.int k) (M.set i p)) :
    evSs F G [.ret (.ix (.var 1) (.call tk [.var 0, .bi .len [.var 1]]))] [some (.ref i), some (.lst ds)] M = .ok (.ret ds[k]) (M.set i p) := by
  refine sRet ?_
  simp only [evE, evEs, List.getElem?_cons_zero, List.getElem?_cons_succ, Option.join_some, optR_some, ok_bind, bi_len_lst, e, ixD_lst, atI_nat hk]
theorem take_ix {tk : Nat} (ht : Takes1 F tk) {n i : Nat} {M : Store} {l : Nat} (h : Pot (n + 1) i M) (hp : 0 < l) (hl : (l : Int) < 2 ^ 64) :
    ∃ (k : Nat) (p : Cell), k < l ∧ F tk [.ref i, .int l] M = .ok (.int k) (M.set i p) ∧ Pot n i (M.set i p) := by
  obtain ⟨x, p, h0, h1, e, hq⟩ := ht n i M (l : Int) h (Int.natCast_pos.mpr hp) hl
  obtain ⟨k, rfl⟩ := Int.eq_ofNat_of_zero_le h0
  exact ⟨k, p, Int.ofNat_lt.mp h1, e, hq⟩
theorem rng_small {k : Nat} {M : Store} (h : k ≤ 16777216) : (Src.ok ⟨rangeD 0 k, []⟩ M && decide ((rangeD 0 k).length ≤ 16777216)) = true := by
  have h1 : (rangeD 0 k).length ≤ 16777216 := by rw [rangeD_len]; exact h
  rw [decide_eq_true h1]; rfl
theorem ofList_rng {e : ME} {env : EnvD} {M : Store} {k : Nat} (h : k ≤ 16777216) (he : evE F G e env M = .ok (.int k) M) : evE F G (.ofIt .listF (.rng1 e)) env M = .ok (.lst (rangeD 0 k)) M := by
  have hr : decide (-(2 ^ 60) < (k : Int) ∧ (k : Int) < 2 ^ 60) = true := decide_eq_true ⟨by omega, by omega⟩
  show (((evE F G e env M).bind _).bind _) = _
  rw [he, ok_bind]
  simp only [hr, if_true, ok_bind, Int.toNat_natCast, rng_small h]
theorem b_cells {lim : Nat} {ns : List Int} {M : Store} (h : lim < 1000) (hl : 1 ≤ lim) : ∃ k : Nat, k ≤ lim ∧ evSs F G [.ret (.ofIt .listF (.rng1 (.bi .max [.c (.int 1), .bi .min [.var 1, .bi .len [.var 0]]])))] [some (.scr ns), some (.int lim)] M = .ok (.ret (.lst (rangeD 0 k))) M := by
  obtain ⟨k, hk, e⟩ : ∃ k : Nat, k ≤ lim ∧ maxI 1 (minI lim ns.length) = k := ⟨(maxI 1 (minI lim ns.length)).toNat, by unfold maxI minI; split <;> split <;> omega, by unfold maxI minI; split <;> split <;> omega⟩
  refine ⟨k, hk, sRet ?_⟩
  have e1 : bi .min [.int lim, .int ns.length] M = .ok (.int (minI lim ns.length)) M := rfl
  have e2 : bi .max [.int 1, .int (minI lim ns.length)] M = .ok (.int (maxI 1 (minI lim ns.length))) M := rfl
  refine ofList_rng (Nat.le_trans hk (by omega)) ?_
  simp only [evE, evEs, List.getElem?_cons_zero, List.getElem?_cons_succ, Option.join_some, optR_some, ok_bind, bi_len_scr, e1, e2, e]
/-! ### integers within bounds -/
def btw (lo hi i : Int) : Bool := decide (lo ≤ i) && decide (i ≤ hi)
theorem b_int (i : Int) {M : Store} : evSs F G [.ret (.and [.bi (.isa .int) [.var 0], .not (.bi (.isa .bool) [.var 0])])] [some (.int i)] M = .ok (.ret (.bl true)) M := rfl
theorem b_btw {n : Nat} (i lo hi : Int) {M : Store} (h : F n [.int i] M = .ok (.bl true) M) : evSs F G [.ret (.and [.call n [.var 0], .chain .le .le (.var 1) (.var 0) (.var 2)])] [some (.int i), some (.int lo), some (.int hi)] M = .ok (.ret (.bl (btw lo hi i))) M := by
  refine sRet ?_
  simp only [evE, evEs, evAnd, List.getElem?_cons_zero, List.getElem?_cons_succ, Option.join_some, optR_some, ok_bind, h, tru_bl, cmp_le, if_true, Option.map_some]
  by_cases h1 : lo ≤ i <;> simp [btw, h1]
end
end PM

/-! PLd: comprehensions over lists given as images; the checks of votes and rules. -/
namespace PM
open PySem L2
section
variable {F : Fns} {G : List D}
theorem eBi1 {b : BI} {e : ME} {x : D} {env : EnvD} {M M1 : Store} (he : evE F G e env M = .ok x M1) : evE F G (.bi b [e]) env M = bi b [x] M1 := by
  show ((evE F G e env M).bind _).bind _ = _; rw [he]; rfl
theorem eBi2 {b : BI} {e f : ME} {x y : D} {env : EnvD} {M M1 M2 : Store} (he : evE F G e env M = .ok x M1) (hf : evE F G f env M1 = .ok y M2) : evE F G (.bi b [e, f]) env M = bi b [x, y] M2 := by
  show ((evE F G e env M).bind _).bind _ = _; rw [he, ok_bind]; show ((((evE F G f env M1).bind _).bind _).bind _) = _; rw [hf]; rfl
theorem eAndT {e e2 : ME} {es : List ME} {env : EnvD} {M M1 : Store} (he : evE F G e env M = .ok (.bl true) M1) : evE F G (.and (e :: e2 :: es)) env M = evE F G (.and (e2 :: es)) env M1 := by
  show (evE F G e env M).bind _ = _; rw [he]; rfl
theorem eAndF {e e2 : ME} {es : List ME} {env : EnvD} {M M1 : Store} (he : evE F G e env M = .ok (.bl false) M1) : evE F G (.and (e :: e2 :: es)) env M = .ok (.bl false) M1 := by
  show (evE F G e env M).bind _ = _; rw [he]; rfl
theorem eAnd1 {e : ME} {env : EnvD} {M : Store} : evE F G (.and [e]) env M = evE F G e env M := rfl
theorem eOrT {e e2 : ME} {es : List ME} {env : EnvD} {M M1 : Store} (he : evE F G e env M = .ok (.bl true) M1) : evE F G (.or (e :: e2 :: es)) env M = .ok (.bl true) M1 := by
  show (evE F G e env M).bind _ = _; rw [he]; rfl
theorem eOrF {e e2 : ME} {es : List ME} {env : EnvD} {M M1 : Store} (he : evE F G e env M = .ok (.bl false) M1) : evE F G (.or (e :: e2 :: es)) env M = evE F G (.or (e2 :: es)) env M1 := by
  show (evE F G e env M).bind _ = _; rw [he]; rfl
theorem eOr1 {e : ME} {env : EnvD} {M : Store} : evE F G (.or [e]) env M = evE F G e env M := rfl
theorem eNot {e : ME} {b : Bool} {env : EnvD} {M M1 : Store} (he : evE F G e env M = .ok (.bl b) M1) : evE F G (.not e) env M = .ok (.bl (!b)) M1 := by
  show (evE F G e env M).bind _ = _; rw [he]; rfl
theorem eCall {f : Nat} {es : List ME} {ds : List D} {env : EnvD} {M M1 : Store} (he : evEs F G es env M = .ok ds M1) : evE F G (.call f es) env M = F f ds M1 := by
  show (evEs F G es env M).bind _ = _; rw [he]; rfl
theorem esNil {env : EnvD} {M : Store} : evEs F G [] env M = .ok [] M := rfl
theorem esCons {e : ME} {es : List ME} {x : D} {ds : List D} {env : EnvD} {M M1 M2 : Store} (he : evE F G e env M = .ok x M1) (h : evEs F G es env M1 = .ok ds M2) : evEs F G (e :: es) env M = .ok (x :: ds) M2 := by
  show (evE F G e env M).bind _ = _; rw [he, ok_bind]; show (evEs F G es env M1).bind _ = _; rw [h]; rfl
theorem eTup {es : List ME} {ds : List D} {env : EnvD} {M M1 : Store} (he : evEs F G es env M = .ok ds M1) (hl : ds.length ≤ sizeLine) : evE F G (.tup es) env M = .ok (.tup ds) M1 := by
  show (evEs F G es env M).bind _ = _; rw [he, ok_bind]
  show (if lineOk ds.length = true then _ else _) = _
  rw [if_pos (by exact decide_eq_true hl)]
theorem eLst {es : List ME} {ds : List D} {env : EnvD} {M M1 : Store} (he : evEs F G es env M = .ok ds M1) (hl : ds.length ≤ sizeLine) : evE F G (.lst .frz es) env M = .ok (.lst ds) M1 := by
  show (evEs F G es env M).bind _ = _; rw [he, ok_bind]
  show (if lineOk ds.length = true then _ else _) = _
  rw [if_pos (by exact decide_eq_true hl)]
theorem eIx {a i : ME} {x y z : D} {env : EnvD} {M M1 M2 : Store} (ha : evE F G a env M = .ok x M1) (hi : evE F G i env M1 = .ok y M2) (h : ixD x y M2 = some z) : evE F G (.ix a i) env M = .ok z M2 := by
  show (evE F G a env M).bind _ = _; rw [ha, ok_bind]; show (evE F G i env M1).bind _ = _; rw [hi, ok_bind, h]; rfl
theorem eCmp {c : Cmp} {a b : ME} {x y : D} {r : Bool} {env : EnvD} {M M1 M2 : Store} (ha : evE F G a env M = .ok x M1) (hb : evE F G b env M1 = .ok y M2) (h : cmpD c x y M2 = some r) : evE F G (.cmp c a b) env M = .ok (.bl r) M2 := by
  show (evE F G a env M).bind _ = _; rw [ha, ok_bind]; show (evE F G b env M1).bind _ = _; rw [hb, ok_bind, h]; rfl
theorem eIf {t a b : ME} {c : Bool} {env : EnvD} {M M1 : Store} (ht : evE F G t env M = .ok (.bl c) M1) : evE F G (.ife t a b) env M = if c then evE F G a env M1 else evE F G b env M1 := by
  show (evE F G t env M).bind _ = _; rw [ht]; rfl
theorem eC {d : D} {env : EnvD} {M : Store} : evE F G (.c d) env M = .ok d M := rfl
theorem eGlo {x : Nat} {d : D} {env : EnvD} {M : Store} (h : G[x]? = some d) : evE F G (.glo x) env M = .ok d M := by
  show optR (G[x]?) M = _; rw [h]; rfl
def compF (F : Fns) (G : List D) (e : ME) (t : MT) (ifs : List ME) (env : EnvD) (own : List Nat) (x : D) (M : Store) : Res (Option D) := match stoT t x (wipeD env own) with
  | none => .no
  | some env' => (evIfs F G ifs env' M).bind fun b M => if b then (evE F G e env' M).bind fun y M => .ok (some y) M else .ok none M
theorem eComp {e : ME} {t : MT} {it : MIt} {ifs : List ME} {own : List Nat} {env : EnvD} {M M1 M2 : Store} {s : Src} {ds : List D} (hi : evIt F G it env M = .ok s M1) (hl : s.items.length ≤ sizeLine) (hc : compL (compF F G e t ifs env own) s s.items M1 = .ok ds M2) :
    evE F G (.comp .frz e t it ifs own) env M = .ok (.lst ds) M2 := by
  show (evIt F G it env M).bind _ = _
  rw [hi, ok_bind]
  show (compL (compF F G e t ifs env own) s s.items M1).bind _ = _
  rw [hc, ok_bind]
  show (if lineOk s.items.length = true then _ else _) = _
  rw [if_pos (by exact decide_eq_true hl)]
theorem compL_img {α : Type} {f : D → Store → Res (Option D)} {s : Src} {M : Store} (hs : s.ok M = true) {φ : α → D} {g : α → Option D} : ∀ {xs : List α}, (∀ x ∈ xs, f (φ x) M = .ok (g x) M) → compL f s (xs.map φ) M = .ok (xs.filterMap g) M
  | [], _ => by show (if s.ok M = true then _ else _) = _; rw [if_pos hs]; rfl
  | x :: xs, h => by
    have ih := compL_img (f := f) (s := s) (φ := φ) (g := g) hs (fun y hy => h y (List.mem_cons_of_mem x hy))
    show (if s.ok M = true then (noEx (f (φ x) M)).bind _ else _) = _
    rw [if_pos hs, h x List.mem_cons_self]
    show (compL f s (xs.map φ) M).bind _ = _
    rw [ih]
    cases hg : g x <;> simp [hg]
/-- [e for t in it], the items being images -/
theorem eMap {α : Type} {e : ME} {t : MT} {it : MIt} {own : List Nat} {env : EnvD} {M : Store} {st : List (Nat × Cell)} (xs : List α) (φ ψ : α → D) (hi : evIt F G it env M = .ok ⟨xs.map φ, st⟩ M) (hs : Src.ok ⟨xs.map φ, st⟩ M = true) (hl : xs.length ≤ sizeLine)
    (h : ∀ x ∈ xs, ∃ env', stoT t (φ x) (wipeD env own) = some env' ∧ evE F G e env' M = .ok (ψ x) M) : evE F G (.comp .frz e t it [] own) env M = .ok (.lst (xs.map ψ)) M := by
  have := eComp (e := e) (t := t) (ifs := []) (own := own) (M2 := M) (ds := xs.filterMap fun x => some (ψ x)) hi (by show (xs.map φ).length ≤ _; rw [List.length_map]; exact hl) (compL_img hs fun x hx => by
    obtain ⟨env', h1, h2⟩ := h x hx
    unfold compF; rw [h1]; show (Res.ok true M).bind _ = _; rw [ok_bind]; show (evE F G e env' M).bind _ = _; rw [h2]; rfl)
  rw [this]; simp
theorem fm_if {α β : Type} (q : α → Bool) (ψ : α → β) : ∀ xs : List α, xs.filterMap (fun x => if q x then some (ψ x) else none) = (xs.filter q).map ψ
  | [] => rfl
  | x :: xs => by
    have ih := fm_if q ψ xs
    cases hq : q x <;> simp [hq, ih]
/-- [e for t in it if c] -/
theorem eFil {α : Type} {e c : ME} {t : MT} {it : MIt} {own : List Nat} {env : EnvD} {M : Store} {st : List (Nat × Cell)} (xs : List α) (φ ψ : α → D) (q : α → Bool) (hi : evIt F G it env M = .ok ⟨xs.map φ, st⟩ M) (hs : Src.ok ⟨xs.map φ, st⟩ M = true) (hl : xs.length ≤ sizeLine)
    (h : ∀ x ∈ xs, ∃ env', stoT t (φ x) (wipeD env own) = some env' ∧ evE F G c env' M = .ok (.bl (q x)) M ∧ evE F G e env' M = .ok (ψ x) M) : evE F G (.comp .frz e t it [c] own) env M = .ok (.lst ((xs.filter q).map ψ)) M := by
  have := eComp (e := e) (t := t) (ifs := [c]) (own := own) (M2 := M) (ds := xs.filterMap fun x => if q x then some (ψ x) else none) hi (by show (xs.map φ).length ≤ _; rw [List.length_map]; exact hl) (compL_img hs fun x hx => by
    obtain ⟨env', h1, h2, h3⟩ := h x hx
    unfold compF; rw [h1]
    show ((((evE F G c env' M).bind fun x M => (optR (tru x M) M).bind fun b M => if b then evIfs F G [] env' M else .ok false M)).bind _) = _
    rw [h2, ok_bind, tru_bl, optR_some, ok_bind]
    cases hq : q x
    · rfl
    · show (Res.ok true M).bind _ = _; rw [ok_bind]; show (evE F G e env' M).bind _ = _; rw [h3]; rfl)
  rw [this, fm_if]
theorem it_tup {e : ME} {env : EnvD} {M : Store} {ds : List D} (h : evE F G e env M = .ok (.tup ds) M) : evIt F G (.seq e) env M = .ok ⟨ds, []⟩ M := by
  show (evE F G e env M).bind _ = _; rw [h]; rfl
theorem it_lst {e : ME} {env : EnvD} {M : Store} {ds : List D} (h : evE F G e env M = .ok (.lst ds) M) : evIt F G (.seq e) env M = .ok ⟨ds, []⟩ M := by
  show (evE F G e env M).bind _ = _; rw [h]; rfl
theorem it_rng {e : ME} {env : EnvD} {M : Store} {k : Nat} (hk : k < 2 ^ 60) (h : evE F G e env M = .ok (.int k) M) : evIt F G (.rng1 e) env M = .ok ⟨rangeD 0 k, []⟩ M := by
  show (evE F G e env M).bind _ = _; rw [h, ok_bind]
  have hr : decide (-(2 ^ 60) < (k : Int) ∧ (k : Int) < 2 ^ 60) = true := decide_eq_true ⟨by omega, by omega⟩
  simp only [hr, if_true, Int.toNat_natCast]
theorem rangeD0 (k : Nat) : rangeD 0 k = (List.range k).map fun (i : Nat) => D.int (i : Int) := by unfold rangeD; simp
theorem it_zip {es : List ME} {env : EnvD} {M : Store} {a b : List D} (h : evEs F G es env M = .ok [.tup a, .tup b] M) : evIt F G (.zip es) env M = .ok ⟨(a.zip b).map fun p => .tup [p.1, p.2], []⟩ M := by
  show (evEs F G es env M).bind _ = _; rw [h, ok_bind]
  show Res.ok (Src.mk ((zipD [a, b]).map D.tup) _) M = _
  congr 2
  show (List.zipWith _ a (b.map fun x => [x])).map D.tup = _
  rw [List.zip, List.map_zipWith, List.map_zipWith, List.zipWith_map_right]
/-! ### all and any -/
theorem bls_map : ∀ l : List Bool, blsOf (l.map D.bl) = some l
  | [] => rfl
  | b :: l => by show (blsOf (l.map D.bl)).map (b :: ·) = _; rw [bls_map l]; rfl
theorem ints_map : ∀ l : List Int, intsOf (l.map D.int) = some l
  | [] => rfl
  | b :: l => by show (intsOf (l.map D.int)).map (b :: ·) = _; rw [ints_map l]; rfl
theorem bi_all {α : Type} {l : List α} {q : α → Bool} {M : Store} : bi .all [.lst (l.map fun x => D.bl (q x))] M = .ok (.bl (l.all q)) M := by
  have e : blsOf (l.map fun x => D.bl (q x)) = some (l.map q) := by rw [← bls_map, List.map_map]; rfl
  show optR ((blsOf (l.map fun x => D.bl (q x))).map fun bs => D.bl (bs.all id)) M = _
  rw [e]; show Res.ok (D.bl ((l.map q).all id)) M = _; rw [List.all_map]; rfl
theorem bi_any {α : Type} {l : List α} {q : α → Bool} {M : Store} : bi .any [.lst (l.map fun x => D.bl (q x))] M = .ok (.bl (l.any q)) M := by
  have e : blsOf (l.map fun x => D.bl (q x)) = some (l.map q) := by rw [← bls_map, List.map_map]; rfl
  show optR ((blsOf (l.map fun x => D.bl (q x))).map fun bs => D.bl (bs.any id)) M = _
  rw [e]; show Res.ok (D.bl ((l.map q).any id)) M = _; rw [List.any_map]; rfl
theorem bi_sum {l : List Int} {M : Store} : bi .sum [.tup (l.map D.int)] M = .ok (.int l.sum) M := by
  show optR (((intsOf (l.map D.int))).map fun ns => D.int ns.sum) M = _
  rw [ints_map]; rfl
/-! ### the checks -/
theorem b_areBtw {n : Nat} {vs : List Int} {lo hi : Int} {M : Store} (hl : vs.length ≤ sizeLine) (h : ∀ v : Int, F n [.int v, .int lo, .int hi] M = .ok (.bl (btw lo hi v)) M) :
    evSs F G [.ret (.and [.bi (.isa .tup) [.var 0], .bi .all [.comp .frz (.call n [.var 3, .var 1, .var 2]) (.nm 3) (.seq (.var 0)) [] [3]]])] [some (tupI vs), some (.int lo), some (.int hi), none] M = .ok (.ret (.bl (vs.all (btw lo hi)))) M := by
  have hc := eMap (F := F) (G := G) (e := .call n [.var 3, .var 1, .var 2]) (t := .nm 3) (own := [3]) (env := [some (tupI vs), some (.int lo), some (.int hi), none]) vs D.int (fun v => D.bl (btw lo hi v)) (it_tup (e := .var 0) (eVar (d := tupI vs) rfl)) (M := M) rfl hl fun v _ => ⟨[some (tupI vs), some (.int lo), some (.int hi), some (.int v)], rfl, by
    simp only [evE, evEs, List.getElem?_cons_zero, List.getElem?_cons_succ, Option.join_some, optR_some, ok_bind, h v]⟩
  have h1 : bi (.isa .tup) [tupI vs] M = .ok (.bl true) M := rfl
  refine sRet ?_
  rw [eAndT ((eBi1 (eVar rfl)).trans h1), eAnd1, eBi1 hc, bi_all]
def ascB (l : List Int) : Bool := (l.zip l.tail).all fun p => decide (p.1 < p.2)
theorem cut_tail (l : List D) : cutD l (some 1) none = l.tail := by
  unfold cutD HT.sIx
  cases l with
  | nil => rfl
  | cons x l => simp
theorem b_asc {vs : List Int} {M : Store} (hl : vs.length ≤ sizeLine) :
    evSs F G [.ret (.bi .all [.comp .frz (.cmp .lt (.var 1) (.var 2)) (.tp [.nm 1, .nm 2]) (.zip [.var 0, .sl (.var 0) (some (.c (.int 1))) none]) [] [1, 2]])] [some (tupI vs), none, none] M = .ok (.ret (.bl (ascB vs))) M := by
  have hz : evIt F G (.zip [.var 0, .sl (.var 0) (some (.c (.int 1))) none]) [some (tupI vs), none, none] M = .ok ⟨(vs.zip vs.tail).map fun p => D.tup [.int p.1, .int p.2], []⟩ M := by
    have := it_zip (F := F) (G := G) (es := [.var 0, .sl (.var 0) (some (.c (.int 1))) none]) (env := [some (tupI vs), none, none]) (M := M) (a := vs.map D.int) (b := (vs.map D.int).tail) (by
      simp only [evEs, evE, evO, List.getElem?_cons_zero, Option.join_some, optR_some, ok_bind, tupI, slD, cut_tail])
    rw [this, ← List.map_tail, List.zip_map, List.map_map]; rfl
  have hc := eMap (F := F) (G := G) (e := .cmp .lt (.var 1) (.var 2)) (t := .tp [.nm 1, .nm 2]) (own := [1, 2]) (vs.zip vs.tail) (fun p => D.tup [.int p.1, .int p.2]) (fun p => D.bl (decide (p.1 < p.2))) hz (M := M) rfl (by rw [List.length_zip]; exact Nat.le_trans (Nat.min_le_left _ _) hl) fun v _ => ⟨[some (tupI vs), some (.int v.1), some (.int v.2)], rfl, rfl⟩
  refine sRet ?_
  rw [eBi1 hc, bi_all]; rfl
/-! ### loops over images -/
theorem forL_img {α : Type} {φ : α → D} {f : D → EnvD → Store → Res Flw} {s : Src} (P : List α → EnvD → Store → Prop) {xs : List α} {env : EnvD} {M : Store} (h0 : P [] env M) (hs : ∀ done env M, P done env M → s.ok M = true)
    (step : ∀ done x rest env M, xs = done ++ x :: rest → P done env M → ∃ env' M', f (φ x) env M = .ok (.next env') M' ∧ P (done ++ [x]) env' M') : ∃ env' M', forL f s (xs.map φ) env M = .ok (.next env') M' ∧ P xs env' M' := by
  suffices H : ∀ (rest done : List α) (env : EnvD) (M : Store), xs = done ++ rest → P done env M → ∃ env' M', forL f s (rest.map φ) env M = .ok (.next env') M' ∧ P xs env' M' from H xs [] env M rfl h0
  intro rest
  induction rest with
  | nil =>
    intro done env M e p
    rw [List.append_nil] at e
    subst e
    exact ⟨env, M, by show (if s.ok M = true then _ else _) = _; rw [if_pos (hs _ _ _ p)], p⟩
  | cons x rest ih =>
    intro done env M e p
    obtain ⟨env1, M1, e1, p1⟩ := step done x rest env M e p
    obtain ⟨env2, M2, e2, p2⟩ := ih (done ++ [x]) env1 M1 (by rw [e, List.append_assoc]; rfl) p1
    exact ⟨env2, M2, by show (if s.ok M = true then _ else _) = _; rw [if_pos (hs _ _ _ p), e1]; exact e2, p2⟩
theorem sForK {t : MT} {i : Nat} {b : List MS} {env env' : EnvD} {M M2 : Store} {ss : List MS} {r : Res Flw} {n : Nat} {kvs : List (Key × D)} (hi : env[i]? = some (some (.ref n))) (hM : M[n]? = some (.dK false kvs))
    (hl : forL (forF F G t b) ⟨kvs.map fun (p : Key × D) => kD p.1, [(n, .dK true kvs)]⟩ (kvs.map fun (p : Key × D) => kD p.1) env (M.set n (.dK true kvs)) = .ok (.next env') M2) (hk : M2[n]? = some (.dK true kvs)) (h2 : evSs F G ss env' (M2.set n (.dK false kvs)) = r) : evSs F G (.forK t i b :: ss) env M = r := by
  refine sNext (M1 := M2.set n (.dK false kvs)) (env' := env') ?_ h2
  have hd : dictAt (env[i]?).join M = some (n, kvs) := by rw [hi]; simp only [Option.join_some, dictAt, hM]
  show (match dictAt (env[i]?).join M with
    | none => Res.no
    | some (n, kvs) => lockR n kvs (forL (forF F G t b) ⟨kvs.map fun (p : Key × D) => kD p.1, [(n, .dK true kvs)]⟩ (kvs.map fun (p : Key × D) => kD p.1) env (M.set n (.dK true kvs)))) = _
  rw [hd]
  show lockR n kvs _ = _
  rw [hl]; show (if M2[n]? = some (.dK true kvs) then _ else _) = _; rw [if_pos hk]
/-! ### counters by number -/
def kvsOf (E : List Nat) (h : Nat → Nat) : List (Key × D) := E.map fun (p : Nat) => (Sum.inl (p : Int), D.int (h p : Int))
theorem kvs_val {E : List Nat} {h : Nat → Nat} {p : Nat} (hp : p ∈ E) : valOf (kvsOf E h) (Sum.inl (p : Int)) = some (D.int (h p)) := by
  unfold valOf kvsOf
  induction E with
  | nil => cases hp
  | cons q E ih =>
    by_cases e : q = p
    · subst e; simp
    · have e2 : ¬ ((Sum.inl (q : Int) : Key) = Sum.inl (p : Int)) := by intro z; cases z; exact e rfl
      rw [List.map_cons, List.find?_cons_of_neg (by simpa using e2)]
      exact ih (by cases hp; exact absurd rfl e; assumption)
theorem kvs_put {E : List Nat} {h : Nat → Nat} {p v : Nat} (hp : p ∈ E) : putOf (kvsOf E h) (Sum.inl (p : Int)) (.int v) = kvsOf E (fun q => if q = p then v else h q) := by
  have hany : ((kvsOf E h).any fun kv => decide (kv.1 = (Sum.inl (p : Int) : Key))) = true := by
    rw [List.any_eq_true]; exact ⟨_, List.mem_map.mpr ⟨p, hp, rfl⟩, by simp⟩
  unfold putOf; rw [if_pos hany]
  unfold kvsOf
  rw [List.map_map]
  apply List.map_congr_left
  intro q hq
  by_cases e : q = p
  · subst e; simp
  · have e2 : ¬ ((Sum.inl (q : Int) : Key) = Sum.inl (p : Int)) := by intro z; cases z; exact e rfl
    simp only [Function.comp_apply]; rw [if_neg e2, if_neg e]
theorem kvs_new {E : List Nat} {h : Nat → Nat} {p : Nat} (hp : p ∉ E) : putOf (kvsOf E h) (Sum.inl (p : Int)) (.int (h p)) = kvsOf (E ++ [p]) h := by
  have hany : ¬ ((kvsOf E h).any fun kv => decide (kv.1 = (Sum.inl (p : Int) : Key))) = true := by
    rw [List.any_eq_true]
    rintro ⟨kv, hm, e⟩
    obtain ⟨q, hq, rfl⟩ := List.mem_map.mp hm
    have e := of_decide_eq_true e
    cases e; exact hp hq
  unfold putOf; rw [if_neg hany]
  unfold kvsOf; rw [List.map_append]; rfl
/-- {p: h p for p in range(n) if q p} -/
theorem compD_img {f : D → Store → Res (Option (D × D))} {s : Src} {M : Store} (hs : s.ok M = true) (h : Nat → Nat) (q : Nat → Bool) : ∀ {xs E : List Nat}, (∀ x ∈ xs, f (.int x) M = .ok (if q x then some (.int x, .int (h x)) else none) M) → (E ++ xs).Nodup → (E ++ xs).length < sizeLine →
    compD f s (xs.map fun (x : Nat) => D.int (x : Int)) (kvsOf E h) M = .ok (kvsOf (E ++ xs.filter q) h) M
  | [], E, _, _, _ => by
    show (if s.ok M = true then _ else _) = _; rw [if_pos hs]; simp
  | x :: xs, E, hf, nd, hl => by
    show (if s.ok M = true then (noEx (f (.int x) M)).bind _ else _) = _
    rw [if_pos hs, hf x List.mem_cons_self]
    cases hq : q x
    · show compD f s (xs.map _) (kvsOf E h) M = _
      rw [compD_img hs h q (fun y hy => hf y (List.mem_cons_of_mem x hy)) (nd.sublist (by simp)) (by simp at hl ⊢; omega)]
      simp [hq]
    · have hx : x ∉ E := by
        have := List.nodup_append.mp nd
        exact fun hm => this.2.2 x hm x List.mem_cons_self rfl
      have hlen : (kvsOf E h).length < sizeLine := by unfold kvsOf; rw [List.length_map]; simp at hl; omega
      show (if (true && decide ((kvsOf E h).length < sizeLine)) = true then compD f s (xs.map _) (putOf (kvsOf E h) (Sum.inl (x : Int)) (.int (h x))) M else .no) = _
      rw [decide_eq_true hlen]
      show compD f s (xs.map _) (putOf (kvsOf E h) (Sum.inl (x : Int)) (.int (h x))) M = _
      rw [kvs_new hx, compD_img hs h q (fun y hy => hf y (List.mem_cons_of_mem x hy)) (by rw [List.append_assoc]; exact nd) (by simp at hl ⊢; omega)]
      simp [hq]
end
end PM

/-! PLe: while loops. -/
namespace PM
open PySem L2
theorem whN_more {t : EnvD → Store → Res Bool} {f : EnvD → Store → Res Flw} : ∀ {n : Nat} {env : EnvD} {M : Store}, (whN t f n env M).some? → ∀ m, whN t f (n + m) env M = whN t f n env M
  | 0, _, _, h, _ => h.elim
  | n + 1, env, M, h, m => by
    rw [Nat.add_right_comm]
    unfold whN at h ⊢
    cases ht : t env M with
    | ok b M1 =>
      rw [ht, ok_bind] at h
      rw [ok_bind, ok_bind]
      cases b with
      | false => rfl
      | true =>
        simp only [if_true] at h ⊢
        cases hf : f env M1 with
        | ok r M2 =>
          rw [hf, ok_bind] at h
          rw [ok_bind, ok_bind]
          cases r with
          | next env' => exact whN_more (n := n) h m
          | cnt env' => exact whN_more (n := n) h m
          | brk env' => rfl
          | ret d => rfl
        | ex c v M2 => rfl
        | no => rfl
    | ex c v M1 => rfl
    | no => rfl
theorem whL_eq {t : EnvD → Store → Res Bool} {f : EnvD → Store → Res Flw} {n : Nat} {env : EnvD} {M : Store} {r : Res Flw} (h : whN t f n env M = r) (hr : r.some?) : whL t f env M = r := by
  have hx : ∃ n, (whN t f n env M).some? := ⟨n, by rw [h]; exact hr⟩
  unfold whL
  rw [dif_pos hx]
  have h1 := whN_more hx.choose_spec n
  have h2 := whN_more (n := n) (by rw [h]; exact hr) hx.choose
  rw [← h1, Nat.add_comm, h2, h]
section
variable {F : Fns} {G : List D} {env env' : EnvD} {M M2 : Store} {ss : List MS} {r : Res Flw}
theorem sWhile {t : ME} {b : List MS} {n : Nat} (h : whN (fun env M => (evE F G t env M).bind fun x M => optR (tru x M) M) (fun env M => evSs F G b env M) n env M = .ok (.next env') M2) (h2 : evSs F G ss env' M2 = r) : evSs F G (.while_ t b :: ss) env M = r :=
  sNext (whL_eq h trivial) h2
end
end PM

/-! PLf: == over lists and tuples of integers. -/
namespace PM
open PySem L2
theorem pys_ints : ∀ l : List Int, D.pys (l.map D.int) = l.map PyData.int
  | [] => rfl
  | _ :: l => by show _ :: D.pys (l.map D.int) = _; rw [pys_ints l]; rfl
theorem lay_ints : ∀ l : List Int, PyData.canLayAll0 (l.map PyData.int) = true
  | [] => by simp [PyData.canLayAll0]
  | x :: l => by simp [PyData.canLayAll0, PyData.canLay0, lay_ints l]
theorem depth_ints : ∀ l : List Int, PyData.depthAll (l.map PyData.int) = 0
  | [] => by simp [PyData.depthAll]
  | x :: l => by simp [PyData.depthAll, PyData.depth, depth_ints l]
theorem eqvAll_ints : ∀ a b : List Int, PyData.eqvAll (a.map PyData.int) (b.map PyData.int) = decide (a = b)
  | [], [] => rfl
  | [], y :: b => by simp [PyData.eqvAll]
  | x :: a, [] => by simp [PyData.eqvAll]
  | x :: a, y :: b => by
    have ih := eqvAll_ints a b
    simp only [List.map_cons, PyData.eqvAll, PyData.eqv, ih]
    by_cases h : x = y <;> by_cases h2 : a = b <;> simp [h, h2]
theorem pures_ints' : ∀ l : List Int, D.pures (l.map D.int) = true
  | [] => rfl
  | _ :: l => pures_ints' l
theorem eqOk_lst (l : List Int) : eqOk (.lst (l.map D.int)) = true := by
  have h1 : (D.lst (l.map D.int)).pure = true := pures_ints' l
  have h2 : (D.lst (l.map D.int)).py = .list (l.map PyData.int) := by show PyData.list (D.pys (l.map D.int)) = _; rw [pys_ints]
  unfold eqOk; rw [h1, h2]; simp [SeqAt.shaped, PyData.canLay0, PyData.depth, lay_ints, depth_ints]
theorem eqOk_tup (l : List Int) : eqOk (tupI l) = true := by
  have h1 : (tupI l).pure = true := pures_ints' l
  have h2 : (tupI l).py = .tuple (l.map PyData.int) := by show PyData.tuple (D.pys (l.map D.int)) = _; rw [pys_ints]
  unfold eqOk; rw [h1, h2]; simp [SeqAt.shaped, PyData.canLay0, PyData.depth, lay_ints, depth_ints]
theorem eq_lsts (a b : List Int) : eqD (.lst (a.map D.int)) (.lst (b.map D.int)) = some (decide (a = b)) := by
  unfold eqD; rw [eqOk_lst, eqOk_lst, if_pos (by rfl)]
  congr 1
  show PyData.eqvAll (D.pys (a.map D.int)) (D.pys (b.map D.int)) = _
  rw [pys_ints, pys_ints, eqvAll_ints]
theorem eq_tups (a b : List Int) : eqD (tupI a) (tupI b) = some (decide (a = b)) := by
  unfold eqD; rw [eqOk_tup, eqOk_tup, if_pos (by rfl)]
  congr 1
  show PyData.eqvAll (D.pys (a.map D.int)) (D.pys (b.map D.int)) = _
  rw [pys_ints, pys_ints, eqvAll_ints]
end PM

/-! PLg: what repr takes. -/
namespace PM
open PySem L2
/-- no sign beyond the last -/
def Fre (x : PyData) : Prop := ∀ k, 0x110000 ≤ k → k ∉ x.shown.cps.toList
theorem fre_int (i : Int) : Fre (.int i) := fun k hk => PyProof.Rows.shown_int_free' (by omega) i
theorem fre_non : Fre .none := fun k hk => by
  rw [PyData.shown_none]
  have e : (("None" : String) : Str).cps.toList = [78, 111, 110, 101] := by decide
  rw [e]; intro hm; simp only [List.mem_cons, List.not_mem_nil, or_false] at hm
  rcases hm with h | h | h | h <;> omega
theorem fre_tup {xs : List PyData} (h : ∀ x ∈ xs, Fre x) : Fre (.tuple xs) := fun k hk => by
  have hf := PyProof.Rows.shownAll_free (k := k) fun x hx => h x hx k hk
  rw [PyData.shown_tuple, PyProof.Rows.mem_cps_append, PyProof.Rows.mem_cps_append, PyProof.Rows.signs_lparen, PyProof.Rows.mem_join, PyProof.Rows.signs_tuple_end]
  rintro ((hm | (⟨t, ht, hc⟩ | ⟨hl, hm⟩)) | hm)
  · simp only [List.mem_cons, List.not_mem_nil, or_false] at hm; omega
  · exact hf t ht hc
  · rw [PyProof.Rows.signs_sep] at hm; simp only [List.mem_cons, List.not_mem_nil, or_false] at hm; omega
  · split at hm <;> (simp only [List.mem_cons, List.not_mem_nil, or_false] at hm; omega)
structure Rp (n k : Nat) (d : D) : Prop where
  nd : d.py.hasDict = false
  fr : Fre d.py
  pu : d.pure = true
  sh : d.py.showable = true
  le : d.py.leavesShort 700 = true
  bu : d.py.bulk ≤ n
  de : d.py.depth ≤ k
structure Rps (n k : Nat) (ds : List D) : Prop where
  nd : PyData.hasDictAll (D.pys ds) = false
  fr : ∀ x ∈ D.pys ds, Fre x
  pu : D.pures ds = true
  sh : PyData.showableAll (D.pys ds) = true
  le : PyData.leavesShortAll 700 (D.pys ds) = true
  bu : PyData.bulkAll (D.pys ds) ≤ n
  de : PyData.depthAll (D.pys ds) ≤ k
theorem rp_non : Rp 0 0 .non := ⟨rfl, fre_non, rfl, by simp [D.py, PyData.showable], by simp [D.py, PyData.leavesShort], by simp [D.py, PyData.bulk], by simp [D.py, PyData.depth]⟩
theorem rp_int {i : Int} (h1 : -999999999999 ≤ i) (h2 : i ≤ 999999999999) : Rp 0 0 (.int i) := by
  have hl := PyData.shown_int_le2 h1 h2
  have : i.natAbs.log2 < 1920 := by
    by_cases h0 : i.natAbs = 0
    · rw [h0]; decide
    · exact Nat.lt_trans ((Nat.log2_lt h0).mpr (show i.natAbs < 2 ^ 40 by omega)) (by decide)
  exact ⟨rfl, fre_int i, rfl, by simp [D.py, PyData.showable, this], by simp only [D.py, PyData.leavesShort, decide_eq_true_eq]; omega, by simp [D.py, PyData.bulk], by simp [D.py, PyData.depth]⟩
theorem rps_nil : Rps 0 0 [] := ⟨rfl, fun _ h => (by cases h), rfl, by simp [D.pys, PyData.showableAll], by simp [D.pys, PyData.leavesShortAll], by simp [D.pys, PyData.bulkAll], by simp [D.pys, PyData.depthAll]⟩
theorem rps_cons {a b k l n m : Nat} {d : D} {ds : List D} (h : Rp a k d) (t : Rps b l ds) (hn : a + 1 + b ≤ n) (hk : k ≤ m) (hl : l ≤ m) : Rps n m (d :: ds) := by
  have e : D.pys (d :: ds) = d.py :: D.pys ds := rfl
  refine ⟨by show (d.py.hasDict || PyData.hasDictAll (D.pys ds)) = false; rw [h.nd, t.nd]; rfl, fun x hx => by
    rw [e] at hx
    rcases List.mem_cons.mp hx with rfl | hx
    · exact h.fr
    · exact t.fr x hx, by show (d.pure && D.pures ds) = true; rw [h.pu, t.pu]; rfl, ?_, ?_, ?_, ?_⟩
  · rw [e]; simp only [PyData.showableAll, h.sh, t.sh, Bool.and_self]
  · rw [e]; simp only [PyData.leavesShortAll, h.le, t.le, Bool.and_self]
  · rw [e]; simp only [PyData.bulkAll]; have := h.bu; have := t.bu; omega
  · rw [e]; simp only [PyData.depthAll]; have := h.de; have := t.de; omega
theorem rp_tup {n k : Nat} {ds : List D} (h : Rps n k ds) : Rp n (k + 1) (.tup ds) := by
  have e : (D.tup ds).py = .tuple (D.pys ds) := rfl
  refine ⟨h.nd, by rw [e]; exact fre_tup h.fr, h.pu, ?_, ?_, ?_, ?_⟩
  · rw [e]; simp only [PyData.showable]; exact h.sh
  · rw [e]; simp only [PyData.leavesShort]; exact h.le
  · rw [e]; simp only [PyData.bulk]; exact h.bu
  · rw [e]; simp only [PyData.depth]; have := h.de; omega
theorem rps_ints {l : List Int} (h : ∀ i ∈ l, -999999999999 ≤ i ∧ i ≤ 999999999999) : Rps l.length 0 (l.map D.int) := by
  induction l with
  | nil => exact rps_nil
  | cons i l ih =>
    have hi := h i List.mem_cons_self
    exact rps_cons (rp_int hi.1 hi.2) (ih fun j hj => h j (List.mem_cons_of_mem i hj)) (by rw [List.length_cons]; omega) (Nat.le_refl _) (Nat.le_refl _)
theorem rp_ok {n k : Nat} {d : D} (h : Rp n k d) (hn : n ≤ 1000) (hk : k ≤ 60) : reprOk d = true := by
  have hb := h.bu
  have hd := h.de
  have h1 : 702 * d.py.bulk + 700 ≤ sizeLine := Nat.le_trans (show _ ≤ 702 * 1000 + 700 by omega) (by decide)
  have h2 : d.py.depth ≤ 60 := by omega
  have h0 : topOk d = true := by
    cases d <;> first | rfl | exact absurd (show true = false from h.nd) (by decide)
  unfold reprOk; rw [h.pu, h0, h.sh, h.le, decide_eq_true h1, decide_eq_true h2]; rfl
theorem bi_repr {d : D} {M : Store} (hr : ∀ n, d ≠ .ref n) (h : reprOk d = true) : PM.bi .repr [d] M = .ok (.str d.py.shown) M := by
  have e : res d M = d := by cases d <;> first | rfl | exact absurd rfl (hr _)
  show (if reprOk (res d M) = true then Res.ok (D.str (res d M).py.shown) M else .no) = _
  rw [e, if_pos h]
theorem ne_str {n k : Nat} {d : D} (h : Rp n k d) {M : Store} : cmpD .ne (.str d.py.shown) (.str d.py.shown) M = some false := by
  have hs : PyData.strOk d.py.shown = true := by
    unfold PyData.strOk
    rw [← Array.all_toList, List.all_eq_true]
    intro c hc
    have := h.fr c
    simp only [decide_eq_true_eq]
    exact Nat.lt_of_not_le fun z => this z hc
  have h2 : eqD (.str d.py.shown) (.str d.py.shown) = some true := by
    unfold eqD
    rw [if_pos (by simp [eqOk, D.pure, D.py, SeqAt.shaped, PyData.canLay0, PyData.depth, hs])]
    simp [D.py, PyData.eqv]
  show (eqD (.str d.py.shown) (.str d.py.shown)).map (!·) = _
  rw [h2]; rfl
end PM

/-! PLh: steps that draw from the pot and change nothing else. -/
namespace PM
open PySem L2
/-- only the cell i is another -/
def Upd (i : Nat) (M M' : Store) : Prop := ∃ c : Cell, M' = M.set i c
theorem Upd.refl {i : Nat} {M : Store} (h : i < M.length) : Upd i M M := ⟨M[i], (List.set_getElem_self h).symm⟩
theorem Upd.trans {i : Nat} {M M1 M2 : Store} : Upd i M M1 → Upd i M1 M2 → Upd i M M2
  | ⟨_, e⟩, ⟨c2, e2⟩ => ⟨c2, by rw [e2, e, List.set_set]⟩
theorem Upd.len {i : Nat} {M M' : Store} (h : Upd i M M') : M'.length = M.length := by obtain ⟨c, rfl⟩ := h; exact List.length_set ..
/-- a step that takes at most K from the pot at i and ends with such a value -/
def Dr {α : Type} (i K : Nat) (ev : Store → Res α) (P : α → Prop) : Prop := ∀ (n : Nat) (M : Store), Pot (n + K) i M → ∃ d M', ev M = .ok d M' ∧ P d ∧ Upd i M M' ∧ Pot n i M'
section
variable {α β : Type} {i K K1 K2 : Nat} {ev : Store → Res α} {P Q : α → Prop} {F : Fns} {G : List D} {env : EnvD}
theorem Dr.of {d : α} (h : ∀ M, ev M = .ok d M) (p : P d) : Dr i 0 ev P := fun n M q => ⟨d, M, h M, p, Upd.refl q.lt, q⟩
theorem Dr.imp (h : Dr i K ev P) (hp : ∀ d, P d → Q d) : Dr i K ev Q := fun n M q => by
  obtain ⟨d, M', e, p, u, r⟩ := h n M q
  exact ⟨d, M', e, hp d p, u, r⟩
theorem Dr.mono (h : Dr i K ev P) (hk : K ≤ K1) : Dr i K1 ev P := fun n M q => h n M (q.mono (by omega))
theorem Dr.eq {ev' : Store → Res α} (h : Dr i K ev P) (e : ∀ M, ev' M = ev M) : Dr i K ev' P := fun n M q => by
  obtain ⟨d, M', e1, r⟩ := h n M q
  exact ⟨d, M', (e M).trans e1, r⟩
theorem Dr.bind {f : α → Store → Res β} {R : β → Prop} (h : Dr i K1 ev P) (h2 : ∀ a, P a → Dr i K2 (f a) R) : Dr i (K1 + K2) (fun M => (ev M).bind f) R := fun n M q => by
  obtain ⟨d, M1, e1, p1, u1, q1⟩ := h (n + K2) M (q.mono (by omega))
  obtain ⟨b, M2, e2, p2, u2, q2⟩ := h2 d p1 n M1 q1
  exact ⟨b, M2, by show (ev M).bind f = _; rw [e1, ok_bind, e2], p2, u1.trans u2, q2⟩
theorem Dr.then_ {f : α → Store → Res β} {R : β → Prop} (h : Dr i K1 ev P) (h2 : ∀ a, P a → ∃ b, (∀ M, f a M = .ok b M) ∧ R b) : Dr i K1 (fun M => (ev M).bind f) R :=
  (h.bind (K2 := 0) fun a p => let ⟨_, e, r⟩ := h2 a p; Dr.of e r).mono (Nat.le_refl _)
def IntP (p : Int → Prop) (d : D) : Prop := ∃ z, d = .int z ∧ p z
/-! ### expressions -/
theorem dVar {v : Nat} {d : D} {P : D → Prop} (h : env[v]? = some (some d)) (p : P d) : Dr i 0 (evE F G (.var v) env) P := Dr.of (fun M => eVar h) p
theorem dC {d : D} {P : D → Prop} (p : P d) : Dr i 0 (evE F G (.c d) env) P := Dr.of (fun M => rfl) p
theorem dE {e : ME} {d : D} {P : D → Prop} (h : ∀ M, evE F G e env M = .ok d M) (p : P d) : Dr i 0 (evE F G e env) P := Dr.of h p
theorem dInt {e : ME} {z : Int} {p : Int → Prop} (h : ∀ M, evE F G e env M = .ok (.int z) M) (hp : p z) : Dr i 0 (evE F G e env) (IntP p) := Dr.of h ⟨z, rfl, hp⟩
theorem dBin {g : ME → ME → ME} {f : D → D → Store → Option D} {a b : ME} {p q r : Int → Prop} (hev : ∀ M, evE F G (g a b) env M = (evE F G a env M).bind fun x M => (evE F G b env M).bind fun y M => optR (f x y M) M) (ha : Dr i K1 (evE F G a env) (IntP p)) (hb : Dr i K2 (evE F G b env) (IntP q))
    (h : ∀ x y, p x → q y → ∃ z, (∀ M, f (.int x) (.int y) M = some (.int z)) ∧ r z) : Dr i (K1 + K2) (evE F G (g a b) env) (IntP r) :=
  (ha.bind fun x hx => hb.then_ fun y hy => by
    obtain ⟨x, rfl, px⟩ := hx
    obtain ⟨y, rfl, py⟩ := hy
    obtain ⟨z, e, rz⟩ := h x y px py
    exact ⟨.int z, fun M => by rw [e M]; rfl, z, rfl, rz⟩).eq hev
theorem dAdd {a b : ME} {p q r : Int → Prop} (ha : Dr i K1 (evE F G a env) (IntP p)) (hb : Dr i K2 (evE F G b env) (IntP q)) (h : ∀ x y, p x → q y → r (x + y)) : Dr i (K1 + K2) (evE F G (.add a b) env) (IntP r) :=
  dBin (g := .add) (f := fun x y M => addD (res x M) (res y M) M) (fun M => rfl) ha hb fun x y px py => ⟨x + y, fun M => rfl, h x y px py⟩
theorem dSub {a b : ME} {p q r : Int → Prop} (ha : Dr i K1 (evE F G a env) (IntP p)) (hb : Dr i K2 (evE F G b env) (IntP q)) (h : ∀ x y, p x → q y → r (x - y)) : Dr i (K1 + K2) (evE F G (.sub a b) env) (IntP r) :=
  dBin (g := .sub) (f := fun x y _ => subD x y) (fun M => rfl) ha hb fun x y px py => ⟨x - y, fun M => rfl, h x y px py⟩
theorem dMul {a b : ME} {p q r : Int → Prop} (ha : Dr i K1 (evE F G a env) (IntP p)) (hb : Dr i K2 (evE F G b env) (IntP q)) (h : ∀ x y, p x → q y → mulOk x y = true ∧ r (x * y)) : Dr i (K1 + K2) (evE F G (.mul a b) env) (IntP r) :=
  dBin (g := .mul) (f := fun x y _ => mulD x y) (fun M => rfl) ha hb fun x y px py => ⟨x * y, fun M => mulD_int (h x y px py).1, (h x y px py).2⟩
theorem dFdiv {a b : ME} {p q r : Int → Prop} (ha : Dr i K1 (evE F G a env) (IntP p)) (hb : Dr i K2 (evE F G b env) (IntP q)) (h : ∀ x y, p x → q y → 0 < y ∧ y < 2 ^ 64 ∧ r (x / y)) : Dr i (K1 + K2) (evE F G (.fdiv a b) env) (IntP r) :=
  dBin (g := .fdiv) (f := fun x y _ => fdivD x y) (fun M => rfl) ha hb fun x y px py => ⟨x / y, fun M => fdivD_int (divOk64 (h x y px py).1 (h x y px py).2.1), (h x y px py).2.2⟩
theorem dNeg {a : ME} {p r : Int → Prop} (ha : Dr i K1 (evE F G a env) (IntP p)) (h : ∀ x, p x → r (-x)) : Dr i K1 (evE F G (.neg a) env) (IntP r) :=
  (ha.then_ (f := fun x M => optR (negD x) M) fun x hx => by
    obtain ⟨x, rfl, px⟩ := hx
    exact ⟨.int (-x), fun M => rfl, _, rfl, h x px⟩).eq fun M => rfl
theorem dNil {R : List D → Prop} (h : R []) : Dr i 0 (evEs F G [] env) R := Dr.of (fun M => rfl) h
theorem dCons {e : ME} {es : List ME} {P : D → Prop} {R : List D → Prop} (he : Dr i K1 (evE F G e env) P) (hs : ∀ d, P d → Dr i K2 (evEs F G es env) fun ds => R (d :: ds)) : Dr i (K1 + K2) (evEs F G (e :: es) env) R :=
  (he.bind fun d hd => (hs d hd).then_ (f := fun xs M => .ok (d :: xs) M) fun ds hds => ⟨d :: ds, fun M => rfl, hds⟩).eq fun M => rfl
theorem dTup {es : List ME} {R : List D → Prop} {P : D → Prop} (h : Dr i K (evEs F G es env) R) (hp : ∀ ds, R ds → ds.length ≤ sizeLine ∧ P (.tup ds)) : Dr i K (evE F G (.tup es) env) P :=
  (h.then_ (f := fun ds M => if lineOk ds.length then .ok (D.tup ds) M else .no) fun ds hd => ⟨.tup ds, fun M => by rw [if_pos (show lineOk ds.length = true from decide_eq_true (hp ds hd).1)], (hp ds hd).2⟩).eq fun M => rfl
theorem dLst {es : List ME} {R : List D → Prop} {P : D → Prop} (h : Dr i K (evEs F G es env) R) (hp : ∀ ds, R ds → ds.length ≤ sizeLine ∧ P (.lst ds)) : Dr i K (evE F G (.lst .frz es) env) P :=
  (h.then_ (f := fun ds M => if lineOk ds.length then .ok (D.lst ds) M else .no) fun ds hd => ⟨.lst ds, fun M => by rw [if_pos (show lineOk ds.length = true from decide_eq_true (hp ds hd).1)], (hp ds hd).2⟩).eq fun M => rfl
theorem dCall {f : Nat} {es : List ME} {R : List D → Prop} {P : D → Prop} (h : Dr i K1 (evEs F G es env) R) (hf : ∀ ds, R ds → Dr i K2 (F f ds) P) : Dr i (K1 + K2) (evE F G (.call f es) env) P := (h.bind hf).eq fun M => rfl
theorem dBi {b : BI} {es : List ME} {R : List D → Prop} {P : D → Prop} (h : Dr i K (evEs F G es env) R) (hf : ∀ ds, R ds → ∃ d, (∀ M, bi b ds M = .ok d M) ∧ P d) : Dr i K (evE F G (.bi b es) env) P := (h.then_ hf).eq fun M => rfl
theorem dIx {a j : ME} {R S : D → Prop} {P : D → Prop} (ha : Dr i K1 (evE F G a env) R) (hj : Dr i K2 (evE F G j env) S) (h : ∀ x y, R x → S y → ∃ z, (∀ M, ixD x y M = some z) ∧ P z) : Dr i (K1 + K2) (evE F G (.ix a j) env) P :=
  (ha.bind fun x hx => hj.then_ (f := fun y M => optR (ixD x y M) M) fun y hy => by
    obtain ⟨z, e, p⟩ := h x y hx hy
    exact ⟨z, fun M => by rw [e M]; rfl, p⟩).eq fun M => rfl
/-! ### what is taken -/
def Takes (F : Fns) (f : Nat) : Prop := ∀ (i : Nat) (u : Int), 0 < u → u < 2 ^ 64 → Dr i 1 (F f [.ref i, .int u]) (IntP fun x => 0 ≤ x ∧ x < u)
theorem takes_of {f : Nat} (h : Takes1 F f) : Takes F f := fun i u h0 h1 n M q => by
  obtain ⟨x, p, a, b, e, r⟩ := h n i M u q h0 h1
  exact ⟨.int x, _, e, ⟨x, rfl, a, b⟩, ⟨p, rfl⟩, r⟩
theorem dTake {tk v : Nat} {e : ME} {p : Int → Prop} (hT : Takes F tk) (hv : env[v]? = some (some (.ref i))) (h : Dr i K (evE F G e env) (IntP fun u => 0 < u ∧ u < 2 ^ 64 ∧ ∀ x, 0 ≤ x → x < u → p x)) : Dr i (0 + (K + 0) + 1) (evE F G (.call tk [.var v, e]) env) (IntP p) :=
  dCall (R := fun ds => ∃ u : Int, ds = [.ref i, .int u] ∧ 0 < u ∧ u < 2 ^ 64 ∧ ∀ x, 0 ≤ x → x < u → p x) (dCons (P := fun d => d = .ref i) (dVar hv rfl) fun d hd => dCons h fun z hz => dNil (by
    obtain ⟨u, rfl, h1⟩ := hz
    exact ⟨u, by rw [hd], h1⟩)) fun ds hd => by
    obtain ⟨u, rfl, h0, h1, h2⟩ := hd
    exact (hT i u h0 h1).imp fun d hd => by
      obtain ⟨x, rfl, a, b⟩ := hd
      exact ⟨x, rfl, h2 x a b⟩
def SeqP (P : D → Prop) (d : D) : Prop := ∃ ds, (d = .lst ds ∨ d = .tup ds) ∧ 0 < ds.length ∧ (ds.length : Int) < 2 ^ 62 ∧ D.pures ds = true ∧ ∀ x ∈ ds, P x
def Ofs (F : Fns) (f : Nat) : Prop := ∀ (i : Nat) (d : D) (P : D → Prop), SeqP P d → Dr i 1 (F f [.ref i, d]) fun x => x.pure = true ∧ P x
theorem dOf {of v : Nat} {e : ME} {P : D → Prop} (hO : Ofs F of) (hv : env[v]? = some (some (.ref i))) (h : Dr i K (evE F G e env) (SeqP P)) : Dr i (0 + (K + 0) + 1) (evE F G (.call of [.var v, e]) env) fun x => x.pure = true ∧ P x :=
  dCall (R := fun ds => ∃ d, ds = [.ref i, d] ∧ SeqP P d) (dCons (P := fun d => d = .ref i) (dVar hv rfl) fun d hd => dCons h fun z hz => dNil ⟨z, by rw [hd], hz⟩) fun ds hd => by
    obtain ⟨d, rfl, h1⟩ := hd
    exact hO i d P h1
theorem seqL {ds : List D} {P : D → Prop} (h0 : 0 < ds.length) (h1 : (ds.length : Int) < 2 ^ 62) (h2 : D.pures ds = true) (h3 : ∀ x ∈ ds, P x) : SeqP P (.lst ds) := ⟨ds, .inl rfl, h0, h1, h2, h3⟩
/-! ### comprehensions -/
inductive All2 {α β : Type} (R : α → β → Prop) : List α → List β → Prop
  | nil : All2 R [] []
  | cons {a : α} {b : β} {as : List α} {bs : List β} : R a b → All2 R as bs → All2 R (a :: as) (b :: bs)
theorem All2.length {R : α → β → Prop} {as : List α} {bs : List β} (h : All2 R as bs) : as.length = bs.length := by
  induction h with
  | nil => rfl
  | cons _ _ ih => rw [List.length_cons, List.length_cons, ih]
theorem All2.right {R : α → β → Prop} {S : β → Prop} {as : List α} {bs : List β} (h : All2 R as bs) (hs : ∀ a b, R a b → S b) : ∀ b ∈ bs, S b := by
  induction h with
  | nil => intro b hb; cases hb
  | cons r _ ih =>
    intro b hb
    rcases List.mem_cons.mp hb with rfl | hb
    · exact hs _ _ r
    · exact ih b hb
theorem comp_dr {γ : Type} {φ : γ → D} {f : D → Store → Res (Option D)} {s : Src} {Kb : Nat} {R : γ → D → Prop} (hs : ∀ M, s.ok M = true) : ∀ {xs : List γ}, (∀ x ∈ xs, Dr i Kb (f (φ x)) fun o => ∃ d, o = some d ∧ R x d) → Dr i (xs.length * Kb) (compL f s (xs.map φ)) (All2 R xs)
  | [], _ => (Dr.of (fun M => by show (if s.ok M = true then _ else _) = _; rw [if_pos (hs M)]) All2.nil).mono (Nat.zero_le _)
  | x :: xs, h => by
    have ih := comp_dr hs (xs := xs) (fun y hy => h y (List.mem_cons_of_mem x hy))
    have h1 := h x List.mem_cons_self
    intro n M q
    obtain ⟨o, M1, e1, ⟨d, rfl, r⟩, u1, q1⟩ := h1 (n + xs.length * Kb) M (q.mono (by rw [List.length_cons, Nat.succ_mul]; omega))
    obtain ⟨ds, M2, e2, a2, u2, q2⟩ := ih n M1 q1
    refine ⟨d :: ds, M2, ?_, All2.cons r a2, u1.trans u2, q2⟩
    show (if s.ok M = true then (noEx (f (φ x) M)).bind _ else _) = _
    rw [if_pos (hs M), e1]
    show (compL f s (xs.map φ) M1).bind _ = _
    rw [e2]; rfl
/-- [e for t in it], the items being images -/
theorem dComp {γ : Type} {e : ME} {t : MT} {it : MIt} {own : List Nat} {Kb : Nat} {R : γ → D → Prop} {P : D → Prop} (xs : List γ) (φ : γ → D) (hi : ∀ M, evIt F G it env M = .ok ⟨xs.map φ, []⟩ M) (hl : xs.length ≤ sizeLine)
    (h : ∀ x ∈ xs, ∃ env', stoT t (φ x) (wipeD env own) = some env' ∧ Dr i Kb (evE F G e env') (R x)) (hp : ∀ ds, All2 R xs ds → P (.lst ds)) : Dr i (xs.length * Kb) (evE F G (.comp .frz e t it [] own) env) P := fun n M q => by
  have hc := comp_dr (i := i) (φ := φ) (f := compF F G e t [] env own) (s := ⟨xs.map φ, []⟩) (Kb := Kb) (R := R) (fun M => rfl) (xs := xs) fun x hx => by
    obtain ⟨env', h1, h2⟩ := h x hx
    refine (h2.then_ (f := fun y M => .ok (some y) M) (R := fun o => ∃ d, o = some d ∧ R x d) fun d hd => ⟨some d, fun M => rfl, d, rfl, hd⟩).eq fun M => ?_
    unfold compF; rw [h1]; rfl
  obtain ⟨ds, M', e1, a, u, r⟩ := hc n M q
  exact ⟨.lst ds, M', eComp (hi M) (by show (xs.map φ).length ≤ _; rw [List.length_map]; exact hl) e1, hp ds a, u, r⟩
/-! ### statements -/
def RetP (P : D → Prop) (r : Flw) : Prop := ∃ d, r = .ret d ∧ P d
theorem dRet {e : ME} {ss : List MS} {P : D → Prop} (h : Dr i K (evE F G e env) P) : Dr i K (evSs F G (.ret e :: ss) env) (RetP P) := fun n M q => by
  obtain ⟨d, M', e1, p, r⟩ := h n M q
  exact ⟨.ret d, M', sRet e1, ⟨d, rfl, p⟩, r⟩
theorem dAsg {t : MT} {e : ME} {ss : List MS} {P : D → Prop} {Q : Flw → Prop} (h : Dr i K1 (evE F G e env) P) (h2 : ∀ d, P d → ∃ env', stoT t d env = some env' ∧ Dr i K2 (evSs F G ss env') Q) : Dr i (K1 + K2) (evSs F G (.asg t e :: ss) env) Q := fun n M q => by
  obtain ⟨d, M1, e1, p1, u1, q1⟩ := h (n + K2) M (q.mono (by omega))
  obtain ⟨env', hs, hd⟩ := h2 d p1
  obtain ⟨r, M2, e2, p2, u2, q2⟩ := hd n M1 q1
  exact ⟨r, M2, sAsg e1 hs e2, p2, u1.trans u2, q2⟩
/-- if t: return e -/
theorem dIfRet {t e : ME} {ss : List MS} {T : Bool → Prop} {P : D → Prop} (h : Dr i K1 (evE F G t env) fun d => ∃ c, d = .bl c ∧ T c) (ha : T true → Dr i K2 (evE F G e env) P) (hb : T false → Dr i K2 (evSs F G ss env) (RetP P)) : Dr i (K1 + K2) (evSs F G (.if_ t [.ret e] [] :: ss) env) (RetP P) := fun n M q => by
  obtain ⟨d, M1, e1, ⟨c, rfl, tc⟩, u1, q1⟩ := h (n + K2) M (q.mono (by omega))
  cases c with
  | true =>
    obtain ⟨r, M2, e2, p2, u2, q2⟩ := ha tc n M1 q1
    exact ⟨.ret r, M2, sIfR e1 rfl (sRet e2), ⟨r, rfl, p2⟩, u1.trans u2, q2⟩
  | false =>
    obtain ⟨r, M2, e2, p2, u2, q2⟩ := hb tc n M1 q1
    exact ⟨r, M2, sNo e1 e2, p2, u1.trans u2, q2⟩
/-- a def that draws and hands back data -/
theorem dFun {T : List FnD} {k f : Nat} {ds : List D} (fd : FnD) {P : D → Prop} (h : T[f]? = some fd) (hl : ds.length = fd.ps) (hr : fd.rm = .data) (hp : ∀ d, P d → d.pure = true) (hb : Dr i K (evSs (callF T G k) G fd.body (ds.map some ++ List.replicate (fd.N - fd.ps) none)) (RetP P)) : Dr i K (callF T G (k + 1) f ds) P := fun n M q => by
  obtain ⟨r, M', e, ⟨d, rfl, p⟩, ⟨c, rfl⟩, r⟩ := hb n M q
  refine ⟨d, M.set i c, ?_, p, ⟨c, rfl⟩, r⟩
  rw [callF_data fd h hl hr (hp d p) e]
  have := take_self (M.set i c)
  rw [List.length_set] at this; rw [this]
end
/-! ### tests at one store -/
section
variable {F : Fns} {G : List D} {env : EnvD} {M : Store} {a b c d : ME} {w x y z : Bool}
theorem pNot (h : evE F G a env M = .ok (.bl x) M) : evE F G (.not a) env M = .ok (.bl (!x)) M := eNot h
theorem pOr2 (ha : evE F G a env M = .ok (.bl x) M) (hb : x = false → evE F G b env M = .ok (.bl y) M) : evE F G (.or [a, b]) env M = .ok (.bl (x || y)) M := by
  cases x
  · exact (eOrF ha).trans (eOr1.trans (hb rfl))
  · exact eOrT ha
theorem pOr3 (ha : evE F G a env M = .ok (.bl x) M) (hb : x = false → evE F G b env M = .ok (.bl y) M) (hc : x = false → y = false → evE F G c env M = .ok (.bl z) M) : evE F G (.or [a, b, c]) env M = .ok (.bl (x || (y || z))) M := by
  cases x
  · refine (eOrF ha).trans ?_
    cases y
    · exact (eOrF (hb rfl)).trans (eOr1.trans (hc rfl rfl))
    · exact eOrT (hb rfl)
  · exact eOrT ha
theorem pOr4 (ha : evE F G a env M = .ok (.bl w) M) (hb : w = false → evE F G b env M = .ok (.bl x) M) (hc : w = false → x = false → evE F G c env M = .ok (.bl y) M) (hd : w = false → x = false → y = false → evE F G d env M = .ok (.bl z) M) : evE F G (.or [a, b, c, d]) env M = .ok (.bl (w || (x || (y || z)))) M := by
  cases w
  · refine (eOrF ha).trans ?_
    cases x
    · refine (eOrF (hb rfl)).trans ?_
      cases y
      · exact (eOrF (hc rfl rfl)).trans (eOr1.trans (hd rfl rfl rfl))
      · exact eOrT (hc rfl rfl)
    · exact eOrT (hb rfl)
  · exact eOrT ha
theorem pAnd2 (ha : evE F G a env M = .ok (.bl x) M) (hb : x = true → evE F G b env M = .ok (.bl y) M) : evE F G (.and [a, b]) env M = .ok (.bl (x && y)) M := by
  cases x
  · exact eAndF ha
  · exact (eAndT ha).trans (eAnd1.trans (hb rfl))
theorem pAnd3 (ha : evE F G a env M = .ok (.bl x) M) (hb : x = true → evE F G b env M = .ok (.bl y) M) (hc : x = true → y = true → evE F G c env M = .ok (.bl z) M) : evE F G (.and [a, b, c]) env M = .ok (.bl (x && (y && z))) M := by
  cases x
  · exact eAndF ha
  · refine (eAndT ha).trans ?_
    cases y
    · exact eAndF (hb rfl)
    · exact (eAndT (hb rfl)).trans (eAnd1.trans (hc rfl rfl))
theorem eqB {e : ME} {x y : Bool} (h : evE F G e env M = .ok (.bl x) M) (hx : x = y) : evE F G e env M = .ok (.bl y) M := by rw [h, hx]
/-- an if that is not taken, one that is -/
theorem pNo {t : ME} {a : List MS} {ss : List MS} {r : Res Flw} (he : evE F G t env M = .ok (.bl x) M) (hx : x = false) (h2 : evSs F G ss env M = r) : evSs F G (.if_ t a [] :: ss) env M = r := by
  subst hx; exact sNo he h2
theorem pYes {t : ME} {a ss : List MS} {d : D} {M2 : Store} (he : evE F G t env M = .ok (.bl x) M) (hx : x = true) (ha : evSs F G a env M = .ok (.ret d) M2) : evSs F G (.if_ t a [] :: ss) env M = .ok (.ret d) M2 := by
  subst hx; exact sIfR he rfl ha
end
end PM

set_option exponentiation.threshold 4000
/-! PLi: loops that draw; the pot's making, whatever is put in; shown texts. -/
namespace PM
open PySem L2
section
variable {α : Type} {i K K1 K2 : Nat} {F : Fns} {G : List D} {env : EnvD}
theorem forL_dr {γ : Type} {φ : γ → D} {f : D → EnvD → Store → Res Flw} {s : Src} {Kb : Nat} {Inv : EnvD → Prop} (hs : ∀ M, s.ok M = true) : ∀ {xs : List γ}, (∀ x ∈ xs, ∀ env, Inv env → Dr i Kb (f (φ x) env) fun r => ∃ env', r = .next env' ∧ Inv env') → ∀ env, Inv env → Dr i (xs.length * Kb) (forL f s (xs.map φ) env) fun r => ∃ env', r = .next env' ∧ Inv env'
  | [], _, env, h0 => (Dr.of (fun M => by show (if s.ok M = true then _ else _) = _; rw [if_pos (hs M)]) ⟨env, rfl, h0⟩).mono (Nat.zero_le _)
  | x :: xs, h, env, h0 => fun n M q => by
    obtain ⟨r, M1, e1, ⟨env1, rfl, h1⟩, u1, q1⟩ := h x List.mem_cons_self env h0 (n + xs.length * Kb) M (q.mono (by rw [List.length_cons, Nat.succ_mul]; omega))
    obtain ⟨r2, M2, e2, p2, u2, q2⟩ := forL_dr hs (xs := xs) (fun y hy => h y (List.mem_cons_of_mem x hy)) env1 h1 n M1 q1
    exact ⟨r2, M2, by show (if s.ok M = true then _ else _) = _; rw [if_pos (hs M), e1]; exact e2, p2, u1.trans u2, q2⟩
theorem dFor {γ : Type} {t : MT} {it : MIt} {b ss : List MS} {Kb : Nat} {Q : Flw → Prop} (xs : List γ) (φ : γ → D) (Inv : EnvD → Prop) (hi : ∀ M, evIt F G it env M = .ok ⟨xs.map φ, []⟩ M) (h0 : Inv env)
    (hb : ∀ x ∈ xs, ∀ env, Inv env → ∃ env', stoT t (φ x) env = some env' ∧ Dr i Kb (evSs F G b env') fun r => ∃ env2, r = .next env2 ∧ Inv env2) (h2 : ∀ env', Inv env' → Dr i K2 (evSs F G ss env') Q) : Dr i (xs.length * Kb + K2) (evSs F G (.for_ t it b :: ss) env) Q := fun n M q => by
  obtain ⟨r, M1, e1, ⟨env1, rfl, p1⟩, u1, q1⟩ := forL_dr (i := i) (φ := φ) (f := forF F G t b) (s := ⟨xs.map φ, []⟩) (Kb := Kb) (Inv := Inv) (fun _ => rfl) (xs := xs) (fun x hx env he => by
    obtain ⟨env', h1, h2⟩ := hb x hx env he
    exact h2.eq fun M => by unfold forF; rw [h1]) env h0 (n + K2) M (q.mono (by omega))
  obtain ⟨r2, M2, e2, p2, u2, q2⟩ := h2 env1 p1 n M1 q1
  exact ⟨r2, M2, sFor (hi M) e1 e2, p2, u1.trans u2, q2⟩
theorem dNext {Q : Flw → Prop} (h : Q (.next env)) : Dr i 0 (evSs F G [] env) Q := Dr.of (fun M => rfl) h
/-- if t: .., t not so -/
theorem dNo {t : ME} {a ss : List MS} {Q : Flw → Prop} (h : ∀ M, evE F G t env M = .ok (.bl false) M) (h2 : Dr i K (evSs F G ss env) Q) : Dr i K (evSs F G (.if_ t a [] :: ss) env) Q := h2.eq fun M => by
  have := sNo (F := F) (G := G) (a := a) (ss := ss) (r := evSs F G ss env M) (h M) rfl
  exact this
/-- an if that is not taken, whose test draws -/
theorem dNoD {t : ME} {a ss : List MS} {Q : Flw → Prop} (h : Dr i K1 (evE F G t env) fun d => d = .bl false) (h2 : Dr i K2 (evSs F G ss env) Q) : Dr i (K1 + K2) (evSs F G (.if_ t a [] :: ss) env) Q := fun n M q => by
  obtain ⟨d, M1, e1, rfl, u1, q1⟩ := h (n + K2) M (q.mono (by omega))
  obtain ⟨r, M2, e2, p2, u2, q2⟩ := h2 n M1 q1
  exact ⟨r, M2, sNo e1 e2, p2, u1.trans u2, q2⟩
def TupP (p : List Int → Prop) (d : D) : Prop := ∃ l, d = tupI l ∧ p l
theorem cut_take {l : List D} {s : Nat} : cutD l none (some (s : Int)) = l.take s := by
  unfold cutD
  rw [HT.sIx_none, HT.sIx_nat, Nat.sub_zero, List.drop_zero]
  by_cases h : s ≤ l.length
  · rw [Nat.min_eq_left h]
  · rw [Nat.min_eq_right (by omega), List.take_of_length_le (Nat.le_refl _), List.take_of_length_le (by omega)]
theorem cut_drop {l : List D} {s : Nat} : cutD l (some (s : Int)) none = l.drop s := by
  unfold cutD
  rw [HT.sIx_none, HT.sIx_nat]
  by_cases h : s ≤ l.length
  · rw [Nat.min_eq_left h, List.take_of_length_le (by rw [List.length_drop]; omega)]
  · rw [Nat.min_eq_right (by omega), List.drop_of_length_le (Nat.le_refl _), List.drop_of_length_le (by omega), List.take_nil]
theorem dSlHi {a j : ME} {p : List Int → Prop} {q : Int → Prop} {P : D → Prop} (ha : Dr i K1 (evE F G a env) (TupP p)) (hj : Dr i K2 (evE F G j env) (IntP q)) (h : ∀ l x, p l → q x → ∃ s : Nat, x = s ∧ P (tupI (l.take s))) : Dr i (K1 + K2) (evE F G (.sl a none (some j)) env) P :=
  (ha.bind fun x hx => hj.then_ (f := fun y M => match y with
      | .int z => optR (slD x none (some z) M) M
      | _ => .no) fun y hy => by
    obtain ⟨l, rfl, pl⟩ := hx
    obtain ⟨z, rfl, pz⟩ := hy
    obtain ⟨s, rfl, ps⟩ := h l z pl pz
    refine ⟨tupI (l.take s), fun M => ?_, ps⟩
    show Res.ok (D.tup (cutD (l.map D.int) none (some (s : Int)))) M = _
    rw [cut_take]; unfold tupI; rw [List.map_take]).eq fun M => by
    show (evE F G a env M).bind _ = _
    congr 1; funext x M1
    show (((evE F G j env M1).bind _).bind _) = _
    rw [bind_assoc]
    congr 1; funext y M2
    cases y <;> rfl
/-- two tests, alike -/
theorem rp_bl (b : Bool) : Rp 0 0 (.bl b) := by
  have e : (PyData.bool b).shown.cps.toList = if b then [84, 114, 117, 101] else [70, 97, 108, 115, 101] := by cases b <;> simp [PyData.shown] <;> decide
  refine ⟨rfl, fun k hk => ?_, rfl, by simp [D.py, PyData.showable], ?_, by simp [D.py, PyData.bulk], by simp [D.py, PyData.depth]⟩
  · show k ∉ (PyData.bool b).shown.cps.toList
    rw [e]
    intro hm
    cases b <;> (simp only [if_true, Bool.false_eq_true, if_false, List.mem_cons, List.not_mem_nil, or_false] at hm; omega)
  · cases b <;> simp [D.py, PyData.leavesShort, PyData.shown] <;> decide
theorem bl_ref {b : Bool} (n : Nat) : D.bl b ≠ .ref n := fun h => by cases h
theorem tup_ref {ds : List D} (n : Nat) : D.tup ds ≠ .ref n := fun h => by cases h
theorem int_ref {i : Int} (n : Nat) : D.int i ≠ .ref n := fun h => by cases h
theorem non_ref (n : Nat) : D.non ≠ .ref n := fun h => by cases h
/-- what is shown alike is the same -/
theorem eNeRepr {e f : ME} {d : D} {n k : Nat} {M : Store} (he : evE F G e env M = .ok d M) (hf : evE F G f env M = .ok d M) (h : Rp n k d) (hn : n ≤ 1000) (hk : k ≤ 60) (hr : ∀ n, d ≠ .ref n) : evE F G (.cmp .ne (.bi .repr [e]) (.bi .repr [f])) env M = .ok (.bl false) M :=
  eCmp ((eBi1 he).trans (bi_repr hr (rp_ok h hn hk))) ((eBi1 hf).trans (bi_repr hr (rp_ok h hn hk))) (ne_str h)
theorem eq_str {n k : Nat} {d : D} (h : Rp n k d) {M : Store} : cmpD .eq (.str d.py.shown) (.str d.py.shown) M = some true := by
  have h1 := ne_str h (M := M)
  have h2 : (cmpD .eq (.str d.py.shown) (.str d.py.shown) M).map (!·) = some false := h1
  cases hc : cmpD .eq (.str d.py.shown) (.str d.py.shown) M with
  | none => rw [hc] at h2; cases h2
  | some b => rw [hc] at h2; cases b <;> first | rfl | cases h2
theorem eEqRepr {e f : ME} {d : D} {n k : Nat} {M : Store} (he : evE F G e env M = .ok d M) (hf : evE F G f env M = .ok d M) (h : Rp n k d) (hn : n ≤ 1000) (hk : k ≤ 60) (hr : ∀ n, d ≠ .ref n) : evE F G (.cmp .eq (.bi .repr [e]) (.bi .repr [f])) env M = .ok (.bl true) M :=
  eCmp ((eBi1 he).trans (bi_repr hr (rp_ok h hn hk))) ((eBi1 hf).trans (bi_repr hr (rp_ok h hn hk))) (eq_str h)
/-! ### the pot's making -/
theorem b_potR (Kk E C P Q : Int) (hK : 0 ≤ Kk ∧ Kk < 2 ^ 30) (hE : 0 ≤ E ∧ E < 2 ^ 30) (hP : 0 < P) (hQ : 0 < Q ∧ Q < 2 ^ 64)
    {x0 : Option D} {pl : Nat} {c : Int} {M : Store} (hpl : pl < 2 ^ 30) : ∃ a b : Int, evSs F G [.asg (.nm 3) (.mul (.mod (.bi .int [.bi .abs [.var 2]]) (.pow (.pow (.c (.int 10)) (.c (.int 60))) (.c (.int 5)))) (.bi .int [.cmp .ge (.bi .abs [.var 2]) (.pow (.c (.int 10)) (.c (.int 18)))])),
  .asg (.nm 4) (.mod (.bi .int [.var 2]) (.c (.int P))),
  .ret (.lst .cell [.var 3, .mod (.bi .int [.add (.add (.mul (.var 4) (.c (.int Kk))) (.mul (.mul (.c (.int E)) (.var 1)) (.var 1))) (.c (.int C))]) (.c (.int Q)), .c (.int 0)])] [x0, some (.int pl), some (.int c), none, none] M = .ok (.ret (.ref M.length)) (M ++ [potD a b 0]) ∧ 0 ≤ a ∧ 0 ≤ b ∧ b < 2 ^ 64 := by
  have h1 : powD (.int 10) (.int 60) = some (.int (10 ^ 60)) := by decide +kernel
  have h2 : powD (.int (10 ^ 60)) (.int 5) = some (.int ((10 ^ 60) ^ 5)) := by decide +kernel
  have h3 : powD (.int 10) (.int 18) = some (.int (10 ^ 18)) := by decide +kernel
  let o : Int := absI c % (10 ^ 60) ^ 5 * (if decide ((10 : Int) ^ 18 ≤ absI c) = true then 1 else 0)
  have ho : 0 ≤ o := Int.mul_nonneg (Int.emod_nonneg _ (by decide +kernel)) (by split <;> decide)
  have hmul : mulOk (absI c % (10 ^ 60) ^ 5) (if decide ((10 : Int) ^ 18 ≤ absI c) = true then 1 else 0) = true := by
    by_cases h : (10 : Int) ^ 18 ≤ absI c
    · rw [if_pos (decide_eq_true h)]; exact mulOk_r (by decide) (by decide)
    · rw [if_neg (by simpa using h)]; exact mulOk_r (by decide) (by decide)
  refine ⟨o, (c % P * Kk + E * pl * pl + C) % Q, ?_, ho, Int.emod_nonneg _ (by omega), Int.lt_trans (Int.emod_lt_of_pos _ hQ.1) hQ.2⟩
  refine sAsg (x := .int o) (M1 := M) (env' := [x0, some (.int pl), some (.int c), some (.int o), none]) ?_ rfl ?_
  · simp only [evE, evEs, List.getElem?_cons_zero, List.getElem?_cons_succ, Option.join_some, optR_some, ok_bind, bi_abs, bi_int, h1, h2, h3, cmp_ge, Option.map_some, bi_bl, modD_int (show (0 : Int) < (10 ^ 60) ^ 5 by decide +kernel), mulD_int hmul]
    rfl
  refine sAsg (x := .int (c % P)) (M1 := M) (env' := [x0, some (.int pl), some (.int c), some (.int o), some (.int (c % P))]) ?_ rfl ?_
  · simp only [evE, evEs, List.getElem?_cons_zero, List.getElem?_cons_succ, Option.join_some, optR_some, ok_bind, bi_int, modD_int hP]
  refine sRet ?_
  have k1 : 0 ≤ E * pl := Int.mul_nonneg hE.1 (by omega)
  simp only [evE, evEs, List.getElem?_cons_zero, List.getElem?_cons_succ, Option.join_some, optR_some, ok_bind, bi_int, modD_int hQ.1, mulD_int (mulOk_r (i := c % P) (j := Kk) (by omega) (by omega)), mulD_int (mulOk_l (i := E) (j := (pl : Int)) (by omega) (by omega)), mulD_int (mulOk_r (i := E * pl) (j := (pl : Int)) (by omega) (by omega)), res_int, addD_int]
  rfl
end
/-! ### statements within a budget -/
section
variable {i K K1 K2 : Nat} {F : Fns} {G : List D} {env : EnvD}
theorem bA {t : MT} {e : ME} {ss : List MS} {P : D → Prop} {Q : Flw → Prop} (h : Dr i K1 (evE F G e env) P) (h2 : ∀ d, P d → ∃ env', stoT t d env = some env' ∧ Dr i (K - K1) (evSs F G ss env') Q) (hk : K1 ≤ K := by decide) : Dr i K (evSs F G (.asg t e :: ss) env) Q :=
  (dAsg h h2).mono (by omega)
theorem bR {e : ME} {ss : List MS} {P : D → Prop} (h : Dr i K1 (evE F G e env) P) (hk : K1 ≤ K := by decide) : Dr i K (evSs F G (.ret e :: ss) env) (RetP P) := (dRet h).mono hk
theorem bI {t e : ME} {ss : List MS} {T : Bool → Prop} {P : D → Prop} (h : Dr i K1 (evE F G t env) fun d => ∃ c, d = .bl c ∧ T c) (ha : T true → Dr i (K - K1) (evE F G e env) P) (hb : T false → Dr i (K - K1) (evSs F G ss env) (RetP P)) (hk : K1 ≤ K := by decide) : Dr i K (evSs F G (.if_ t [.ret e] [] :: ss) env) (RetP P) :=
  (dIfRet h ha hb).mono (by omega)
theorem bF {γ : Type} {t : MT} {it : MIt} {b ss : List MS} {Q : Flw → Prop} (xs : List γ) (φ : γ → D) (Inv : EnvD → Prop) (Kb : Nat) (hi : ∀ M, evIt F G it env M = .ok ⟨xs.map φ, []⟩ M) (h0 : Inv env)
    (hb : ∀ x ∈ xs, ∀ env, Inv env → ∃ env', stoT t (φ x) env = some env' ∧ Dr i Kb (evSs F G b env') fun r => ∃ env2, r = .next env2 ∧ Inv env2) (h2 : ∀ env', Inv env' → Dr i (K - xs.length * Kb) (evSs F G ss env') Q) (hk : xs.length * Kb ≤ K) : Dr i K (evSs F G (.for_ t it b :: ss) env) Q :=
  (dFor xs φ Inv hi h0 hb h2).mono (by omega)
theorem bN {t : ME} {a ss : List MS} {Q : Flw → Prop} (h : Dr i K1 (evE F G t env) fun d => d = .bl false) (h2 : Dr i (K - K1) (evSs F G ss env) Q) (hk : K1 ≤ K := by decide) : Dr i K (evSs F G (.if_ t a [] :: ss) env) Q := (dNoD h h2).mono (by omega)
end
section
variable {i K K1 K2 : Nat} {F : Fns} {G : List D} {env : EnvD}
theorem dBi1 {b : BI} {e : ME} {P Q : D → Prop} (h : Dr i K (evE F G e env) P) (hf : ∀ d, P d → ∃ d', (∀ M, bi b [d] M = .ok d' M) ∧ Q d') : Dr i K (evE F G (.bi b [e]) env) Q :=
  (h.then_ (f := fun d M => bi b [d] M) hf).eq fun M => by
    show ((((evE F G e env M).bind fun x M => (evEs F G [] env M).bind fun xs M => .ok (x :: xs) M)).bind fun ds M => bi b ds M) = _
    rw [bind_assoc]; rfl
theorem dBi2 {b : BI} {e f : ME} {P Q R : D → Prop} (he : Dr i K1 (evE F G e env) P) (hf : Dr i K2 (evE F G f env) Q) (h : ∀ x y, P x → Q y → ∃ d', (∀ M, bi b [x, y] M = .ok d' M) ∧ R d') : Dr i (K1 + K2) (evE F G (.bi b [e, f]) env) R :=
  (he.bind fun x hx => hf.then_ (f := fun y M => bi b [x, y] M) fun y hy => h x y hx hy).eq fun M => by
    show ((((evE F G e env M).bind fun x M => (evEs F G [f] env M).bind fun xs M => .ok (x :: xs) M)).bind fun ds M => bi b ds M) = _
    rw [bind_assoc]
    congr 1; funext x M1
    show ((((evE F G f env M1).bind fun x M => (evEs F G [] env M).bind fun xs M => .ok (x :: xs) M).bind fun xs M => .ok (x :: xs) M).bind fun ds M => bi b ds M) = _
    rw [bind_assoc, bind_assoc]; rfl
theorem All2.ints {γ : Type} {R : γ → Int → Prop} {xs : List γ} {ds : List D} (h : All2 (fun x d => IntP (R x) d) xs ds) : ∃ zs : List Int, ds = zs.map D.int ∧ All2 R xs zs := by
  induction h with
  | nil => exact ⟨[], rfl, All2.nil⟩
  | cons r _ ih =>
    obtain ⟨z, rfl, hz⟩ := r
    obtain ⟨zs, rfl, h⟩ := ih
    exact ⟨z :: zs, rfl, All2.cons hz h⟩
theorem All2.getD {R : Int → Int → Prop} {xs zs : List Int} (h : All2 R xs zs) : ∀ j, j < xs.length → R (xs.getD j 0) (zs.getD j 0) := by
  induction h with
  | nil => intro j hj; exact absurd hj (by simp)
  | cons r _ ih =>
    intro j hj
    cases j with
    | zero => exact r
    | succ j => exact ih j (by simpa using hj)
theorem All2.sum_le {R : Int → Int → Prop} (hr : ∀ x z, R x z → x ≤ z) {xs zs : List Int} (h : All2 R xs zs) : xs.sum ≤ zs.sum := by
  induction h with
  | nil => exact Int.le_refl _
  | cons r _ ih => rw [List.sum_cons, List.sum_cons]; have := hr _ _ r; omega
theorem All2.sum_ge {R : Int → Int → Prop} (hr : ∀ x z, R x z → z ≤ x) {xs zs : List Int} (h : All2 R xs zs) : zs.sum ≤ xs.sum := by
  induction h with
  | nil => exact Int.le_refl _
  | cons r _ ih => rw [List.sum_cons, List.sum_cons]; have := hr _ _ r; omega
end
section
variable {i K K1 K2 : Nat} {F : Fns} {G : List D} {env : EnvD}
theorem bB {t : ME} {a ss : List MS} {T : Bool → Prop} {P : D → Prop} (h : Dr i K1 (evE F G t env) fun d => ∃ c, d = .bl c ∧ T c) (ha : T true → Dr i (K - K1) (evSs F G a env) (RetP P)) (hb : T false → Dr i (K - K1) (evSs F G ss env) (RetP P)) (hk : K1 ≤ K := by decide) : Dr i K (evSs F G (.if_ t a [] :: ss) env) (RetP P) := fun n M q => by
  obtain ⟨d, M1, e1, ⟨c, rfl, tc⟩, u1, q1⟩ := h (n + (K - K1)) M (q.mono (by omega))
  cases c with
  | true =>
    obtain ⟨r, M2, e2, ⟨d, rfl, p2⟩, u2, q2⟩ := ha tc n M1 q1
    exact ⟨.ret d, M2, sIfR e1 rfl e2, ⟨d, rfl, p2⟩, u1.trans u2, q2⟩
  | false =>
    obtain ⟨r, M2, e2, p2, u2, q2⟩ := hb tc n M1 q1
    exact ⟨r, M2, sNo e1 e2, p2, u1.trans u2, q2⟩
theorem dAddT {a b : ME} {p q : List D → Prop} {P : D → Prop} (ha : Dr i K1 (evE F G a env) fun d => ∃ x, d = .tup x ∧ p x) (hb : Dr i K2 (evE F G b env) fun d => ∃ x, d = .tup x ∧ q x) (h : ∀ x y, p x → q y → x.length + y.length ≤ sizeLine ∧ P (.tup (x ++ y))) : Dr i (K1 + K2) (evE F G (.add a b) env) P :=
  (ha.bind fun x hx => hb.then_ (f := fun y M => optR (addD (res x M) (res y M) M) M) fun y hy => by
    obtain ⟨x, rfl, px⟩ := hx
    obtain ⟨y, rfl, py⟩ := hy
    refine ⟨.tup (x ++ y), fun M => ?_, (h x y px py).2⟩
    show optR (if lineOk (x.length + y.length) = true then some (D.tup (x ++ y)) else none) M = _
    rw [if_pos (show lineOk (x.length + y.length) = true from decide_eq_true (h x y px py).1)]; rfl).eq fun M => rfl
theorem dAddL {a b : ME} {p q : List D → Prop} {P : D → Prop} (ha : Dr i K1 (evE F G a env) fun d => ∃ x, d = .lst x ∧ p x) (hb : Dr i K2 (evE F G b env) fun d => ∃ x, d = .lst x ∧ q x) (h : ∀ x y, p x → q y → x.length + y.length ≤ sizeLine ∧ P (.lst (x ++ y))) : Dr i (K1 + K2) (evE F G (.add a b) env) P :=
  (ha.bind fun x hx => hb.then_ (f := fun y M => optR (addD (res x M) (res y M) M) M) fun y hy => by
    obtain ⟨x, rfl, px⟩ := hx
    obtain ⟨y, rfl, py⟩ := hy
    refine ⟨.lst (x ++ y), fun M => ?_, (h x y px py).2⟩
    show optR (if lineOk (x.length + y.length) = true then some (D.lst (x ++ y)) else none) M = _
    rw [if_pos (show lineOk (x.length + y.length) = true from decide_eq_true (h x y px py).1)]; rfl).eq fun M => rfl
theorem pures_append {x y : List D} (hx : D.pures x = true) (hy : D.pures y = true) : D.pures (x ++ y) = true := by
  induction x with
  | nil => exact hy
  | cons a x ih =>
    have h : (a.pure && D.pures x) = true := hx
    rw [Bool.and_eq_true] at h
    show (a.pure && D.pures (x ++ y)) = true
    rw [h.1, ih h.2]; rfl
theorem pures_of {x : List D} (h : ∀ d ∈ x, d.pure = true) : D.pures x = true := by
  induction x with
  | nil => rfl
  | cons a x ih =>
    show (a.pure && D.pures x) = true
    rw [h a List.mem_cons_self, ih fun d hd => h d (List.mem_cons_of_mem a hd)]; rfl
/-- data of any kind, no tuple too long -/
def OddP (d : D) : Prop := d.pure = true ∧ ∀ l, d = .tup l → l.length ≤ 1000
theorem odd_int {z : Int} : OddP (.int z) := ⟨rfl, fun l h => by cases h⟩
theorem odd_str {z : Str} : OddP (.str z) := ⟨rfl, fun l h => by cases h⟩
theorem odd_bl {z : Bool} : OddP (.bl z) := ⟨rfl, fun l h => by cases h⟩
theorem odd_lst {l : List D} (h : D.pures l = true) : OddP (.lst l) := ⟨h, fun l h => by cases h⟩
theorem odd_tup {l : List D} (h : D.pures l = true) (hl : l.length ≤ 1000) : OddP (.tup l) := ⟨h, fun l h => by cases h; exact hl⟩
theorem dCmpI {c : Cmp} {a b : ME} {p q : Int → Prop} {T : Bool → Prop} (ha : Dr i K1 (evE F G a env) (IntP p)) (hb : Dr i K2 (evE F G b env) (IntP q)) (h : ∀ x y, p x → q y → ∃ r, (∀ M, cmpD c (.int x) (.int y) M = some r) ∧ T r) : Dr i (K1 + K2) (evE F G (.cmp c a b) env) fun d => ∃ r, d = .bl r ∧ T r :=
  (ha.bind fun x hx => hb.then_ (f := fun y M => optR ((cmpD c x y M).map D.bl) M) fun y hy => by
    obtain ⟨x, rfl, px⟩ := hx
    obtain ⟨y, rfl, py⟩ := hy
    obtain ⟨r, e, t⟩ := h x y px py
    exact ⟨D.bl r, fun M => by rw [e M]; rfl, r, rfl, t⟩).eq fun M => rfl
end
end PM

/-! PLj: whose text is a tuple of ints' text is that tuple; what repr takes, dicts within. -/
namespace PM
open PySem L2 PyProof
/-! ### the signs of a text -/
abbrev sg (d : PyData) : List Nat := d.shown.cps.toList
theorem sg_int (i : Int) : sg (.int i) = (toString i).toList.map Char.toNat := by
  show (PyData.int i).shown.cps.toList = _
  rw [PyData.shown_int, PyProof.Rows.signs_ofString]
theorem map_toNat_inj : ∀ {l m : List Char}, l.map Char.toNat = m.map Char.toNat → l = m
  | [], [], _ => rfl
  | [], _ :: _, h => by simp at h
  | _ :: _, [], h => by simp at h
  | a :: l, b :: m, h => by
    rw [List.map_cons, List.map_cons] at h
    injection h with h1 h2
    rw [Char.toNat_inj.mp h1, map_toNat_inj h2]
theorem sg_int_inj {i j : Int} (h : sg (.int i) = sg (.int j)) : i = j := by
  rw [sg_int, sg_int] at h
  have h2 : (toString i).toList = (toString j).toList := map_toNat_inj h
  exact Int.repr_injective (String.toList_inj.mp h2)
theorem sg_int_free {k : Nat} (hk : k ≠ 45 ∧ (k < 48 ∨ 57 < k)) (i : Int) : k ∉ sg (.int i) := PyProof.Rows.shown_int_free' hk i
theorem sg_int_ne (i : Int) : sg (.int i) ≠ [] := by
  intro h
  have h2 : sg (.int i) = (toString i).toList.map Char.toNat := sg_int i
  rw [h] at h2
  have h3 : (toString i).toList = [] := List.map_eq_nil_iff.mp h2.symm
  have h4 : toString i = "" := String.toList_inj.mp h3
  have h5 : toString i ≠ "" := by
    have : ∀ n : Nat, Nat.repr n ≠ "" := fun n h => by
      have : (Nat.repr n).toList = [] := by rw [h]; rfl
      rw [Nat.toList_repr] at this
      exact absurd this (Nat.toDigits_ne_nil)
    intro h
    cases i with
    | ofNat n => exact this n h
    | negSucc n =>
      have : ("-" ++ Nat.repr (n + 1)).toList = [] := by rw [show "-" ++ Nat.repr (n + 1) = "" from h]; rfl
      rw [String.toList_append] at this
      simp at this
  exact h5 h4
/-- the first sign -/
theorem sg_head_int (i : Int) : ∃ c r, sg (.int i) = c :: r ∧ (c = 45 ∨ (48 ≤ c ∧ c ≤ 57)) := by
  cases h : sg (.int i) with
  | nil => exact absurd h (sg_int_ne i)
  | cons c r =>
    refine ⟨c, r, rfl, ?_⟩
    by_cases hc : c = 45 ∨ (48 ≤ c ∧ c ≤ 57)
    · exact hc
    · exact absurd (by rw [h]; exact List.mem_cons_self) (sg_int_free (k := c) ⟨fun e => hc (.inl e), by omega⟩ i)
theorem from_head : ∀ (ts : List Str) (k : Nat) (acc : Str) (c : Nat) (r : List Nat), acc.cps.toList = c :: r → ∃ r', (textFrom k acc ts).cps.toList = c :: r'
  | [], _, _, _, r, h => ⟨r, h⟩
  | t :: ts, k, acc, c, r, h => from_head ts (k + 1) _ c _ (by rw [PyProof.Rows.cps_toList_append, PyProof.Rows.cps_toList_append, h]; rfl)
theorem quote_cases (x : Str) : reprQuote x = 39 ∨ reprQuote x = 34 := by
  unfold reprQuote
  split <;> first | exact .inl rfl | exact .inr rfl
theorem foldl_head (q : Nat) : ∀ (l : List Nat) (acc : Array Nat) (c : Nat) (r : List Nat), acc.toList = c :: r → ∃ r', (l.foldl (fun out c => out ++ (Builtin.Str.reprChar q c).toArray) acc).toList = c :: r'
  | [], _, _, r, h => ⟨r, h⟩
  | x :: l, acc, c, r, h => foldl_head q l _ c (r ++ Builtin.Str.reprChar q x) (by rw [Array.toList_append, h]; rfl)
theorem sg_head_other {d : PyData} (h : ∀ i, d ≠ .int i) : ∃ c r, sg d = c :: r ∧ c ≠ 45 ∧ (c < 48 ∨ 57 < c) := by
  cases d with
  | none => exact ⟨78, [111, 110, 101], by show (PyData.none).shown.cps.toList = _; rw [PyData.shown_none]; decide, by decide, by decide⟩
  | bool b =>
    cases b
    · exact ⟨70, [97, 108, 115, 101], by decide, by decide, by decide⟩
    · exact ⟨84, [114, 117, 101], by decide, by decide, by decide⟩
  | int i => exact absurd rfl (h i)
  | str x =>
    obtain ⟨r, e⟩ := foldl_head (reprQuote x) x.cps.toList #[reprQuote x] (reprQuote x) [] rfl
    refine ⟨reprQuote x, r ++ [reprQuote x], ?_, ?_⟩
    · show (reprText x).cps.toList = _
      unfold reprText
      rw [← Array.foldl_toList, Array.toList_push, e]; rfl
    · rcases quote_cases x with q | q <;> rw [q] <;> decide
  | list xs =>
    obtain ⟨r, e⟩ := from_head (PyData.shownAll xs) 0 "[" 91 [] (by decide)
    refine ⟨91, r ++ (("]" : String) : Str).cps.toList, ?_, by decide, by decide⟩
    show (listText (PyData.shownAll xs)).cps.toList = _
    unfold listText
    rw [PyProof.Rows.cps_toList_append, e]; rfl
  | tuple xs =>
    refine ⟨40, (Str.join ", " (PyData.shownAll xs)).cps.toList ++ (Str.ofString (if ((PyData.shownAll xs).length == 1) = true then ",)" else ")")).cps.toList, ?_, by decide, by decide⟩
    · show (tupleText (PyData.shownAll xs)).cps.toList = _
      unfold tupleText
      rw [PyProof.Rows.cps_toList_append, PyProof.Rows.cps_toList_append, show (("(" : String) : Str).cps.toList = [40] by decide]
      rfl
  | dict kvs =>
    refine ⟨123, (Str.join ", " (PyData.shownKv kvs)).cps.toList ++ (("}" : String) : Str).cps.toList, ?_, by decide, by decide⟩
    · show (dictText (PyData.shownKv kvs)).cps.toList = _
      unfold dictText
      rw [PyProof.Rows.cps_toList_append, PyProof.Rows.cps_toList_append, show (("{" : String) : Str).cps.toList = [123] by decide]
      rfl
/-- two texts up to the first comma or bracket -/
theorem cut_eq : ∀ {a b : List Nat} {c d : Nat} {t1 t2 : List Nat}, (c = 44 ∨ c = 41) → (d = 44 ∨ d = 41) → 44 ∉ a → 41 ∉ a → 44 ∉ b → 41 ∉ b → a ++ c :: t1 = b ++ d :: t2 → a = b ∧ c :: t1 = d :: t2
  | [], [], _, _, _, _, _, _, _, _, _, _, h => ⟨rfl, h⟩
  | [], y :: b, c, d, t1, t2, hc, hd, _, _, h3, h4, h => by
    rw [List.nil_append, List.cons_append] at h
    injection h with h1 h2
    subst h1
    rcases hc with rfl | rfl
    · exact absurd List.mem_cons_self h3
    · exact absurd List.mem_cons_self h4
  | x :: a, [], c, d, t1, t2, hc, hd, h1, h2, _, _, h => by
    rw [List.nil_append, List.cons_append] at h
    injection h with e1 e2
    subst e1
    rcases hd with rfl | rfl
    · exact absurd List.mem_cons_self h1
    · exact absurd List.mem_cons_self h2
  | x :: a, y :: b, c, d, t1, t2, hc, hd, h1, h2, h3, h4, h => by
    rw [List.cons_append, List.cons_append] at h
    injection h with e1 e2
    obtain ⟨q1, q2⟩ := cut_eq hc hd (fun z => h1 (List.mem_cons_of_mem x z)) (fun z => h2 (List.mem_cons_of_mem x z)) (fun z => h3 (List.mem_cons_of_mem y z)) (fun z => h4 (List.mem_cons_of_mem y z)) e2
    exact ⟨by rw [e1, q1], q2⟩
def sgJ : List PyData → List Nat
  | [] => []
  | [x] => sg x
  | x :: y :: r => sg x ++ [44, 32] ++ sgJ (y :: r)
theorem join_sg : ∀ xs : List PyData, (Str.join ", " (PyData.shownAll xs)).cps.toList = sgJ xs
  | [] => by simp only [PyData.shownAll]; decide
  | [x] => by simp only [PyData.shownAll]; rfl
  | x :: y :: r => by
    have ih := join_sg (y :: r)
    simp only [PyData.shownAll] at ih ⊢
    show (x.shown ++ ", " ++ Str.join ", " (y.shown :: PyData.shownAll r)).cps.toList = _
    rw [PyProof.Rows.cps_toList_append, PyProof.Rows.cps_toList_append, ih, show ((", " : String) : Str).cps.toList = [44, 32] by decide]
    rfl
def EndL (e : List Nat) : Prop := e = [44, 41] ∨ e = [41]
theorem EndL.cons {e : List Nat} (h : EndL e) : ∃ c t, e = c :: t ∧ (c = 44 ∨ c = 41) := by
  rcases h with rfl | rfl
  · exact ⟨44, [41], rfl, .inl rfl⟩
  · exact ⟨41, [], rfl, .inr rfl⟩
theorem sgJ_cons (x : PyData) (xs : List PyData) (e : List Nat) (he : EndL e) : ∃ c t, (c = 44 ∨ c = 41) ∧ sgJ (x :: xs) ++ e = sg x ++ c :: t ∧ (xs = [] → c :: t = e) ∧ (xs ≠ [] → c :: t = [44, 32] ++ (sgJ xs ++ e)) := by
  cases xs with
  | nil =>
    obtain ⟨c, t, rfl, hc⟩ := he.cons
    exact ⟨c, t, hc, rfl, fun _ => rfl, fun h => absurd rfl h⟩
  | cons y r =>
    refine ⟨44, 32 :: (sgJ (y :: r) ++ e), .inl rfl, ?_, (fun h => by simp at h), fun _ => rfl⟩
    show (sg x ++ [44, 32] ++ sgJ (y :: r)) ++ e = _
    simp
theorem sgJ_inj : ∀ (xs : List PyData) (ns : List Int) (e1 e2 : List Nat), EndL e1 → EndL e2 → sgJ xs ++ e1 = sgJ (ns.map PyData.int) ++ e2 → xs = ns.map PyData.int
  | [], [], _, _, _, _, _ => rfl
  | [], n :: ns, e1, e2, h1, h2, h => by
    obtain ⟨c, t, hc, e, _, _⟩ := sgJ_cons (.int n) (ns.map .int) e2 h2
    rw [List.map_cons, e] at h
    obtain ⟨c1, t1, rfl, hc1⟩ := h1.cons
    obtain ⟨c2, r2, e3, h3⟩ := sg_head_int n
    rw [e3] at h
    have h : c1 :: t1 = c2 :: (r2 ++ c :: t) := h
    injection h with h4 h5
    omega
  | x :: xs, [], e1, e2, h1, h2, h => by
    obtain ⟨c, t, hc, e, hn, hy⟩ := sgJ_cons x xs e1 h1
    rw [e] at h
    have h : sg x ++ c :: t = e2 := h
    exfalso
    by_cases hi : ∃ i, x = .int i
    · obtain ⟨i, rfl⟩ := hi
      obtain ⟨c2, r2, e3, h3⟩ := sg_head_int i
      rw [e3] at h
      rcases h2 with rfl | rfl
      · injection h with h4 h5; omega
      · injection h with h4 h5; omega
    · have hl := congrArg List.length h
      rw [List.length_append, List.length_cons] at hl
      obtain ⟨c2, r2, e3, h3, h4⟩ := sg_head_other fun i e => hi ⟨i, e⟩
      rw [e3] at h hl
      rcases h2 with rfl | rfl
      · have hl : (r2.length + 1) + (t.length + 1) = 2 := hl
        have hr : r2 = [] := List.length_eq_zero_iff.mp (by omega)
        have ht : t = [] := List.length_eq_zero_iff.mp (by omega)
        subst hr; subst ht
        have hx : sg x = [44] := by
          injection h with h5 h6
          rw [e3, h5]
        cases x with
        | none => exact absurd hx (by show (PyData.none).shown.cps.toList ≠ _; rw [PyData.shown_none]; decide)
        | bool b => cases b <;> exact absurd hx (by decide)
        | int i => exact hi ⟨i, rfl⟩
        | str y =>
          obtain ⟨r, e⟩ := foldl_head (reprQuote y) y.cps.toList #[reprQuote y] (reprQuote y) [] rfl
          have hy2 : (reprText y).cps.toList = [44] := hx
          unfold reprText at hy2
          rw [← Array.foldl_toList, Array.toList_push, e] at hy2
          have := congrArg List.length hy2
          simp at this
        | list ys =>
          obtain ⟨r, e⟩ := from_head (PyData.shownAll ys) 0 "[" 91 [] (by decide)
          have hy2 : (listText (PyData.shownAll ys)).cps.toList = [44] := hx
          unfold listText at hy2
          rw [PyProof.Rows.cps_toList_append, e] at hy2
          injection hy2 with h5 h6
          omega
        | tuple ys =>
          have hy2 : (tupleText (PyData.shownAll ys)).cps.toList = [44] := hx
          unfold tupleText at hy2
          rw [PyProof.Rows.cps_toList_append, PyProof.Rows.cps_toList_append, show (("(" : String) : Str).cps.toList = [40] by decide] at hy2
          injection hy2 with h5 h6
          omega
        | dict ys =>
          have hy2 : (dictText (PyData.shownKv ys)).cps.toList = [44] := hx
          unfold dictText at hy2
          rw [PyProof.Rows.cps_toList_append, PyProof.Rows.cps_toList_append, show (("{" : String) : Str).cps.toList = [123] by decide] at hy2
          injection hy2 with h5 h6
          omega
      · have hl : (r2.length + 1) + (t.length + 1) = 1 := hl
        omega
  | x :: xs, n :: ns, e1, e2, h1, h2, h => by
    obtain ⟨c, t, hc, e, hn, hy⟩ := sgJ_cons x xs e1 h1
    obtain ⟨c', t', hc', e', hn', hy'⟩ := sgJ_cons (.int n) (ns.map .int) e2 h2
    rw [List.map_cons, e, e'] at h
    obtain ⟨c2, r2, e3, h3⟩ := sg_head_int n
    have hi : ∃ i, x = .int i := by
      by_cases hi : ∃ i, x = .int i
      · exact hi
      · obtain ⟨c4, r4, e4, h4, h5⟩ := sg_head_other fun i e => hi ⟨i, e⟩
        rw [e3, e4] at h
        injection h with h6 h7
        omega
    obtain ⟨i, rfl⟩ := hi
    obtain ⟨q1, q2⟩ := cut_eq hc hc' (sg_int_free ⟨by decide, by decide⟩ i) (sg_int_free ⟨by decide, by decide⟩ i) (sg_int_free ⟨by decide, by decide⟩ n) (sg_int_free ⟨by decide, by decide⟩ n) h
    obtain rfl := sg_int_inj q1
    have hin : xs = ns.map PyData.int := by
      cases xs with
      | nil =>
        cases ns with
        | nil => rfl
        | cons m ns =>
          rw [hn rfl, hy' (by simp)] at q2
          rcases h1 with rfl | rfl
          · exact absurd q2 (by intro z; injection z with z1 z2; injection z2 with z3 z4; exact absurd z3 (by decide))
          · exact absurd q2 (by intro z; injection z with z1 z2; exact absurd z1 (by decide))
      | cons y ys =>
        cases ns with
        | nil =>
          rw [hy (by simp), hn' rfl] at q2
          rcases h2 with rfl | rfl
          · exact absurd q2 (by intro z; injection z with z1 z2; injection z2 with z3 z4; exact absurd z3 (by decide))
          · exact absurd q2 (by intro z; injection z with z1 z2; exact absurd z1 (by decide))
        | cons m ns =>
          rw [hy (by simp), hy' (by simp)] at q2
          have q3 : sgJ (y :: ys) ++ e1 = sgJ ((m :: ns).map PyData.int) ++ e2 := by
            injection q2 with _ q3
            injection q3
          exact sgJ_inj (y :: ys) (m :: ns) e1 e2 h1 h2 q3
    rw [hin]; rfl
theorem end_ok (ts : List Str) : EndL (Str.ofString (if (ts.length == 1) = true then ",)" else ")")).cps.toList := by
  split
  · exact .inl (by decide)
  · exact .inr (by decide)
theorem tup_sg (xs : List PyData) : ∃ e, EndL e ∧ sg (.tuple xs) = 40 :: (sgJ xs ++ e) := by
  refine ⟨_, end_ok (PyData.shownAll xs), ?_⟩
  show (tupleText (PyData.shownAll xs)).cps.toList = _
  unfold tupleText
  rw [PyProof.Rows.cps_toList_append, PyProof.Rows.cps_toList_append, join_sg, show (("(" : String) : Str).cps.toList = [40] by decide]
  rfl
theorem shown_tup_inj {xs : List PyData} {ns : List Int} (h : (PyData.tuple xs).shown = (PyData.tuple (ns.map .int)).shown) : xs = ns.map PyData.int := by
  obtain ⟨e1, h1, q1⟩ := tup_sg xs
  obtain ⟨e2, h2, q2⟩ := tup_sg (ns.map .int)
  have h3 : sg (.tuple xs) = sg (.tuple (ns.map .int)) := by unfold sg; rw [h]
  rw [q1, q2] at h3
  injection h3 with _ h4
  exact sgJ_inj xs ns e1 e2 h1 h2 h4
theorem py_int {d : D} {i : Int} (hp : d.pure = true) (h : d.py = .int i) : d = .int i := by
  cases d <;> first | (cases h; rfl) | exact absurd h (by simp [D.py])
theorem pys_intsD : ∀ {ds : List D} {ns : List Int}, D.pures ds = true → D.pys ds = ns.map PyData.int → ds = ns.map D.int
  | [], [], _, _ => rfl
  | [], _ :: _, _, h => by simp [D.pys] at h
  | _ :: _, [], _, h => by simp [D.pys] at h
  | d :: ds, n :: ns, hp, h => by
    have hp : (d.pure && D.pures ds) = true := hp
    rw [Bool.and_eq_true] at hp
    have h : d.py :: D.pys ds = PyData.int n :: ns.map PyData.int := h
    injection h with h1 h2
    rw [py_int hp.1 h1, pys_intsD hp.2 h2]; rfl
theorem py_ints (ns : List Int) : D.pys (ns.map D.int) = ns.map PyData.int := by
  induction ns with
  | nil => rfl
  | cons n ns ih => show PyData.int n :: D.pys (ns.map D.int) = _; rw [ih]; rfl
/-- a tuple whose text is that of a tuple of ints -/
theorem tup_text {ds : List D} {ns : List Int} (hp : D.pures ds = true) : (D.tup ds).py.shown = (tupI ns).py.shown ↔ ds = ns.map D.int := by
  constructor
  · intro h
    have h2 : (PyData.tuple (D.pys ds)).shown = (PyData.tuple (ns.map .int)).shown := by
      have : (tupI ns).py = PyData.tuple (ns.map .int) := by show PyData.tuple (D.pys (ns.map D.int)) = _; rw [py_ints]
      rw [← this]; exact h
    exact pys_intsD hp (shown_tup_inj h2)
  · intro h; rw [h]; rfl
end PM

/-! PLk: what repr takes, dicts within. -/
namespace PM
open PySem L2
structure RpD (n k : Nat) (d : D) : Prop where
  pu : d.pure = true
  sh : d.py.showable = true
  le : d.py.leavesShort 700 = true
  bu : d.py.bulk ≤ n
  de : d.py.depth ≤ k
structure RpDs (n k : Nat) (ds : List D) : Prop where
  pu : D.pures ds = true
  sh : PyData.showableAll (D.pys ds) = true
  le : PyData.leavesShortAll 700 (D.pys ds) = true
  bu : PyData.bulkAll (D.pys ds) ≤ n
  de : PyData.depthAll (D.pys ds) ≤ k
def rpdB (n k : Nat) (d : D) : Bool := d.pure && (d.py.showable && (d.py.leavesShort 700 && (decide (d.py.bulk ≤ n) && decide (d.py.depth ≤ k))))
theorem rpdB_ok {n k : Nat} {d : D} (h : rpdB n k d = true) : RpD n k d := by
  unfold rpdB at h
  simp only [Bool.and_eq_true, decide_eq_true_eq] at h
  exact ⟨h.1, h.2.1, h.2.2.1, h.2.2.2.1, h.2.2.2.2⟩
theorem RpD.mono {n k m l : Nat} {d : D} (h : RpD n k d) (h1 : n ≤ m) (h2 : k ≤ l) : RpD m l d := ⟨h.pu, h.sh, h.le, Nat.le_trans h.bu h1, Nat.le_trans h.de h2⟩
theorem rpd_of {n k : Nat} {d : D} (h : Rp n k d) : RpD n k d := ⟨h.pu, h.sh, h.le, h.bu, h.de⟩
theorem rpd_ints {n k : Nat} {ds : List D} (h : Rps n k ds) : RpDs n k ds := ⟨h.pu, h.sh, h.le, h.bu, h.de⟩
theorem rpds_nil : RpDs 0 0 [] := rpd_ints rps_nil
theorem rpds_cons {a b k l n m : Nat} {d : D} {ds : List D} (h : RpD a k d) (t : RpDs b l ds) (hn : a + 1 + b ≤ n) (hk : k ≤ m) (hl : l ≤ m) : RpDs n m (d :: ds) := by
  have e : D.pys (d :: ds) = d.py :: D.pys ds := rfl
  refine ⟨by show (d.pure && D.pures ds) = true; rw [h.pu, t.pu]; rfl, ?_, ?_, ?_, ?_⟩
  · rw [e]; simp only [PyData.showableAll, h.sh, t.sh, Bool.and_self]
  · rw [e]; simp only [PyData.leavesShortAll, h.le, t.le, Bool.and_self]
  · rw [e]; simp only [PyData.bulkAll]; have := h.bu; have := t.bu; omega
  · rw [e]; simp only [PyData.depthAll]; have := h.de; have := t.de; omega
theorem rpds_all {n k : Nat} : ∀ {ds : List D}, (∀ d ∈ ds, RpD n k d) → RpDs (ds.length * (n + 1)) k ds
  | [], _ => ⟨rfl, rpds_nil.sh, rpds_nil.le, by simp [D.pys, PyData.bulkAll], by simp [D.pys, PyData.depthAll]⟩
  | d :: ds, h => by
    have ih := rpds_all (n := n) (k := k) (ds := ds) fun x hx => h x (List.mem_cons_of_mem d hx)
    exact rpds_cons (h d List.mem_cons_self) ih (by rw [List.length_cons, Nat.succ_mul]; omega) (Nat.le_refl _) (Nat.le_refl _)
theorem rpds_app {a b n k : Nat} {xs ys : List D} (h : RpDs a k xs) (t : RpDs b k ys) (hn : a + b ≤ n) : RpDs n k (xs ++ ys) := by
  induction xs generalizing a n with
  | nil => exact ⟨t.pu, t.sh, t.le, Nat.le_trans t.bu (by omega), t.de⟩
  | cons x xs ih =>
    have e : D.pys (x :: xs) = x.py :: D.pys xs := rfl
    have h1 : (x.pure && D.pures xs) = true := h.pu
    rw [Bool.and_eq_true] at h1
    have h2 : (x.py.showable && PyData.showableAll (D.pys xs)) = true := by have := h.sh; rw [e] at this; simpa only [PyData.showableAll] using this
    have h3 : (x.py.leavesShort 700 && PyData.leavesShortAll 700 (D.pys xs)) = true := by have := h.le; rw [e] at this; simpa only [PyData.leavesShortAll] using this
    have h4 : x.py.bulk + 1 + PyData.bulkAll (D.pys xs) ≤ a := by have := h.bu; rw [e] at this; simpa only [PyData.bulkAll] using this
    have h5 : max x.py.depth (PyData.depthAll (D.pys xs)) ≤ k := by have := h.de; rw [e] at this; simpa only [PyData.depthAll] using this
    rw [Bool.and_eq_true] at h2 h3
    have hx : RpD x.py.bulk k x := ⟨h1.1, h2.1, h3.1, Nat.le_refl _, by omega⟩
    have hs : RpDs (PyData.bulkAll (D.pys xs)) k xs := ⟨h1.2, h2.2, h3.2, Nat.le_refl _, by omega⟩
    exact rpds_cons hx (ih hs (Nat.le_refl _)) (by omega) (Nat.le_refl _) (Nat.le_refl _)
theorem rpds_mem {n k : Nat} : ∀ {ds : List D}, RpDs n k ds → ∀ d ∈ ds, RpD n k d
  | x :: xs, h, d, hd => by
    have e : D.pys (x :: xs) = x.py :: D.pys xs := rfl
    have h1 : (x.pure && D.pures xs) = true := h.pu
    rw [Bool.and_eq_true] at h1
    have h2 : (x.py.showable && PyData.showableAll (D.pys xs)) = true := by have := h.sh; rw [e] at this; simpa only [PyData.showableAll] using this
    have h3 : (x.py.leavesShort 700 && PyData.leavesShortAll 700 (D.pys xs)) = true := by have := h.le; rw [e] at this; simpa only [PyData.leavesShortAll] using this
    have h4 : x.py.bulk + 1 + PyData.bulkAll (D.pys xs) ≤ n := by have := h.bu; rw [e] at this; simpa only [PyData.bulkAll] using this
    have h5 : max x.py.depth (PyData.depthAll (D.pys xs)) ≤ k := by have := h.de; rw [e] at this; simpa only [PyData.depthAll] using this
    rw [Bool.and_eq_true] at h2 h3
    rcases List.mem_cons.mp hd with rfl | hd
    · exact ⟨h1.1, h2.1, h3.1, by omega, by omega⟩
    · exact (rpds_mem (n := n) ⟨h1.2, h2.2, h3.2, by omega, by omega⟩ d hd)
theorem rpd_tup {n k : Nat} {ds : List D} (h : RpDs n k ds) : RpD n (k + 1) (.tup ds) := by
  have e : (D.tup ds).py = .tuple (D.pys ds) := rfl
  refine ⟨h.pu, ?_, ?_, ?_, ?_⟩
  · rw [e]; simp only [PyData.showable]; exact h.sh
  · rw [e]; simp only [PyData.leavesShort]; exact h.le
  · rw [e]; simp only [PyData.bulk]; exact h.bu
  · rw [e]; simp only [PyData.depth]; have := h.de; omega
theorem rpd_lst {n k : Nat} {ds : List D} (h : RpDs n k ds) : RpD n (k + 1) (.lst ds) := by
  have e : (D.lst ds).py = .list (D.pys ds) := rfl
  refine ⟨h.pu, ?_, ?_, ?_, ?_⟩
  · rw [e]; simp only [PyData.showable]; exact h.sh
  · rw [e]; simp only [PyData.leavesShort]; exact h.le
  · rw [e]; simp only [PyData.bulk]; exact h.bu
  · rw [e]; simp only [PyData.depth]; have := h.de; omega
theorem rpd_dic1 {n k : Nat} {x : D} (h : RpD n k x) : RpD (n + 3) (k + 1) (.dic [(.str "a", x)]) := by
  have e : (D.dic [(.str "a", x)]).py = .dict [(.str "a", x.py)] := rfl
  refine ⟨by show (true && (x.pure && true)) = true; rw [h.pu]; rfl, ?_, ?_, ?_, ?_⟩
  · rw [e]; simp only [PyData.showable, PyData.showableKv, h.sh, Bool.and_self]
  · rw [e]
    simp only [PyData.leavesShort, PyData.leavesShortKv, h.le, Bool.and_true]
    decide
  · rw [e]; simp only [PyData.bulk, PyData.bulkKv]
    have := h.bu
    have : (("a" : Str)).cps.size = 1 := by decide
    omega
  · rw [e]; simp only [PyData.depth, PyData.depthKv]
    have := h.de
    omega
theorem rpd_ok {n k : Nat} {d : D} (h : RpD n k d) (ht : topOk d = true) (hn : n ≤ 1000) (hk : k ≤ 60) : reprOk d = true := by
  have hb := h.bu
  have hd := h.de
  have h1 : 702 * d.py.bulk + 700 ≤ sizeLine := Nat.le_trans (show _ ≤ 702 * 1000 + 700 by omega) (by decide)
  have h2 : d.py.depth ≤ 60 := by omega
  unfold reprOk; rw [h.pu, ht, h.sh, h.le, decide_eq_true h1, decide_eq_true h2]; rfl
/-- the text of an int as a value -/
theorem rpd_strI {z : Int} (h1 : -999999999999 ≤ z) (h2 : z ≤ 999999999999) : RpD 13 0 (.str (toString z)) := by
  have hl := PyData.shown_int_le2 h1 h2
  have hl : (Str.ofString (toString z)).cps.size ≤ 13 := by rw [PyData.shown_int] at hl; exact hl
  refine ⟨rfl, by simp [D.py, PyData.showable], ?_, by simpa [D.py, PyData.bulk] using hl, by simp [D.py, PyData.depth]⟩
  simp only [D.py, PyData.leavesShort]
  rw [List.all_eq_true]
  intro c hc
  have := PyProof.Rows.shown_int_free' (k := c)
  by_cases hb : c ≠ 45 ∧ (c < 48 ∨ 57 < c)
  · exact absurd hc (by have h3 := this hb z; rw [PyData.shown_int] at h3; exact h3)
  · exact decide_eq_true (Nat.lt_of_le_of_lt (show c ≤ 57 by omega) (by decide))
end PM

set_option maxHeartbeats 0
namespace K11
open PySem L2 PM
def top (i : Nat) : Stmt := PySem.Challenge.pw_seatssure_k11_whole_counts_and_shares.main.body.getD i (.Pass ⟨0, 0, 0, 0⟩)
def b_is_integer : List MS := [.ret (.and [.bi (.isa .int) [.var 0], .not (.bi (.isa .bool) [.var 0])])]
abbrev f_is_integer : FnD := ⟨1, 1, .data, b_is_integer⟩
def b_is_between : List MS := [.ret (.and [.call 0 [.var 0], .chain .le .le (.var 1) (.var 0) (.var 2)])]
abbrev f_is_between : FnD := ⟨3, 3, .data, b_is_between⟩
def b_are_between : List MS := [.ret (.and [.bi (.isa .tup) [.var 0], .bi .all [.comp .frz (.call 1 [.var 3, .var 1, .var 2]) (.nm 3) (.seq (.var 0)) [] [3]]])]
abbrev f_are_between : FnD := ⟨3, 4, .data, b_are_between⟩
def b_are_votes : List MS := [.ret (.and [.call 2 [.var 0, .c (.int 0), .glo 1], .chain .le .le (.c (.int 1)) (.bi .len [.var 0]) (.glo 0)])]
abbrev f_are_votes : FnD := ⟨1, 1, .data, b_are_votes⟩
def b_check_votes : List MS := [.if_ (.not (.call 3 [.var 0])) [.stk] []]
abbrev f_check_votes : FnD := ⟨1, 1, .data, b_check_votes⟩
def b_check_party : List MS := [.if_ (.not (.call 1 [.var 1, .c (.int 0), .sub (.bi .len [.var 0]) (.c (.int 1))])) [.stk] []]
abbrev f_check_party : FnD := ⟨2, 2, .data, b_check_party⟩
def b_is_out : List MS := [.if_ (.or [.not (.bi (.isa .tup) [.var 0]), .cmp .ne (.bi .len [.var 0]) (.glo 2), .not (.call 1 [.ix (.var 0) (.c (.int 0)), .c (.int 0), .glo 1])]) [.ret (.c (.bl false))] [],
  .asg (.tp [.nm 1, .nm 2, .nm 3]) (.var 0),
  .if_ (.or [.not (.call 2 [.var 2, .c (.int 0), .glo 1]), .not (.call 2 [.var 3, .c (.int 0), .glo 1])]) [.ret (.c (.bl false))] [],
  .if_ (.or [.not (.chain .le .le (.c (.int 1)) (.bi .len [.var 2]) (.glo 0)), .cmp .ne (.bi .len [.var 3]) (.bi .len [.var 2]), .cmp .gt (.bi .sum [.var 2]) (.var 1), .cmp .lt (.bi .sum [.var 3]) (.var 1)]) [.ret (.c (.bl false))] [],
  .ret (.bi .all [.comp .frz (.cmp .le (.var 4) (.var 5)) (.tp [.nm 4, .nm 5]) (.zip [.var 2, .var 3]) [] [4, 5]])]
abbrev f_is_out : FnD := ⟨1, 6, .data, b_is_out⟩
def b_check_out : List MS := [.if_ (.or [.not (.call 6 [.var 0]), .cmp .notIn (.var 1) (.tup [.c .non, .bi .len [.ix (.var 0) (.c (.int 1))]])]) [.stk] []]
abbrev f_check_out : FnD := ⟨2, 2, .data, b_check_out⟩
def b_is_count : List MS := [.if_ (.or [.not (.bi (.isa .tup) [.var 1]), .cmp .ne (.bi .len [.var 1]) (.bi .len [.ix (.var 0) (.c (.int 1))])]) [.ret (.c (.bl false))] [],
  .if_ (.not (.bi .all [.comp .frz (.call 1 [.var 2, .var 3, .var 4]) (.tp [.nm 2, .nm 3, .nm 4]) (.zip [.var 1, .ix (.var 0) (.c (.int 1)), .ix (.var 0) (.c (.int 2))]) [] [2, 3, 4]])) [.ret (.c (.bl false))] [],
  .ret (.cmp .eq (.bi .sum [.var 1]) (.ix (.var 0) (.c (.int 0))))]
abbrev f_is_count : FnD := ⟨2, 5, .data, b_is_count⟩
def b_are_counts : List MS := [.ex (.call 7 [.var 0, .c .non]),
  .ret (.call 8 [.var 0, .var 1])]
abbrev f_are_counts : FnD := ⟨2, 2, .data, b_are_counts⟩
def b_put_to : List MS := [.ret (.bi .tuple [.comp .frz (.add (.var 2) (.var 3)) (.tp [.nm 2, .nm 3]) (.zip [.var 0, .var 1]) [] [2, 3]])]
abbrev f_put_to : FnD := ⟨2, 4, .data, b_put_to⟩
def b_behind : List MS := [.ex (.call 4 [.var 0]),
  .ex (.call 7 [.var 1, .bi .len [.var 0]]),
  .if_ (.not (.call 8 [.var 1, .var 2])) [.stk] [],
  .ret (.call 10 [.var 0, .var 2])]
abbrev f_behind : FnD := ⟨3, 3, .data, b_behind⟩
def b_least_of : List MS := [.asg (.nm 2) (.sub (.bi .sum [.ix (.var 0) (.c (.int 2))]) (.ix (.ix (.var 0) (.c (.int 2))) (.var 1))),
  .ret (.bi .max [.ix (.ix (.var 0) (.c (.int 1))) (.var 1), .sub (.ix (.var 0) (.c (.int 0))) (.var 2)])]
abbrev f_least_of : FnD := ⟨2, 3, .data, b_least_of⟩
def b_greatest_of : List MS := [.asg (.nm 2) (.sub (.bi .sum [.ix (.var 0) (.c (.int 1))]) (.ix (.ix (.var 0) (.c (.int 1))) (.var 1))),
  .ret (.bi .min [.ix (.ix (.var 0) (.c (.int 2))) (.var 1), .sub (.ix (.var 0) (.c (.int 0))) (.var 2)])]
abbrev f_greatest_of : FnD := ⟨2, 3, .data, b_greatest_of⟩
def b_least_share : List MS := [.ex (.call 7 [.var 0, .c .non]),
  .ex (.call 5 [.ix (.var 0) (.c (.int 1)), .var 1]),
  .ret (.call 12 [.var 0, .var 1])]
abbrev f_least_share : FnD := ⟨2, 2, .data, b_least_share⟩
def b_greatest_share : List MS := [.ex (.call 7 [.var 0, .c .non]),
  .ex (.call 5 [.ix (.var 0) (.c (.int 1)), .var 1]),
  .ret (.call 13 [.var 0, .var 1])]
abbrev f_greatest_share : FnD := ⟨2, 2, .data, b_greatest_share⟩
def b__law_pot : List MS := [.asg (.nm 2) (.ife (.cmp .lt (.var 1) (.bi .len [.var 0])) (.ix (.var 0) (.var 1)) (.add (.mul (.c (.int 521)) (.var 1)) (.c (.int 379)))),
  .asg (.nm 3) (.mul (.mod (.bi .int [.bi .abs [.var 2]]) (.pow (.pow (.c (.int 10)) (.c (.int 60))) (.c (.int 5)))) (.bi .int [.cmp .ge (.bi .abs [.var 2]) (.pow (.c (.int 10)) (.c (.int 18)))])),
  .asg (.nm 4) (.mod (.bi .int [.var 2]) (.c (.int 2305843009213693951))),
  .ret (.lst .cell [.var 3, .mod (.bi .int [.add (.add (.mul (.var 4) (.c (.int 86927))) (.mul (.mul (.c (.int 8191)) (.var 1)) (.var 1))) (.c (.int 479))]) (.c (.int 2305843009213693921)), .c (.int 0)])]
abbrev f__law_pot : FnD := ⟨2, 5, .keep, b__law_pot⟩
def b__law_take : List MS := [.if_ (.cmp .gt (.ix (.var 0) (.c (.int 0))) (.c (.int 0))) [.asg (.nm 4) (.mod (.bi .int [.ix (.var 0) (.c (.int 0))]) (.var 1)), .setI (.var 0) (.c (.int 0)) (.fdiv (.ix (.var 0) (.c (.int 0))) (.var 1)), .ret (.var 4)] [],
  .setI (.var 0) (.c (.int 2)) (.add (.ix (.var 0) (.c (.int 2))) (.c (.int 1))),
  .asg (.nm 2) (.ix (.lst .frz [.c (.int 2147483647), .c (.int 2147483629), .c (.int 2147483587), .c (.int 2147483579), .c (.int 2147483563)]) (.mod (.bi .int [.ix (.var 0) (.c (.int 2))]) (.c (.int 5)))),
  .asg (.nm 3) (.mod (.bi .int [.pow (.bi .int [.add (.add (.ix (.var 0) (.c (.int 1))) (.mul (.mul (.c (.int 99551)) (.ix (.var 0) (.c (.int 2)))) (.ix (.var 0) (.c (.int 2))))) (.c (.int 503))]) (.c (.int 3))]) (.var 2)),
  .asg (.nm 3) (.mod (.bi .int [.mul (.var 3) (.add (.mod (.bi .int [.var 3]) (.c (.int 10335))) (.mul (.c (.int 165)) (.ix (.var 0) (.c (.int 2)))))]) (.c (.int 2305843009213693907))),
  .ret (.mod (.bi .int [.fdiv (.var 3) (.c (.int 155))]) (.var 1))]
abbrev f__law_take : FnD := ⟨2, 5, .data, b__law_take⟩
def b__law_of : List MS := [.ret (.ix (.var 1) (.call 17 [.var 0, .bi .len [.var 1]]))]
abbrev f__law_of : FnD := ⟨2, 2, .data, b__law_of⟩
def b__law_cells : List MS := [.ret (.ofIt .listF (.rng1 (.bi .max [.c (.int 1), .bi .min [.var 1, .bi .len [.var 0]]])))]
abbrev f__law_cells : FnD := ⟨2, 2, .data, b__law_cells⟩
def b__law_odd : List MS := [.asg (.nm 1) (.lst .frz [.c .non, .c (.bl true), .c (.bl false), .c (.int 0), .c (.int 1), .neg (.c (.int 1)), .c (.int 7), .pow (.c (.int 10)) (.c (.int 11)), .c (.str ""), .c (.str "a"), .c (.str "places"), .tup [], .tup [.c (.int 0)], .tup [.c .non], .lst .frz [], .lst .frz [.c (.int 0)], .dis0, .dis1 "a" (.c (.int 1)), .tup [.tup [.c (.int 0), .c (.int 0)]]]),
  .asg (.nm 2) (.call 18 [.var 0, .var 1]),
  .for_ (.nm 3) (.rng1 (.call 17 [.var 0, .c (.int 3)])) [.asg (.nm 2) (.call 18 [.var 0, .lst .frz [.tup [.var 2], .lst .frz [.var 2], .dis1 "a" (.var 2), .tup [.var 2, .c (.int 0)], .tup [.c (.int 0), .var 2]]])],
  .ret (.var 2)]
abbrev f__law_odd : FnD := ⟨1, 4, .data, b__law_odd⟩
def b__law_bent : List MS := [.if_ (.and [.bi (.isa .tup) [.var 1], .cmp .ne (.var 1) (.tup []), .cmp .gt (.call 17 [.var 0, .c (.int 5)]) (.c (.int 0))]) [.asg (.nm 2) (.call 17 [.var 0, .bi .len [.var 1]]), .ret (.add (.add (.sl (.var 1) none (some (.var 2))) (.tup [.call 21 [.var 0, .ix (.var 1) (.var 2)]])) (.sl (.var 1) (some (.add (.var 2) (.c (.int 1)))) none))] [],
  .if_ (.bi (.isa .tup) [.var 1]) [.asg (.nm 2) (.call 17 [.var 0, .add (.bi .len [.var 1]) (.c (.int 1))]), .asg (.nm 3) (.lst .frz [.bi .listF [.var 1], .add (.sl (.var 1) none (some (.var 2))) (.sl (.var 1) (some (.add (.var 2) (.c (.int 1)))) none), .add (.var 1) (.sl (.var 1) (some (.var 2)) (some (.add (.var 2) (.c (.int 1))))), .rev (.var 1), .add (.add (.sl (.var 1) none (some (.var 2))) (.tup [.call 20 [.var 0]])) (.sl (.var 1) (some (.var 2)) none)]), .ret (.call 18 [.var 0, .var 3])] [],
  .if_ (.or [.bi (.isa .bool) [.var 1], .not (.bi (.isa .int) [.var 1])]) [.ret (.call 20 [.var 0])] [],
  .ret (.call 18 [.var 0, .lst .frz [.add (.var 1) (.c (.int 1)), .sub (.var 1) (.c (.int 1)), .add (.var 1) (.c (.int 2)), .neg (.var 1), .bi .str [.var 1], .tup [.var 1], .cmp .eq (.var 1) (.c (.int 1)), .c .non, .c (.int 29), .c (.int 30)]])]
abbrev f__law_bent : FnD := ⟨2, 4, .data, b__law_bent⟩
def b__law_counts : List MS := [.asg (.nm 1) (.lst .frz [.tup []]),
  .for_ (.tp [.nm 2, .nm 3]) (.zip [.ix (.var 0) (.c (.int 1)), .ix (.var 0) (.c (.int 2))]) [.asg (.nm 4) (.lst .cell []), .for_ (.nm 5) (.seq (.var 1)) [.ex (.me .extend (.var 4) [.comp .frz (.add (.var 5) (.tup [.var 6])) (.nm 6) (.rng2 (.var 2) (.add (.var 3) (.c (.int 1)))) [.cmp .le (.add (.bi .sum [.var 5]) (.var 6)) (.ix (.var 0) (.c (.int 0)))] [6]])], .asg (.nm 1) (.var 4)],
  .ret (.comp .frz (.var 5) (.nm 5) (.seq (.var 1)) [.cmp .eq (.bi .sum [.var 5]) (.ix (.var 0) (.c (.int 0)))] [5])]
abbrev f__law_counts : FnD := ⟨1, 7, .data, b__law_counts⟩
def b__law_out : List MS := [.asg (.tp [.nm 1, .nm 2]) (.tup [.lst .cell [], .lst .cell []]),
  .for_ (.nm 3) (.rng1 (.add (.c (.int 1)) (.call 17 [.var 0, .c (.int 4)]))) [.ex (.me .append (.var 1) [.call 17 [.var 0, .c (.int 3)]]), .ex (.me .append (.var 2) [.add (.ix (.var 1) (.neg (.c (.int 1)))) (.call 17 [.var 0, .c (.int 6)])])],
  .ret (.tup [.add (.bi .sum [.var 1]) (.call 17 [.var 0, .add (.sub (.bi .sum [.var 2]) (.bi .sum [.var 1])) (.c (.int 1))]), .bi .tuple [.var 1], .bi .tuple [.var 2]])]
abbrev f__law_out : FnD := ⟨1, 4, .data, b__law_out⟩
def b__law_right : List MS := [.asg (.nm 1) (.call 23 [.var 0]),
  .asg (.tp [.nm 2, .nm 3]) (.tup [.call 22 [.var 1], .bi .tuple [.comp .frz (.call 17 [.var 0, .c (.int 50)]) (.nm 13) (.seq (.ix (.var 1) (.c (.int 1)))) [] [13]]]),
  .for_ (.nm 4) (.rng1 (.bi .len [.var 3])) [.asg (.nm 9) (.srs (.comp .frz (.ix (.var 14) (.var 4)) (.nm 14) (.seq (.var 2)) [] [14])), .if_ (.cmp .ne (.bi .repr [.tup [.call 14 [.var 1, .var 4], .call 15 [.var 1, .var 4]]]) (.bi .repr [.tup [.ix (.var 9) (.c (.int 0)), .ix (.var 9) (.neg (.c (.int 1)))]])) [.ret (.c (.bl false))] [], .if_ (.cmp .ne (.var 9) (.ofIt .listF (.rng2 (.ix (.var 9) (.c (.int 0))) (.add (.ix (.var 9) (.neg (.c (.int 1)))) (.c (.int 1)))))) [.ret (.c (.bl false))] []],
  .asg (.nm 5) (.call 18 [.var 0, .var 2]),
  .if_ (.cmp .ne (.bi .repr [.call 11 [.var 3, .var 1, .var 5]]) (.bi .repr [.bi .tuple [.comp .frz (.add (.var 11) (.var 15)) (.tp [.nm 11, .nm 15]) (.zip [.var 3, .var 5]) [] [11, 15]]])) [.ret (.c (.bl false))] [],
  .asg (.nm 6) (.call 17 [.var 0, .bi .len [.var 5]]),
  .asg (.nm 7) (.lst .cell [.var 5, .bi .listF [.var 5], .sl (.var 5) (some (.c (.int 1))) none, .add (.var 5) (.tup [.c (.int 0)]), .rev (.var 5), .c .non, .tup [], .ix (.var 1) (.c (.int 1)), .ix (.var 1) (.c (.int 2)), .call 20 [.var 0]]),
  .ex (.me .extend (.var 7) [.comp .frz (.add (.add (.sl (.var 5) none (some (.var 6))) (.tup [.var 11])) (.sl (.var 5) (some (.add (.var 6) (.c (.int 1)))) none)) (.nm 11) (.seq (.tup [.add (.ix (.var 5) (.var 6)) (.c (.int 1)), .sub (.ix (.var 5) (.var 6)) (.c (.int 1)), .c (.bl true), .c .non, .bi .str [.ix (.var 5) (.var 6)]])) [] [11]]),
  .ex (.me .extend (.var 7) [.comp .frz (.call 21 [.var 0, .var 5]) (.nm 12) (.rng1 (.c (.int 4))) [] [12]]),
  .for_ (.nm 8) (.seq (.var 7)) [.asg (.nm 10) (.and [.bi (.isa .tup) [.var 8], .cmp .inn (.bi .repr [.var 8]) (.comp .frz (.bi .repr [.var 14]) (.nm 14) (.seq (.var 2)) [] [14])]), .if_ (.cmp .ne (.bi .repr [.call 9 [.var 1, .var 8]]) (.bi .repr [.var 10])) [.ret (.c (.bl false))] []],
  .ret (.c (.bl true))]
abbrev f__law_right : FnD := ⟨1, 16, .data, b__law_right⟩
def b_law : List MS := [.for_ (.nm 1) (.seq (.call 19 [.var 0, .c (.int 3)])) [.asg (.nm 2) (.call 16 [.var 0, .var 1]), .if_ (.or [.not (.call 24 [.var 2]), .not (.call 24 [.var 2])]) [.ret (.c (.bl false))] []],
  .ret (.c (.bl true))]
abbrev f_law : FnD := ⟨1, 3, .data, b_law⟩
abbrev d_is_integer : DefE := ⟨top 7, ["value"], f_is_integer⟩
abbrev d_is_between : DefE := ⟨top 8, ["value", "low", "high"], f_is_between⟩
abbrev d_are_between : DefE := ⟨top 9, ["value", "low", "high", "one"], f_are_between⟩
abbrev d_are_votes : DefE := ⟨top 14, ["value"], f_are_votes⟩
abbrev d_check_votes : DefE := ⟨top 15, ["value"], f_check_votes⟩
abbrev d_check_party : DefE := ⟨top 16, ["votes", "party"], f_check_party⟩
abbrev d_is_out : DefE := ⟨top 17, ["value", "many", "lows", "highs", "low", "high"], f_is_out⟩
abbrev d_check_out : DefE := ⟨top 18, ["value", "parties"], f_check_out⟩
abbrev d_is_count : DefE := ⟨top 19, ["out", "value", "one", "low", "high"], f_is_count⟩
abbrev d_are_counts : DefE := ⟨top 20, ["out", "value"], f_are_counts⟩
abbrev d_put_to : DefE := ⟨top 21, ["votes", "count", "one", "more"], f_put_to⟩
abbrev d_behind : DefE := ⟨top 22, ["votes", "out", "count"], f_behind⟩
abbrev d_least_of : DefE := ⟨top 23, ["out", "party", "others"], f_least_of⟩
abbrev d_greatest_of : DefE := ⟨top 24, ["out", "party", "others"], f_greatest_of⟩
abbrev d_least_share : DefE := ⟨top 25, ["out", "party"], f_least_share⟩
abbrev d_greatest_share : DefE := ⟨top 26, ["out", "party"], f_greatest_share⟩
abbrev d__law_pot : DefE := ⟨top 28, ["script", "place", "cell", "own", "small"], f__law_pot⟩
abbrev d__law_take : DefE := ⟨top 29, ["pot", "upto", "prime", "blend", "digit"], f__law_take⟩
abbrev d__law_of : DefE := ⟨top 30, ["pot", "some"], f__law_of⟩
abbrev d__law_cells : DefE := ⟨top 31, ["script", "limit"], f__law_cells⟩
abbrev d__law_odd : DefE := ⟨top 32, ["pot", "some", "value", "lap"], f__law_odd⟩
abbrev d__law_bent : DefE := ⟨top 33, ["pot", "value", "at", "ways"], f__law_bent⟩
abbrev d__law_counts : DefE := ⟨top 34, ["out", "found", "low", "high", "longer", "row", "one"], f__law_counts⟩
abbrev d__law_out : DefE := ⟨top 35, ["pot", "lows", "highs", "party"], f__law_out⟩
abbrev d__law_right : DefE := ⟨top 36, ["pot", "out", "some", "votes", "party", "count", "at", "values", "value", "own", "due", "one", "lap", "low", "row", "more"], f__law_right⟩
abbrev d_law : DefE := ⟨top 37, ["script", "place", "pot"], f_law⟩
def t : Txt := { defs := [d_is_integer, d_is_between, d_are_between, d_are_votes, d_check_votes, d_check_party, d_is_out, d_check_out, d_is_count, d_are_counts, d_put_to, d_behind, d_least_of, d_greatest_of, d_least_share, d_greatest_share, d__law_pot, d__law_take, d__law_of, d__law_cells, d__law_odd, d__law_bent, d__law_counts, d__law_out, d__law_right, d_law], gvs := [.int "MOST_PARTIES" 12, .int "MOST_VOTES" 1000000000, .int "THREE" 3], free := ["abs", "all", "bool", "int", "isinstance", "len", "list", "max", "min", "range", "repr", "set", "sorted", "str", "sum", "tuple", "zip"], imp := [] }
theorem ok : t.defs.all (DefE.okB t.mc) = true := by decide +kernel
def loose0 : List PySem.Str := ["__name__", "CountError", "BadCount", "BadOut", "BadParty", "BadVotes", "is_integer", "is_between", "are_between", "MOST_PARTIES", "MOST_VOTES", "THREE", "are_votes", "check_votes", "check_party", "is_out", "check_out", "is_count", "are_counts", "put_to", "behind", "least_of", "greatest_of", "least_share", "greatest_share", "_law_pot", "_law_take", "_law_of", "_law_cells", "_law_odd"]
def loose1 : List PySem.Str := ["_law_bent", "_law_counts", "_law_out", "_law_right"]
def loose : List PySem.Str := loose0 ++ loose1
end K11

/-! K11e: what the defs of k10's text hand back. -/
namespace K11
open PySem L2 PM
noncomputable abbrev E (k : Nat) : Fns := callF t.fns t.G k
section
variable {M : Store} {k : Nat}
theorem fin_self {T : List FnD} {G : List D} {k f : Nat} {ds : List D} (fd : FnD) {d : D} (h : T[f]? = some fd) (hl : ds.length = fd.ps) (hr : fd.rm = .data) (hd : d.pure = true)
    (hb : evSs (callF T G k) G fd.body (ds.map some ++ List.replicate (fd.N - fd.ps) none) M = .ok (.ret d) M) : callF T G (k + 1) f ds M = .ok d M := by
  rw [callF_data fd h hl hr hd hb, take_self]
theorem non_self {T : List FnD} {G : List D} {k f : Nat} {ds : List D} (fd : FnD) {env : EnvD} (h : T[f]? = some fd) (hl : ds.length = fd.ps) (hr : fd.rm = .data)
    (hb : evSs (callF T G k) G fd.body (ds.map some ++ List.replicate (fd.N - fd.ps) none) M = .ok (.next env) M) : callF T G (k + 1) f ds M = .ok .non M := by
  rw [callF_non fd h hl hb, hr]; show Res.ok D.non (M.take M.length) = _; rw [take_self]
theorem pure_tupI : ∀ vs : List Int, (tupI vs).pure = true
  | [] => rfl
  | v :: vs => by have := pure_tupI vs; show (true && _) = true; exact this
theorem c_int (i : Int) : E (k + 1) 0 [.int i] M = .ok (.bl true) M := fin_self f_is_integer rfl rfl rfl rfl (b_int i)
theorem c_btw (i lo hi : Int) : E (k + 2) 1 [.int i, .int lo, .int hi] M = .ok (.bl (btw lo hi i)) M := fin_self f_is_between rfl rfl rfl rfl (b_btw i lo hi (c_int i))
theorem c_are {vs : List Int} (lo hi : Int) (hl : vs.length ≤ sizeLine) : E (k + 3) 2 [tupI vs, .int lo, .int hi] M = .ok (.bl (vs.all (btw lo hi))) M := fin_self f_are_between rfl rfl rfl rfl (b_areBtw hl fun v => c_btw v lo hi)
structure VOk (vs : List Int) : Prop where
  all : vs.all (btw 0 (10 ^ 9)) = true
  lo : 1 ≤ vs.length
  hi : vs.length ≤ 12
structure DOk (ds : List Int) : Prop where
  all : ds.all (btw 1 (10 ^ 6)) = true
  lo : 1 ≤ ds.length
  hi : ds.length ≤ 60
  asc : ascB ds = true
theorem sl {n : Nat} (h : n ≤ 1000) : n ≤ sizeLine := Nat.le_trans h (by decide)
theorem len_tupI {vs : List Int} : bi .len [tupI vs] M = .ok (.int vs.length) M := by
  show Res.ok (D.int ((vs.map D.int).length : Nat)) M = _; rw [List.length_map]
theorem chain_len {F : Fns} {vs : List Int} {x : Nat} {N : Int} {env : EnvD} (hg : t.G[x]? = some (.int N)) (h1 : 1 ≤ vs.length) (h2 : (vs.length : Int) ≤ N) (he : env[0]? = some (some (tupI vs))) :
    evE F t.G (.chain .le .le (.c (.int 1)) (.bi .len [.var 0]) (.glo x)) env M = .ok (.bl true) M := by
  show (Res.ok (D.int 1) M).bind _ = _
  rw [ok_bind]
  show (evE F t.G (.bi .len [.var 0]) env M).bind _ = _
  rw [eBi1 (eVar he), len_tupI, ok_bind, cmp_le, decide_eq_true (by omega), optR_some, ok_bind, if_pos rfl, eGlo hg, ok_bind, cmp_le, decide_eq_true h2]; rfl
theorem c_votes {vs : List Int} (h : VOk vs) : E (k + 4) 3 [tupI vs] M = .ok (.bl true) M := by
  refine fin_self f_are_votes rfl rfl rfl rfl (sRet ?_)
  rw [eAndT, eAnd1, chain_len (N := 12) rfl h.lo (by have := h.hi; omega) rfl]
  rw [eCall (esCons (eVar rfl) (esCons eC (esCons (eGlo (d := .int (10 ^ 9)) rfl) esNil)))]
  exact (c_are 0 (10 ^ 9) (sl (by have := h.hi; omega))).trans (by rw [h.all])
theorem c_check_votes {vs : List Int} (h : VOk vs) : E (k + 5) 4 [tupI vs] M = .ok .non M := by
  refine non_self f_check_votes (env := [some (tupI vs)]) rfl rfl rfl (sNo (M1 := M) ?_ sNil)
  rw [eNot (b := true) (M1 := M)]; rfl
  rw [eCall (esCons (eVar rfl) esNil)]; exact c_votes h
structure ROk (ds : List Int) (s b : Int) (n : Nat) : Prop extends DOk ds where
  s1 : 1 ≤ s
  s2 : s ≤ ds.length
  b1 : 0 ≤ b
  b2 : b ≤ 100 / (n : Int)
abbrev ruleD (ds : List Int) (s b : Int) : D := .tup [tupI ds, .int s, .int b]
theorem ix0 {ds : List Int} {s b : Int} {F : Fns} {env : EnvD} {v : Nat} (h : env[v]? = some (some (ruleD ds s b))) : evE F t.G (.ix (.var v) (.c (.int 0))) env M = .ok (tupI ds) M := eIx (eVar h) eC rfl
theorem ix1 {ds : List Int} {s b : Int} {F : Fns} {env : EnvD} {v : Nat} (h : env[v]? = some (some (ruleD ds s b))) : evE F t.G (.ix (.var v) (.c (.int 1))) env M = .ok (.int s) M := eIx (eVar h) eC rfl
theorem ix2 {ds : List Int} {s b : Int} {F : Fns} {env : EnvD} {v : Nat} (h : env[v]? = some (some (ruleD ds s b))) : evE F t.G (.ix (.var v) (.c (.int 2))) env M = .ok (.int b) M := eIx (eVar h) eC rfl
theorem eFdiv {F : Fns} {G : List D} {a b : ME} {i j : Int} {env : EnvD} {M1 M2 : Store} (ha : evE F G a env M = .ok (.int i) M1) (hb : evE F G b env M1 = .ok (.int j) M2) (h : divOk j = true) : evE F G (.fdiv a b) env M = .ok (.int (i / j)) M2 := by
  show (evE F G a env M).bind _ = _; rw [ha, ok_bind]; show (evE F G b env M1).bind _ = _; rw [hb, ok_bind, fdivD_int h]; rfl
theorem eMul {F : Fns} {G : List D} {a b : ME} {i j : Int} {env : EnvD} {M1 M2 : Store} (ha : evE F G a env M = .ok (.int i) M1) (hb : evE F G b env M1 = .ok (.int j) M2) (h : mulOk i j = true) : evE F G (.mul a b) env M = .ok (.int (i * j)) M2 := by
  show (evE F G a env M).bind _ = _; rw [ha, ok_bind]; show (evE F G b env M1).bind _ = _; rw [hb, ok_bind, mulD_int h]; rfl
theorem eAdd {F : Fns} {G : List D} {a b : ME} {i j : Int} {env : EnvD} {M1 M2 : Store} (ha : evE F G a env M = .ok (.int i) M1) (hb : evE F G b env M1 = .ok (.int j) M2) : evE F G (.add a b) env M = .ok (.int (i + j)) M2 := by
  show (evE F G a env M).bind _ = _; rw [ha, ok_bind]; show (evE F G b env M1).bind _ = _; rw [hb, ok_bind]; rfl
theorem eSub {F : Fns} {G : List D} {a b : ME} {i j : Int} {env : EnvD} {M1 M2 : Store} (ha : evE F G a env M = .ok (.int i) M1) (hb : evE F G b env M1 = .ok (.int j) M2) : evE F G (.sub a b) env M = .ok (.int (i - j)) M2 := by
  show (evE F G a env M).bind _ = _; rw [ha, ok_bind]; show (evE F G b env M1).bind _ = _; rw [hb, ok_bind]; rfl
end
end K11

/-! K11f: the dealing. -/
namespace K11
open PySem L2 PM
section
variable {M : Store} {k : Nat}
def belowB (vs : List Int) (b : Int) (p : Nat) : Bool := decide (vs.getD p 0 * 100 < b * vs.sum)
def aheadB (vs ds : List Int) (p h q g : Nat) : Bool := decide (vs.getD q 0 * ds.getD h 0 < vs.getD p 0 * ds.getD g 0) || (decide (vs.getD p 0 * ds.getD g 0 = vs.getD q 0 * ds.getD h 0) && HT.lexLt [(p : Int), (h : Int)] [(q : Int), (g : Int)])
theorem ix_tupI {vs : List Int} {p : Nat} (hp : p < vs.length) : ixD (tupI vs) (.int p) M = some (.int (vs.getD p 0)) := by
  show atI (vs.map D.int) (p : Int) = _
  rw [atI_nat (by rw [List.length_map]; exact hp), List.getElem_map]
  simp [List.getD, hp]
theorem eIxV {F : Fns} {a i : ME} {vs : List Int} {p : Nat} {env : EnvD} {M1 M2 : Store} (ha : evE F t.G a env M = .ok (tupI vs) M1) (hi : evE F t.G i env M1 = .ok (.int p) M2) (hp : p < vs.length) : evE F t.G (.ix a i) env M = .ok (.int (vs.getD p 0)) M2 := eIx ha hi (ix_tupI hp)
theorem btw_of {lo hi v : Int} (h : btw lo hi v = true) : lo ≤ v ∧ v ≤ hi := by
  unfold btw at h; rw [Bool.and_eq_true, decide_eq_true_eq, decide_eq_true_eq] at h; exact h
theorem getD_mem {vs : List Int} {p : Nat} (hp : p < vs.length) : vs.getD p 0 ∈ vs := by simp [List.getD, hp]
theorem VOk.at {vs : List Int} (h : VOk vs) {p : Nat} (hp : p < vs.length) : 0 ≤ vs.getD p 0 ∧ vs.getD p 0 ≤ 10 ^ 9 := btw_of (List.all_eq_true.mp h.all _ (getD_mem hp))
theorem DOk.at {ds : List Int} (h : DOk ds) {p : Nat} (hp : p < ds.length) : 1 ≤ ds.getD p 0 ∧ ds.getD p 0 ≤ 10 ^ 6 := btw_of (List.all_eq_true.mp h.all _ (getD_mem hp))
theorem eqD_int {i j : Int} : cmpD .eq (.int i) (.int j) M = some (decide (i = j)) := by
  show (if (eqOk (.int i) && eqOk (.int j)) = true then some (PyData.eqv (.int i) (.int j)) else none) = _
  rw [if_pos (by rfl)]
  congr 1
theorem lt_pair {p h q g : Int} : cmpD .lt (.tup [.int p, .int h]) (.tup [.int q, .int g]) M = some (HT.lexLt [p, h] [q, g]) := rfl
/-! ### the dealing, plainly -/
/-- parties above the bar -/
def elig (vs : List Int) (b : Int) : List Nat := (List.range vs.length).filter fun p => !belowB vs b p
/-- the party to be served next among those of l that have room -/
def bestStep (vs ds : List Int) (h : Nat → Nat) (best : Option Nat) (p : Nat) : Option Nat :=
  if h p < ds.length then (match best with
    | none => some p
    | some q => if aheadB vs ds p (h p) q (h q) then some p else some q) else best
def bestOf (vs ds : List Int) (h : Nat → Nat) (l : List Nat) : Option Nat := l.foldl (bestStep vs ds h) none
def bump (h : Nat → Nat) (p : Nat) : Nat → Nat := fun q => if q = p then h p + 1 else h q
/-- the counters and the list after n laps -/
def deal (vs ds : List Int) (b : Int) : Nat → (Nat → Nat) × List Nat
  | 0 => (fun _ => 0, [])
  | n + 1 => match bestOf vs ds (deal vs ds b n).1 (elig vs b) with
    | some p => (bump (deal vs ds b n).1 p, (deal vs ds b n).2 ++ [p])
    | none => deal vs ds b n
def optN : Option Nat → D
  | none => .non
  | some p => .int p
theorem snocInd {α : Type} {P : List α → Prop} (h0 : P []) (hs : ∀ l a, P l → P (l ++ [a])) (l : List α) : P l := by
  have : ∀ l : List α, P l.reverse := by
    intro l
    induction l with
    | nil => exact h0
    | cons a l ih => rw [List.reverse_cons]; exact hs _ _ ih
  have := this l.reverse
  rwa [List.reverse_reverse] at this
theorem bestOf_snoc {vs ds : List Int} {h : Nat → Nat} {l : List Nat} {p : Nat} : bestOf vs ds h (l ++ [p]) = bestStep vs ds h (bestOf vs ds h l) p := by
  unfold bestOf; rw [List.foldl_append]; rfl
theorem bestOf_mem {vs ds : List Int} {h : Nat → Nat} : ∀ {l : List Nat} {p : Nat}, bestOf vs ds h l = some p → p ∈ l ∧ h p < ds.length := by
  intro l
  refine snocInd (P := fun l => ∀ {p : Nat}, bestOf vs ds h l = some p → p ∈ l ∧ h p < ds.length) (fun {p} e => by cases e) (fun l q ih => ?_) l
  · intro p e
    rw [bestOf_snoc] at e
    unfold bestStep at e
    split at e
    · rename_i hq
      split at e
      · cases e; exact ⟨by simp, hq⟩
      · rename_i r er
        split at e
        · cases e; exact ⟨by simp, hq⟩
        · cases e; exact ⟨by simp [(ih er).1], (ih er).2⟩
    · exact ⟨by simp [(ih e).1], (ih e).2⟩
theorem bestOf_some {vs ds : List Int} {h : Nat → Nat} {l : List Nat} (hl : l ≠ []) (hh : ∀ p ∈ l, h p < ds.length) : ∃ p, bestOf vs ds h l = some p := by
  revert hl hh
  refine snocInd (P := fun l => l ≠ [] → (∀ p ∈ l, h p < ds.length) → ∃ p, bestOf vs ds h l = some p) (fun hl => absurd rfl hl) (fun l q ih hl hh => ?_) l
  · rw [bestOf_snoc]
    unfold bestStep
    rw [if_pos (hh q (by simp))]
    split
    · exact ⟨_, rfl⟩
    · split <;> exact ⟨_, rfl⟩
theorem deal_le {vs ds : List Int} {b : Int} : ∀ (n p : Nat), (deal vs ds b n).1 p ≤ n
  | 0, p => Nat.le_refl _
  | n + 1, p => by
    have ih := deal_le (vs := vs) (ds := ds) (b := b) n
    show (match bestOf vs ds (deal vs ds b n).1 (elig vs b) with
      | some p => (bump (deal vs ds b n).1 p, (deal vs ds b n).2 ++ [p])
      | none => deal vs ds b n).1 p ≤ n + 1
    split
    · rename_i q _
      show (if p = q then (deal vs ds b n).1 q + 1 else (deal vs ds b n).1 p) ≤ n + 1
      have := ih q; have := ih p
      split <;> omega
    · have := ih p; omega
theorem deal_succ {vs ds : List Int} {b : Int} {n p : Nat} (h : bestOf vs ds (deal vs ds b n).1 (elig vs b) = some p) : deal vs ds b (n + 1) = (bump (deal vs ds b n).1 p, (deal vs ds b n).2 ++ [p]) := by
  show (match bestOf vs ds (deal vs ds b n).1 (elig vs b) with
      | some p => (bump (deal vs ds b n).1 p, (deal vs ds b n).2 ++ [p])
      | none => deal vs ds b n) = _
  rw [h]
theorem elig_lt {vs : List Int} {b : Int} {p : Nat} (h : p ∈ elig vs b) : p < vs.length := List.mem_range.mp (List.mem_filter.mp h).1
/-! ### the dealing, run -/
theorem app2_0 {a b : Cell} : (M ++ [a, b])[M.length]? = some a := by rw [List.getElem?_append_right (Nat.le_refl _), Nat.sub_self]; rfl
theorem app2_1 {a b : Cell} : (M ++ [a, b])[M.length + 1]? = some b := by rw [List.getElem?_append_right (Nat.le_add_right _ 1), Nat.add_sub_cancel_left]; rfl
theorem set2_0 {a b c : Cell} : (M ++ [a, b]).set M.length c = M ++ [c, b] := by rw [List.set_append_right _ _ (Nat.le_refl _), Nat.sub_self]; rfl
theorem set2_1 {a b c : Cell} : (M ++ [a, b]).set (M.length + 1) c = M ++ [a, c] := by rw [List.set_append_right _ _ (Nat.le_add_right _ 1), Nat.add_sub_cancel_left]; rfl
abbrev intN (l : List Nat) : List D := l.map fun (p : Nat) => D.int (p : Int)
abbrev St (M : Store) (vs : List Int) (b : Int) (h : Nat → Nat) (found : List Nat) (lk : Bool) : Store := M ++ [.dK lk (kvsOf (elig vs b) h), .lst (intN found)]
theorem ixK {vs : List Int} {b : Int} {h : Nat → Nat} {found : List Nat} {lk : Bool} {p : Nat} (hp : p ∈ elig vs b) : ixD (.ref M.length) (.int p) (St M vs b h found lk) = some (.int (h p)) := by
  simp only [ixD, app2_0]
  exact kvs_val hp
theorem keysN {E : List Nat} {h : Nat → Nat} : ((kvsOf E h).map fun (p : Key × D) => kD p.1) = intN E := by
  unfold kvsOf; rw [List.map_map]; rfl
theorem pures_ints : ∀ l : List Int, D.pures (l.map D.int) = true
  | [] => rfl
  | _ :: l => pures_ints l
theorem deal_len {vs ds : List Int} {b : Int} : ∀ n : Nat, (deal vs ds b n).2.length ≤ n
  | 0 => Nat.le_refl _
  | n + 1 => by
    have ih := deal_len (vs := vs) (ds := ds) (b := b) n
    show (match bestOf vs ds (deal vs ds b n).1 (elig vs b) with
      | some p => (bump (deal vs ds b n).1 p, (deal vs ds b n).2 ++ [p])
      | none => deal vs ds b n).2.length ≤ n + 1
    split
    · simp; omega
    · omega
theorem best_at {vs ds : List Int} {b : Int} (he : elig vs b ≠ []) {n : Nat} (hn : n < ds.length) : ∃ p, bestOf vs ds (deal vs ds b n).1 (elig vs b) = some p :=
  bestOf_some he fun p _ => Nat.lt_of_le_of_lt (deal_le n p) hn
theorem append_two {a b : Cell} : (M ++ [a]) ++ [b] = M ++ [a, b] := by rw [List.append_assoc]; rfl
theorem intN_pures : ∀ l : List Nat, D.pures (intN l) = true
  | [] => rfl
  | _ :: l => intN_pures l
end
end K11

/-! K11g: what is handed back of the dealing. -/
namespace K11
open PySem L2 PM
section
variable {M : Store} {k : Nat}
theorem eMe {F : Fns} {G : List D} {m : MI} {o : ME} {es : List ME} {x y : D} {ds : List D} {env : EnvD} {M M1 M2 M3 : Store} (ho : evE F G o env M = .ok x M1) (hl : (lstOf x M1).isSome = true) (ha : evEs F G es env M1 = .ok ds M2) (h : mi m x ds M2 = .ok y M3) : evE F G (.me m o es) env M = .ok y M3 := by
  show (evE F G o env M).bind _ = _
  rw [ho, ok_bind]
  show (if (lstOf x M1).isSome = true then _ else _) = _
  rw [if_pos hl, ha, ok_bind, h]
theorem intN_ints (l : List Nat) : intsOf (intN l) = some (l.map fun (p : Nat) => (p : Int)) := by
  have := ints_map (l.map fun (p : Nat) => (p : Int))
  rw [List.map_map] at this; exact this
theorem count_cast (l : List Nat) (p : Nat) : (l.map fun (p : Nat) => (p : Int)).count (p : Int) = l.count p := by
  induction l with
  | nil => rfl
  | cons q l ih =>
    rw [List.map_cons, List.count_cons, List.count_cons, ih]
    congr 1
    by_cases e : q = p
    · subst e; simp
    · have : ¬ ((q : Int) = (p : Int)) := by omega
      simp [e, this]
theorem mi_count {l : List Nat} {p : Nat} : mi .count (.lst (intN l)) [.int p] M = .ok (.int (l.count p : Nat)) M := by
  show (match intsOf (intN l) with
      | some ns => Res.ok (D.int (countI ns (p : Int) : Nat)) M
      | none => Res.no) = _
  rw [intN_ints]; show Res.ok (D.int ((l.map fun (p : Nat) => (p : Int)).count (p : Int) : Nat)) M = _
  rw [count_cast]
/-- how often each of the first n comes in l -/
def counts (n : Nat) (l : List Nat) : List Nat := (List.range n).map fun p => l.count p
theorem pure_tupN (l : List Nat) : (D.tup (intN l)).pure = true := intN_pures l
theorem pure_lstN (l : List Nat) : (D.lst (intN l)).pure = true := intN_pures l
theorem counts_run {F : Fns} {e n : ME} {env : EnvD} {own x N : Nat} {l : List Nat} (hn : evE F t.G n env M = .ok (.int N) M) (hN : N ≤ 1000)
    (h : ∀ p < N, ∃ env', stoT (.nm x) (.int p) (wipeD env [own]) = some env' ∧ evE F t.G e env' M = .ok (.int (l.count p : Nat)) M) :
    evE F t.G (.bi .tuple [.comp .frz e (.nm x) (.rng1 n) [] [own]]) env M = .ok (.tup (intN (counts N l))) M := by
  have hit := it_rng (F := F) (G := t.G) (k := N) (by omega) hn
  rw [rangeD0] at hit
  refine (eBi1 (eMap (List.range N) (fun (i : Nat) => D.int (i : Int)) (fun p => .int (l.count p : Nat)) hit rfl (by rw [List.length_range]; exact sl hN) fun p hp => h p (List.mem_range.mp hp))).trans ?_
  show Res.ok (D.tup _) M = _
  unfold counts intN
  rw [List.map_map]; rfl
end
end K11

/-! K11h: counts, marks, needs and caps: what the program's defs hand back. -/
namespace K11
open PySem L2 PM
section
variable {M : Store} {k : Nat} {F : Fns} {env : EnvD}
theorem eChainLL {a b e : ME} {x y z : Int} (ha : evE F t.G a env M = .ok (.int x) M) (hb : evE F t.G b env M = .ok (.int y) M) (he : evE F t.G e env M = .ok (.int z) M) : evE F t.G (.chain .le .le a b e) env M = .ok (.bl (btw x z y)) M := by
  show (evE F t.G a env M).bind _ = _
  rw [ha, ok_bind]; show (evE F t.G b env M).bind _ = _
  rw [hb, ok_bind, cmp_le, optR_some, ok_bind]
  by_cases h : x ≤ y
  · rw [decide_eq_true h, if_pos rfl, he, ok_bind, cmp_le]; unfold btw; rw [decide_eq_true h]; rfl
  · rw [decide_eq_false h]; unfold btw; rw [decide_eq_false h]; rfl
theorem eChainLT {a b e : ME} {x y z : Int} (ha : evE F t.G a env M = .ok (.int x) M) (hb : evE F t.G b env M = .ok (.int y) M) (he : evE F t.G e env M = .ok (.int z) M) : evE F t.G (.chain .le .lt a b e) env M = .ok (.bl (decide (x ≤ y) && decide (y < z))) M := by
  show (evE F t.G a env M).bind _ = _
  rw [ha, ok_bind]; show (evE F t.G b env M).bind _ = _
  rw [hb, ok_bind, cmp_le, optR_some, ok_bind]
  by_cases h : x ≤ y
  · rw [decide_eq_true h, if_pos rfl, he, ok_bind, cmp_lt]; rfl
  · rw [decide_eq_false h]; rfl
theorem neD_int {i j : Int} : cmpD .ne (.int i) (.int j) M = some (!decide (i = j)) := by
  have h : cmpD .eq (.int i) (.int j) M = some (decide (i = j)) := eqD_int
  show (cmpD .eq (.int i) (.int j) M).map (!·) = _
  rw [h]; rfl
theorem eMax {a b : ME} {x y : Int} (ha : evE F t.G a env M = .ok (.int x) M) (hb : evE F t.G b env M = .ok (.int y) M) : evE F t.G (.bi .max [a, b]) env M = .ok (.int (maxI x y)) M := (eBi2 ha hb).trans rfl
theorem eMin {a b : ME} {x y : Int} (ha : evE F t.G a env M = .ok (.int x) M) (hb : evE F t.G b env M = .ok (.int y) M) : evE F t.G (.bi .min [a, b]) env M = .ok (.int (minI x y)) M := (eBi2 ha hb).trans rfl
theorem it_zip3 {es : List ME} {a b c : List D} (h : evEs F t.G es env M = .ok [.tup a, .tup b, .tup c] M) : evIt F t.G (.zip es) env M = .ok ⟨(a.zip (b.zip c)).map fun p => .tup [p.1, p.2.1, p.2.2], []⟩ M := by
  show (evEs F t.G es env M).bind _ = _; rw [h, ok_bind]
  show Res.ok (Src.mk ((zipD [a, b, c]).map D.tup) _) M = _
  congr 2
  show (List.zipWith _ a (List.zipWith _ b (c.map fun x => [x]))).map D.tup = _
  rw [List.zip, List.zip, List.map_zipWith, List.map_zipWith, List.zipWith_map_right]
  apply List.ext_getElem
  · simp
  · intro i h1 h2; simp
theorem s3 : (3 : Nat) ≤ sizeLine := sl (by decide)
theorem s2 : (2 : Nat) ≤ sizeLine := sl (by decide)
theorem s1 : (1 : Nat) ≤ sizeLine := sl (by decide)
/-! ### ballots that are out -/
structure OOk (m : Int) (lo hi : List Int) (P : Nat) : Prop where
  m0 : 0 ≤ m
  m1 : m ≤ 10 ^ 9
  ll : lo.length = P
  lh : hi.length = P
  p1 : 1 ≤ P
  p12 : P ≤ 12
  la : lo.all (btw 0 (10 ^ 9)) = true
  ha : hi.all (btw 0 (10 ^ 9)) = true
  sl : lo.sum ≤ m
  sh : m ≤ hi.sum
  le : ∀ j < P, lo.getD j 0 ≤ hi.getD j 0
abbrev outD (m : Int) (lo hi : List Int) : D := .tup [.int m, tupI lo, tupI hi]
variable {vs ds lo hi : List Int} {m b : Int} {n P : Nat}
theorem OOk.loB (h : OOk m lo hi P) {j : Nat} (hj : j < P) : 0 ≤ lo.getD j 0 ∧ lo.getD j 0 ≤ 10 ^ 9 := btw_of (List.all_eq_true.mp h.la _ (getD_mem (by rw [h.ll]; exact hj)))
theorem OOk.hiB (h : OOk m lo hi P) {j : Nat} (hj : j < P) : 0 ≤ hi.getD j 0 ∧ hi.getD j 0 ≤ 10 ^ 9 := btw_of (List.all_eq_true.mp h.ha _ (getD_mem (by rw [h.lh]; exact hj)))
theorem o0 {v : Nat} (h : env[v]? = some (some (outD m lo hi))) : evE F t.G (.ix (.var v) (.c (.int 0))) env M = .ok (.int m) M := eIx (eVar h) eC rfl
theorem o1 {v : Nat} (h : env[v]? = some (some (outD m lo hi))) : evE F t.G (.ix (.var v) (.c (.int 1))) env M = .ok (tupI lo) M := eIx (eVar h) eC rfl
theorem o2 {v : Nat} (h : env[v]? = some (some (outD m lo hi))) : evE F t.G (.ix (.var v) (.c (.int 2))) env M = .ok (tupI hi) M := eIx (eVar h) eC rfl
theorem eLenI {e : ME} {l : List Int} (h : evE F t.G e env M = .ok (tupI l) M) : evE F t.G (.bi .len [e]) env M = .ok (.int l.length) M := (eBi1 h).trans len_tupI
theorem eSumI {e : ME} {l : List Int} (h : evE F t.G e env M = .ok (tupI l) M) : evE F t.G (.bi .sum [e]) env M = .ok (.int l.sum) M := (eBi1 h).trans bi_sum
theorem eTupT {e : ME} {l : List Int} (h : evE F t.G e env M = .ok (tupI l) M) : evE F t.G (.bi (.isa .tup) [e]) env M = .ok (.bl true) M := (eBi1 h).trans rfl
theorem zipI {e f : ME} {a b : List Int} (ha : evE F t.G e env M = .ok (tupI a) M) (hb : evE F t.G f env M = .ok (tupI b) M) : evIt F t.G (.zip [e, f]) env M = .ok ⟨(a.zip b).map fun p => D.tup [.int p.1, .int p.2], []⟩ M := by
  have := it_zip (F := F) (G := t.G) (es := [e, f]) (env := env) (M := M) (a := a.map D.int) (b := b.map D.int) (esCons ha (esCons hb esNil))
  rw [List.zip_map, List.map_map] at this
  exact this
theorem zip_mem {a b : List Int} {p : Int × Int} (h : p ∈ a.zip b) : ∃ j, j < a.length ∧ j < b.length ∧ p = (a.getD j 0, b.getD j 0) := by
  obtain ⟨j, hj, e⟩ := List.mem_iff_getElem.mp h
  rw [List.length_zip] at hj
  have h1 : j < a.length := by omega
  have h2 : j < b.length := by omega
  refine ⟨j, h1, h2, ?_⟩
  rw [← e, List.getElem_zip]
  simp [List.getD, h1, h2]
theorem c_out (h : OOk m lo hi P) : E (k + 4) 6 [outD m lo hi] M = .ok (.bl true) M := by
  have hll := h.ll
  have hlh := h.lh
  have hp := h.p12
  have hp1 := h.p1
  refine fin_self f_is_out rfl rfl rfl rfl ?_
  show evSs (E (k + 3)) t.G b_is_out [some (outD m lo hi), none, none, none, none, none] M = _
  have hm : btw 0 1000000000 m = true := by unfold btw; rw [decide_eq_true h.m0, decide_eq_true (show m ≤ 1000000000 from h.m1)]; rfl
  refine pNo (pOr3 (pNot ((eBi1 (eVar rfl)).trans (show bi (.isa .tup) [outD m lo hi] M = .ok (.bl true) M from rfl))) (fun _ => eCmp (x := .int 3) (y := .int 3) (r := false) ((eBi1 (eVar rfl)).trans (by exact rfl)) (eGlo (d := .int 3) rfl) rfl) (fun _ _ => pNot ((eCall (esCons (o0 rfl) (esCons eC (esCons (eGlo rfl) esNil)))).trans (c_btw (k := k + 1) m 0 1000000000)))) (by rw [hm]; rfl) (sAsg (eVar rfl) rfl ?_)
  refine pNo (pOr2 (pNot ((eCall (esCons (eVar rfl) (esCons eC (esCons (eGlo rfl) esNil)))).trans (c_are (vs := lo) (k := k) 0 1000000000 (sl (by omega))))) (fun _ => pNot ((eCall (esCons (eVar rfl) (esCons eC (esCons (eGlo rfl) esNil)))).trans (c_are (vs := hi) (k := k) 0 1000000000 (sl (by omega)))))) (by rw [show lo.all (btw 0 1000000000) = true from h.la, show hi.all (btw 0 1000000000) = true from h.ha]; rfl) ?_
  refine pNo (pOr4 (pNot (eChainLL eC (eLenI (eVar rfl)) (eGlo rfl))) (fun _ => eCmp (eLenI (eVar rfl)) (eLenI (eVar rfl)) neD_int) (fun _ _ => eCmp (eSumI (eVar rfl)) (eVar rfl) cmp_gt) (fun _ _ _ => eCmp (eSumI (eVar rfl)) (eVar rfl) cmp_lt)) ?_ (sRet ?_)
  · have := h.sl
    have := h.sh
    unfold btw; rw [decide_eq_true (by omega), decide_eq_true (by omega), hll, hlh, decide_eq_true rfl, decide_eq_false (by omega), decide_eq_false (by omega)]; rfl
  · refine (eBi1 (eMap (lo.zip hi) (fun p => D.tup [.int p.1, .int p.2]) (fun p => D.bl (decide (p.1 ≤ p.2))) (zipI (eVar rfl) (eVar rfl)) rfl (sl (by rw [List.length_zip]; omega)) fun p hp => ⟨_, rfl, eCmp (eVar rfl) (eVar rfl) cmp_le⟩)).trans ?_
    rw [bi_all]
    have : (lo.zip hi).all (fun p => decide (p.1 ≤ p.2)) = true := List.all_eq_true.mpr fun p hp => by
      obtain ⟨j, h1, _, rfl⟩ := zip_mem hp
      exact decide_eq_true (h.le j (by omega))
    rw [this]
theorem inD2 {x : Int} : cmpD .notIn (.int x) (.tup [.non, .int x]) M = some false := by
  show ((if flat (.int x) && [D.non, D.int x].all flat then some ([D.non, D.int x].any fun d => PyData.eqv d.py (D.int x).py) else none).map (!·)) = _
  rw [if_pos (by rfl)]
  have : ([D.non, D.int x].any fun d => PyData.eqv d.py (D.int x).py) = true := by simp [D.py, PyData.eqv]
  rw [this]; rfl
theorem c_check_out (h : OOk m lo hi P) : E (k + 5) 7 [outD m lo hi, .int P] M = .ok .non M := by
  refine non_self f_check_out (env := [some (outD m lo hi), some (.int P)]) rfl rfl rfl (pNo (pOr2 (pNot ((eCall (esCons (eVar rfl) esNil)).trans (c_out h))) (fun _ => eCmp (eVar (d := .int P) rfl) (eTup (esCons eC (esCons (x := .int P) ?_ esNil)) s2) inD2)) rfl sNil)
  have := eLenI (F := E (k + 4)) (M := M) (env := [some (outD m lo hi), some (.int P)]) (o1 (v := 0) (m := m) (lo := lo) (hi := hi) rfl)
  rw [h.ll] at this; exact this
theorem c_check_party {p : Nat} (hp : p < vs.length) : E (k + 3) 5 [tupI vs, .int p] M = .ok .non M := by
  refine non_self f_check_party (env := [some (tupI vs), some (.int p)]) rfl rfl rfl (sNo (M1 := M) (eNot (b := true) ?_) sNil)
  refine (eCall (esCons (eVar rfl) (esCons eC (esCons (eSub (eLenI (eVar rfl)) eC) esNil)))).trans ((c_btw (k := k) p 0 (vs.length - 1)).trans ?_)
  unfold btw; rw [decide_eq_true (by omega), decide_eq_true (by omega)]; rfl
/-! ### counts -/
structure COk (m : Int) (lo hi : List Int) (P : Nat) (cs : List Int) : Prop where
  len : cs.length = P
  at_ : ∀ j < P, lo.getD j 0 ≤ cs.getD j 0 ∧ cs.getD j 0 ≤ hi.getD j 0
  sum : cs.sum = m
theorem zip3_mem {a b c : List Int} {p : Int × Int × Int} (h : p ∈ a.zip (b.zip c)) : ∃ j, j < a.length ∧ p = (a.getD j 0, b.getD j 0, c.getD j 0) := by
  obtain ⟨j, hj, e⟩ := List.mem_iff_getElem.mp h
  rw [List.length_zip, List.length_zip] at hj
  have h1 : j < a.length := by omega
  have h2 : j < b.length := by omega
  have h3 : j < c.length := by omega
  refine ⟨j, h1, ?_⟩
  rw [← e, List.getElem_zip, List.getElem_zip]
  simp [List.getD, h1, h2, h3]
theorem c_count (ho : OOk m lo hi P) {cs : List Int} (h : COk m lo hi P cs) : E (k + 3) 8 [outD m lo hi, tupI cs] M = .ok (.bl true) M := by
  have hp := ho.p12
  have hl := h.len
  have hll := ho.ll
  refine fin_self f_is_count rfl rfl rfl rfl ?_
  show evSs (E (k + 2)) t.G b_is_count [some (outD m lo hi), some (tupI cs), none, none, none] M = _
  refine pNo (pOr2 (pNot (eTupT (eVar rfl))) (fun _ => eCmp (eLenI (eVar rfl)) (eLenI (o1 rfl)) neD_int)) (by rw [hl, hll, decide_eq_true rfl]; rfl) (sNo (M1 := M) (eNot (b := true) ?_) (sRet ?_))
  · have hz := it_zip3 (F := E (k + 2)) (M := M) (es := [.var 1, .ix (.var 0) (.c (.int 1)), .ix (.var 0) (.c (.int 2))]) (env := [some (outD m lo hi), some (tupI cs), none, none, none]) (a := cs.map D.int) (b := lo.map D.int) (c := hi.map D.int) (esCons (eVar rfl) (esCons (o1 rfl) (esCons (o2 rfl) esNil)))
    rw [List.zip_map, List.zip_map, List.map_map] at hz
    refine (eBi1 (eMap (cs.zip (lo.zip hi)) _ (fun p => D.bl (btw p.2.1 p.2.2 p.1)) hz rfl (sl (by rw [List.length_zip]; omega)) fun p hp => ⟨_, rfl, (eCall (esCons (eVar rfl) (esCons (eVar rfl) (esCons (eVar rfl) esNil)))).trans (c_btw (k := k) _ _ _)⟩)).trans ?_
    rw [bi_all]
    have : (cs.zip (lo.zip hi)).all (fun p => btw p.2.1 p.2.2 p.1) = true := List.all_eq_true.mpr fun p hp => by
      obtain ⟨j, h1, rfl⟩ := zip3_mem hp
      have := h.at_ j (by omega)
      unfold btw; rw [decide_eq_true this.1, decide_eq_true this.2]; rfl
    rw [this]
  · refine (eCmp (eSumI (eVar rfl)) (o0 rfl) eqD_int).trans ?_
    rw [h.sum, decide_eq_true rfl]
def putL (vs cs : List Int) : List Int := (vs.zip cs).map fun p => p.1 + p.2
theorem put_run {F : Fns} {x y : Option D} {cs : List Int} (hl : vs.length ≤ 1000) : evSs F t.G b_put_to [some (tupI vs), some (tupI cs), x, y] M = .ok (.ret (tupI (putL vs cs))) M := by
  refine sRet ((eBi1 (eMap (vs.zip cs) (fun p => D.tup [.int p.1, .int p.2]) (fun p => D.int (p.1 + p.2)) (zipI (eVar rfl) (eVar rfl)) rfl (sl (by rw [List.length_zip]; omega)) fun p hp => ⟨_, rfl, eAdd (eVar rfl) (eVar rfl)⟩)).trans ?_)
  show Res.ok (D.tup _) M = _
  unfold putL tupI; rw [List.map_map]; rfl
theorem c_put {cs : List Int} (hl : vs.length ≤ 1000) : E (k + 1) 10 [tupI vs, tupI cs] M = .ok (tupI (putL vs cs)) M := fin_self f_put_to rfl rfl rfl (pure_tupI _) (put_run hl)
end
end K11

/-! K11i: marks, needs, caps. -/
namespace K11
open PySem L2 PM
section
variable {M : Store} {k : Nat} {F : Fns} {env : EnvD} {vs ds lo hi : List Int} {m b : Int} {n P : Nat}
/-! ### is_mark -/
def isIntB : D → Bool
  | .int _ => true
  | _ => false
/-- data that a look at a kind answers -/
def plainB : D → Bool
  | .ref _ => false
  | .scr _ => false
  | _ => true
theorem isint_run {d : D} (h : plainB d = true) {v : Nat} (he : env[v]? = some (some d)) : evE F t.G (.and [.bi (.isa .int) [.var v], .not (.bi (.isa .bool) [.var v])]) env M = .ok (.bl (isIntB d)) M := by
  have h1 : ∀ {x : Bool}, isa d .int M = some x → evE F t.G (.bi (.isa .int) [.var v]) env M = .ok (.bl x) M := fun {x} e => (eBi1 (eVar he)).trans (by show optR ((isa d .int M).map D.bl) M = _; rw [e]; rfl)
  have h2 : ∀ {x : Bool}, isa d .bool M = some x → evE F t.G (.bi (.isa .bool) [.var v]) env M = .ok (.bl x) M := fun {x} e => (eBi1 (eVar he)).trans (by show optR ((isa d .bool M).map D.bl) M = _; rw [e]; rfl)
  cases d with
  | int i => exact (eAndT (h1 rfl)).trans (eAnd1.trans (eNot (h2 rfl)))
  | bl c => exact (eAndT (h1 rfl)).trans (eAnd1.trans (eNot (h2 rfl)))
  | non => exact eAndF (h1 rfl)
  | str s => exact eAndF (h1 rfl)
  | tup l => exact eAndF (h1 rfl)
  | lst l => exact eAndF (h1 rfl)
  | dic l => exact eAndF (h1 rfl)
  | ref n => cases h
  | scr l => cases h
theorem c_isint {d : D} (h : plainB d = true) : E (k + 1) 0 [d] M = .ok (.bl (isIntB d)) M := fin_self f_is_integer rfl rfl rfl rfl (sRet (isint_run h rfl))
theorem pure_plain {d : D} (h : d.pure = true) : plainB d = true := by cases d <;> first | rfl | exact h
def markB (P : Nat) : D → Bool
  | .tup [.int t, .int l, .int p] => decide (0 ≤ t) && (decide (1 ≤ l) && (decide (0 ≤ p) && decide (p ≤ (P : Int))))
  | _ => false
theorem all_int {l : List D} : l.all isIntB = true → ∃ ns : List Int, l = ns.map D.int := by
  induction l with
  | nil => intro _; exact ⟨[], rfl⟩
  | cons d l ih =>
    intro h
    rw [List.all_cons, Bool.and_eq_true] at h
    obtain ⟨ns, e⟩ := ih h.2
    cases d with
    | int i => exact ⟨i :: ns, by rw [e]; rfl⟩
    | _ => cases h.1
theorem mark_of_tup {l : List D} {P : Nat} (h : markB P (.tup l) = true) : l.length = 3 ∧ l.all isIntB = true := by
  unfold markB at h
  split at h
  · rename_i e; cases e; exact ⟨rfl, rfl⟩
  · cases h
theorem eGe {a b : ME} {x y : Int} (ha : evE F t.G a env M = .ok (.int x) M) (hb : evE F t.G b env M = .ok (.int y) M) : evE F t.G (.cmp .ge a b) env M = .ok (.bl (decide (y ≤ x))) M := eCmp ha hb cmp_ge
/-- two tests and a third -/
theorem eAnd3 {a b c : ME} {x y z : Bool} (ha : evE F t.G a env M = .ok (.bl x) M) (hb : evE F t.G b env M = .ok (.bl y) M) (hc : evE F t.G c env M = .ok (.bl z) M) : evE F t.G (.and [a, b, c]) env M = .ok (.bl (x && (y && z))) M := by
  cases x
  · exact eAndF ha
  · refine (eAndT ha).trans ?_
    cases y
    · exact eAndF hb
    · exact (eAndT hb).trans (eAnd1.trans hc)
theorem nm3 {l : List D} {env : EnvD} {a b c : Nat} (x y z : D) (h : l = [x, y, z]) : stoT (.tp [.nm a, .nm b, .nm c]) (.tup l) env = (stoT (.nm a) x env).bind fun e => (stoT (.nm b) y e).bind fun e => (stoT (.nm c) z e).bind fun e => some e := by rw [h]; rfl
theorem is_mark_run {d : D} {f : Nat} (hd : d.pure = true) (hl : ∀ l, d = .tup l → l.length ≤ 1000) (hf : ∀ e : D, e.pure = true → F f [e] M = .ok (.bl (isIntB e)) M) {x2 x3 x4 x5 : Option D} (hg : t.G[6]? = some (.int 3)) :
    evSs F t.G [.if_ (.or [.not (.bi (.isa .tup) [.var 1]), .cmp .ne (.bi .len [.var 1]) (.glo 6), .not (.bi .all [.comp .frz (.call f [.var 5]) (.nm 5) (.seq (.var 1)) [] [5]])]) [.ret (.c (.bl false))] [], .asg (.tp [.nm 2, .nm 3, .nm 4]) (.var 1),
      .ret (.and [.cmp .ge (.var 2) (.c (.int 0)), .cmp .ge (.var 3) (.c (.int 1)), .chain .le .le (.c (.int 0)) (.var 4) (.bi .len [.var 0])])] [some (tupI vs), some d, x2, x3, x4, x5] M = .ok (.ret (.bl (markB vs.length d))) M := by
  by_cases ht : ∃ l, d = .tup l
  · obtain ⟨l, rfl⟩ := ht
    have hl := hl l rfl
    have hpu : D.pures l = true := hd
    have e1 : evE F t.G (.not (.bi (.isa .tup) [.var 1])) [some (tupI vs), some (.tup l), x2, x3, x4, x5] M = .ok (.bl false) M := eNot (b := true) ((eBi1 (eVar rfl)).trans rfl)
    have e2 : evE F t.G (.cmp .ne (.bi .len [.var 1]) (.glo 6)) [some (tupI vs), some (.tup l), x2, x3, x4, x5] M = .ok (.bl (!decide ((l.length : Int) = 3))) M := eCmp ((eBi1 (eVar rfl)).trans bi_len_tup) (eGlo hg) neD_int
    have e3 : evE F t.G (.bi .all [.comp .frz (.call f [.var 5]) (.nm 5) (.seq (.var 1)) [] [5]]) [some (tupI vs), some (.tup l), x2, x3, x4, x5] M = .ok (.bl (l.all isIntB)) M := by
      have hm := eMap (F := F) (G := t.G) (e := .call f [.var 5]) (t := .nm 5) (own := [5]) (env := [some (tupI vs), some (.tup l), x2, x3, x4, x5]) (it := .seq (.var 1)) l id (fun x => D.bl (isIntB x)) (M := M) (st := []) (by rw [List.map_id]; exact it_tup (eVar rfl)) rfl (sl hl) fun x hx => ⟨_, rfl, (eCall (esCons (eVar rfl) esNil)).trans (hf x (pures_mem hpu hx))⟩
      exact (eBi1 hm).trans bi_all
    by_cases hm : l.length = 3 ∧ l.all isIntB = true
    · obtain ⟨ns, e⟩ := all_int hm.2
      subst e
      rw [List.length_map] at hm
      match ns, hm.1 with
      | [a, b, c], _ =>
        refine sNo (M1 := M) ?_ (sAsg (eVar rfl) rfl (sRet ?_))
        · refine (eOrF e1).trans ((eOrF (e2.trans ?_)).trans (eOr1.trans (eNot (b := true) (e3.trans (by rw [hm.2])))))
          rfl
        · refine (eAnd3 (eGe (eVar rfl) eC) (eGe (eVar rfl) eC) (eChainLL eC (eVar rfl) (eLenI (eVar rfl)))).trans ?_
          rfl
    · have hf : markB vs.length (.tup l) = false := by
        cases hb : markB vs.length (.tup l)
        · rfl
        · exact absurd (mark_of_tup hb) hm
      rw [hf]
      refine sIfR (M1 := M) (x := .bl true) ?_ rfl (sRet eC)
      refine (eOrF e1).trans ?_
      by_cases h3 : l.length = 3
      · refine (eOrF (e2.trans (by rw [decide_eq_true (by omega)]; rfl))).trans (eOr1.trans (eNot (b := false) (e3.trans ?_)))
        cases hb : l.all isIntB
        · rfl
        · exact absurd ⟨h3, hb⟩ hm
      · exact eOrT (e2.trans (by rw [decide_eq_false (by omega)]; rfl))
  · have hf : markB vs.length d = false := by
      unfold markB
      split
      · exact absurd ⟨_, rfl⟩ ht
      · rfl
    rw [hf]
    have e1 : evE F t.G (.bi (.isa .tup) [.var 1]) [some (tupI vs), some d, x2, x3, x4, x5] M = .ok (.bl false) M := by
      refine (eBi1 (eVar rfl)).trans ?_
      cases d <;> first | rfl | exact absurd ⟨_, rfl⟩ ht | cases hd
    exact sIfR (M1 := M) (x := .bl true) (eOrT (eNot e1)) rfl (sRet eC)
/-! ### needs and caps -/
structure MOk (P : Nat) (tp lw : Int) (p : Nat) : Prop where
  t0 : 0 ≤ tp
  t1 : tp < 2 ^ 60
  l0 : 1 ≤ lw
  l1 : lw < 2 ^ 60
  p0 : p ≤ P
abbrev mkD (tp lw : Int) (p : Nat) : D := .tup [.int tp, .int lw, .int p]
def vAhead (d tp lw : Int) (p party : Nat) : Int := if party < p then (tp * d + lw - 1) / lw else tp * d / lw + 1
def leastV (vs : List Int) (b m : Int) : Int := (b * (vs.sum + m) + 100 - 1) / 100
def optI : Option Int → D
  | none => .non
  | some z => .int z
def neededF (vs ds lo hi : List Int) (b m tp lw : Int) (p party num : Nat) : Option Int :=
  if num = 0 then some (lo.getD party 0) else if ds.length < num then none
  else let s := maxI (lo.getD party 0) (maxI (vAhead (ds.getD (num - 1) 0) tp lw p party) (leastV vs b m) - vs.getD party 0)
    if s ≤ hi.getD party 0 then some s else none
def cappedF (vs ds lo hi : List Int) (b m tp lw : Int) (p party num : Nat) : Option Int :=
  if ds.length ≤ num then some (hi.getD party 0)
  else let s := minI (hi.getD party 0) (maxI (vAhead (ds.getD num 0) tp lw p party) (leastV vs b m) - 1 - vs.getD party 0)
    if lo.getD party 0 ≤ s then some s else none
theorem eLt {a b : ME} {x y : Int} (ha : evE F t.G a env M = .ok (.int x) M) (hb : evE F t.G b env M = .ok (.int y) M) : evE F t.G (.cmp .lt a b) env M = .ok (.bl (decide (x < y))) M := eCmp ha hb cmp_lt
theorem eIxI {a i : ME} {l : List Int} {j : Nat} (ha : evE F t.G a env M = .ok (tupI l) M) (hi : evE F t.G i env M = .ok (.int j) M) (hj : j < l.length) : evE F t.G (.ix a i) env M = .ok (.int (l.getD j 0)) M := eIxV ha hi hj
theorem eIte {c a b : ME} {x : Bool} {d1 d2 : D} (hc : evE F t.G c env M = .ok (.bl x) M) (h1 : x = true → evE F t.G a env M = .ok d1 M) (h2 : x = false → evE F t.G b env M = .ok d2 M) : evE F t.G (.ife c a b) env M = .ok (if x then d1 else d2) M := by
  rw [eIf hc]
  cases x
  · exact h2 rfl
  · exact h1 rfl
theorem optI_pure (o : Option Int) : (optI o).pure = true := by cases o <;> rfl
structure Ask (vs ds lo hi : List Int) (n : Nat) (b m tp lw : Int) (p party num : Nat) : Prop where
  hv : VOk vs
  hr : ROk ds n b vs.length
  ho : OOk m lo hi vs.length
  hm : MOk vs.length tp lw p
  hp : party < vs.length
  hn : num ≤ n
theorem Ask.b100 {tp lw : Int} {p party num : Nat} (a : Ask vs ds lo hi n b m tp lw p party num) : 0 ≤ b ∧ b ≤ 100 := ⟨a.hr.b1, Int.le_trans a.hr.b2 (Int.ediv_le_self _ (by decide))⟩
end
end K11

/-! K11m: the law's own seating by a sorted table. -/
namespace K11
open PySem L2 PM
section
variable {M : Store} {k : Nat}
theorem app1_0 {a : Cell} : (M ++ [a])[M.length]? = some a := by rw [List.getElem?_append_right (Nat.le_refl _), Nat.sub_self]; rfl
theorem set1_0 {a c : Cell} : (M ++ [a]).set M.length c = M ++ [c] := by rw [List.set_append_right _ _ (Nat.le_refl _), Nat.sub_self]; rfl
def scaleOf (ds : List Int) : Int := ds.foldl (· * ·) 1
theorem scale_snoc {l : List Int} {d : Int} : scaleOf (l ++ [d]) = scaleOf l * d := by unfold scaleOf; rw [List.foldl_append]; rfl
theorem scale_ok {l : List Int} : (∀ d ∈ l, 1 ≤ d) → 0 < scaleOf l ∧ ∀ d ∈ l, d ∣ scaleOf l := by
  refine snocInd (P := fun l => (∀ d ∈ l, 1 ≤ d) → 0 < scaleOf l ∧ ∀ d ∈ l, d ∣ scaleOf l) (fun _ => ⟨by decide, fun d h => (by cases h)⟩) (fun l e ih h => ?_) l
  obtain ⟨h1, h2⟩ := ih fun d hd => h d (List.mem_append_left _ hd)
  have he := h e (by simp)
  rw [scale_snoc]
  refine ⟨Int.mul_pos h1 (by omega), fun d hd => ?_⟩
  rcases List.mem_append.mp hd with hd | hd
  · exact Int.dvd_trans (h2 d hd) (Int.dvd_mul_right _ _)
  · rw [List.mem_singleton.mp hd]; exact Int.dvd_mul_left _ _
theorem enum_img (vs : List Int) : ((vs.map D.int).zipIdx.map fun p => D.tup [.int (p.2 : Nat), p.1]) = (List.range vs.length).map fun (p : Nat) => D.tup [.int p, .int (vs.getD p 0)] := by
  apply List.ext_getElem
  · simp
  · intro i h1 h2
    have hi : i < vs.length := by simpa using h2
    simp [List.getD, hi]
/-- one party's rows -/
def rowOf (sc : Int) (ds : List Int) (v : Int) (p : Nat) : List (List Int) := ds.map fun d => [-(v * sc / d), d, (p : Int)]
def rowsOf (vs ds : List Int) (b : Int) (l : List Nat) : List (List Int) := (l.filter fun p => !belowB vs b p).flatMap fun p => rowOf (scaleOf ds) ds (vs.getD p 0) p
def sw : List Int → List Int
  | [a, b, c] => [a, c, b]
  | l => l
theorem rowsOf_snoc {vs ds : List Int} {b : Int} {l : List Nat} {p : Nat} : rowsOf vs ds b (l ++ [p]) = if belowB vs b p then rowsOf vs ds b l else rowsOf vs ds b l ++ rowOf (scaleOf ds) ds (vs.getD p 0) p := by
  unfold rowsOf
  rw [List.filter_append, List.flatMap_append]
  cases h : belowB vs b p <;> simp [h]
theorem rowsOf_len {vs ds : List Int} {b : Int} (l : List Nat) : (rowsOf vs ds b l).length ≤ l.length * ds.length := by
  refine snocInd (P := fun l => (rowsOf vs ds b l).length ≤ l.length * ds.length) (by simp [rowsOf]) (fun l p ih => ?_) l
  rw [rowsOf_snoc, List.length_append, Nat.add_mul]
  split
  · exact Nat.le_trans ih (Nat.le_add_right _ _)
  · rw [List.length_append]; unfold rowOf; rw [List.length_map]; simp; omega
theorem rowsOf_shape {vs ds : List Int} {b : Int} {l : List Nat} {r : List Int} (h : r ∈ rowsOf vs ds b l) : ∃ x y z, r = [x, y, z] := by
  unfold rowsOf at h
  obtain ⟨p, _, h⟩ := List.mem_flatMap.mp h
  unfold rowOf at h
  obtain ⟨d, _, rfl⟩ := List.mem_map.mp h
  exact ⟨_, _, _, rfl⟩
/-- the sorted table -/
def tabS (vs ds : List Int) (b : Int) : List (List Int) := sortL ((rowsOf vs ds b (List.range vs.length)).map sw)
theorem tupInts_map : ∀ {l : List (List Int)}, (∀ r ∈ l, r ≠ []) → tupInts (l.map tupI) = some l
  | [], _ => rfl
  | [] :: l, h => absurd rfl (h [] List.mem_cons_self)
  | (i :: x) :: l, h => by
    show tupInts (D.tup ((i :: x).map D.int) :: l.map tupI) = _
    simp only [tupInts, ints_map, tupInts_map (fun r hr => h r (List.mem_cons_of_mem _ hr))]
theorem bi_sortedOf {x : D} {l : List (List Int)} (hx : lstOf x M = some (l.map tupI)) (h : l ≠ []) (hr : ∀ r ∈ l, r ≠ []) : PM.bi .sorted [x] M = .ok (.lst ((sortL l).map tupI)) M := by
  have h2 : intsOf (l.map tupI) = none := by
    cases l with
    | nil => exact absurd rfl h
    | cons x l => rfl
  simp only [PM.bi, hx, h2, tupInts_map hr]
theorem pures_tups (l : List (List Int)) : D.pures (l.map tupI) = true := by
  induction l with
  | nil => rfl
  | cons x l ih => show ((tupI x).pure && D.pures (l.map tupI)) = true; rw [pure_tupI, ih]; rfl
theorem scale_run {F : Fns} {x0 x1 x2 x3 x4 x6 x7 x8 x9 x10 x11 : Option D} {ds : List Int} (hd : ∀ d ∈ ds, 1 ≤ d ∧ d ≤ 1000) :
    let e0 : Option D → Option D → EnvD := fun y z => [x0, x1, x2, x3, x4, y, z, x7, x8, x9, x10, x11]
    ∃ z, forL (forF F t.G (.nm 6) [.asg (.nm 5) (.mul (.var 5) (.var 6))]) ⟨ds.map D.int, []⟩ (ds.map D.int) (e0 (some (.int 1)) x6) M = .ok (.next (e0 (some (.int (scaleOf ds))) z)) M := by
  intro e0
  obtain ⟨env', M', e, ⟨z, rfl⟩, rfl⟩ := forL_img (φ := D.int) (f := forF F t.G (.nm 6) [.asg (.nm 5) (.mul (.var 5) (.var 6))]) (s := ⟨ds.map D.int, []⟩) (env := e0 (some (.int 1)) x6) (M := M)
    (fun done env M' => (∃ z, env = e0 (some (.int (scaleOf done))) z) ∧ M' = M) (xs := ds) ⟨⟨x6, rfl⟩, rfl⟩ (fun _ _ _ _ => rfl)
    (by
      rintro done d rest _ _ hx ⟨⟨z, rfl⟩, rfl⟩
      have h := hd d (by rw [hx]; simp)
      refine ⟨_, _, ?_, ⟨some (.int d), rfl⟩, rfl⟩
      show evSs F t.G _ (e0 (some (.int (scaleOf done))) (some (.int d))) _ = _
      rw [scale_snoc]
      exact sAsg (eMul (eVar rfl) (eVar rfl) (mulOk_r (by omega) (by omega))) rfl sNil)
  exact ⟨z, e⟩
abbrev rowC : ME := .comp .frz (.tup [.sub (.c (.int 0)) (.mul (.var 9) (.fdiv (.var 5) (.var 6))), .var 8, .var 6]) (.nm 6) (.seq (.var 2)) [] [6]
theorem row_run {F : Fns} {x0 x1 x3 x4 x6 x7 x10 x11 : Option D} {ds : List Int} {v : Int} {p : Nat} (hl : ds.length ≤ 60) (hd : ∀ d ∈ ds, 1 ≤ d ∧ d ≤ 1000) (hv : 0 ≤ v ∧ v ≤ 10 ^ 9) :
    evE F t.G rowC [x0, x1, some (tupI ds), x3, x4, some (.int (scaleOf ds)), x6, x7, some (.int p), some (.int v), x10, x11] M = .ok (.lst (((rowOf (scaleOf ds) ds v p).map sw).map tupI)) M := by
  obtain ⟨_, hdv⟩ := scale_ok (fun d h => (hd d h).1)
  refine (eMap ds D.int (fun d => tupI [-(v * scaleOf ds / d), (p : Int), d]) (it_tup (eVar rfl)) rfl (sl (by omega)) fun d hdm => ?_).trans ?_
  · have h := hd d hdm
    refine ⟨_, rfl, eTup (esCons (M1 := M) (x := .int (-(v * scaleOf ds / d))) ?_ (esCons (eVar rfl) (esCons (eVar rfl) esNil))) s3⟩
    rw [Int.mul_ediv_assoc v (hdv d hdm), show -(v * (scaleOf ds / d)) = 0 - v * (scaleOf ds / d) by omega]
    exact eSub eC (eMul (eVar rfl) (eFdiv (eVar rfl) (eVar rfl) (divOk64 (by omega) (by omega))) (mulOk_l (by omega) (by omega)))
  · unfold rowOf; rw [List.map_map, List.map_map]; rfl
abbrev rowBody : List MS := [.if_ (.cmp .ge (.mul (.c (.int 100)) (.var 9)) (.mul (.var 4) (.bi .sum [.var 0]))) [.ex (.me .extend (.var 7) [rowC])] []]
theorem rows_run {F : Fns} {x1 x3 x6 x8 x9 x10 x11 : Option D} {vs ds : List Int} {b : Int} (hvv : VOk vs) (hl : ds.length ≤ 60) (hd : ∀ d ∈ ds, 1 ≤ d ∧ d ≤ 1000) (hb : 0 ≤ b ∧ b ≤ 100) :
    let e0 : Option D → Option D → EnvD := fun y z => [some (tupI vs), x1, some (tupI ds), x3, some (.int b), some (.int (scaleOf ds)), x6, some (.ref M.length), y, z, x10, x11]
    ∃ y z, forL (forF F t.G (.tp [.nm 8, .nm 9]) rowBody) ⟨(List.range vs.length).map fun (p : Nat) => D.tup [.int p, .int (vs.getD p 0)], []⟩ ((List.range vs.length).map fun (p : Nat) => D.tup [.int p, .int (vs.getD p 0)]) (e0 x8 x9) (M ++ [.lst []]) = .ok (.next (e0 y z)) (M ++ [.lst (((rowsOf vs ds b (List.range vs.length)).map sw).map tupI)]) := by
  intro e0
  obtain ⟨env', M', e, ⟨y, z, rfl⟩, rfl⟩ := forL_img (φ := fun (p : Nat) => D.tup [.int p, .int (vs.getD p 0)]) (f := forF F t.G (.tp [.nm 8, .nm 9]) rowBody) (s := ⟨(List.range vs.length).map fun (p : Nat) => D.tup [.int p, .int (vs.getD p 0)], []⟩) (env := e0 x8 x9) (M := M ++ [.lst []])
    (fun done env M' => (∃ y z, env = e0 y z) ∧ M' = M ++ [.lst (((rowsOf vs ds b done).map sw).map tupI)]) (xs := List.range vs.length) ⟨⟨x8, x9, rfl⟩, rfl⟩ (fun _ _ _ _ => rfl)
    (by
      rintro done p rest _ _ hx ⟨⟨y, z, rfl⟩, rfl⟩
      have hp : p < vs.length := List.mem_range.mp (by rw [hx]; simp)
      have hdl : done.length ≤ 12 := by
        have := congrArg List.length hx
        rw [List.length_range, List.length_append, List.length_cons] at this
        have := hvv.hi
        omega
      refine ⟨_, _, ?_, ⟨some (.int p), some (.int (vs.getD p 0)), rfl⟩, rfl⟩
      show evSs F t.G rowBody (e0 (some (.int p)) (some (.int (vs.getD p 0)))) (M ++ [.lst (((rowsOf vs ds b done).map sw).map tupI)]) = _
      have hc : evE F t.G (.cmp .ge (.mul (.c (.int 100)) (.var 9)) (.mul (.var 4) (.bi .sum [.var 0]))) (e0 (some (.int p)) (some (.int (vs.getD p 0)))) (M ++ [.lst (((rowsOf vs ds b done).map sw).map tupI)]) = .ok (.bl (!belowB vs b p)) (M ++ [.lst (((rowsOf vs ds b done).map sw).map tupI)]) := by
        refine eCmp (eMul eC (eVar rfl) (mulOk_l (by decide) (by decide))) (eMul (eVar rfl) ((eBi1 (eVar rfl)).trans bi_sum) (mulOk_l (by omega) (by omega))) ?_
        rw [cmp_ge]; unfold belowB; congr 1
        by_cases h : b * vs.sum ≤ 100 * vs.getD p 0
        · rw [decide_eq_true h, decide_eq_false (by omega)]; rfl
        · rw [decide_eq_false h, decide_eq_true (by omega)]; rfl
      rw [rowsOf_snoc]
      cases hbl : belowB vs b p
      · rw [hbl] at hc
        refine sIfT hc rfl (sEx (x := .non) (eMe (x := .ref M.length) (eVar rfl) ?_ (esCons (row_run hl hd (hvv.at hp)) esNil) ?_) sNil) sNil
        · simp only [lstOf, seqOf, app1_0]; rfl
        · have h1 := rowsOf_len (vs := vs) (ds := ds) (b := b) done
          have h2 : done.length * ds.length ≤ 12 * 60 := Nat.mul_le_mul hdl hl
          have hlen : lineOk ((((rowsOf vs ds b done).map sw).map tupI).length + (((rowOf (scaleOf ds) ds (vs.getD p 0) p).map sw).map tupI).length) = true := decide_eq_true (sl (by simp only [List.length_map]; unfold rowOf; rw [List.length_map]; omega))
          simp only [mi, app1_0, pures_tups, hlen, set1_0]
          show Res.ok D.non _ = Res.ok D.non _
          simp
      · rw [hbl] at hc
        exact sNo hc sNil)
  exact ⟨y, z, e⟩
end
end K11

/-! K11s: seats of a lot, twice. -/
namespace K11
open PySem L2 PM
section
variable {M : Store} {k : Nat} {F : Fns} {env : EnvD} {vs ds lo hi : List Int} {m b : Int} {n P : Nat}
structure SOk (vs ds : List Int) (n : Nat) (b : Int) : Prop where
  hv : VOk vs
  hr : ROk ds n b vs.length
  asc : ds.Pairwise (· < ·)
  dm : ∀ d ∈ ds, 1 ≤ d ∧ d ≤ 1000
theorem SOk.b100 (c : SOk vs ds n b) : 0 ≤ b ∧ b ≤ 100 := ⟨c.hr.b1, Int.le_trans c.hr.b2 (Int.ediv_le_self _ (by decide))⟩
theorem cut_take {l : List D} {s : Nat} : cutD l none (some (s : Int)) = l.take s := by
  unfold cutD
  rw [HT.sIx_none, HT.sIx_nat, Nat.sub_zero, List.drop_zero]
  by_cases h : s ≤ l.length
  · rw [Nat.min_eq_left h]
  · rw [Nat.min_eq_right (by omega), List.take_of_length_le (Nat.le_refl _), List.take_of_length_le (by omega)]
theorem eSlHiL {G : List D} {M1 M2 : Store} {a i : ME} {l : List D} {s : Nat} (ha : evE F G a env M = .ok (.lst l) M1) (hi : evE F G i env M1 = .ok (.int s) M2) : evE F G (.sl a none (some i)) env M = .ok (.lst (l.take s)) M2 := by
  show (evE F G a env M).bind _ = _; rw [ha, ok_bind]
  show (((evE F G i env M1).bind _).bind _) = _
  rw [hi, ok_bind]
  show Res.ok (D.lst (cutD l none (some (s : Int)))) M2 = _
  rw [cut_take]
/-! ### lots -/
abbrev lotI (l : List Nat) : List Int := l.map fun (p : Nat) => (p : Int)
structure LOk (P : Nat) (l : List Nat) : Prop where
  lt : ∀ p ∈ l, p < P
  lo : 1 ≤ l.length
  hi : l.length < P
  asc : l.Pairwise (· < ·)
theorem bi_sumL {l : List Int} : bi .sum [.lst (l.map D.int)] M = .ok (.int l.sum) M := by
  show optR (((intsOf (l.map D.int))).map fun ns => D.int ns.sum) M = _
  rw [ints_map]; rfl
theorem seqLot {e : ME} {l : List Nat} (h : evE F t.G e env M = .ok (tupI (lotI l)) M) : evIt F t.G (.seq e) env M = .ok ⟨l.map fun (p : Nat) => D.int (p : Int), []⟩ M := by
  have := it_tup h
  rw [List.map_map] at this; exact this
theorem sum_lot {l C : List Nat} {v w : Nat} (hl : l.length ≤ 1000) (h : ∀ p ∈ l, p < C.length) (hw : env[w]? = some (some (tupI (lotI l))))
    (hv : ∀ p : Nat, ∃ env', stoT (.nm 5) (.int p) (wipeD env [5]) = some env' ∧ env'[v]? = some (some (.tup (intN C))) ∧ env'[5]? = some (some (.int p))) :
    evE F t.G (.bi .sum [.comp .frz (.ix (.var v) (.var 5)) (.nm 5) (.seq (.var w)) [] [5]]) env M = .ok (.int (l.map fun p => ((C.getD p 0 : Nat) : Int)).sum) M := by
  refine (eBi1 (eMap l (fun (p : Nat) => D.int p) (fun p => D.int (C.getD p 0 : Nat)) (seqLot (eVar hw)) rfl (sl hl) fun p hp => ?_)).trans ?_
  · obtain ⟨env', h1, h2, h3⟩ := hv p
    refine ⟨env', h1, eIx (eVar h2) (eVar h3) ?_⟩
    have := h p hp
    show atI (intN C) (p : Int) = _
    rw [atI_nat (by rw [List.length_map]; exact this)]
    unfold intN
    simp [List.getD, this]
  · rw [← bi_sumL (M := M)]
    rw [List.map_map]; rfl
theorem counts_len (n : Nat) (l : List Nat) : (counts n l).length = n := by unfold counts; rw [List.length_map, List.length_range]
abbrev hasF (vs ds : List Int) (b : Int) (n : Nat) (l : List Nat) (cs : List Int) : Int := (l.map fun p => (((counts (putL vs cs).length (deal (putL vs cs) ds b n).2).getD p 0 : Nat) : Int)).sum
theorem asc_of : ∀ {l : List Int}, l.Pairwise (· < ·) → ascB l = true
  | [], _ => rfl
  | [_], _ => rfl
  | a :: b :: l, h => by
    have h2 := List.pairwise_cons.mp h
    have ih := asc_of h2.2
    have hab := h2.1 b List.mem_cons_self
    show (decide (a < b) && ascB (b :: l)) = true
    rw [ih, decide_eq_true hab]; rfl
end
end K11

/-! K11u: the law's own needs and caps. -/
namespace K11
open PySem L2 PM
/-! ### plain mathematics -/
theorem ceil_le {a l x : Int} (hl : 1 ≤ l) : (a + l - 1) / l ≤ x ↔ a ≤ x * l := by
  have h : (a + l - 1) / l ≤ x ↔ (a + l - 1) / l < x + 1 := by omega
  rw [h, Int.ediv_lt_iff_lt_mul (by omega), Int.add_mul]
  omega
theorem floor_lt {a l x : Int} (hl : 1 ≤ l) : a / l + 1 ≤ x ↔ a < x * l := by
  have h : a / l + 1 ≤ x ↔ a / l < x := by omega
  rw [h, Int.ediv_lt_iff_lt_mul (by omega)]
def predB (tp lw its : Int) (p party : Nat) (d : Int) : Bool := decide (tp * d < its * lw) || (decide (its * lw = tp * d) && decide (party < p))
theorem pred_iff {tp lw its d : Int} {p party : Nat} (hl : 1 ≤ lw) : predB tp lw its p party d = true ↔ vAhead d tp lw p party ≤ its := by
  unfold predB vAhead
  by_cases h : party < p
  · rw [if_pos h, ceil_le hl]
    simp only [h, decide_true, Bool.and_true, Bool.or_eq_true, decide_eq_true_eq]
    omega
  · rw [if_neg h, floor_lt hl]
    simp only [h, decide_false, Bool.and_false, Bool.or_false, decide_eq_true_eq]
theorem pred_mono {tp lw its d e : Int} {p party : Nat} (ht : 0 ≤ tp) (hde : d ≤ e) (h : predB tp lw its p party e = true) : predB tp lw its p party d = true := by
  unfold predB at *
  have := Int.mul_le_mul_of_nonneg_left hde ht
  simp only [Bool.or_eq_true, Bool.and_eq_true, decide_eq_true_eq] at *
  rcases h with h | ⟨h1, h2⟩
  · exact Or.inl (by omega)
  · by_cases h3 : tp * d < its * lw
    · exact Or.inl h3
    · exact Or.inr ⟨by omega, h2⟩
/-- how many of an ascending list hold what falls -/
theorem count_ge {q : Int → Bool} : ∀ {ds : List Int}, ds.Pairwise (· < ·) → (∀ d e, d ≤ e → q e = true → q d = true) → ∀ n, n + 1 ≤ (ds.filter q).length ↔ n < ds.length ∧ q (ds.getD n 0) = true
  | [], _, _, n => by simp
  | d :: ds, h, hq, n => by
    have ih := count_ge (List.pairwise_cons.mp h).2 hq
    have h1 := (List.pairwise_cons.mp h).1
    cases hd : q d
    · have : ∀ e ∈ ds, q e = false := fun e he => by
        cases hqe : q e
        · rfl
        · rw [hq d e (Int.le_of_lt (h1 e he)) hqe] at hd; cases hd
      have h0 : ds.filter q = [] := by rw [List.filter_eq_nil_iff]; intro e he; rw [this e he]; simp
      rw [List.filter_cons_of_neg (by rw [hd]; simp), h0]
      constructor
      · intro z; simp at z
      · rintro ⟨z1, z2⟩
        exfalso
        cases n with
        | zero => simp [hd] at z2
        | succ n =>
          have z1 : n < ds.length := by simpa using z1
          have := this _ (getD_mem z1)
          have z2 : q (ds.getD n 0) = true := z2
          rw [this] at z2; cases z2
    · rw [List.filter_cons_of_pos hd, List.length_cons]
      cases n with
      | zero => simp [hd]
      | succ n =>
        have := ih n
        constructor
        · intro z
          have := this.mp (by omega)
          exact ⟨by rw [List.length_cons]; omega, this.2⟩
        · rintro ⟨z1, z2⟩
          have := this.mpr ⟨by rw [List.length_cons] at z1; omega, z2⟩
          omega
def lawAhead (ds : List Int) (b total tp lw its : Int) (p party : Nat) : Nat := if 100 * its < b * total then 0 else (ds.filter (predB tp lw its p party)).length
theorem ahead_ge {vs ds : List Int} {b m tp lw its : Int} {p party : Nat} (hl : 1 ≤ lw) (ht : 0 ≤ tp) (asc : ds.Pairwise (· < ·)) (n : Nat) :
    n + 1 ≤ lawAhead ds b (vs.sum + m) tp lw its p party ↔ n < ds.length ∧ maxI (vAhead (ds.getD n 0) tp lw p party) (leastV vs b m) ≤ its := by
  unfold lawAhead leastV
  have h100 := ceil_le (a := b * (vs.sum + m)) (l := 100) (x := its) (by decide)
  by_cases h : 100 * its < b * (vs.sum + m)
  · rw [if_pos h]
    constructor
    · intro z; omega
    · rintro ⟨_, z⟩
      unfold maxI at z
      exfalso
      have : ¬ (b * (vs.sum + m) + 100 - 1) / 100 ≤ its := fun y => by have := h100.mp y; omega
      split at z <;> omega
  · rw [if_neg h, count_ge asc (fun d e hde => pred_mono ht hde), pred_iff hl]
    have h2 : (b * (vs.sum + m) + 100 - 1) / 100 ≤ its := h100.mpr (by omega)
    unfold maxI
    constructor
    · rintro ⟨z1, z2⟩; exact ⟨z1, by split <;> omega⟩
    · rintro ⟨z1, z2⟩; exact ⟨z1, by split at z2 <;> omega⟩
/-- the first number from c on -/
theorem first_ge (c : Int) : ∀ cnt : Nat, ((List.range cnt).filter fun (j : Nat) => decide (c ≤ (j : Int))).head? = if c.toNat < cnt then some c.toNat else none
  | 0 => by simp
  | n + 1 => by
    rw [List.range_succ, List.filter_append, List.head?_append, first_ge c n]
    by_cases h : c.toNat < n
    · rw [if_pos h, if_pos (by omega)]; rfl
    · rw [if_neg h]
      by_cases h2 : c ≤ (n : Int)
      · have : c.toNat = n := by omega
        rw [if_pos (by omega)]
        simp [h2, this]
      · rw [if_neg (by omega)]
        simp [h2]
theorem lt_range (c : Int) : ∀ cnt : Nat, ((List.range cnt).filter fun (j : Nat) => decide ((j : Int) < c)) = List.range (min cnt c.toNat)
  | 0 => by simp
  | n + 1 => by
    rw [List.range_succ, List.filter_append, lt_range c n]
    by_cases h : (n : Int) < c
    · have h1 : min n c.toNat = n := by omega
      have h2 : min (n + 1) c.toNat = n + 1 := by omega
      rw [h1, h2, List.range_succ]
      simp [h]
    · have h1 : min n c.toNat = c.toNat := by omega
      have h2 : min (n + 1) c.toNat = c.toNat := by omega
      rw [h1, h2]
      simp [h]
theorem filter_congr' {α : Type} {l : List α} {p q : α → Bool} (h : ∀ x ∈ l, p x = q x) : l.filter p = l.filter q := List.filter_congr h
section
variable {M : Store} {k : Nat} {F : Fns} {env : EnvD} {vs ds lo hi : List Int} {m b : Int} {n P : Nat}
/-! ### the law's own looks -/
theorem eGt {a b : ME} {x y : Int} (ha : evE F t.G a env M = .ok (.int x) M) (hb : evE F t.G b env M = .ok (.int y) M) : evE F t.G (.cmp .gt a b) env M = .ok (.bl (decide (y < x))) M := eCmp ha hb cmp_gt
theorem eEq {a b : ME} {x y : Int} (ha : evE F t.G a env M = .ok (.int x) M) (hb : evE F t.G b env M = .ok (.int y) M) : evE F t.G (.cmp .eq a b) env M = .ok (.bl (decide (x = y))) M := eCmp ha hb eqD_int
theorem eLe {a b : ME} {x y : Int} (ha : evE F t.G a env M = .ok (.int x) M) (hb : evE F t.G b env M = .ok (.int y) M) : evE F t.G (.cmp .le a b) env M = .ok (.bl (decide (x ≤ y))) M := eCmp ha hb cmp_le
theorem it_rng2 {a c : ME} {i j : Int} (ha : evE F t.G a env M = .ok (.int i) M) (hc : evE F t.G c env M = .ok (.int j) M) (h : -(2 ^ 60) < i ∧ i < 2 ^ 60 ∧ -(2 ^ 60) < j ∧ j < 2 ^ 60) : evIt F t.G (.rng2 a c) env M = .ok ⟨(List.range (j - i).toNat).map fun (x : Nat) => D.int (i + x), []⟩ M := by
  show (evE F t.G a env M).bind _ = _
  rw [ha, ok_bind]
  show (evE F t.G c env M).bind _ = _
  rw [hc, ok_bind]
  show (if decide (-(2 ^ 60) < i ∧ i < 2 ^ 60 ∧ -(2 ^ 60) < j ∧ j < 2 ^ 60) = true then Res.ok (Src.mk (rangeD i (j - i).toNat) []) M else .no) = _
  rw [decide_eq_true h]; rfl
theorem ne_empty {l : List Int} : cmpD .ne (.lst (l.map D.int)) (.lst []) M = some (!decide (l = [])) := by
  have h : cmpD .eq (.lst (l.map D.int)) (.lst []) M = some (decide (l = [])) := eq_lsts l []
  show (cmpD .eq (.lst (l.map D.int)) (.lst []) M).map (!·) = _
  rw [h]; rfl
theorem atI_last {α : Type} {l : List α} {a : α} (h : l.getLast? = some a) : atI l (-1) = some a := by
  obtain ⟨l', rfl⟩ := List.getLast?_eq_some_iff.mp h
  unfold atI ixN
  rw [if_neg (by decide), if_pos (by rw [List.length_append, List.length_singleton]; omega)]
  have : (-1 + ((l' ++ [a]).length : Int)).toNat = l'.length := by rw [List.length_append, List.length_singleton]; omega
  rw [Option.bind_some, this]; simp
theorem atI_first {α : Type} {l : List α} {a : α} (h : l.head? = some a) : atI l 0 = some a := by
  cases l with
  | nil => cases h
  | cons x l => cases h; exact PM.atI_nat (l := a :: l) (k := 0) (by simp)
theorem some_run {tp lw : Int} {p party : Nat} {q : Nat → Bool} {cm : ME} (hv : VOk vs) (hr : ROk ds n b vs.length) (ho : OOk m lo hi vs.length) (hm : MOk vs.length tp lw p) (hp : party < vs.length) (hsm : hi.getD party 0 - lo.getD party 0 ≤ 1000) {x5 x7 : Option D} {x6 : D}
    (hq : ∀ j : Nat, evE F t.G cm [some (tupI vs), some (ruleD ds n b), some (outD m lo hi), some (mkD tp lw p), some (.int party), x5, some x6, x7, some (.int (lo.getD party 0 + j))] M = .ok (.bl (q j)) M) {x8 : Option D} :
    evE F t.G (.comp .frz (.var 8) (.nm 8) (.rng2 (.ix (.ix (.var 2) (.c (.int 1))) (.var 4)) (.add (.ix (.ix (.var 2) (.c (.int 2))) (.var 4)) (.c (.int 1)))) [cm] [8]) [some (tupI vs), some (ruleD ds n b), some (outD m lo hi), some (mkD tp lw p), some (.int party), x5, some x6, x7, x8] M
      = .ok (.lst ((((List.range (hi.getD party 0 + 1 - lo.getD party 0).toNat).filter q).map fun (j : Nat) => lo.getD party 0 + (j : Int)).map D.int)) M := by
  have hpl : party < lo.length := by rw [ho.ll]; exact hp
  have hph : party < hi.length := by rw [ho.lh]; exact hp
  have h1 := ho.loB hp
  have h2 := ho.hiB hp
  refine (eFil (List.range (hi.getD party 0 + 1 - lo.getD party 0).toNat) (fun (x : Nat) => D.int (lo.getD party 0 + x)) (fun (x : Nat) => D.int (lo.getD party 0 + x)) q (it_rng2 (eIxI (o1 rfl) (eVar rfl) hpl) (eAdd (eIxI (o2 rfl) (eVar rfl) hph) eC) (by omega)) rfl ?_ fun j hj => ⟨_, rfl, hq j, eVar rfl⟩).trans (by rw [List.map_map]; rfl)
  rw [List.length_range]
  exact Nat.le_trans (show _ ≤ 1001 by omega) (by decide)
/-- the first of some, the last of some -/
theorem head_run {l : List Int} {x0 x1 x2 x3 x4 x5 x6 x8 : Option D} : evE F t.G (.ife (.cmp .ne (.var 7) (.lst .frz [])) (.ix (.var 7) (.c (.int 0))) (.c .non)) [x0, x1, x2, x3, x4, x5, x6, some (.lst (l.map D.int)), x8] M = .ok (optI l.head?) M := by
  refine (eIte (eCmp (eVar rfl) (eLst esNil (Nat.zero_le _)) ne_empty) (d1 := optI l.head?) (d2 := .non) (fun h => ?_) (fun _ => eC)).trans ?_
  · cases l with
    | nil => exact absurd h (by simp)
    | cons x l => exact eIx (eVar rfl) eC (atI_first rfl)
  · cases l <;> rfl
theorem last_run {l : List Int} {x0 x1 x2 x3 x4 x5 x6 x8 : Option D} : evE F t.G (.ife (.cmp .ne (.var 7) (.lst .frz [])) (.ix (.var 7) (.neg (.c (.int 1)))) (.c .non)) [x0, x1, x2, x3, x4, x5, x6, some (.lst (l.map D.int)), x8] M = .ok (optI l.getLast?) M := by
  refine (eIte (eCmp (eVar rfl) (eLst esNil (Nat.zero_le _)) ne_empty) (d1 := optI l.getLast?) (d2 := .non) (fun h => ?_) (fun _ => eC)).trans ?_
  · cases hl : l.getLast? with
    | none => rw [List.getLast?_eq_none_iff] at hl; rw [hl] at h; exact absurd h (by simp)
    | some a =>
      refine eIx (eVar rfl) (y := .int (-1)) (M2 := M) rfl (atI_last ?_)
      rw [List.getLast?_map, hl]; rfl
  · cases l <;> rfl
theorem need_eq {tp lw : Int} {p party num : Nat} (a : Ask vs ds lo hi n b m tp lw p party num) (asc : ds.Pairwise (· < ·)) (h0 : num ≠ 0) :
    (((List.range (hi.getD party 0 + 1 - lo.getD party 0).toNat).filter fun (j : Nat) => decide ((num : Int) ≤ (lawAhead ds b (vs.sum + m) tp lw (vs.getD party 0 + (lo.getD party 0 + j)) p party : Nat))).map fun (j : Nat) => lo.getD party 0 + (j : Int)).head? = neededF vs ds lo hi b m tp lw p party num := by
  have hge := fun (its : Int) => ahead_ge (vs := vs) (b := b) (m := m) (its := its) (p := p) (party := party) a.hm.l0 a.hm.t0 asc (num - 1)
  rw [show num - 1 + 1 = num by omega] at hge
  unfold neededF
  rw [if_neg h0]
  have hlo := a.ho.loB a.hp
  by_cases h1 : ds.length < num
  · rw [if_pos h1]
    have : ((List.range (hi.getD party 0 + 1 - lo.getD party 0).toNat).filter fun (j : Nat) => decide ((num : Int) ≤ (lawAhead ds b (vs.sum + m) tp lw (vs.getD party 0 + (lo.getD party 0 + j)) p party : Nat))) = [] := by
      rw [List.filter_eq_nil_iff]
      intro j _ z
      have z := of_decide_eq_true z
      have := (hge _).mp (by omega : num ≤ lawAhead ds b (vs.sum + m) tp lw (vs.getD party 0 + (lo.getD party 0 + j)) p party)
      omega
    rw [this]; rfl
  rw [if_neg h1]
  generalize hW : maxI (vAhead (ds.getD (num - 1) 0) tp lw p party) (leastV vs b m) = W at hge ⊢
  have e : ((List.range (hi.getD party 0 + 1 - lo.getD party 0).toNat).filter fun (j : Nat) => decide ((num : Int) ≤ (lawAhead ds b (vs.sum + m) tp lw (vs.getD party 0 + (lo.getD party 0 + j)) p party : Nat))) = (List.range (hi.getD party 0 + 1 - lo.getD party 0).toNat).filter fun (j : Nat) => decide (W - vs.getD party 0 - lo.getD party 0 ≤ (j : Int)) := by
    refine filter_congr' fun j _ => ?_
    rw [decide_eq_decide]
    constructor
    · intro z
      have := (hge _).mp (by omega : num ≤ lawAhead ds b (vs.sum + m) tp lw (vs.getD party 0 + (lo.getD party 0 + j)) p party)
      omega
    · intro z
      have := (hge (vs.getD party 0 + (lo.getD party 0 + j))).mpr ⟨by omega, by omega⟩
      omega
  rw [e, List.head?_map, first_ge]
  dsimp only
  unfold maxI
  by_cases h2 : (W - vs.getD party 0 - lo.getD party 0).toNat < (hi.getD party 0 + 1 - lo.getD party 0).toNat
  · rw [if_pos h2]
    split
    · rw [if_pos (by omega)]; (rw [Option.map_some]; congr 1; omega)
    · rw [if_pos (by omega)]; (rw [Option.map_some]; congr 1; omega)
  · rw [if_neg h2]
    split
    · rw [if_neg (by omega)]; rfl
    · have := a.ho.le party a.hp
      exfalso; omega
theorem cap_eq {tp lw : Int} {p party num : Nat} (a : Ask vs ds lo hi n b m tp lw p party num) (asc : ds.Pairwise (· < ·)) :
    (((List.range (hi.getD party 0 + 1 - lo.getD party 0).toNat).filter fun (j : Nat) => decide ((lawAhead ds b (vs.sum + m) tp lw (vs.getD party 0 + (lo.getD party 0 + j)) p party : Nat) ≤ (num : Int))).map fun (j : Nat) => lo.getD party 0 + (j : Int)).getLast? = cappedF vs ds lo hi b m tp lw p party num := by
  have hge := fun (its : Int) => ahead_ge (vs := vs) (b := b) (m := m) (its := its) (p := p) (party := party) a.hm.l0 a.hm.t0 asc num
  have hle := a.ho.le party a.hp
  unfold cappedF
  by_cases h1 : ds.length ≤ num
  · rw [if_pos h1]
    have : ((List.range (hi.getD party 0 + 1 - lo.getD party 0).toNat).filter fun (j : Nat) => decide ((lawAhead ds b (vs.sum + m) tp lw (vs.getD party 0 + (lo.getD party 0 + j)) p party : Nat) ≤ (num : Int))) = List.range (hi.getD party 0 + 1 - lo.getD party 0).toNat := by
      rw [List.filter_eq_self]
      intro j _
      apply decide_eq_true
      apply Int.not_lt.mp
      intro z
      have := (hge (vs.getD party 0 + (lo.getD party 0 + j))).mp (by omega)
      omega
    rw [this, List.getLast?_map, List.getLast?_range, if_neg (by omega)]
    rw [Option.map_some]; congr 1; omega
  rw [if_neg h1]
  generalize hW : maxI (vAhead (ds.getD num 0) tp lw p party) (leastV vs b m) = W at hge ⊢
  have e : ((List.range (hi.getD party 0 + 1 - lo.getD party 0).toNat).filter fun (j : Nat) => decide ((lawAhead ds b (vs.sum + m) tp lw (vs.getD party 0 + (lo.getD party 0 + j)) p party : Nat) ≤ (num : Int))) = (List.range (hi.getD party 0 + 1 - lo.getD party 0).toNat).filter fun (j : Nat) => decide ((j : Int) < W - vs.getD party 0 - lo.getD party 0) := by
    refine filter_congr' fun j _ => ?_
    rw [decide_eq_decide]
    have := hge (vs.getD party 0 + (lo.getD party 0 + j))
    constructor
    · intro z
      apply Int.lt_of_not_ge
      intro y
      have := this.mpr ⟨by omega, by omega⟩
      omega
    · intro z
      apply Int.not_lt.mp
      intro y
      have := this.mp (by omega)
      omega
  rw [e, lt_range, List.getLast?_map, List.getLast?_range]
  dsimp only
  have hmin : minI (hi.getD party 0) (W - 1 - vs.getD party 0) = min (hi.getD party 0) (W - 1 - vs.getD party 0) := by unfold minI; split <;> omega
  rw [hmin]
  by_cases h2 : min (hi.getD party 0 + 1 - lo.getD party 0).toNat (W - vs.getD party 0 - lo.getD party 0).toNat = 0
  · rw [if_pos h2, if_neg (by omega)]; rfl
  · rw [if_neg h2, if_pos (by omega), Option.map_some]; congr 1; omega
end
end K11

set_option exponentiation.threshold 4000
/-! K11v: what is drawn: numbers, one of some, rules, ballots that are out. -/
namespace K11
open PySem L2 PM
section
variable {M : Store} {k i : Nat} {env : EnvD}
theorem fin_set {T : List FnD} {G : List D} {k f i : Nat} {p : Cell} {ds : List D} (fd : FnD) {d : D} (h : T[f]? = some fd) (hl : ds.length = fd.ps) (hr : fd.rm = .data) (hd : d.pure = true)
    (hb : evSs (callF T G k) G fd.body (ds.map some ++ List.replicate (fd.N - fd.ps) none) M = .ok (.ret d) (M.set i p)) : callF T G (k + 1) f ds M = .ok d (M.set i p) := by
  rw [callF_data fd h hl hr hd hb]
  have := take_self (M.set i p)
  rw [List.length_set] at this; rw [this]
theorem c_take : Takes1 (E (k + 1)) 17 := by
  intro n i M u hp hu hu2
  obtain ⟨x, p, h0, h1, e, hq⟩ := b_take (F := E k) (G := t.G) 2147483647 2147483629 2147483587 2147483579 2147483563 99551 503 10335 165 2305843009213693907 155 (by decide) (by decide) (by decide) (by decide) (by decide) (by decide) (by decide) hp hu hu2
  exact ⟨x, p, h0, h1, fin_set f__law_take rfl rfl rfl rfl e, hq⟩
theorem t_take : Takes (E (k + 1)) 17 := takes_of c_take
theorem t_of : Ofs (E (k + 2)) 18 := by
  rintro i d P ⟨ds, hd, h0, h1, h2, h3⟩ n M q
  obtain ⟨j, p, hj, e, r⟩ := take_ix (c_take (k := k)) q h0 (by omega)
  have hm := List.getElem_mem hj
  have hpu := pures_mem h2 hm
  rcases hd with rfl | rfl
  · exact ⟨ds[j], _, fin_set f__law_of rfl rfl rfl hpu (b_of2 hj e), ⟨hpu, h3 _ hm⟩, ⟨p, rfl⟩, r⟩
  · exact ⟨ds[j], _, fin_set f__law_of rfl rfl rfl hpu (b_of1 hj e), ⟨hpu, h3 _ hm⟩, ⟨p, rfl⟩, r⟩
theorem c_pot {ns : List Int} {pl : Nat} (hpl : pl < 2 ^ 30) : ∃ c : Cell, E (k + 1) 16 [.scr ns, .int pl] M = .ok (.ref M.length) (M ++ [c]) ∧ Pot (2 ^ 30) M.length (M ++ [c]) := by
  obtain ⟨c, hc⟩ : ∃ c : Int, evE (E k) t.G (.ife (.cmp .lt (.var 1) (.bi .len [.var 0])) (.ix (.var 0) (.var 1)) (.add (.mul (.c (.int 521)) (.var 1)) (.c (.int 379)))) [some (.scr ns), some (.int pl), none, none, none] M = .ok (.int c) M := by
    by_cases h : pl < ns.length
    · refine ⟨ns[pl], ?_⟩
      have e : ixD (.scr ns) (.int pl) M = some (.int ns[pl]) := by
        show (atI ns (pl : Int)).map D.int = _
        rw [PM.atI_nat h]; rfl
      simp [evE, evEs, bi_len_scr, cmp_lt, tru_bl, h, e]
    · refine ⟨521 * pl + 379, ?_⟩
      have ec : evE (E k) t.G (.cmp .lt (.var 1) (.bi .len [.var 0])) [some (.scr ns), some (.int pl), none, none, none] M = .ok (.bl false) M := by simp [evE, evEs, bi_len_scr, cmp_lt, h]
      rw [eIf ec]
      show evE (E k) t.G (.add (.mul (.c (.int 521)) (.var 1)) (.c (.int 379))) _ M = _
      exact eAdd (eMul eC (eVar rfl) (mulOk_l (by decide) (by decide))) eC
  obtain ⟨a, b, e, h1, h2, h3⟩ := b_potR (F := E k) (G := t.G) (M := M) 86927 8191 479 2305843009213693951 2305843009213693921 (by decide) (by decide) (by decide) (by decide) (x0 := some (.scr ns)) (c := c) hpl
  refine ⟨potD a b 0, callF_eq (T := t.fns) (G := t.G) (k := k) (f := 16) (ds := [.scr ns, .int pl]) f__law_pot rfl rfl (sAsg hc rfl e), a, b, 0, app1_0, h1, h2, h3, by decide, by decide⟩
theorem c_cells {ns : List Int} : ∃ n : Nat, n ≤ 3 ∧ E (k + 1) 19 [.scr ns, .int 3] M = .ok (.lst (rangeD 0 n)) M := by
  obtain ⟨n, hn, e⟩ := b_cells (F := E k) (G := t.G) (lim := 3) (ns := ns) (M := M) (by decide) (by decide)
  refine ⟨n, hn, fin_self f__law_cells rfl rfl rfl ?_ e⟩
  rw [rangeD0]; exact pure_lstN _
/-! ### a rule -/
def rows5 : List (List Int) := [[1, 2, 3, 4, 5, 6, 7], [1, 3, 5, 7, 9, 11, 13], [2, 3, 7, 8, 20, 30, 31], [1, 2, 4, 8, 16, 32, 64], [10, 14, 20, 21, 30, 50, 60]]
theorem rows5_ok : ∀ r ∈ rows5, r.length = 7 ∧ r.Pairwise (· < ·) ∧ ∀ d ∈ r, 1 ≤ d ∧ d ≤ 64 := by decide
structure RulP (P : Nat) (ds : List Int) (n : Nat) (b : Int) : Prop where
  hr : ROk ds n b P
  asc : ds.Pairwise (· < ·)
  dm : ∀ d ∈ ds, 1 ≤ d ∧ d ≤ 64
  n6 : n ≤ 6
def RuleV (P : Nat) (d : D) : Prop := ∃ ds n b, d = ruleD ds (n : Nat) b ∧ RulP P ds n b
theorem ints_of {p : Int → Prop} {xs : List Int} (h : ∀ x ∈ xs, p x) : ∀ d ∈ xs.map D.int, IntP p d := fun d hd => by
  obtain ⟨x, hx, rfl⟩ := List.mem_map.mp hd
  exact ⟨x, rfl, h x hx⟩
theorem lenP {F : Fns} {v : Nat} {l : List Int} (h : env[v]? = some (some (tupI l))) (M : Store) : evE F t.G (.bi .len [.var v]) env M = .ok (.int l.length) M := eLenI (eVar h)
theorem sl' {n : Nat} (h : n ≤ 1000) : n ≤ sizeLine := sl h
end
end K11

/-! K11w: ballots that are out are drawn. -/
namespace K11
open PySem L2 PM
section
variable {M : Store} {k i : Nat} {env : EnvD}
abbrev SS (M : Store) (lo hi : List Int) : Store := M ++ [.lst (lo.map D.int), .lst (hi.map D.int)]
theorem pot_down {n : Nat} {N : Store} (h : Pot n i (M ++ N)) (hi : i < M.length) : Pot n i M := by
  obtain ⟨a, b, c, h1, h2⟩ := h
  exact ⟨a, b, c, by rw [List.getElem?_append_left hi] at h1; exact h1, h2⟩
theorem take_SS {n : Nat} {lo hi : List Int} {u : Int} (q : Pot (n + 1) i M) (h0 : 0 < u) (h1 : u < 2 ^ 64) : ∃ (x : Int) (p : Cell), 0 ≤ x ∧ x < u ∧ E (k + 1) 17 [.ref i, .int u] (SS M lo hi) = .ok (.int x) (SS (M.set i p) lo hi) ∧ Pot n i (M.set i p) := by
  obtain ⟨x, p, a, b, e, r⟩ := c_take (k := k) n i (SS M lo hi) u q.app h0 h1
  have es : (SS M lo hi).set i p = SS (M.set i p) lo hi := List.set_append_left _ _ q.lt
  rw [es] at e r
  exact ⟨x, p, a, b, e, pot_down r (by rw [List.length_set]; exact q.lt)⟩
abbrev outBody : List MS := [.ex (.me .append (.var 1) [.call 17 [.var 0, .c (.int 3)]]), .ex (.me .append (.var 2) [.add (.ix (.var 1) (.neg (.c (.int 1)))) (.call 17 [.var 0, .c (.int 6)])])]
structure LoHi (P : Nat) (lo hi : List Int) : Prop where
  ll : lo.length = P
  lh : hi.length = P
  at_ : ∀ j < P, 0 ≤ lo.getD j 0 ∧ lo.getD j 0 ≤ 2 ∧ lo.getD j 0 ≤ hi.getD j 0 ∧ hi.getD j 0 ≤ lo.getD j 0 + 5
theorem LoHi.snoc {P : Nat} {lo hi : List Int} {x y : Int} (h : LoHi P lo hi) (h1 : 0 ≤ x ∧ x ≤ 2) (h2 : x ≤ y ∧ y ≤ x + 5) : LoHi (P + 1) (lo ++ [x]) (hi ++ [y]) := by
  have l1 := h.ll
  have l2 := h.lh
  refine ⟨by rw [List.length_append, h.ll]; rfl, by rw [List.length_append, h.lh]; rfl, fun j hj => ?_⟩
  by_cases hp : j < P
  · have e1 : (lo ++ [x]).getD j 0 = lo.getD j 0 := by simp [List.getD, List.getElem?_append_left (show j < lo.length by omega)]
    have e2 : (hi ++ [y]).getD j 0 = hi.getD j 0 := by simp [List.getD, List.getElem?_append_left (show j < hi.length by omega)]
    rw [e1, e2]; exact h.at_ j hp
  · have hj : j = P := by omega
    subst hj
    have e1 : (lo ++ [x]).getD j 0 = x := by simp [List.getD, ← l1]
    have e2 : (hi ++ [y]).getD j 0 = y := by simp [List.getD, ← l2]
    rw [e1, e2]; omega
theorem out_run {n N : Nat} {z0 : Option D} (hN : N ≤ 4) (hp : Pot (n + 2 * N) i M) :
    let e0 : Option D → EnvD := fun z => [some (.ref i), some (.ref M.length), some (.ref (M.length + 1)), z]
    ∃ z lo hi p, forL (forF (E (k + 1)) t.G (.nm 3) outBody) ⟨rangeD 0 N, []⟩ (rangeD 0 N) (e0 z0) (SS M [] []) = .ok (.next (e0 z)) (SS (M.set i p) lo hi) ∧ LoHi N lo hi ∧ Pot n i (M.set i p) := by
  intro e0
  have hi := hp.lt
  obtain ⟨c0, hc0⟩ : ∃ c0, M[i]? = some c0 := ⟨_, List.getElem?_eq_getElem hi⟩
  have hset : M.set i c0 = M := by
    apply List.ext_getElem?
    intro j
    by_cases hj : j = i
    · subst hj; rw [List.getElem?_set_self hi, hc0]
    · rw [List.getElem?_set_ne (Ne.symm hj)]
  rw [rangeD0]
  obtain ⟨env', M2, e, z, lo, hi', p, rfl, rfl, hd, hq⟩ := forL_img (φ := fun (p : Nat) => D.int (p : Int)) (f := forF (E (k + 1)) t.G (.nm 3) outBody) (s := ⟨(List.range N).map fun (p : Nat) => D.int (p : Int), []⟩) (env := e0 z0) (M := SS M [] [])
    (fun done env M2 => ∃ z lo hi p, env = e0 z ∧ M2 = SS (M.set i p) lo hi ∧ LoHi done.length lo hi ∧ Pot (n + 2 * (N - done.length)) i (M.set i p)) (xs := List.range N)
    ⟨z0, [], [], c0, rfl, by rw [hset], ⟨rfl, rfl, fun j hj => absurd hj (Nat.not_lt_zero _)⟩, by rw [hset]; simpa using hp⟩
    (fun _ _ _ _ => rfl)
    (by
      rintro done x rest _ _ hx ⟨z, lo, hi', p, rfl, rfl, hd, hq⟩
      have hdn : done.length < N := by
        have := congrArg List.length hx
        rw [List.length_range, List.length_append, List.length_cons] at this
        omega
      obtain ⟨a, p1, a0, a3, ea, qa⟩ := take_SS (k := k) (n := n + 2 * (N - (done.length + 1)) + 1) (lo := lo) (hi := hi') (u := 3) (hq.mono (by omega)) (by decide) (by decide)
      rw [List.set_set] at ea qa
      obtain ⟨b, p2, b0, b6, eb, qb⟩ := take_SS (k := k) (n := n + 2 * (N - (done.length + 1))) (lo := lo ++ [a]) (hi := hi') (u := 6) qa (by decide) (by decide)
      rw [List.set_set] at eb qb
      refine ⟨e0 (some (.int x)), _, ?_, _, lo ++ [a], hi' ++ [a + b], p2, rfl, rfl, by rw [List.length_append]; exact hd.snoc (by omega) (by omega), by rw [List.length_append]; exact qb⟩
      show evSs (E (k + 1)) t.G outBody (e0 (some (.int x))) (SS (M.set i p) lo hi') = _
      have hm1 : (M.set i p1).length = M.length := List.length_set
      have hm2 : (M.set i p2).length = M.length := List.length_set
      have hm : (M.set i p).length = M.length := List.length_set
      have g1 : ∀ {p : Cell} {l h : List Int}, (SS (M.set i p) l h)[M.length]? = some (.lst (l.map D.int)) := fun {p l h} => by
        have : (M.set i p).length = M.length := List.length_set
        rw [← this]; exact app2_0
      have g2 : ∀ {p : Cell} {l h : List Int}, (SS (M.set i p) l h)[M.length + 1]? = some (.lst (h.map D.int)) := fun {p l h} => by
        have : (M.set i p).length = M.length := List.length_set
        rw [← this]; exact app2_1
      have lenl := hd.ll
      have lenh := hd.lh
      refine sEx (x := .non) (M1 := SS (M.set i p1) (lo ++ [a]) hi') (eMe (x := .ref M.length) (eVar rfl) ?_ (esCons ((eCall (esCons (eVar rfl) (esCons eC esNil))).trans ea) esNil) ?_) (sEx (x := .non) (eMe (x := .ref (M.length + 1)) (M1 := SS (M.set i p1) (lo ++ [a]) hi') (eVar rfl) ?_ (esCons (eAdd (M1 := SS (M.set i p1) (lo ++ [a]) hi') (i := a) (eIx (eVar rfl) rfl ?_) ((eCall (esCons (eVar rfl) (esCons eC esNil))).trans eb)) esNil) ?_) sNil)
      · simp only [lstOf, seqOf, g1]; rfl
      · have hlen : (lo.map D.int).length < sizeLine := by rw [List.length_map, lenl]; exact Nat.lt_of_lt_of_le (Nat.lt_of_lt_of_le hdn hN) (by decide)
        simp only [mi, g1, decide_eq_true hlen]
        show Res.ok D.non ((SS (M.set i p1) lo hi').set M.length _) = _
        have : (SS (M.set i p1) lo hi').set M.length (.lst (lo.map D.int ++ [.int a])) = SS (M.set i p1) (lo ++ [a]) hi' := by
          have h := set2_0 (M := M.set i p1) (a := .lst (lo.map D.int)) (b := .lst (hi'.map D.int)) (c := .lst (lo.map D.int ++ [.int a]))
          rw [hm1] at h
          rw [h, SS, List.map_append]; rfl
        rw [this]
      · simp only [lstOf, seqOf, g2]; rfl
      · simp only [ixD, g1, List.map_append]
        exact atI_last (by simp)
      · have hlen : (hi'.map D.int).length < sizeLine := by rw [List.length_map, lenh]; exact Nat.lt_of_lt_of_le (Nat.lt_of_lt_of_le hdn hN) (by decide)
        simp only [mi, g2, decide_eq_true hlen]
        show Res.ok D.non ((SS (M.set i p2) (lo ++ [a]) hi').set (M.length + 1) _) = _
        have : (SS (M.set i p2) (lo ++ [a]) hi').set (M.length + 1) (.lst (hi'.map D.int ++ [.int (a + b)])) = SS (M.set i p2) (lo ++ [a]) (hi' ++ [a + b]) := by
          have h := set2_1 (M := M.set i p2) (a := .lst ((lo ++ [a]).map D.int)) (b := .lst (hi'.map D.int)) (c := .lst (hi'.map D.int ++ [.int (a + b)]))
          rw [hm2] at h
          rw [h, SS, List.map_append (l₁ := hi')]; rfl
        rw [this])
  rw [List.length_range] at hd hq
  exact ⟨z, lo, hi', p, e, hd, hq.mono (by omega)⟩
def OutV (d : D) : Prop := ∃ P m lo hi, d = outD m lo hi ∧ OOk m lo hi P ∧ P ≤ 4 ∧ (∀ j < P, lo.getD j 0 ≤ 2 ∧ hi.getD j 0 ≤ lo.getD j 0 + 5)
theorem sum_bd : ∀ {l : List Int} {c : Int}, (∀ z ∈ l, 0 ≤ z ∧ z ≤ c) → 0 ≤ l.sum ∧ l.sum ≤ l.length * c
  | [], c, _ => by simp
  | z :: l, c, h => by
    have ih := sum_bd (fun y hy => h y (List.mem_cons_of_mem z hy))
    have h1 := h z List.mem_cons_self
    rw [List.sum_cons, List.length_cons]
    have e : ((l.length + 1 : Nat) : Int) * c = l.length * c + c := by rw [Int.natCast_add, Int.add_mul]; simp
    rw [e]; omega
theorem sum_le_sum : ∀ {lo hi : List Int}, lo.length = hi.length → (∀ j < lo.length, lo.getD j 0 ≤ hi.getD j 0) → lo.sum ≤ hi.sum
  | [], [], _, _ => Int.le_refl _
  | x :: lo, y :: hi, hl, h => by
    have h0 : x ≤ y := h 0 (Nat.zero_lt_succ _)
    have := sum_le_sum (lo := lo) (hi := hi) (by simpa using hl) fun j hj => h (j + 1) (by rw [List.length_cons]; omega)
    rw [List.sum_cons, List.sum_cons]; omega
theorem LoHi.ok {P : Nat} {lo hi : List Int} {x : Int} (h : LoHi P lo hi) (p1 : 1 ≤ P) (p4 : P ≤ 4) (h0 : 0 ≤ x) (h1 : x ≤ hi.sum - lo.sum) : OOk (lo.sum + x) lo hi P := by
  have l1 := h.ll
  have l2 := h.lh
  have mem : ∀ {l : List Int} {z : Int}, l.length = P → z ∈ l → ∃ j, j < P ∧ z = l.getD j 0 := fun {l z} hl hz => by
    obtain ⟨j, hj, rfl⟩ := List.mem_iff_getElem.mp hz
    exact ⟨j, by omega, by simp [List.getD, hj]⟩
  have s1 := sum_bd (l := lo) (c := 2) fun z hz => by
    obtain ⟨j, hj, rfl⟩ := mem l1 hz
    have := h.at_ j hj; omega
  have s2 := sum_bd (l := hi) (c := 7) fun z hz => by
    obtain ⟨j, hj, rfl⟩ := mem l2 hz
    have := h.at_ j hj; omega
  rw [l1] at s1; rw [l2] at s2
  refine ⟨by omega, by omega, l1, l2, p1, by omega, List.all_eq_true.mpr fun z hz => ?_, List.all_eq_true.mpr fun z hz => ?_, by omega, by omega, fun j hj => (h.at_ j hj).2.2.1⟩
  · obtain ⟨j, hj, rfl⟩ := mem l1 hz
    have := h.at_ j hj
    unfold btw; rw [decide_eq_true (by omega), decide_eq_true (by omega)]; rfl
  · obtain ⟨j, hj, rfl⟩ := mem l2 hz
    have := h.at_ j hj
    unfold btw; rw [decide_eq_true (by omega), decide_eq_true (by omega)]; rfl
theorem d_out : Dr i 10 (E (k + 2) 23 [.ref i]) OutV := by
  intro n M q
  have hi := q.lt
  obtain ⟨y, p0, y0, y4, ey, qy⟩ := c_take (k := k) (n + 9) i (SS M [] []) 4 (q.app) (by decide) (by decide)
  have es0 : (SS M [] []).set i p0 = SS (M.set i p0) [] [] := List.set_append_left _ _ hi
  rw [es0] at ey qy
  have qy := pot_down qy (by rw [List.length_set]; exact hi)
  obtain ⟨w, rfl⟩ := Int.eq_ofNat_of_zero_le y0
  have hm0 : (M.set i p0).length = M.length := List.length_set
  obtain ⟨z, lo, hi', p1, el, hlh, q1⟩ := out_run (k := k) (n := n + 1) (N := 1 + w) (z0 := none) (by omega) (qy.mono (by omega))
  rw [List.set_set] at el q1
  rw [hm0] at el
  have hm1 : (M.set i p1).length = M.length := List.length_set
  have l1 := hlh.ll
  have l2 := hlh.lh
  have hle := sum_le_sum (lo := lo) (hi := hi') (by omega) fun j hj => (hlh.at_ j (by omega)).2.2.1
  have s2 := sum_bd (l := hi') (c := 7) fun z hz => by
    obtain ⟨j, hj, rfl⟩ := List.mem_iff_getElem.mp hz
    have := hlh.at_ j (by omega)
    have e : hi'.getD j 0 = hi'[j] := by simp [List.getD, hj]
    omega
  have s1 := sum_bd (l := lo) (c := 2) fun z hz => by
    obtain ⟨j, hj, rfl⟩ := List.mem_iff_getElem.mp hz
    have := hlh.at_ j (by omega)
    have e : lo.getD j 0 = lo[j] := by simp [List.getD, hj]
    omega
  obtain ⟨x, p2, x0, x1, ex, q2⟩ := take_SS (k := k) (n := n) (lo := lo) (hi := hi') (u := hi'.sum - lo.sum + 1) q1 (by omega) (by omega)
  rw [List.set_set] at ex q2
  have ok := hlh.ok (x := x) (by omega) (by omega) x0 (by omega)
  refine ⟨outD (lo.sum + x) lo hi', M.set i p2, ?_, ⟨1 + w, _, lo, hi', rfl, ok, by omega, fun j hj => by have := hlh.at_ j hj; omega⟩, ⟨p2, rfl⟩, q2⟩
  have g1 : ∀ {p : Cell}, (SS (M.set i p) lo hi')[M.length]? = some (.lst (lo.map D.int)) := fun {p} => by
    have : (M.set i p).length = M.length := List.length_set
    rw [← this]; exact app2_0
  have g2 : ∀ {p : Cell}, (SS (M.set i p) lo hi')[M.length + 1]? = some (.lst (hi'.map D.int)) := fun {p} => by
    have : (M.set i p).length = M.length := List.length_set
    rw [← this]; exact app2_1
  have su : ∀ {p : Cell} {v : Nat} {r : Nat} {l : List Int} {env : EnvD}, env[v]? = some (some (.ref r)) → (SS (M.set i p) lo hi')[r]? = some (.lst (l.map D.int)) → evE (E (k + 1)) t.G (.bi .sum [.var v]) env (SS (M.set i p) lo hi') = .ok (.int l.sum) (SS (M.set i p) lo hi') := fun {p v r l env} hv hg => by
    refine (eBi1 (eVar hv)).trans ?_
    show optR (((seqOf (.ref r) _).bind intsOf).map fun ns => D.int ns.sum) _ = _
    simp only [seqOf, hg, Option.bind_some, ints_map]
    rfl
  have tu : ∀ {p : Cell} {v : Nat} {r : Nat} {l : List Int} {env : EnvD}, env[v]? = some (some (.ref r)) → (SS (M.set i p) lo hi')[r]? = some (.lst (l.map D.int)) → evE (E (k + 1)) t.G (.bi .tuple [.var v]) env (SS (M.set i p) lo hi') = .ok (tupI l) (SS (M.set i p) lo hi') := fun {p v r l env} hv hg => by
    refine (eBi1 (eVar hv)).trans ?_
    show optR ((seqOf (.ref r) _).map D.tup) _ = _
    simp only [seqOf, hg]
    rfl
  have hb : evSs (E (k + 1)) t.G b__law_out ([D.ref i].map some ++ List.replicate (4 - 1) none) M = .ok (.ret (outD (lo.sum + x) lo hi')) (SS (M.set i p2) lo hi') := by
    refine sAsg (x := .tup [.ref M.length, .ref (M.length + 1)]) (M1 := SS M [] []) ?_ rfl (sFor (s := ⟨rangeD 0 (1 + w), []⟩) (M1 := SS (M.set i p0) [] []) ?_ el (sRet (eTup (esCons (eAdd (su (l := lo) rfl g1) ((eCall (esCons (eVar rfl) (esCons (eAdd (eSub (su (l := hi') rfl g2) (su (l := lo) rfl g1)) eC) esNil))).trans ex)) (esCons (tu (l := lo) rfl g1) (esCons (tu (l := hi') rfl g2) esNil))) s3)))
    · refine eTup (esCons (x := .ref M.length) (M1 := M ++ [.lst []]) rfl (esCons (x := .ref (M.length + 1)) (M1 := SS M [] []) ?_ esNil)) K11.s2
      show Res.ok (D.ref (M ++ [Cell.lst []]).length) ((M ++ [Cell.lst []]) ++ [Cell.lst []]) = _
      rw [append_two, List.length_append]; rfl
    · have e1 : evE (E (k + 1)) t.G (.add (.c (.int 1)) (.call 17 [.var 0, .c (.int 4)])) [some (.ref i), some (.ref M.length), some (.ref (M.length + 1)), none] (SS M [] []) = .ok (.int ((1 + w : Nat) : Int)) (SS (M.set i p0) [] []) := by
        refine (eAdd eC ((eCall (esCons (eVar rfl) (esCons eC esNil))).trans ey)).trans ?_
        rw [Int.natCast_add]; rfl
      show (evE (E (k + 1)) t.G (.add (.c (.int 1)) (.call 17 [.var 0, .c (.int 4)])) [some (.ref i), some (.ref M.length), some (.ref (M.length + 1)), none] (SS M [] [])).bind _ = _
      rw [e1, ok_bind]
      have hr : decide (-(2 ^ 60) < (((1 + w : Nat) : Nat) : Int) ∧ (((1 + w : Nat) : Nat) : Int) < 2 ^ 60) = true := decide_eq_true ⟨by omega, by omega⟩
      simp only [hr, if_true, Int.toNat_natCast]
  have hpu : (outD (lo.sum + x) lo hi').pure = true := by
    show (true && ((tupI lo).pure && ((tupI hi').pure && true))) = true; rw [pure_tupI, pure_tupI]; rfl
  refine (callF_data (T := t.fns) (G := t.G) (k := k + 1) (f := 23) f__law_out rfl rfl rfl hpu hb).trans ?_
  have : (SS (M.set i p2) lo hi').take M.length = M.set i p2 := by
    have h := take_app (M.set i p2) [.lst (lo.map D.int), .lst (hi'.map D.int)]
    rwa [List.length_set] at h
  rw [this]
end
end K11

/-! K11c: all counts. -/
namespace K11
open PySem L2 PM
section
variable {M : Store} {k i : Nat} {env : EnvD}
theorem eAddT {F : Fns} {G : List D} {e f : ME} {x y : List D} {env : EnvD} {M1 M2 : Store} (he : evE F G e env M = .ok (.tup x) M1) (hf : evE F G f env M1 = .ok (.tup y) M2) (hl : x.length + y.length ≤ sizeLine) : evE F G (.add e f) env M = .ok (.tup (x ++ y)) M2 := by
  show (evE F G e env M).bind _ = _; rw [he, ok_bind]; show (evE F G f env M1).bind _ = _; rw [hf, ok_bind]
  show optR (if lineOk (x.length + y.length) = true then some (D.tup (x ++ y)) else none) M2 = _
  rw [if_pos (by exact decide_eq_true hl)]; rfl
/-- where the rows are -/
def Found (M : Store) (N : List Cell) (v : D) (rows : List (List Int)) : Prop := v = .lst (rows.map tupI) ∨ ∃ r, v = .ref (M.length + r) ∧ N[r]? = some (.lst (rows.map tupI))
/-- a row and one more number -/
def okJ (m : Int) (row : List Int) (l : Int) (j : Nat) : Bool := decide (row.sum + (l + (j : Int)) ≤ m)
def moreU (m l h : Int) (row : List Int) : List (List Int) := ((List.range (h + 1 - l).toNat).filter (okJ m row l)).map fun (j : Nat) => row ++ [l + (j : Int)]
def nextU (m l h : Int) (rows : List (List Int)) : List (List Int) := rows.flatMap (moreU m l h)
def rowsU (m : Int) (lo hi : List Int) : Nat → List (List Int)
  | 0 => [[]]
  | a + 1 => nextU m (lo.getD a 0) (hi.getD a 0) (rowsU m lo hi a)
def countsU (m : Int) (lo hi : List Int) (P : Nat) : List (List Int) := (rowsU m lo hi P).filter fun r => decide (r.sum = m)
theorem moreU_len {m l h : Int} {c : Nat} (hc : (h + 1 - l).toNat ≤ c) (r : List Int) : (moreU m l h r).length ≤ c := by
  unfold moreU
  rw [List.length_map]
  exact Nat.le_trans (List.length_filter_le _ _) (by rw [List.length_range]; exact hc)
theorem nextU_len {rows : List (List Int)} {m l h : Int} {c : Nat} (hc : (h + 1 - l).toNat ≤ c) : (nextU m l h rows).length ≤ rows.length * c := by
  unfold nextU
  induction rows with
  | nil => simp
  | cons r rows ih =>
    rw [List.flatMap_cons, List.length_append, List.length_cons, Nat.add_mul]
    have := moreU_len (m := m) hc r
    omega
structure RowU (lo hi : List Int) (m : Int) (a : Nat) (row : List Int) : Prop where
  len : row.length = a
  at_ : ∀ j < a, lo.getD j 0 ≤ row.getD j 0 ∧ row.getD j 0 ≤ hi.getD j 0
theorem rowsU_ok {lo hi : List Int} {m : Int} {P : Nat} (hs : ∀ j < P, hi.getD j 0 ≤ lo.getD j 0 + 5) : ∀ a, a ≤ P → (∀ r ∈ rowsU m lo hi a, RowU lo hi m a r) ∧ (rowsU m lo hi a).length ≤ 6 ^ a
  | 0, _ => ⟨fun r hr => by
      have hr : r ∈ [[]] := hr
      rw [List.mem_singleton.mp hr]
      exact ⟨rfl, fun j hj => absurd hj (by omega)⟩, by simp [rowsU]⟩
  | a + 1, h => by
    obtain ⟨h2, h3⟩ := rowsU_ok (m := m) hs a (by omega)
    refine ⟨fun r hr => ?_, ?_⟩
    · obtain ⟨q, hq, hr⟩ := List.mem_flatMap.mp hr
      obtain ⟨j, hj, rfl⟩ := List.mem_map.mp hr
      obtain ⟨hj1, hj2⟩ := List.mem_filter.mp hj
      have hj1 := List.mem_range.mp hj1
      have ok := h2 q hq
      have hlen := ok.len
      refine ⟨by rw [List.length_append, List.length_singleton, hlen], fun i hi' => ?_⟩
      by_cases hia : i < a
      · have := ok.at_ i hia
        have e : (q ++ [lo.getD a 0 + (j : Int)]).getD i 0 = q.getD i 0 := by simp [List.getD, List.getElem?_append_left (show i < q.length by omega)]
        rw [e]; exact this
      · have hia : i = a := by omega
        subst hia
        have e : (q ++ [lo.getD i 0 + (j : Int)]).getD i 0 = lo.getD i 0 + (j : Int) := by simp [List.getD, ← hlen]
        rw [e]; omega
    · refine Nat.le_trans (nextU_len (c := 6) ?_) ?_
      · have := hs a (by omega); omega
      · rw [Nat.pow_succ]; exact Nat.mul_le_mul_right _ h3
theorem sum_ge0 {l : List Int} (h : ∀ z ∈ l, 0 ≤ z) : 0 ≤ l.sum := by
  induction l with
  | nil => exact Int.le_refl _
  | cons z l ih =>
    rw [List.sum_cons]
    have := h z List.mem_cons_self
    have := ih fun y hy => h y (List.mem_cons_of_mem z hy)
    omega
theorem take_succ_getD {l : List Int} {a : Nat} (h : a < l.length) : l.take (a + 1) = l.take a ++ [l.getD a 0] := by
  rw [List.take_add_one, List.getElem?_eq_getElem h]; simp [List.getD, h]
/-- each row whose numbers are right is there -/
theorem rowsU_mem {lo hi : List Int} {m : Int} {P : Nat} (h0 : ∀ j < P, 0 ≤ lo.getD j 0) {r : List Int} (hl : r.length = P) (ha : ∀ j < P, lo.getD j 0 ≤ r.getD j 0 ∧ r.getD j 0 ≤ hi.getD j 0) (hs : r.sum ≤ m) : ∀ a, a ≤ P → r.take a ∈ rowsU m lo hi a
  | 0, _ => by simp [rowsU]
  | a + 1, h => by
    have ih := rowsU_mem h0 hl ha hs a (by omega)
    have hb := ha a (by omega)
    have hp : ∀ z ∈ r, 0 ≤ z := fun z hz => by
      obtain ⟨j, hj, rfl⟩ := List.mem_iff_getElem.mp hz
      have h1 := ha j (by omega)
      have h2 := h0 j (by omega)
      have e : r.getD j 0 = r[j] := by simp [List.getD, hj]
      omega
    have hsum : (r.take (a + 1)).sum + (r.drop (a + 1)).sum = r.sum := by rw [← List.sum_append, List.take_append_drop]
    have hd := sum_ge0 (l := r.drop (a + 1)) fun z hz => hp z (List.mem_of_mem_drop hz)
    have ht := take_succ_getD (l := r) (a := a) (by omega)
    have hsa : (r.take (a + 1)).sum = (r.take a).sum + r.getD a 0 := by rw [ht, List.sum_append]; simp
    refine List.mem_flatMap.mpr ⟨r.take a, ih, List.mem_map.mpr ⟨(r.getD a 0 - lo.getD a 0).toNat, List.mem_filter.mpr ⟨List.mem_range.mpr (by omega), ?_⟩, ?_⟩⟩
    · unfold okJ; rw [decide_eq_true_eq]; omega
    · rw [ht, show lo.getD a 0 + ((r.getD a 0 - lo.getD a 0).toNat : Int) = r.getD a 0 by omega]
theorem OOk.lo0 {m : Int} {lo hi : List Int} {P : Nat} (ho : OOk m lo hi P) : ∀ j < P, 0 ≤ lo.getD j 0 := fun j hj => (ho.loB hj).1
theorem countsU_iff {lo hi : List Int} {m : Int} {P : Nat} (ho : OOk m lo hi P) (hs : ∀ j < P, hi.getD j 0 ≤ lo.getD j 0 + 5) {r : List Int} : r ∈ countsU m lo hi P ↔ COk m lo hi P r := by
  constructor
  · intro h
    obtain ⟨h1, h2⟩ := List.mem_filter.mp h
    have ok := (rowsU_ok hs P (Nat.le_refl _)).1 r h1
    exact ⟨ok.len, ok.at_, of_decide_eq_true h2⟩
  · intro h
    refine List.mem_filter.mpr ⟨?_, decide_eq_true h.sum⟩
    have := rowsU_mem (m := m) ho.lo0 h.len h.at_ (Int.le_of_eq h.sum) P (Nat.le_refl _)
    rwa [List.take_of_length_le (by rw [h.len]; exact Nat.le_refl _)] at this
theorem countsU_len {lo hi : List Int} {m : Int} {P : Nat} (hs : ∀ j < P, hi.getD j 0 ≤ lo.getD j 0 + 5) (hp : P ≤ 4) : (countsU m lo hi P).length ≤ 1296 :=
  Nat.le_trans (List.length_filter_le _ _) (Nat.le_trans (rowsU_ok hs P (Nat.le_refl _)).2 (Nat.le_trans (Nat.pow_le_pow_right (by decide) hp) (by decide)))
abbrev inC : ME := .comp .frz (.add (.var 5) (.tup [.var 6])) (.nm 6) (.rng2 (.var 2) (.add (.var 3) (.c (.int 1)))) [.cmp .le (.add (.bi .sum [.var 5]) (.var 6)) (.ix (.var 0) (.c (.int 0)))] [6]
abbrev inBody : List MS := [.ex (.me .extend (.var 4) [inC])]
theorem in_run {F : Fns} {x1 x5 x6 : Option D} {lo hi row : List Int} {m l h : Int} (hb : -1000 < l ∧ l < 1000 ∧ -1000 < h ∧ h < 1000) (hr : row.length ≤ 100) (hlt : (h + 1 - l).toNat ≤ 6) :
    evE F t.G inC [some (outD m lo hi), x1, some (.int l), some (.int h), x5, some (tupI row), x6] M = .ok (.lst ((moreU m l h row).map tupI)) M := by
  have hit : evIt F t.G (.rng2 (.var 2) (.add (.var 3) (.c (.int 1)))) [some (outD m lo hi), x1, some (.int l), some (.int h), x5, some (tupI row), x6] M = .ok ⟨(List.range (h + 1 - l).toNat).map fun (j : Nat) => D.int (l + j), []⟩ M :=
    it_rng2 (i := l) (j := h + 1) (eVar rfl) (eAdd (i := h) (j := 1) (eVar rfl) eC) (by omega)
  have := eFil (F := F) (G := t.G) (M := M) (e := .add (.var 5) (.tup [.var 6])) (c := .cmp .le (.add (.bi .sum [.var 5]) (.var 6)) (.ix (.var 0) (.c (.int 0)))) (t := .nm 6) (own := [6]) (env := [some (outD m lo hi), x1, some (.int l), some (.int h), x5, some (tupI row), x6]) (List.range (h + 1 - l).toNat) (fun (j : Nat) => D.int (l + j)) (fun j => tupI (row ++ [l + (j : Int)])) (okJ m row l)
    hit rfl (sl (by rw [List.length_range]; omega)) (fun j hj => ⟨[some (outD m lo hi), x1, some (.int l), some (.int h), x5, some (tupI row), some (.int (l + j))], rfl, eLe (eAdd (eSumI (eVar rfl)) (eVar rfl)) (o0 rfl), ?_⟩)
  · rw [this]; unfold moreU; rw [List.map_map]; rfl
  · refine (eAddT (eVar (d := tupI row) rfl) (eTup (esCons (eVar rfl) esNil) s1) (sl (by rw [List.length_map]; show row.length + 1 ≤ 1000; omega))).trans (congrArg (fun z => Res.ok (D.tup z) _) ?_)
    rw [List.map_append]; rfl
theorem rowsU_run {F : Fns} {x1 x5 x6 : Option D} {lo hi : List Int} {m l h : Int} (hb : -1000 < l ∧ l < 1000 ∧ -1000 < h ∧ h < 1000) (hlt : (h + 1 - l).toNat ≤ 6) {rows : List (List Int)} (hrl : ∀ r ∈ rows, r.length ≤ 100) (hz : rows.length ≤ 5000) {s : Src} (hs : s.items = rows.map tupI) (hok : ∀ c, s.ok (M ++ [c]) = true) :
    let e0 : Option D → EnvD := fun y => [some (outD m lo hi), x1, some (.int l), some (.int h), some (.ref M.length), y, x6]
    ∃ y, forL (forF F t.G (.nm 5) inBody) s s.items (e0 x5) (M ++ [.lst []]) = .ok (.next (e0 y)) (M ++ [.lst ((nextU m l h rows).map tupI)]) := by
  intro e0
  rw [hs]
  obtain ⟨env', M', e, ⟨y, rfl⟩, rfl⟩ := forL_img (φ := tupI) (f := forF F t.G (.nm 5) inBody) (s := s) (env := e0 x5) (M := M ++ [.lst []])
    (fun done env M' => (∃ y, env = e0 y) ∧ M' = M ++ [.lst ((nextU m l h done).map tupI)]) (xs := rows) ⟨⟨x5, rfl⟩, rfl⟩ (fun _ _ _ h => by rw [h.2]; exact hok _)
    (by
      rintro done row rest _ _ hx ⟨⟨y, rfl⟩, rfl⟩
      have hdl : done.length < rows.length := by
        have := congrArg List.length hx
        rw [List.length_append, List.length_cons] at this
        omega
      have hf := nextU_len (rows := done) (m := m) hlt
      have hm := moreU_len (m := m) hlt row
      refine ⟨e0 (some (tupI row)), _, ?_, ⟨_, rfl⟩, rfl⟩
      show evSs F t.G inBody (e0 (some (tupI row))) _ = _
      have hn : nextU m l h (done ++ [row]) = nextU m l h done ++ moreU m l h row := by unfold nextU; rw [List.flatMap_append]; simp
      refine sEx (x := .non) (eMe (x := .ref M.length) (eVar rfl) ?_ (esCons (in_run hb (hrl row (by rw [hx]; simp)) hlt) esNil) ?_) sNil
      · simp only [lstOf, seqOf, app1_0]; rfl
      · have hpu : D.pures ((moreU m l h row).map tupI) = true := pures_tups _
        have hlen : lineOk (((nextU m l h done).map tupI).length + ((moreU m l h row).map tupI).length) = true := by
          rw [List.length_map, List.length_map]
          exact decide_eq_true (Nat.le_trans (show _ ≤ 100000 by omega) (by decide))
        simp only [mi, app1_0, hpu, hlen, set1_0, Bool.and_self, if_true]
        rw [hn, List.map_append])
  exact ⟨y, e⟩
abbrev lapU : List MS := [.asg (.nm 4) (.lst .cell []), .for_ (.nm 5) (.seq (.var 1)) inBody, .asg (.nm 1) (.var 4)]
theorem srcFound {N : List Cell} {v : D} {rows : List (List Int)} (hf : Found M N v rows) : ∃ s : Src, s.items = rows.map tupI ∧ (∀ c, s.ok ((M ++ N) ++ c) = true) ∧ ∀ c, srcSeq v ((M ++ N) ++ c) = some s := by
  rcases hf with rfl | ⟨r, rfl, hr⟩
  · exact ⟨⟨_, []⟩, rfl, fun _ => rfl, fun _ => rfl⟩
  · have hg : ∀ c : List Cell, ((M ++ N) ++ c)[M.length + r]? = some (.lst (rows.map tupI)) := fun c => by
      have hrl := (List.getElem?_eq_some_iff.mp hr).1
      rw [List.getElem?_append_left (by rw [List.length_append]; omega), List.getElem?_append_right (by omega), Nat.add_sub_cancel_left]
      exact hr
    refine ⟨⟨_, [(M.length + r, .lst (rows.map tupI))]⟩, rfl, fun c => ?_, fun c => ?_⟩
    · show (decide (_ = _) && true) = true
      rw [decide_eq_true (hg c)]; rfl
    · simp only [srcSeq, hg]
theorem c_counts {lo hi : List Int} {m : Int} {P : Nat} (ho : OOk m lo hi P) (hp4 : P ≤ 4) (hsm : ∀ j < P, lo.getD j 0 ≤ 2 ∧ hi.getD j 0 ≤ lo.getD j 0 + 5) : E (k + 1) 22 [outD m lo hi] M = .ok (.lst ((countsU m lo hi P).map tupI)) M := by
  have hs5 : ∀ j < P, hi.getD j 0 ≤ lo.getD j 0 + 5 := fun j hj => (hsm j hj).2
  have hll := ho.ll
  have hlh := ho.lh
  have key : ∃ (env : EnvD) (N : List Cell) (v : D), env[1]? = some (some v) ∧ env[0]? = some (some (outD m lo hi)) ∧ env.length = 7 ∧ Found M N v (rowsU m lo hi P) ∧ forL (forF (E k) t.G (.tp [.nm 2, .nm 3]) lapU) ⟨(lo.zip hi).map fun p => D.tup [.int p.1, .int p.2], []⟩ ((lo.zip hi).map fun p => D.tup [.int p.1, .int p.2]) [some (outD m lo hi), some (.lst [tupI []]), none, none, none, none, none] M = .ok (.next env) (M ++ N) := by
    obtain ⟨env', M', e, ⟨v, N, x2, x3, x4, x5, rfl, rfl, hf⟩⟩ := forL_img (φ := fun (p : Int × Int) => D.tup [.int p.1, .int p.2]) (f := forF (E k) t.G (.tp [.nm 2, .nm 3]) lapU) (s := ⟨(lo.zip hi).map fun p => D.tup [.int p.1, .int p.2], []⟩) (env := [some (outD m lo hi), some (.lst [tupI []]), none, none, none, none, none]) (M := M)
      (fun done env M' => ∃ (v : D) (N : List Cell) (x2 x3 x4 x5 : Option D), env = [some (outD m lo hi), some v, x2, x3, x4, x5, none] ∧ M' = M ++ N ∧ Found M N v (rowsU m lo hi done.length)) (xs := lo.zip hi)
      ⟨_, [], none, none, none, none, rfl, (List.append_nil M).symm, Or.inl rfl⟩ (fun _ _ _ _ => rfl)
      (by
        rintro done p rest _ _ hx ⟨v, N, x2, x3, x4, x5, rfl, rfl, hf⟩
        have hdl : done.length < P := by
          have := congrArg List.length hx
          rw [List.length_zip, List.length_append, List.length_cons] at this
          omega
        obtain rfl : p = (lo.getD done.length 0, hi.getD done.length 0) := by
          have := congrArg (·[done.length]?) hx
          simp only [List.getElem?_append_right (Nat.le_refl _), Nat.sub_self, List.getElem?_cons_zero] at this
          rw [List.getElem?_eq_getElem (by rw [List.length_zip]; omega), List.getElem_zip] at this
          have := Option.some.inj this
          rw [← this]
          simp [List.getD, show done.length < lo.length by omega, show done.length < hi.length by omega]
        have hl0 := ho.lo0 _ hdl
        have hsj := hsm _ hdl
        have hle := ho.le _ hdl
        obtain ⟨r2, r3⟩ := rowsU_ok (m := m) hs5 done.length (by omega)
        have hsz : (rowsU m lo hi done.length).length ≤ 5000 := Nat.le_trans r3 (Nat.le_trans (Nat.pow_le_pow_right (by decide) (show done.length ≤ 3 by omega)) (by decide))
        obtain ⟨s, hs1, hs2, hs3⟩ := srcFound hf
        obtain ⟨y, e2⟩ := rowsU_run (F := E k) (M := M ++ N) (x1 := some v) (x5 := x5) (x6 := none) (lo := lo) (hi := hi) (m := m) (l := lo.getD done.length 0) (h := hi.getD done.length 0) (by omega) (by omega) (rows := rowsU m lo hi done.length) (fun r hr => by have := (r2 r hr).len; omega) hsz hs1 (fun c => hs2 [c])
        have hM : ((M ++ N) ++ [Cell.lst ((nextU m (lo.getD done.length 0) (hi.getD done.length 0) (rowsU m lo hi done.length)).map tupI)]) = M ++ (N ++ [Cell.lst ((rowsU m lo hi (done.length + 1)).map tupI)]) := by rw [List.append_assoc]; rfl
        refine ⟨[some (outD m lo hi), some (.ref (M ++ N).length), some (.int (lo.getD done.length 0)), some (.int (hi.getD done.length 0)), some (.ref (M ++ N).length), y, none], _, ?_, .ref (M ++ N).length, N ++ [Cell.lst ((rowsU m lo hi (done.length + 1)).map tupI)], _, _, _, _, rfl, rfl, Or.inr ⟨N.length, by rw [List.length_append], by rw [List.length_append, List.length_singleton, List.getElem?_append_right (Nat.le_refl _), Nat.sub_self]; rfl⟩⟩
        show evSs (E k) t.G lapU [some (outD m lo hi), some v, some (.int (lo.getD done.length 0)), some (.int (hi.getD done.length 0)), x4, x5, none] (M ++ N) = _
        refine sAsg (x := .ref (M ++ N).length) (M1 := (M ++ N) ++ [.lst []]) rfl rfl ?_
        have hit : evIt (E k) t.G (.seq (.var 1)) [some (outD m lo hi), some v, some (.int (lo.getD done.length 0)), some (.int (hi.getD done.length 0)), some (.ref (M ++ N).length), x5, none] ((M ++ N) ++ [.lst []]) = .ok s ((M ++ N) ++ [.lst []]) := by
          have h2 : evE (E k) t.G (.var 1) [some (outD m lo hi), some v, some (.int (lo.getD done.length 0)), some (.int (hi.getD done.length 0)), some (.ref (M ++ N).length), x5, none] ((M ++ N) ++ [.lst []]) = .ok v ((M ++ N) ++ [.lst []]) := eVar rfl
          simp only [evIt, h2, ok_bind, hs3, optR_some]
        refine sFor hit e2 (sAsg (eVar (d := .ref (M ++ N).length) rfl) rfl (sNil.trans ?_))
        rw [hM]; rfl)
    rw [List.length_zip, hll, hlh, Nat.min_self] at hf
    exact ⟨_, N, v, rfl, rfl, rfl, hf, e⟩
  obtain ⟨env, N, v, h1, h0, hel, hf, e⟩ := key
  obtain ⟨r2, r3⟩ := rowsU_ok (m := m) hs5 P (Nat.le_refl _)
  have hsz : (rowsU m lo hi P).length ≤ 1296 := Nat.le_trans r3 (Nat.le_trans (Nat.pow_le_pow_right (by decide) hp4) (by decide))
  obtain ⟨s, hs1, hs2, hs3⟩ := srcFound hf
  have hfin : evE (E k) t.G (.comp .frz (.var 5) (.nm 5) (.seq (.var 1)) [.cmp .eq (.bi .sum [.var 5]) (.ix (.var 0) (.c (.int 0)))] [5]) env (M ++ N) = .ok (.lst ((countsU m lo hi P).map tupI)) (M ++ N) := by
    obtain ⟨its, st⟩ := s
    have hs1 : its = (rowsU m lo hi P).map tupI := hs1
    subst hs1
    have hit : evIt (E k) t.G (.seq (.var 1)) env (M ++ N) = .ok ⟨(rowsU m lo hi P).map tupI, st⟩ (M ++ N) := by
      have h2 : evE (E k) t.G (.var 1) env (M ++ N) = .ok v (M ++ N) := eVar h1
      have h3 := hs3 []
      rw [List.append_nil] at h3
      simp only [evIt, h2, ok_bind, h3, optR_some]
    have hok := hs2 []
    rw [List.append_nil] at hok
    exact eFil (F := E k) (G := t.G) (M := M ++ N) (e := .var 5) (c := .cmp .eq (.bi .sum [.var 5]) (.ix (.var 0) (.c (.int 0)))) (t := .nm 5) (own := [5]) (env := env) (rowsU m lo hi P) tupI tupI (fun r => decide (r.sum = m)) hit hok (Nat.le_trans hsz (by decide)) (fun r hr => by
      have hw : (wipeD env [5]).length = 7 := by show (env.set 5 none).length = 7; rw [List.length_set]; exact hel
      refine ⟨(wipeD env [5]).set 5 (some (tupI r)), ?_, ?_, ?_⟩
      · show (if 5 < (wipeD env [5]).length then some _ else none) = _
        rw [if_pos (by omega)]
      · refine eEq (eSumI (eVar (List.getElem?_set_self (by omega)))) (o0 (v := 0) (lo := lo) (hi := hi) ?_)
        rw [List.getElem?_set_ne (by decide)]
        show (env.set 5 none)[0]? = _
        rw [List.getElem?_set_ne (by decide)]; exact h0
      · exact eVar (List.getElem?_set_self (by omega)))
  have hb : evSs (E k) t.G b__law_counts [some (outD m lo hi), none, none, none, none, none, none] M = .ok (.ret (.lst ((countsU m lo hi P).map tupI))) (M ++ N) := by
    refine sAsg (x := .lst [tupI []]) (M1 := M) rfl rfl (sFor (zipI (o1 rfl) (o2 rfl)) e (sRet hfin))
  refine (callF_data (T := t.fns) (G := t.G) (k := k) (f := 22) (ds := [outD m lo hi]) f__law_counts (d := .lst ((countsU m lo hi P).map tupI)) rfl rfl rfl (pures_tups (countsU m lo hi P)) hb).trans ?_
  rw [take_app]
end
end K11

set_option exponentiation.threshold 4000
/-! K11y: odd values, bent values. -/
namespace K11
open PySem L2 PM
section
variable {α : Type} {i K K1 : Nat} {F : Fns} {G : List D} {env : EnvD}
theorem forL_drI {f : D → EnvD → Store → Res Flw} {s : Src} {Kb N : Nat} {Inv : Nat → EnvD → Prop} (hs : ∀ M, s.ok M = true) : ∀ (xs : List D) (j : Nat), j + xs.length ≤ N → (∀ j x env, j < N → x ∈ xs → Inv j env → Dr i Kb (f x env) fun r => ∃ env', r = .next env' ∧ Inv (j + 1) env') → ∀ env, Inv j env → Dr i (xs.length * Kb) (forL f s xs env) fun r => ∃ env', r = .next env' ∧ Inv (j + xs.length) env'
  | [], j, _, _, env, h0 => (Dr.of (fun M => by show (if s.ok M = true then _ else _) = _; rw [if_pos (hs M)]) ⟨env, rfl, h0⟩).mono (Nat.zero_le _)
  | x :: xs, j, hj, h, env, h0 => fun n M q => by
    rw [List.length_cons] at hj
    obtain ⟨r, M1, e1, ⟨env1, rfl, h1⟩, u1, q1⟩ := h j x env (by omega) List.mem_cons_self h0 (n + xs.length * Kb) M (q.mono (by rw [List.length_cons, Nat.succ_mul]; omega))
    obtain ⟨r2, M2, e2, ⟨env2, rfl, h2⟩, u2, q2⟩ := forL_drI hs xs (j + 1) (by omega) (fun j y env hj hy => h j y env hj (List.mem_cons_of_mem x hy)) env1 h1 n M1 q1
    exact ⟨_, M2, by show (if s.ok M = true then _ else _) = _; rw [if_pos (hs M), e1]; exact e2, ⟨env2, rfl, by rw [List.length_cons, show j + (xs.length + 1) = j + 1 + xs.length by omega]; exact h2⟩, u1.trans u2, q2⟩
/-- for t in range(e), e drawn -/
theorem bFr {t : MT} {e : ME} {b ss : List MS} {Q : Flw → Prop} (N Kb : Nat) (Inv : Nat → EnvD → Prop) (hN : N ≤ 1000) (he : Dr i K1 (evE F G e env) (IntP fun u => 0 ≤ u ∧ u ≤ N)) (h0 : Inv 0 env)
    (hb : ∀ j x env, j < N → Inv j env → ∃ env', stoT t (.int x) env = some env' ∧ Dr i Kb (evSs F G b env') fun r => ∃ env2, r = .next env2 ∧ Inv (j + 1) env2)
    (h2 : ∀ j env', j ≤ N → Inv j env' → Dr i (K - (K1 + N * Kb)) (evSs F G ss env') Q) (hk : K1 + N * Kb ≤ K := by decide) : Dr i K (evSs F G (.for_ t (.rng1 e) b :: ss) env) Q := fun n M q => by
  obtain ⟨d, M1, e1, ⟨u, rfl, u0, u1⟩, up1, q1⟩ := he (n + (K - K1)) M (q.mono (by omega))
  obtain ⟨v, rfl⟩ := Int.eq_ofNat_of_zero_le u0
  have hv : v ≤ N := by omega
  have hit : evIt F G (.rng1 e) env M = .ok ⟨rangeD 0 v, []⟩ M1 := by
    show (evE F G e env M).bind _ = _; rw [e1, ok_bind]
    have hr : decide (-(2 ^ 60) < (v : Int) ∧ (v : Int) < 2 ^ 60) = true := decide_eq_true ⟨by omega, by omega⟩
    simp only [hr, if_true, Int.toNat_natCast]
  have hlen : (rangeD 0 v).length = v := by unfold rangeD; rw [List.length_map, List.length_range]
  have hmul : v * Kb ≤ N * Kb := Nat.mul_le_mul_right _ hv
  obtain ⟨r, M2, e2, ⟨env1, rfl, p1⟩, up2, q2⟩ := forL_drI (i := i) (f := forF F G t b) (s := ⟨rangeD 0 v, []⟩) (Kb := Kb) (N := N) (Inv := Inv) (fun _ => rfl) (rangeD 0 v) 0 (by rw [hlen]; omega) (fun j x env hj hx hi => by
    obtain ⟨y, _, rfl⟩ := List.mem_map.mp hx
    obtain ⟨env', h1, h3⟩ := hb j (0 + (y : Int)) env hj hi
    exact h3.eq fun M => by unfold forF; rw [h1]) env h0 (n + (K - (K1 + N * Kb))) M1 (q1.mono (by rw [hlen]; omega))
  rw [hlen, Nat.zero_add] at p1
  obtain ⟨r2, M3, e3, p3, up3, q3⟩ := h2 v env1 hv p1 n M2 q2
  exact ⟨r2, M3, sFor hit e2 e3, p3, (up1.trans up2).trans up3, q3⟩
end
section
variable {M : Store} {k i : Nat} {env : EnvD}
def odds : List D := [.non, .bl true, .bl false, .int 0, .int 1, .int (-1), .int 7, .int (10 ^ 11), .str "", .str "a", .str "places", .tup [], .tup [.int 0], .tup [.non], .lst [], .lst [.int 0], .dic [], .dic [(.str "a", .int 1)], .tup [.tup [.int 0, .int 0]]]
/-- an odd value -/
abbrev OddP (d : D) : Prop := RpD 40 8 d
theorem odds_ok : ∀ d ∈ odds, RpD 10 3 d := fun d hd => by
  have : odds.all (rpdB 10 3) = true := by decide +kernel
  exact rpdB_ok (List.all_eq_true.mp this d hd)
theorem odds_run {F : Fns} {env : EnvD} (M : Store) : evE F t.G (.lst .frz [.c .non, .c (.bl true), .c (.bl false), .c (.int 0), .c (.int 1), .neg (.c (.int 1)), .c (.int 7), .pow (.c (.int 10)) (.c (.int 11)), .c (.str ""), .c (.str "a"), .c (.str "places"), .tup [], .tup [.c (.int 0)], .tup [.c .non], .lst .frz [], .lst .frz [.c (.int 0)], .dis0, .dis1 "a" (.c (.int 1)), .tup [.tup [.c (.int 0), .c (.int 0)]]]) env M = .ok (.lst odds) M := rfl
theorem rp0 : RpD 0 0 (.int 0) := rpd_of (rp_int (by decide) (by decide))
theorem d_odd : Dr i 4 (E (k + 3) 20 [.ref i]) OddP := by
  refine dFun f__law_odd rfl rfl rfl (fun d h => h.pu) (bA (K1 := 0) (P := fun d => d = .lst odds) (dE (fun M => odds_run M) rfl) fun d hd => ⟨_, rfl, ?_⟩)
  subst hd
  refine bA (K1 := 1) (P := RpD 10 3) ((dOf (P := RpD 10 3) t_of rfl (dVar (d := .lst odds) rfl (seqL (by decide) (by decide) (by decide +kernel) odds_ok))).imp fun d h => h.2) fun d hd => ⟨_, rfl, ?_⟩
  refine bFr (K1 := 1) 2 1 (fun j env => ∃ (x : D) (y : Option D), env = [some (.ref i), some (.lst odds), some x, y] ∧ RpD (10 + 3 * j) (3 + j) x) (by decide) (dTake (p := fun u => 0 ≤ u ∧ u ≤ ((2 : Nat) : Int)) (t_take (k := k + 1)) rfl (dC ⟨3, rfl, by decide, by decide, fun x h0 h1 => ⟨h0, by omega⟩⟩)) ⟨d, _, rfl, hd⟩ (fun j z env hj h => ?_) (fun j env' hj ⟨x, y, e, hx⟩ => ?_)
  · obtain ⟨x, y, rfl, hx⟩ := h
    refine ⟨_, rfl, ?_⟩
    have l2 := rpds_cons hx rpds_nil (n := 10 + 3 * j + 1) (m := 3 + j) (by omega) (Nat.le_refl _) (Nat.zero_le _)
    have l3 := rpds_cons hx (rpds_cons rp0 rpds_nil (n := 1) (m := 0) (by decide) (by decide) (by decide)) (n := 10 + 3 * j + 2) (m := 3 + j) (by omega) (Nat.le_refl _) (Nat.zero_le _)
    have l4 := rpds_cons rp0 l2 (n := 10 + 3 * j + 2) (m := 3 + j) (by omega) (Nat.zero_le _) (Nat.le_refl _)
    have e2 : ∀ (env : EnvD) (M : Store), env[2]? = some (some x) → evE (E (k + 2)) t.G (.lst .frz [.tup [.var 2], .lst .frz [.var 2], .dis1 "a" (.var 2), .tup [.var 2, .c (.int 0)], .tup [.c (.int 0), .var 2]]) env M = .ok (.lst [.tup [x], .lst [x], .dic [(.str "a", x)], .tup [x, .int 0], .tup [.int 0, x]]) M := fun env M h => by
      have h3 : evE (E (k + 2)) t.G (.dis1 "a" (.var 2)) env M = .ok (.dic [(.str "a", x)]) M := by
        show (evE (E (k + 2)) t.G (.var 2) env M).bind _ = _
        rw [eVar h, ok_bind, if_pos hx.pu]
      exact eLst (esCons (eTup (esCons (eVar h) esNil) s1) (esCons (eLst (esCons (eVar h) esNil) s1) (esCons h3 (esCons (eTup (esCons (eVar h) (esCons eC esNil)) s2) (esCons (eTup (esCons eC (esCons (eVar h) esNil)) s2) esNil))))) (sl (by show 5 ≤ 1000; decide))
    have hP : ∀ d ∈ [D.tup [x], .lst [x], .dic [(.str "a", x)], .tup [x, .int 0], .tup [.int 0, x]], RpD (10 + 3 * (j + 1)) (3 + (j + 1)) d := fun d hd => by
      simp only [List.mem_cons, List.not_mem_nil, or_false] at hd
      rcases hd with rfl | rfl | rfl | rfl | rfl
      · exact (rpd_tup l2).mono (by omega) (by omega)
      · exact (rpd_lst l2).mono (by omega) (by omega)
      · exact (rpd_dic1 hx).mono (by omega) (by omega)
      · exact (rpd_tup l3).mono (by omega) (by omega)
      · exact (rpd_tup l4).mono (by omega) (by omega)
    refine bA (K1 := 1) (P := RpD (10 + 3 * (j + 1)) (3 + (j + 1))) ((dOf (P := RpD (10 + 3 * (j + 1)) (3 + (j + 1))) t_of rfl (dE (fun M => e2 _ M rfl) (seqL (by simp) (by simp) (pures_of fun d h => (hP d h).pu) hP))).imp fun d h => h.2) fun d hd => ⟨_, rfl, dNext ⟨_, rfl, d, _, rfl, hd⟩⟩
  · rw [e]
    exact bR (K1 := 0) (dVar rfl (hx.mono (by omega) (by omega)))
theorem dOdd {v : Nat} (h : env[v]? = some (some (.ref i))) : Dr i (0 + 0 + 4) (evE (E (k + 3)) t.G (.call 20 [.var v]) env) OddP :=
  dCall (R := fun ds => ds = [.ref i]) (dCons (P := fun d => d = .ref i) (dVar h rfl) fun d hd => dNil (by rw [hd])) fun ds hds => by subst hds; exact d_odd
def AllOdd (n : Nat) (ds : List D) : Prop := ds.length = n ∧ ∀ x ∈ ds, OddP x
theorem aNil {F : Fns} : Dr i 0 (evEs F t.G [] env) (AllOdd 0) := dNil ⟨rfl, fun x h => by cases h⟩
theorem aCons {F : Fns} {e : ME} {es : List ME} {K1 K2 n : Nat} (he : Dr i K1 (evE F t.G e env) OddP) (hs : Dr i K2 (evEs F t.G es env) (AllOdd n)) : Dr i (K1 + K2) (evEs F t.G (e :: es) env) (AllOdd (n + 1)) :=
  dCons he fun d hd => hs.imp fun ds h => ⟨by rw [List.length_cons, h.1], fun x hx => by
    rcases List.mem_cons.mp hx with rfl | hx
    · exact hd
    · exact h.2 x hx⟩
theorem dAll {es : List ME} {K n : Nat} (hn : n + 1 ≤ 100) (h : Dr i K (evEs (E (k + 3)) t.G es env) (AllOdd (n + 1))) : Dr i K (evE (E (k + 3)) t.G (.lst .frz es) env) (SeqP OddP) :=
  dLst h fun ds hd => ⟨sl (by rw [hd.1]; omega), seqL (by rw [hd.1]; omega) (by rw [hd.1]; omega) (pures_of fun d h => (hd.2 d h).pu) hd.2⟩
theorem aOf {es : List ME} {K n v : Nat} (hv : env[v]? = some (some (.ref i))) (hn : n + 1 ≤ 100) (h : Dr i K (evEs (E (k + 3)) t.G es env) (AllOdd (n + 1))) : Dr i (0 + (K + 0) + 1) (evE (E (k + 3)) t.G (.call 18 [.var v, .lst .frz es]) env) OddP :=
  (dOf (P := OddP) (t_of (k := k + 1)) hv (dAll hn h)).imp fun d h => h.2
theorem aE {F : Fns} {e : ME} {d : D} (h : ∀ M, evE F t.G e env M = .ok d M) (hd : OddP d) : Dr i 0 (evE F t.G e env) OddP := dE h hd
theorem odd_int {z : Int} (h1 : -999999999999 ≤ z) (h2 : z ≤ 999999999999) : OddP (.int z) := (rpd_of (rp_int h1 h2)).mono (by decide) (by decide)
theorem odd_bl {b : Bool} : OddP (.bl b) := (rpd_of (rp_bl b)).mono (by decide) (by decide)
theorem odd_non : OddP .non := (rpd_of rp_non).mono (by decide) (by decide)
theorem log_small {z : Int} (h : -(2 ^ 30) < z ∧ z < 2 ^ 30) : z.natAbs.log2 < 1920 := by
  by_cases h0 : z.natAbs = 0
  · rw [h0]; decide
  · exact Nat.lt_trans ((Nat.log2_lt h0).mpr (show z.natAbs < 2 ^ 30 by omega)) (by decide)
theorem str_run {F : Fns} {z : Int} (hz : -(2 ^ 30) < z ∧ z < 2 ^ 30) {e : ME} (he : evE F t.G e env M = .ok (.int z) M) : evE F t.G (.bi .str [e]) env M = .ok (.str (toString z)) M := by
  refine (eBi1 he).trans ?_
  show (if decide (z.natAbs.log2 < 1920) = true then Res.ok (D.str (toString z)) M else .no) = _
  rw [if_pos (by exact decide_eq_true (log_small hz))]
/-- an integer bent -/
theorem d_bentI {z : Int} (hz : -(2 ^ 30) < z ∧ z < 2 ^ 30) : Dr i 1 (E (k + 4) 21 [.ref i, .int z]) OddP := by
  have e1 : ∀ {env : EnvD} (M : Store), env[1]? = some (some (.int z)) → evE (E (k + 3)) t.G (.bi (.isa .tup) [.var 1]) env M = .ok (.bl false) M := fun M h => (eBi1 (eVar h)).trans rfl
  refine dFun f__law_bent rfl rfl rfl (fun d h => h.pu) (bB (K1 := 0) (T := fun c => c = false) (dE (d := .bl false) (fun M => eAndF (e1 M rfl)) ⟨false, rfl, rfl⟩) (fun h => by cases h) fun _ => bB (K1 := 0) (T := fun c => c = false) (dE (d := .bl false) (fun M => e1 M rfl) ⟨false, rfl, rfl⟩) (fun h => by cases h) fun _ => bI (K1 := 0) (T := fun c => c = false) (dE (d := .bl false) (fun M => rfl) ⟨false, rfl, rfl⟩) (fun h => by cases h) fun _ => ?_)
  refine bR (K1 := 1) (Dr.mono (aOf rfl (by decide) (aCons (aE (fun M => eAdd (eVar rfl) eC) (odd_int (by omega) (by omega))) (aCons (aE (fun M => eSub (eVar rfl) eC) (odd_int (by omega) (by omega))) (aCons (aE (fun M => eAdd (eVar rfl) eC) (odd_int (by omega) (by omega))) (aCons (aE (d := .int (-z)) (fun M => rfl) (odd_int (by omega) (by omega))) (aCons (aE (d := .str (toString z)) (fun M => str_run hz (eVar rfl)) ((rpd_strI (by omega) (by omega)).mono (by decide) (by decide))) (aCons (aE (d := .tup [.int z]) (fun M => eTup (esCons (eVar rfl) esNil) s1) ((rpd_tup (rpds_cons (n := 1) (m := 0) (rpd_of (rp_int (by omega) (by omega))) rpds_nil (by decide) (by decide) (by decide))).mono (by decide) (by decide))) (aCons (aE (fun M => eEq (eVar rfl) eC) odd_bl) (aCons (aE (fun M => eC) odd_non) (aCons (aE (fun M => eC) (odd_int (by decide) (by decide))) (aCons (aE (fun M => eC) (odd_int (by decide) (by decide))) aNil))))))))))) (by decide))
/-- parts of a count -/
theorem rps_part {l : List Int} (h : ∀ z ∈ l, 0 ≤ z ∧ z ≤ 100) : RpDs l.length 0 (l.map D.int) := rpd_ints (rps_ints fun i hi => by have := h i hi; omega)
theorem d_bentT {cs : List Int} (hl : 1 ≤ cs.length ∧ cs.length ≤ 4) (hc : ∀ z ∈ cs, 0 ≤ z ∧ z ≤ 100) : Dr i 8 (E (k + 5) 21 [.ref i, tupI cs]) (RpD 100 10) := by
  have e1 : ∀ {env : EnvD} (M : Store), env[1]? = some (some (tupI cs)) → evE (E (k + 4)) t.G (.bi (.isa .tup) [.var 1]) env M = .ok (.bl true) M := fun M h => (eBi1 (eVar h)).trans rfl
  have e2 : ∀ {env : EnvD} (M : Store), env[1]? = some (some (tupI cs)) → evE (E (k + 4)) t.G (.cmp .ne (.var 1) (.tup [])) env M = .ok (.bl true) M := fun M h => by
    refine eCmp (eVar h) (eTup esNil (Nat.zero_le _)) ?_
    show (eqD (tupI cs) (tupI [])).map (!·) = _
    rw [eq_tups cs []]
    have hne : cs ≠ [] := by rintro rfl; simp at hl
    rw [decide_eq_false hne]; rfl
  have take_ : ∀ j, RpDs 4 0 ((cs.take j).map D.int) := fun j => by
    have := rps_part (l := cs.take j) fun z hz => hc z (List.mem_of_mem_take hz)
    exact ⟨this.pu, this.sh, this.le, Nat.le_trans this.bu (by rw [List.length_take]; omega), this.de⟩
  have drop_ : ∀ j, RpDs 4 0 ((cs.drop j).map D.int) := fun j => by
    have := rps_part (l := cs.drop j) fun z hz => hc z (List.mem_of_mem_drop hz)
    exact ⟨this.pu, this.sh, this.le, Nat.le_trans this.bu (by rw [List.length_drop]; omega), this.de⟩
  have all_ : RpDs 4 0 (cs.map D.int) := by have := drop_ 0; rwa [List.drop_zero] at this
  have one_ : ∀ j, RpDs 4 0 (((cs.drop j).take 1).map D.int) := fun j => by
    have := rps_part (l := (cs.drop j).take 1) fun z hz => hc z (List.mem_of_mem_drop (List.mem_of_mem_take hz))
    exact ⟨this.pu, this.sh, this.le, Nat.le_trans this.bu (by rw [List.length_take]; omega), this.de⟩
  have rev_ : RpDs 4 0 (cs.reverse.map D.int) := by
    have := rps_part (l := cs.reverse) fun z hz => hc z (List.mem_reverse.mp hz)
    exact ⟨this.pu, this.sh, this.le, Nat.le_trans this.bu (by rw [List.length_reverse]; omega), this.de⟩
  have sT : ∀ {env : EnvD} (M : Store) (j : Nat), env[1]? = some (some (tupI cs)) → env[2]? = some (some (.int j)) → evE (E (k + 4)) t.G (.sl (.var 1) none (some (.var 2))) env M = .ok (tupI (cs.take j)) M := fun M j h1 h2 => by
    show (evE (E (k + 4)) t.G (.var 1) _ M).bind _ = _
    rw [eVar h1, ok_bind]
    show (((evE (E (k + 4)) t.G (.var 2) _ M).bind _).bind _) = _
    rw [eVar h2, ok_bind]
    show Res.ok (D.tup (cutD (cs.map D.int) none (some (j : Int)))) M = _
    rw [PM.cut_take]; unfold tupI; rw [List.map_take]
  have sD : ∀ {env : EnvD} (M : Store) (j : Nat), env[1]? = some (some (tupI cs)) → env[2]? = some (some (.int j)) → evE (E (k + 4)) t.G (.sl (.var 1) (some (.add (.var 2) (.c (.int 1)))) none) env M = .ok (tupI (cs.drop (j + 1))) M := fun M j h1 h2 => by
    show (evE (E (k + 4)) t.G (.var 1) _ M).bind _ = _
    rw [eVar h1, ok_bind]
    have h3 : evE (E (k + 4)) t.G (.add (.var 2) (.c (.int 1))) _ M = .ok (.int ((j + 1 : Nat) : Int)) M := eAdd (eVar h2) eC
    show (((evE (E (k + 4)) t.G (.add (.var 2) (.c (.int 1))) _ M).bind _).bind _) = _
    rw [h3, ok_bind]
    show Res.ok (D.tup (cutD (cs.map D.int) (some ((j + 1 : Nat) : Int)) none)) M = _
    rw [PM.cut_drop]; unfold tupI; rw [List.map_drop]
  have sD0 : ∀ {env : EnvD} (M : Store) (j : Nat), env[1]? = some (some (tupI cs)) → env[2]? = some (some (.int j)) → evE (E (k + 4)) t.G (.sl (.var 1) (some (.var 2)) none) env M = .ok (tupI (cs.drop j)) M := fun M j h1 h2 => by
    show (evE (E (k + 4)) t.G (.var 1) _ M).bind _ = _
    rw [eVar h1, ok_bind]
    show (((evE (E (k + 4)) t.G (.var 2) _ M).bind _).bind _) = _
    rw [eVar h2, ok_bind]
    show Res.ok (D.tup (cutD (cs.map D.int) (some (j : Int)) none)) M = _
    rw [PM.cut_drop]; unfold tupI; rw [List.map_drop]
  have s11 : ∀ {env : EnvD} (M : Store) (j : Nat), j ≤ cs.length → env[1]? = some (some (tupI cs)) → env[2]? = some (some (.int j)) → evE (E (k + 4)) t.G (.sl (.var 1) (some (.var 2)) (some (.add (.var 2) (.c (.int 1))))) env M = .ok (tupI ((cs.drop j).take 1)) M := fun M j hj h1 h2 => by
    show (evE (E (k + 4)) t.G (.var 1) _ M).bind _ = _
    rw [eVar h1, ok_bind]
    show (((evE (E (k + 4)) t.G (.var 2) _ M).bind _).bind _) = _
    rw [eVar h2, ok_bind]
    have h3 : evE (E (k + 4)) t.G (.add (.var 2) (.c (.int 1))) _ M = .ok (.int ((j + 1 : Nat) : Int)) M := eAdd (eVar h2) eC
    show (((evE (E (k + 4)) t.G (.add (.var 2) (.c (.int 1))) _ M).bind _).bind _) = _
    rw [h3, ok_bind]
    show Res.ok (D.tup (cutD (cs.map D.int) (some (j : Int)) (some ((j + 1 : Nat) : Int)))) M = _
    have hcut : cutD (cs.map D.int) (some (j : Int)) (some ((j + 1 : Nat) : Int)) = ((cs.map D.int).drop j).take 1 := by
      unfold cutD
      rw [HT.sIx_nat, HT.sIx_nat, List.length_map, Nat.min_eq_left hj]
      by_cases h : j + 1 ≤ cs.length
      · rw [Nat.min_eq_left h, Nat.add_sub_cancel_left]
      · have hjl : j = cs.length := by omega
        rw [List.drop_of_length_le (by rw [List.length_map]; omega)]; simp
    rw [hcut]; unfold tupI; rw [List.map_take, List.map_drop]
  have app : ∀ {env : EnvD} {a b : ME} {x y : List Int} {M : Store}, evE (E (k + 4)) t.G a env M = .ok (tupI x) M → evE (E (k + 4)) t.G b env M = .ok (tupI y) M → x.length + y.length ≤ 1000 → evE (E (k + 4)) t.G (.add a b) env M = .ok (.tup (x.map D.int ++ y.map D.int)) M := fun {env a b x y M} ha hb hl => eAddT ha hb (sl (by rw [List.length_map, List.length_map]; exact hl))
  refine dFun f__law_bent rfl rfl rfl (fun d h => h.pu) (bB (K1 := 0 + (0 + (0 + 0) + 1 + 0)) (T := fun c => True) ?_ (fun _ => ?_) fun _ => bB (K1 := 0) (T := fun c => c = true) (dE (d := .bl true) (fun M => e1 M rfl) ⟨true, rfl, rfl⟩) (fun _ => ?_) fun h => by cases h)
  · have h3 : Dr i (0 + (0 + 0) + 1 + 0) (evE (E (k + 4)) t.G (.cmp .gt (.call 17 [.var 0, .c (.int 5)]) (.c (.int 0))) [some (.ref i), some (tupI cs), none, none]) fun d => ∃ c, d = .bl c ∧ True :=
      dCmpI (p := fun _ => True) (q := fun _ => True) (dTake (t_take (k := k + 3)) rfl (dC ⟨5, rfl, by decide, by decide, fun _ _ _ => trivial⟩)) (dC ⟨0, rfl, trivial⟩) fun x y _ _ => ⟨decide (y < x), fun M => cmp_gt, trivial⟩
    exact h3.eq fun M => (eAndT (e1 M rfl)).trans ((eAndT (e2 M rfl)).trans eAnd1)
  · refine bA (K1 := 1) (P := IntP fun x => 0 ≤ x ∧ x < cs.length) (dTake (t_take (k := k + 3)) rfl (dE (d := .int cs.length) (fun M => (eLenI (eVar rfl))) ⟨_, rfl, by omega, by omega, fun x h0 h1 => ⟨h0, h1⟩⟩)) fun d hd => ⟨_, rfl, ?_⟩
    obtain ⟨x, rfl, h0, h3⟩ := hd
    obtain ⟨j, rfl⟩ := Int.eq_ofNat_of_zero_le h0
    have hj : j < cs.length := by omega
    have hz := hc _ (getD_mem (vs := cs) (p := j) hj)
    refine bR (K1 := 1) (dAddT (K1 := 1) (K2 := 0) (p := fun x => RpDs 45 8 x ∧ x.length ≤ 5) (q := fun x => RpDs 4 0 x ∧ x.length ≤ 4) (dAddT (K1 := 0) (K2 := 1) (p := fun x => RpDs 4 0 x ∧ x.length ≤ 4) (q := fun x => RpDs 41 8 x ∧ x.length ≤ 1) (dE (fun M => sT M j rfl rfl) ⟨_, rfl, take_ j, by rw [List.length_map, List.length_take]; omega⟩) (dTup (R := AllOdd 1) (Dr.mono (aCons (dCall (R := fun ds => ds = [.ref i, .int (cs.getD j 0)]) (dCons (P := fun d => d = .ref i) (dVar rfl rfl) fun d1 h1 => dCons (P := fun d => d = .int (cs.getD j 0)) (dE (fun M => eIxI (eVar rfl) (eVar rfl) hj) rfl) fun d2 h2 => dNil (by rw [h1, h2])) fun ds hds => by
        subst hds
        exact d_bentI (k := k) (by omega)) aNil) (by decide)) fun ds hds => ?_) fun x y hx hy => ?_) (dE (fun M => sD M j rfl rfl) ⟨_, rfl, drop_ _, by rw [List.length_map, List.length_drop]; omega⟩) fun x y hx hy => ?_)
    · refine ⟨sl (by rw [hds.1]; decide), ds, rfl, ?_, by rw [hds.1]; exact Nat.le_refl _⟩
      have := rpds_all (n := 40) (k := 8) hds.2
      rw [hds.1] at this
      exact this
    · refine ⟨sl (by omega), _, rfl, rpds_app (a := 4) (b := 41) ⟨hx.1.pu, hx.1.sh, hx.1.le, hx.1.bu, Nat.le_trans hx.1.de (by decide)⟩ hy.1 (by decide), by rw [List.length_append]; omega⟩
    · exact ⟨sl (by omega), (rpd_tup (rpds_app (a := 45) (b := 4) (n := 100) (k := 9) ⟨hx.1.pu, hx.1.sh, hx.1.le, hx.1.bu, Nat.le_trans hx.1.de (by decide)⟩ ⟨hy.1.pu, hy.1.sh, hy.1.le, hy.1.bu, Nat.le_trans hy.1.de (by decide)⟩ (by decide)))⟩
  · refine bA (K1 := 1) (P := IntP fun x => 0 ≤ x ∧ x < cs.length + 1) (dTake (t_take (k := k + 3)) rfl (dE (d := .int (cs.length + 1)) (fun M => eAdd (eLenI (eVar rfl)) eC) ⟨_, rfl, by omega, by omega, fun x h0 h1 => ⟨h0, h1⟩⟩)) fun d hd => ⟨_, rfl, ?_⟩
    obtain ⟨x, rfl, h0, h3⟩ := hd
    obtain ⟨j, rfl⟩ := Int.eq_ofNat_of_zero_le h0
    have hj : j ≤ cs.length := by omega
    have up : ∀ {n m : Nat} {d : D}, RpD n m d → n ≤ 100 → m ≤ 10 → RpD 100 10 d := fun h a b => h.mono a b
    have cat : ∀ {x y : List Int}, RpDs 4 0 (x.map D.int) → RpDs 4 0 (y.map D.int) → RpD 100 10 (.tup (x.map D.int ++ y.map D.int)) := fun h1 h2 => up (rpd_tup (rpds_app (n := 8) h1 h2 (by decide))) (by decide) (by decide)
    have lt : (cs.take j).length ≤ 4 := by rw [List.length_take]; omega
    have ld : (cs.drop j).length ≤ 4 := by rw [List.length_drop]; omega
    have ld1 : (cs.drop (j + 1)).length ≤ 4 := by rw [List.length_drop]; omega
    have lo : ((cs.drop j).take 1).length ≤ 4 := by rw [List.length_take]; omega
    have h5 : Dr i 4 (evE (E (k + 4)) t.G (.add (.add (.sl (.var 1) none (some (.var 2))) (.tup [.call 20 [.var 0]])) (.sl (.var 1) (some (.var 2)) none)) [some (.ref i), some (tupI cs), some (.int j), none]) (RpD 100 10) := by
      refine Dr.mono (dAddT (K1 := 4) (K2 := 0) (p := fun x => RpDs 45 8 x ∧ x.length ≤ 5) (q := fun x => RpDs 4 0 x ∧ x.length ≤ 4) (dAddT (K1 := 0) (K2 := 4) (p := fun x => RpDs 4 0 x ∧ x.length ≤ 4) (q := fun x => RpDs 41 8 x ∧ x.length ≤ 1) (dE (fun M => sT M j rfl rfl) ⟨_, rfl, take_ j, by rw [List.length_map]; exact lt⟩) (dTup (R := AllOdd 1) (Dr.mono (aCons (dOdd (k := k + 1) rfl) aNil) (by decide)) fun ds hds => ?_) fun x y hx hy => ?_) (dE (fun M => sD0 M j rfl rfl) ⟨_, rfl, drop_ _, by rw [List.length_map]; exact ld⟩) fun x y hx hy => ?_) (by decide)
      · refine ⟨sl (by rw [hds.1]; decide), ds, rfl, ?_, by rw [hds.1]; exact Nat.le_refl _⟩
        have := rpds_all (n := 40) (k := 8) hds.2
        rw [hds.1] at this
        exact this
      · refine ⟨sl (by omega), _, rfl, rpds_app (a := 4) (b := 41) ⟨hx.1.pu, hx.1.sh, hx.1.le, hx.1.bu, Nat.le_trans hx.1.de (by decide)⟩ hy.1 (by decide), by rw [List.length_append]; omega⟩
      · exact ⟨sl (by omega), (rpd_tup (rpds_app (a := 45) (b := 4) (n := 100) (k := 9) ⟨hx.1.pu, hx.1.sh, hx.1.le, hx.1.bu, Nat.le_trans hx.1.de (by decide)⟩ ⟨hy.1.pu, hy.1.sh, hy.1.le, hy.1.bu, Nat.le_trans hy.1.de (by decide)⟩ (by decide)))⟩
    have hrev : evE (E (k + 4)) t.G (.rev (.var 1)) [some (.ref i), some (tupI cs), some (.int j), none] = fun M => .ok (tupI cs.reverse) M := by
      funext M
      show Res.ok (D.tup (cs.map D.int).reverse) M = _
      rw [← List.map_reverse]; rfl
    have bulk_ : ∀ {F : Fns} {e : ME} {d : D} {env : EnvD}, (∀ M, evE F t.G e env M = .ok d M) → RpD 100 10 d → Dr i 0 (evE F t.G e env) (RpD 100 10) := fun h hd => dE h hd
    refine bA (K1 := 4) (P := SeqP (RpD 100 10)) ?_ fun d hd => ⟨_, rfl, ?_⟩
    · refine dLst (R := fun ds => ds.length = 5 ∧ ∀ x ∈ ds, RpD 100 10 x) (Dr.mono (dCons (bulk_ (d := .lst (cs.map D.int)) (fun M => (eBi1 (eVar rfl)).trans rfl) (up (rpd_lst all_) (by decide) (by decide))) fun d1 h1 => dCons (bulk_ (fun M => app (sT M j rfl rfl) (sD M j rfl rfl) (by omega)) (cat (take_ j) (drop_ _))) fun d2 h2 => dCons (bulk_ (fun M => app (eVar rfl) (s11 M j hj rfl rfl) (by omega)) (cat all_ (one_ j))) fun d3 h3 => dCons (bulk_ (fun M => congrFun hrev M) (up (rpd_tup rev_) (by decide) (by decide))) fun d4 h4 => dCons h5 fun d5 h5 => dNil ⟨rfl, fun x hx => by
        simp only [List.mem_cons, List.not_mem_nil, or_false] at hx
        rcases hx with rfl | rfl | rfl | rfl | rfl <;> assumption⟩) (by decide)) fun ds hd => ⟨sl (by rw [hd.1]; decide), seqL (by rw [hd.1]; decide) (by rw [hd.1]; decide) (pures_of fun d h => (hd.2 d h).pu) hd.2⟩
    · exact bR (K1 := 1) ((dOf (P := RpD 100 10) (t_of (k := k + 2)) rfl (dVar rfl hd)).imp fun d h => h.2)
end
end K11

/-! K11z: are_counts of any value, the least and greatest shares, all shares of one party. -/
namespace K11
open PySem L2 PM
section
variable {M : Store} {k : Nat} {F : Fns} {env : EnvD} {vs lo hi : List Int} {m : Int} {P : Nat}
def btwD (lo hi : Int) : D → Bool
  | .int i => btw lo hi i
  | _ => false
theorem c_btwD {d : D} (hd : d.pure = true) (lo hi : Int) : E (k + 2) 1 [d, .int lo, .int hi] M = .ok (.bl (btwD lo hi d)) M := by
  by_cases h : ∃ i, d = .int i
  · obtain ⟨i, rfl⟩ := h
    exact c_btw i lo hi
  · have hi' : isIntB d = false := by cases d <;> first | rfl | exact absurd ⟨_, rfl⟩ h
    have hb : btwD lo hi d = false := by cases d <;> first | rfl | exact absurd ⟨_, rfl⟩ h
    rw [hb]
    refine fin_self f_is_between rfl rfl rfl rfl (sRet (eAndF ?_))
    have := c_isint (k := k) (M := M) (pure_plain hd)
    rw [hi'] at this
    exact (eCall (esCons (eVar (d := d) rfl) esNil)).trans this
theorem int_inj : ∀ {a b : List Int}, a.map D.int = b.map D.int → a = b
  | [], [], _ => rfl
  | [], _ :: _, h => by simp at h
  | _ :: _, [], h => by simp at h
  | x :: a, y :: b, h => by
    rw [List.map_cons, List.map_cons] at h
    injection h with h1 h2
    injection h1 with h1
    rw [h1, int_inj h2]
theorem pures_mem' {l : List D} (h : D.pures l = true) {d : D} (hd : d ∈ l) : d.pure = true := pures_mem h hd
theorem c_countD (ho : OOk m lo hi P) {d : D} (hd : d.pure = true) (hl : ∀ l, d = .tup l → l.length ≤ 1000) : ∃ b : Bool, E (k + 3) 8 [outD m lo hi, d] M = .ok (.bl b) M ∧ (b = true ↔ ∃ cs, d = tupI cs ∧ COk m lo hi P cs) := by
  have hp := ho.p12
  have hll := ho.ll
  have hlh := ho.lh
  by_cases ht : ∃ l, d = .tup l
  · obtain ⟨l, rfl⟩ := ht
    have hll2 := hl l rfl
    have htup : ∀ {M : Store}, evE (E (k + 2)) t.G (.bi (.isa .tup) [.var 1]) [some (outD m lo hi), some (.tup l), none, none, none] M = .ok (.bl true) M := fun {M} => (eBi1 (eVar rfl)).trans rfl
    have hlen : ∀ {M : Store}, evE (E (k + 2)) t.G (.bi .len [.var 1]) [some (outD m lo hi), some (.tup l), none, none, none] M = .ok (.int l.length) M := fun {M} => (eBi1 (eVar rfl)).trans rfl
    by_cases hP : l.length = P
    · have hz := it_zip3 (F := E (k + 2)) (M := M) (es := [.var 1, .ix (.var 0) (.c (.int 1)), .ix (.var 0) (.c (.int 2))]) (env := [some (outD m lo hi), some (.tup l), none, none, none]) (a := l) (b := lo.map D.int) (c := hi.map D.int) (esCons (eVar rfl) (esCons (o1 rfl) (esCons (o2 rfl) esNil)))
      have ezip : l.zip ((lo.map D.int).zip (hi.map D.int)) = (l.zip (lo.zip hi)).map fun p => (p.1, (D.int p.2.1, D.int p.2.2)) := by
        rw [List.zip_map, List.zip_map_right]; rfl
      rw [ezip, List.map_map] at hz
      have hall : evE (E (k + 2)) t.G (.bi .all [.comp .frz (.call 1 [.var 2, .var 3, .var 4]) (.tp [.nm 2, .nm 3, .nm 4]) (.zip [.var 1, .ix (.var 0) (.c (.int 1)), .ix (.var 0) (.c (.int 2))]) [] [2, 3, 4]]) [some (outD m lo hi), some (.tup l), none, none, none] M = .ok (.bl ((l.zip (lo.zip hi)).all fun p => btwD p.2.1 p.2.2 p.1)) M := by
        refine (eBi1 (eMap (l.zip (lo.zip hi)) _ (fun p => D.bl (btwD p.2.1 p.2.2 p.1)) hz rfl (sl (by rw [List.length_zip]; omega)) fun p hp => ⟨_, rfl, (eCall (esCons (eVar rfl) (esCons (eVar rfl) (esCons (eVar rfl) esNil)))).trans (c_btwD (k := k) (pures_mem hd (List.of_mem_zip hp).1) _ _)⟩)).trans ?_
        rw [bi_all]
      by_cases ha : ((l.zip (lo.zip hi)).all fun p => btwD p.2.1 p.2.2 p.1) = true
      · rw [ha] at hall
        have hint : l.all isIntB = true := List.all_eq_true.mpr fun d hd => by
          obtain ⟨j, hj, rfl⟩ := List.mem_iff_getElem.mp hd
          have hm : (l[j], (lo[j]'(by omega), hi[j]'(by omega))) ∈ l.zip (lo.zip hi) := by
            refine List.mem_iff_getElem.mpr ⟨j, by rw [List.length_zip, List.length_zip]; omega, ?_⟩
            rw [List.getElem_zip, List.getElem_zip]
          have := List.all_eq_true.mp ha _ hm
          generalize l[j] = x at this
          cases x <;> first | rfl | cases this
        obtain ⟨cs, rfl⟩ := all_int hint
        have hcl : cs.length = P := by rw [← hP, List.length_map]
        have hat : ∀ j < P, lo.getD j 0 ≤ cs.getD j 0 ∧ cs.getD j 0 ≤ hi.getD j 0 := fun j hj => by
          have hm : ((cs.map D.int)[j]'(by rw [List.length_map]; omega), (lo[j]'(by omega), hi[j]'(by omega))) ∈ (cs.map D.int).zip (lo.zip hi) := by
            refine List.mem_iff_getElem.mpr ⟨j, by rw [List.length_zip, List.length_zip, List.length_map]; omega, ?_⟩
            rw [List.getElem_zip, List.getElem_zip]
          have h3 := List.all_eq_true.mp ha _ hm
          rw [List.getElem_map] at h3
          have h4 : btw (lo[j]'(by omega)) (hi[j]'(by omega)) (cs[j]'(by omega)) = true := h3
          have h5 := btw_of h4
          have e1 : lo.getD j 0 = lo[j]'(by omega) := by simp [List.getD, show j < lo.length by omega]
          have e2 : hi.getD j 0 = hi[j]'(by omega) := by simp [List.getD, show j < hi.length by omega]
          have e3 : cs.getD j 0 = cs[j]'(by omega) := by simp [List.getD, show j < cs.length by omega]
          rw [e1, e2, e3]; exact h5
        refine ⟨decide (cs.sum = m), fin_self f_is_count rfl rfl rfl rfl ?_, ?_⟩
        · show evSs (E (k + 2)) t.G b_is_count [some (outD m lo hi), some (tupI cs), none, none, none] M = _
          exact pNo (pOr2 (pNot htup) (fun _ => eCmp hlen (eLenI (o1 rfl)) neD_int)) (by rw [hP, hll, decide_eq_true rfl]; rfl) (sNo (M1 := M) (eNot (b := true) hall) (sRet (eCmp (eSumI (eVar rfl)) (o0 rfl) eqD_int)))
        · rw [decide_eq_true_eq]
          constructor
          · intro h; exact ⟨cs, rfl, hcl, hat, h⟩
          · rintro ⟨cs', e, h⟩
            have : cs = cs' := by
              have e2 : cs.map D.int = cs'.map D.int := by injection e
              exact int_inj e2
            rw [this]; exact h.sum
      · have ha' : ((l.zip (lo.zip hi)).all fun p => btwD p.2.1 p.2.2 p.1) = false := by simpa using ha
        rw [ha'] at hall
        refine ⟨false, fin_self f_is_count rfl rfl rfl rfl ?_, ⟨(fun h => by cases h), ?_⟩⟩
        · show evSs (E (k + 2)) t.G b_is_count [some (outD m lo hi), some (.tup l), none, none, none] M = _
          exact pNo (pOr2 (pNot htup) (fun _ => eCmp hlen (eLenI (o1 rfl)) neD_int)) (by rw [hP, hll, decide_eq_true rfl]; rfl) (sIfR (M1 := M) (eNot (b := false) hall) rfl (sRet rfl))
        · rintro ⟨cs, e, h⟩
          injection e with e
          subst e
          exfalso
          refine ha (List.all_eq_true.mpr fun p hp => ?_)
          obtain ⟨j, hj, rfl⟩ := List.mem_iff_getElem.mp hp
          rw [List.length_zip, List.length_zip, List.length_map] at hj
          rw [List.getElem_zip, List.getElem_zip, List.getElem_map]
          have h4 := h.at_ j (by omega)
          have e1 : lo.getD j 0 = lo[j]'(by omega) := by simp [List.getD, show j < lo.length by omega]
          have e2 : hi.getD j 0 = hi[j]'(by omega) := by simp [List.getD, show j < hi.length by omega]
          have e3 : cs.getD j 0 = cs[j]'(by omega) := by simp [List.getD, show j < cs.length by omega]
          rw [e1, e2, e3] at h4
          show btw _ _ _ = true
          unfold btw; rw [decide_eq_true h4.1, decide_eq_true h4.2]; rfl
    · refine ⟨false, fin_self f_is_count rfl rfl rfl rfl ?_, ⟨(fun h => by cases h), ?_⟩⟩
      · show evSs (E (k + 2)) t.G b_is_count [some (outD m lo hi), some (.tup l), none, none, none] M = _
        refine pYes (pOr2 (pNot htup) (fun _ => eCmp hlen (eLenI (o1 rfl)) neD_int)) ?_ (sRet rfl)
        rw [hll, decide_eq_false (by omega)]; rfl
      · rintro ⟨cs, e, h⟩
        injection e with e
        subst e
        rw [List.length_map] at hP
        exact absurd h.len hP
  · refine ⟨false, fin_self f_is_count rfl rfl rfl rfl ?_, ⟨(fun h => by cases h), ?_⟩⟩
    · show evSs (E (k + 2)) t.G b_is_count [some (outD m lo hi), some d, none, none, none] M = _
      have hne : evE (E (k + 2)) t.G (.bi (.isa .tup) [.var 1]) [some (outD m lo hi), some d, none, none, none] M = .ok (.bl false) M := by
        refine (eBi1 (eVar (d := d) rfl)).trans ?_
        show optR ((isa d .tup M).map D.bl) M = _
        cases d <;> first | rfl | exact absurd ⟨_, rfl⟩ ht | (cases hd)
      exact pYes (x := true) (pOr2 (y := false) (pNot hne) (fun h => by cases h)) rfl (sRet rfl)
    · rintro ⟨cs, e, _⟩
      exact absurd ⟨_, e⟩ ht
theorem inDnon {x : Int} : cmpD .notIn .non (.tup [.non, .int x]) M = some false := by
  show ((if flat .non && [D.non, D.int x].all flat then some ([D.non, D.int x].any fun d => PyData.eqv d.py D.non.py) else none).map (!·)) = _
  rw [if_pos (by rfl)]
  have : ([D.non, D.int x].any fun d => PyData.eqv d.py D.non.py) = true := by simp [D.py, PyData.eqv]
  rw [this]; rfl
theorem c_check_outN (h : OOk m lo hi P) : E (k + 5) 7 [outD m lo hi, .non] M = .ok .non M := by
  refine non_self f_check_out (env := [some (outD m lo hi), some .non]) rfl rfl rfl (pNo (pOr2 (pNot ((eCall (esCons (eVar rfl) esNil)).trans (c_out h))) (fun _ => eCmp (eVar (d := .non) rfl) (eTup (esCons eC (esCons (x := .int P) ?_ esNil)) s2) inDnon)) rfl sNil)
  have := eLenI (F := E (k + 4)) (M := M) (env := [some (outD m lo hi), some .non]) (o1 (v := 0) (m := m) (lo := lo) (hi := hi) rfl)
  rw [h.ll] at this; exact this
theorem c_are_counts (ho : OOk m lo hi P) {d : D} (hd : d.pure = true) (hl : ∀ l, d = .tup l → l.length ≤ 1000) : ∃ b : Bool, E (k + 6) 9 [outD m lo hi, d] M = .ok (.bl b) M ∧ (b = true ↔ ∃ cs, d = tupI cs ∧ COk m lo hi P cs) := by
  obtain ⟨b, e, hb⟩ := c_countD (k := k + 2) (M := M) ho hd hl
  refine ⟨b, fin_self f_are_counts rfl rfl rfl rfl (sEx (x := .non) (M1 := M) ((eCall (esCons (eVar rfl) (esCons eC esNil))).trans (c_check_outN (k := k) ho)) (sRet ((eCall (esCons (eVar rfl) (esCons (eVar rfl) esNil))).trans e))), hb⟩
/-! ### shares -/
def leastS (m : Int) (lo hi : List Int) (p : Nat) : Int := maxI (lo.getD p 0) (m - (hi.sum - hi.getD p 0))
def greatS (m : Int) (lo hi : List Int) (p : Nat) : Int := minI (hi.getD p 0) (m - (lo.sum - lo.getD p 0))
theorem c_least_share (ho : OOk m lo hi P) {p : Nat} (hp : p < P) : E (k + 6) 14 [outD m lo hi, .int p] M = .ok (.int (leastS m lo hi p)) M := by
  have hll := ho.ll
  have hlh := ho.lh
  have h1 : E (k + 5) 12 [outD m lo hi, .int p] M = .ok (.int (leastS m lo hi p)) M := by
    refine fin_self f_least_of rfl rfl rfl rfl ?_
    refine sAsg (x := .int (hi.sum - hi.getD p 0)) (M1 := M) (eSub (eSumI (o2 rfl)) (eIxI (o2 rfl) (eVar rfl) (by omega))) rfl (sRet ?_)
    exact eMax (eIxI (o1 rfl) (eVar rfl) (by omega)) (eSub (o0 rfl) (eVar rfl))
  exact fin_self f_least_share rfl rfl rfl rfl (sEx (x := .non) (M1 := M) ((eCall (esCons (eVar rfl) (esCons eC esNil))).trans (c_check_outN (k := k) ho)) (sEx (x := .non) (M1 := M) ((eCall (esCons (o1 rfl) (esCons (eVar rfl) esNil))).trans (c_check_party (k := k + 2) (by omega))) (sRet ((eCall (esCons (eVar rfl) (esCons (eVar rfl) esNil))).trans h1))))
theorem c_great_share (ho : OOk m lo hi P) {p : Nat} (hp : p < P) : E (k + 6) 15 [outD m lo hi, .int p] M = .ok (.int (greatS m lo hi p)) M := by
  have hll := ho.ll
  have hlh := ho.lh
  have h1 : E (k + 5) 13 [outD m lo hi, .int p] M = .ok (.int (greatS m lo hi p)) M := by
    refine fin_self f_greatest_of rfl rfl rfl rfl ?_
    refine sAsg (x := .int (lo.sum - lo.getD p 0)) (M1 := M) (eSub (eSumI (o1 rfl)) (eIxI (o1 rfl) (eVar rfl) (by omega))) rfl (sRet ?_)
    exact eMin (eIxI (o2 rfl) (eVar rfl) (by omega)) (eSub (o0 rfl) (eVar rfl))
  exact fin_self f_greatest_share rfl rfl rfl rfl (sEx (x := .non) (M1 := M) ((eCall (esCons (eVar rfl) (esCons eC esNil))).trans (c_check_outN (k := k) ho)) (sEx (x := .non) (M1 := M) ((eCall (esCons (o1 rfl) (esCons (eVar rfl) esNil))).trans (c_check_party (k := k + 2) (by omega))) (sRet ((eCall (esCons (eVar rfl) (esCons (eVar rfl) esNil))).trans h1))))
/-! ### which shares there are -/
theorem ex_row : ∀ (lo hi : List Int) (m : Int), lo.length = hi.length → (∀ j < lo.length, lo.getD j 0 ≤ hi.getD j 0) → lo.sum ≤ m → m ≤ hi.sum → ∃ r : List Int, r.length = lo.length ∧ (∀ j < lo.length, lo.getD j 0 ≤ r.getD j 0 ∧ r.getD j 0 ≤ hi.getD j 0) ∧ r.sum = m
  | [], [], m, _, _, h1, h2 => ⟨[], rfl, fun j hj => absurd hj (Nat.not_lt_zero _), by simp at h1 h2 ⊢; omega⟩
  | l :: lo, h :: hi, m, hl, hle, h1, h2 => by
    rw [List.sum_cons] at h1 h2
    have h0 : l ≤ h := hle 0 (Nat.zero_lt_succ _)
    have hl' : lo.length = hi.length := by simpa using hl
    have hle' : ∀ j < lo.length, lo.getD j 0 ≤ hi.getD j 0 := fun j hj => hle (j + 1) (by rw [List.length_cons]; omega)
    have hs := sum_le_sum hl' hle'
    obtain ⟨x, x1, x2, x3, x4⟩ : ∃ x : Int, l ≤ x ∧ x ≤ h ∧ lo.sum ≤ m - x ∧ m - x ≤ hi.sum := by
      by_cases hc : m - hi.sum ≤ l
      · exact ⟨l, Int.le_refl _, h0, by omega, by omega⟩
      · exact ⟨m - hi.sum, by omega, by omega, by omega, by omega⟩
    obtain ⟨r, r1, r2, r3⟩ := ex_row lo hi (m - x) hl' hle' x3 x4
    refine ⟨x :: r, by rw [List.length_cons, List.length_cons, r1], fun j hj => ?_, by rw [List.sum_cons, r3]; omega⟩
    cases j with
    | zero => exact ⟨x1, x2⟩
    | succ j => exact r2 j (by rw [List.length_cons] at hj; omega)
theorem sum_set : ∀ {l : List Int} {p : Nat} {x : Int}, p < l.length → (l.set p x).sum = l.sum - l.getD p 0 + x
  | a :: l, 0, x, _ => by rw [List.set_cons_zero, List.sum_cons, List.sum_cons]; show x + l.sum = a + l.sum - a + x; omega
  | a :: l, p + 1, x, h => by
    have ih := sum_set (l := l) (p := p) (x := x) (by simpa using h)
    rw [List.set_cons_succ, List.sum_cons, List.sum_cons, ih]
    show _ = a + l.sum - l.getD p 0 + x
    omega
theorem getD_set {l : List Int} {p j : Nat} {x : Int} (hp : p < l.length) : (l.set p x).getD j 0 = if j = p then x else l.getD j 0 := by
  by_cases h : j = p
  · subst h; rw [if_pos rfl]; simp [List.getD, hp]
  · rw [if_neg h]; simp [List.getD, List.getElem?_set_ne (Ne.symm h)]
theorem shares_iff (ho : OOk m lo hi P) {p : Nat} (hp : p < P) (x : Int) : (∃ r, COk m lo hi P r ∧ r.getD p 0 = x) ↔ leastS m lo hi p ≤ x ∧ x ≤ greatS m lo hi p := by
  have hll := ho.ll
  have hlh := ho.lh
  have hsl := ho.sl
  have hsh := ho.sh
  have hb : (leastS m lo hi p ≤ x ∧ x ≤ greatS m lo hi p) ↔ (lo.getD p 0 ≤ x ∧ x ≤ hi.getD p 0 ∧ m - (hi.sum - hi.getD p 0) ≤ x ∧ x ≤ m - (lo.sum - lo.getD p 0)) := by
    unfold leastS greatS maxI minI
    constructor
    · rintro ⟨h1, h2⟩
      split at h1 <;> split at h2 <;> omega
    · rintro ⟨h1, h2, h3, h4⟩
      constructor <;> split <;> omega
  rw [hb]
  constructor
  · rintro ⟨r, h, rfl⟩
    have hl := h.len
    have hat := h.at_
    have h1 := hat p hp
    have s1 := sum_le_sum (lo := r.set p 0) (hi := hi.set p 0) (by rw [List.length_set, List.length_set]; omega) fun j hj => by
      rw [getD_set (by omega), getD_set (by omega)]
      split
      · exact Int.le_refl _
      · rw [List.length_set] at hj; exact (hat j (by omega)).2
    have s2 := sum_le_sum (lo := lo.set p 0) (hi := r.set p 0) (by rw [List.length_set, List.length_set]; omega) fun j hj => by
      rw [getD_set (by omega), getD_set (by omega)]
      split
      · exact Int.le_refl _
      · rw [List.length_set] at hj; exact (hat j (by omega)).1
    rw [sum_set (by omega), sum_set (by omega)] at s1 s2
    have := h.sum
    omega
  · rintro ⟨h1, h2, h3, h4⟩
    obtain ⟨r, r1, r2, r3⟩ := ex_row (lo.set p x) (hi.set p x) m (by rw [List.length_set, List.length_set]; omega) (fun j hj => by
      rw [getD_set (by omega), getD_set (by omega)]
      split
      · exact Int.le_refl _
      · rw [List.length_set] at hj; exact ho.le j (by omega)) (by rw [sum_set (by omega)]; omega) (by rw [sum_set (by omega)]; omega)
    rw [List.length_set] at r1 r2
    have rp := r2 p (by omega)
    rw [getD_set (by omega), getD_set (by omega), if_pos rfl, if_pos rfl] at rp
    refine ⟨r, ⟨by omega, fun j hj => ?_, r3⟩, by omega⟩
    have h := r2 j (by omega)
    rw [getD_set (by omega), getD_set (by omega)] at h
    by_cases hj' : j = p
    · rw [if_pos hj', if_pos hj'] at h; subst hj'; omega
    · rw [if_neg hj', if_neg hj'] at h; exact h
theorem ex_count (ho : OOk m lo hi P) : ∃ r, COk m lo hi P r := by
  have hll := ho.ll
  have hlh := ho.lh
  obtain ⟨r, r1, r2, r3⟩ := ex_row lo hi m (by omega) (fun j hj => ho.le j (by omega)) ho.sl ho.sh
  exact ⟨r, by omega, fun j hj => r2 j (by omega), r3⟩
end
end K11

set_option exponentiation.threshold 4000
/-! K11A: the parts of the check. -/
namespace K11
open PySem L2 PM
section
variable {M : Store} {k i : Nat} {F : Fns} {env : EnvD} {vs lo hi : List Int} {m : Int} {P : Nat}
/-- what is drawn is small -/
structure Sm (m : Int) (lo hi : List Int) (P : Nat) : Prop where
  ho : OOk m lo hi P
  p4 : P ≤ 4
  sm : ∀ j < P, lo.getD j 0 ≤ 2 ∧ hi.getD j 0 ≤ lo.getD j 0 + 5
theorem Sm.s5 (h : Sm m lo hi P) : ∀ j < P, hi.getD j 0 ≤ lo.getD j 0 + 5 := fun j hj => (h.sm j hj).2
theorem Sm.mem (h : Sm m lo hi P) {r : List Int} (hr : COk m lo hi P r) : ∀ z ∈ r, 0 ≤ z ∧ z ≤ 7 := fun z hz => by
  obtain ⟨j, hj, rfl⟩ := List.mem_iff_getElem.mp hz
  have hl := hr.len
  have h1 := hr.at_ j (by omega)
  have h2 := h.ho.lo0 j (by omega)
  have h3 := h.sm j (by omega)
  have e : r.getD j 0 = r[j] := by simp [List.getD, hj]
  omega
def ownL (A B : Int) : List Int := (List.range (B + 1 - A).toNat).map fun (j : Nat) => A + (j : Int)
theorem ownL_mem {A B x : Int} : x ∈ ownL A B ↔ A ≤ x ∧ x ≤ B := by
  unfold ownL
  constructor
  · intro h
    obtain ⟨j, hj, rfl⟩ := List.mem_map.mp h
    have := List.mem_range.mp hj
    omega
  · rintro ⟨h1, h2⟩
    exact List.mem_map.mpr ⟨(x - A).toNat, List.mem_range.mpr (by omega), by omega⟩
theorem ownL_lt (A B : Int) : (ownL A B).Pairwise (· < ·) := by
  unfold ownL
  rw [List.pairwise_map]
  exact List.pairwise_lt_range.imp fun h => by omega
theorem ownL_first {A B : Int} (h : A ≤ B) : (ownL A B).head? = some A := by
  unfold ownL
  obtain ⟨n, e⟩ : ∃ n, (B + 1 - A).toNat = n + 1 := ⟨(B - A).toNat, by omega⟩
  rw [e, List.range_succ_eq_map]
  simp
theorem ownL_last {A B : Int} (h : A ≤ B) : (ownL A B).getLast? = some B := by
  unfold ownL
  obtain ⟨n, e⟩ : ∃ n, (B + 1 - A).toNat = n + 1 := ⟨(B - A).toNat, by omega⟩
  rw [e, List.range_succ, List.map_append]
  simp
  omega
abbrev rowsD (m : Int) (lo hi : List Int) (P : Nat) : D := .lst ((countsU m lo hi P).map tupI)
abbrev eR (i : Nat) (m : Int) (lo hi : List Int) (P : Nat) (vs : List Int) (x4 x5 x6 x7 x8 x9 x10 x11 x12 x13 x14 x15 : Option D) : EnvD := [some (.ref i), some (outD m lo hi), some (rowsD m lo hi P), some (tupI vs), x4, x5, x6, x7, x8, x9, x10, x11, x12, x13, x14, x15]
theorem share_ord (s : Sm m lo hi P) {p : Nat} (hp : p < P) : leastS m lo hi p ≤ greatS m lo hi p ∧ 0 ≤ leastS m lo hi p ∧ greatS m lo hi p ≤ 7 := by
  obtain ⟨r, hr⟩ := ex_count s.ho
  have h1 := (shares_iff s.ho hp (r.getD p 0)).mp ⟨r, hr, rfl⟩
  have h2 := s.ho.lo0 p hp
  have h3 := s.sm p hp
  have h4 : lo.getD p 0 ≤ leastS m lo hi p := by unfold leastS maxI; split <;> omega
  have h5 : greatS m lo hi p ≤ hi.getD p 0 := by unfold greatS minI; split <;> omega
  omega
theorem own_set (s : Sm m lo hi P) {p : Nat} (hp : p < P) : setI ((countsU m lo hi P).map fun r => r.getD p 0) = ownL (leastS m lo hi p) (greatS m lo hi p) :=
  setI_uniq (ownL_lt _ _) fun x => by
    rw [ownL_mem, ← shares_iff s.ho hp x, List.mem_map]
    constructor
    · rintro ⟨r, hr, rfl⟩; exact ⟨r, (countsU_iff s.ho s.s5).mpr hr, rfl⟩
    · rintro ⟨r, hr, rfl⟩; exact ⟨r, (countsU_iff s.ho s.s5).mp hr, rfl⟩
theorem rows_len (s : Sm m lo hi P) : (countsU m lo hi P).length ≤ 1296 := countsU_len s.s5 s.p4
theorem rows_it {F : Fns} {e : ME} {env : EnvD} (h : evE F t.G e env M = .ok (rowsD m lo hi P) M) : evIt F t.G (.seq e) env M = .ok ⟨(countsU m lo hi P).map tupI, []⟩ M := it_lst h
theorem srs_run (s : Sm m lo hi P) {p : Nat} (hp : p < P) {x5 x6 x7 x8 x9 x10 x11 x12 x13 x14 x15 : Option D} :
    evE F t.G (.srs (.comp .frz (.ix (.var 14) (.var 4)) (.nm 14) (.seq (.var 2)) [] [14])) (eR i m lo hi P vs (some (.int p)) x5 x6 x7 x8 x9 x10 x11 x12 x13 x14 x15) M = .ok (.lst ((ownL (leastS m lo hi p) (greatS m lo hi p)).map D.int)) M := by
  have hc := eMap (F := F) (G := t.G) (M := M) (e := .ix (.var 14) (.var 4)) (t := .nm 14) (it := .seq (.var 2)) (own := [14]) (env := eR i m lo hi P vs (some (.int p)) x5 x6 x7 x8 x9 x10 x11 x12 x13 x14 x15) (countsU m lo hi P) tupI (fun r => D.int (r.getD p 0)) (rows_it (eVar rfl)) rfl (Nat.le_trans (rows_len s) (by decide)) fun r hr =>
    ⟨eR i m lo hi P vs (some (.int p)) x5 x6 x7 x8 x9 x10 x11 x12 x13 (some (tupI r)) x15, rfl, eIxI (eVar rfl) (eVar rfl) (by rw [((countsU_iff s.ho s.s5).mp hr).len]; exact hp)⟩
  show (evE F t.G (.comp .frz (.ix (.var 14) (.var 4)) (.nm 14) (.seq (.var 2)) [] [14]) _ M).bind _ = _
  rw [hc, ok_bind]
  have e1 : (countsU m lo hi P).map (fun r => D.int (r.getD p 0)) = ((countsU m lo hi P).map fun r => r.getD p 0).map D.int := by rw [List.map_map]; rfl
  rw [e1]
  unfold srsD
  have e2 : (lstOf (.lst (((countsU m lo hi P).map fun r => r.getD p 0).map D.int)) M).bind intsOf = some ((countsU m lo hi P).map fun r => r.getD p 0) := ints_map _
  rw [e2]
  have hl := rows_len s
  have ho := share_ord s hp
  have hlen : (ownL (leastS m lo hi p) (greatS m lo hi p)).length < 64 := by
    unfold ownL; rw [List.length_map, List.length_range]; omega
  show (if (decide (((countsU m lo hi P).map fun r => r.getD p 0).length ≤ 4000) && decide ((setI ((countsU m lo hi P).map fun r => r.getD p 0)).length < 64)) = true then Res.ok (D.lst ((setI ((countsU m lo hi P).map fun r => r.getD p 0)).map D.int)) M else .no) = _
  rw [own_set s hp, decide_eq_true (by rw [List.length_map]; omega), decide_eq_true hlen]
  rfl
abbrev ptyBody : List MS := [.asg (.nm 9) (.srs (.comp .frz (.ix (.var 14) (.var 4)) (.nm 14) (.seq (.var 2)) [] [14])), .if_ (.cmp .ne (.bi .repr [.tup [.call 14 [.var 1, .var 4], .call 15 [.var 1, .var 4]]]) (.bi .repr [.tup [.ix (.var 9) (.c (.int 0)), .ix (.var 9) (.neg (.c (.int 1)))]])) [.ret (.c (.bl false))] [], .if_ (.cmp .ne (.var 9) (.ofIt .listF (.rng2 (.ix (.var 9) (.c (.int 0))) (.add (.ix (.var 9) (.neg (.c (.int 1)))) (.c (.int 1)))))) [.ret (.c (.bl false))] []]
theorem pty_run (s : Sm m lo hi P) {p : Nat} (hp : p < P) {x5 x6 x7 x8 x9 x10 x11 x12 x13 x14 x15 : Option D} :
    evSs (E (k + 6)) t.G ptyBody (eR i m lo hi P vs (some (.int p)) x5 x6 x7 x8 x9 x10 x11 x12 x13 x14 x15) M = .ok (.next (eR i m lo hi P vs (some (.int p)) x5 x6 x7 x8 (some (.lst ((ownL (leastS m lo hi p) (greatS m lo hi p)).map D.int))) x10 x11 x12 x13 x14 x15)) M := by
  obtain ⟨hAB, hA, hB⟩ := share_ord s hp
  generalize hgA : leastS m lo hi p = A at *
  generalize hgB : greatS m lo hi p = B at *
  have f1 : ∀ {env : EnvD}, env[9]? = some (some (.lst ((ownL A B).map D.int))) → evE (E (k + 6)) t.G (.ix (.var 9) (.c (.int 0))) env M = .ok (.int A) M := fun h => eIx (eVar h) eC (show atI _ 0 = _ from atI_first (by rw [List.head?_map, ownL_first hAB]; rfl))
  have f2 : ∀ {env : EnvD}, env[9]? = some (some (.lst ((ownL A B).map D.int))) → evE (E (k + 6)) t.G (.ix (.var 9) (.neg (.c (.int 1)))) env M = .ok (.int B) M := fun h => eIx (y := .int (-1)) (M2 := M) (eVar h) rfl (show atI _ (-1) = _ from atI_last (by rw [List.getLast?_map, ownL_last hAB]; rfl))
  have hs := srs_run (F := E (k + 6)) (M := M) (i := i) (vs := vs) s hp (x5 := x5) (x6 := x6) (x7 := x7) (x8 := x8) (x9 := x9) (x10 := x10) (x11 := x11) (x12 := x12) (x13 := x13) (x14 := x14) (x15 := x15)
  rw [hgA, hgB] at hs
  have hl := c_least_share (k := k) (M := M) s.ho hp
  have hg := c_great_share (k := k) (M := M) s.ho hp
  rw [hgA] at hl
  rw [hgB] at hg
  have ofl : evE (E (k + 6)) t.G (.ofIt .listF (.rng2 (.ix (.var 9) (.c (.int 0))) (.add (.ix (.var 9) (.neg (.c (.int 1)))) (.c (.int 1))))) (eR i m lo hi P vs (some (.int p)) x5 x6 x7 x8 (some (.lst ((ownL A B).map D.int))) x10 x11 x12 x13 x14 x15) M = .ok (.lst ((ownL A B).map D.int)) M := by
    have hi := it_rng2 (F := E (k + 6)) (M := M) (a := .ix (.var 9) (.c (.int 0))) (c := .add (.ix (.var 9) (.neg (.c (.int 1)))) (.c (.int 1))) (i := A) (j := B + 1) (env := eR i m lo hi P vs (some (.int p)) x5 x6 x7 x8 (some (.lst ((ownL A B).map D.int))) x10 x11 x12 x13 x14 x15) (f1 rfl) (eAdd (i := B) (j := 1) (f2 rfl) eC) (by omega)
    show (evIt _ t.G (.rng2 (.ix (.var 9) (.c (.int 0))) (.add (.ix (.var 9) (.neg (.c (.int 1)))) (.c (.int 1)))) _ M).bind _ = _
    rw [hi, ok_bind]
    have hlen : ((List.range (B + 1 - A).toNat).map fun (x : Nat) => D.int (A + x)).length ≤ 16777216 := by rw [List.length_map, List.length_range]; omega
    have e0 : (Src.ok ⟨(List.range (B + 1 - A).toNat).map fun (x : Nat) => D.int (A + x), []⟩ M && decide (((List.range (B + 1 - A).toNat).map fun (x : Nat) => D.int (A + x)).length ≤ 16777216)) = true := by
      rw [decide_eq_true hlen]; rfl
    rw [if_pos e0]
    unfold ownL; rw [List.map_map]; rfl
  refine sAsg hs rfl (sNo (PM.eNeRepr (d := .tup [.int A, .int B]) (n := 2) (k := 1) (eTup (esCons ((eCall (esCons (eVar rfl) (esCons (eVar rfl) esNil))).trans hl) (esCons ((eCall (esCons (eVar rfl) (esCons (eVar rfl) esNil))).trans hg) esNil)) s2) (eTup (esCons (f1 rfl) (esCons (f2 rfl) esNil)) s2) (rp_tup (rps_cons (rp_int (by omega) (by omega)) (rps_cons (rp_int (by omega) (by omega)) rps_nil (Nat.le_refl _) (Nat.le_refl _) (Nat.le_refl _)) (by decide) (Nat.le_refl _) (Nat.le_refl _))) (by decide) (by decide) tup_ref) (sNo (eCmp (eVar rfl) ?_ ?_ (y := .lst ((ownL A B).map D.int)) (M1 := M)) sNil))
  · exact ofl
  · show (eqD (.lst ((ownL A B).map D.int)) (.lst ((ownL A B).map D.int))).map (!·) = _
    rw [eq_lsts, decide_eq_true rfl]; rfl
/-! ### one value -/
theorem len_bulk {n q : Nat} {l : List D} (h : RpD n q (.tup l)) : l.length ≤ n := by
  have h1 : PyData.bulkAll (D.pys l) ≤ n := by have := h.bu; simpa only [D.py, PyData.bulk] using this
  have : ∀ l : List D, l.length ≤ PyData.bulkAll (D.pys l) := by
    intro l
    induction l with
    | nil => exact Nat.zero_le _
    | cons d l ih =>
      show l.length + 1 ≤ PyData.bulkAll (d.py :: D.pys l)
      simp only [PyData.bulkAll]; omega
  exact Nat.le_trans (this l) h1
abbrev Val (d : D) : Prop := RpD 100 10 d
theorem Val.len {d : D} (h : Val d) : ∀ l, d = .tup l → l.length ≤ 1000 := fun l e => by subst e; exact Nat.le_trans (len_bulk h) (by decide)
theorem row_rp (s : Sm m lo hi P) {r : List Int} (hr : COk m lo hi P r) : Rp r.length 1 (tupI r) := rp_tup (rps_ints fun z hz => by have := s.mem hr z hz; omega)
abbrev dueE : ME := .and [.bi (.isa .tup) [.var 8], .cmp .inn (.bi .repr [.var 8]) (.comp .frz (.bi .repr [.var 14]) (.nm 14) (.seq (.var 2)) [] [14])]
theorem due_run (s : Sm m lo hi P) {d : D} (hd : Val d) {x4 x5 x6 x7 x9 x10 x11 x12 x13 x14 x15 : Option D} :
    ∃ b : Bool, evE F t.G dueE (eR i m lo hi P vs x4 x5 x6 x7 (some d) x9 x10 x11 x12 x13 x14 x15) M = .ok (.bl b) M ∧ (b = true ↔ ∃ cs, d = tupI cs ∧ COk m lo hi P cs) := by
  by_cases ht : ∃ l, d = .tup l
  · obtain ⟨l, rfl⟩ := ht
    have hpu : D.pures l = true := hd.pu
    have h1 : evE F t.G (.bi .repr [.var 8]) (eR i m lo hi P vs x4 x5 x6 x7 (some (.tup l)) x9 x10 x11 x12 x13 x14 x15) M = .ok (.str (D.tup l).py.shown) M := (eBi1 (eVar rfl)).trans (bi_repr tup_ref (rpd_ok hd rfl (by decide) (by decide)))
    have h2 := eMap (F := F) (G := t.G) (M := M) (e := .bi .repr [.var 14]) (t := .nm 14) (it := .seq (.var 2)) (own := [14]) (env := eR i m lo hi P vs x4 x5 x6 x7 (some (.tup l)) x9 x10 x11 x12 x13 x14 x15) (countsU m lo hi P) tupI (fun r => D.str (tupI r).py.shown) (rows_it (eVar rfl)) rfl (Nat.le_trans (rows_len s) (by decide)) fun r hr => by
      have hc := (countsU_iff s.ho s.s5).mp hr
      have hl := hc.len
      have hp4 := s.p4
      exact ⟨eR i m lo hi P vs x4 x5 x6 x7 (some (.tup l)) x9 x10 x11 x12 x13 (some (tupI r)) x15, rfl, (eBi1 (eVar rfl)).trans (bi_repr tup_ref (rp_ok (row_rp s hc) (by omega) (by decide)))⟩
    have hin : cmpD .inn (.str (D.tup l).py.shown) (.lst ((countsU m lo hi P).map fun r => D.str (tupI r).py.shown)) M = some (((countsU m lo hi P).map fun r => D.str (tupI r).py.shown).any fun d => PyData.eqv d.py (D.str (D.tup l).py.shown).py) := by
      show (if flat (.str (D.tup l).py.shown) && ((countsU m lo hi P).map fun r => D.str (tupI r).py.shown).all flat then some _ else none) = _
      rw [if_pos]
      rw [Bool.and_eq_true]
      exact ⟨rfl, List.all_eq_true.mpr fun d hd => by
        obtain ⟨r, _, rfl⟩ := List.mem_map.mp hd
        rfl⟩
    refine ⟨_, (eAndT ((eBi1 (eVar rfl)).trans rfl)).trans (eAnd1.trans (eCmp h1 h2 hin)), ?_⟩
    rw [List.any_map, List.any_eq_true]
    constructor
    · rintro ⟨r, hr, h⟩
      have h : PyData.eqv (.str (tupI r).py.shown) (.str (D.tup l).py.shown) = true := h
      have h3 : (tupI r).py.shown = (D.tup l).py.shown := by simpa [PyData.eqv] using h
      exact ⟨r, by rw [(tup_text hpu).mp h3.symm]; rfl, (countsU_iff s.ho s.s5).mp hr⟩
    · rintro ⟨cs, e, h⟩
      refine ⟨cs, (countsU_iff s.ho s.s5).mpr h, ?_⟩
      rw [e]
      show PyData.eqv (.str (tupI cs).py.shown) (.str (tupI cs).py.shown) = true
      simp [PyData.eqv]
  · refine ⟨false, eAndF ?_, ⟨(fun h => by cases h), fun ⟨cs, e, _⟩ => absurd ⟨_, e⟩ ht⟩⟩
    refine (eBi1 (eVar (d := d) rfl)).trans ?_
    show optR ((isa d .tup M).map D.bl) M = _
    have hp := hd.pu
    cases d <;> first | rfl | exact absurd ⟨_, rfl⟩ ht | (cases hp)
abbrev valBody : List MS := [.asg (.nm 10) dueE, .if_ (.cmp .ne (.bi .repr [.call 9 [.var 1, .var 8]]) (.bi .repr [.var 10])) [.ret (.c (.bl false))] []]
theorem bl_ref {b : Bool} (n : Nat) : D.bl b ≠ .ref n := fun h => by cases h
theorem val_run (s : Sm m lo hi P) {d : D} (hd : Val d) {x4 x5 x6 x7 x9 x10 x11 x12 x13 x14 x15 : Option D} :
    ∃ b : Bool, evSs (E (k + 6)) t.G valBody (eR i m lo hi P vs x4 x5 x6 x7 (some d) x9 x10 x11 x12 x13 x14 x15) M = .ok (.next (eR i m lo hi P vs x4 x5 x6 x7 (some d) x9 (some (.bl b)) x11 x12 x13 x14 x15)) M := by
  obtain ⟨b, e1, h1⟩ := due_run (F := E (k + 6)) (M := M) (i := i) (vs := vs) s hd (x4 := x4) (x5 := x5) (x6 := x6) (x7 := x7) (x9 := x9) (x10 := x10) (x11 := x11) (x12 := x12) (x13 := x13) (x14 := x14) (x15 := x15)
  obtain ⟨b2, e2, h2⟩ := c_are_counts (k := k) (M := M) s.ho hd.pu hd.len
  have hb : b2 = b := Bool.eq_iff_iff.mpr (h2.trans h1.symm)
  subst hb
  exact ⟨b2, sAsg e1 rfl (sNo (PM.eNeRepr (d := .bl b2) (n := 0) (k := 0) ((eCall (esCons (eVar rfl) (esCons (eVar rfl) esNil))).trans e2) (eVar rfl) (rp_bl b2) (by decide) (by decide) bl_ref) sNil)⟩
/-! ### behind -/
theorem c_behind (hv : VOk vs) (hl : vs.length = P) (s : Sm m lo hi P) {cs : List Int} (hc : COk m lo hi P cs) : E (k + 6) 11 [tupI vs, outD m lo hi, tupI cs] M = .ok (tupI (putL vs cs)) M := by
  have h1 := c_check_votes (k := k) (M := M) hv
  have h2 := c_check_out (k := k) (M := M) s.ho
  have h3 := c_count (k := k + 2) (M := M) s.ho hc
  have h4 := c_put (k := k + 4) (M := M) (vs := vs) (cs := cs) (by have := hv.hi; omega)
  refine fin_self f_behind rfl rfl rfl (pure_tupI _) ?_
  have hln : evE (E (k + 5)) t.G (.bi .len [.var 0]) [some (tupI vs), some (outD m lo hi), some (tupI cs)] M = .ok (.int P) M := by
    have := eLenI (F := E (k + 5)) (M := M) (e := .var 0) (l := vs) (env := [some (tupI vs), some (outD m lo hi), some (tupI cs)]) (eVar rfl)
    rw [hl] at this; exact this
  exact sEx (x := .non) (M1 := M) ((eCall (esCons (eVar rfl) esNil)).trans h1) (sEx (x := .non) (M1 := M) ((eCall (esCons (eVar rfl) (esCons hln esNil))).trans h2) (sNo (M1 := M) (eNot (b := true) ((eCall (esCons (eVar rfl) (esCons (eVar rfl) esNil))).trans h3)) (sRet ((eCall (esCons (eVar rfl) (esCons (eVar rfl) esNil))).trans h4))))
end
end K11

set_option exponentiation.threshold 4000
/-! K11B: the check of one draw. -/
namespace K11
open PySem L2 PM
section
variable {M : Store} {k i : Nat} {env : EnvD} {vs lo hi : List Int} {m : Int} {P : Nat}
theorem d_votes (s : Sm m lo hi P) {x2 x3 x4 x5 x6 x7 x8 x9 x10 x11 x12 x13 x14 x15 : Option D} : Dr i 4 (evE (E (k + 2)) t.G (.bi .tuple [.comp .frz (.call 17 [.var 0, .c (.int 50)]) (.nm 13) (.seq (.ix (.var 1) (.c (.int 1)))) [] [13]]) [some (.ref i), some (outD m lo hi), x2, x3, x4, x5, x6, x7, x8, x9, x10, x11, x12, x13, x14, x15]) (TupP fun l => l.length = P ∧ ∀ z ∈ l, 0 ≤ z ∧ z < 50) := by
  have hll := s.ho.ll
  have hp4 := s.p4
  refine dBi1 (P := fun d => ∃ zs : List Int, d = .lst (zs.map D.int) ∧ zs.length = P ∧ ∀ z ∈ zs, 0 ≤ z ∧ z < 50) (Dr.mono (dComp (Kb := 1) lo D.int (R := fun _ d => IntP (fun z => 0 ≤ z ∧ z < 50) d) (fun M => it_tup (o1 rfl)) (sl (by omega)) (fun c hc => ⟨[some (.ref i), some (outD m lo hi), x2, x3, x4, x5, x6, x7, x8, x9, x10, x11, x12, some (.int c), x14, x15], rfl, dTake (t_take (k := k + 1)) rfl (dC ⟨50, rfl, by decide, by decide, fun x h0 h1 => ⟨h0, h1⟩⟩)⟩) fun ds h => ?_) (by rw [hll]; omega)) fun d hd => ?_
  · obtain ⟨zs, rfl, h2⟩ := h.ints
    exact ⟨zs, rfl, by have := h2.length; omega, h2.right fun _ _ r => r⟩
  · obtain ⟨zs, rfl, h1, h2⟩ := hd
    exact ⟨tupI zs, fun M => rfl, zs, rfl, h1, h2⟩
theorem part_rp {l : List Int} (h : ∀ z ∈ l, 0 ≤ z ∧ z ≤ 100) (hl : l.length ≤ 8) : RpDs 8 0 (l.map D.int) := by
  have := rps_part h
  exact ⟨this.pu, this.sh, this.le, Nat.le_trans this.bu hl, this.de⟩
theorem val_ints {l : List Int} (h : ∀ z ∈ l, 0 ≤ z ∧ z ≤ 100) (hl : l.length ≤ 8) : Val (tupI l) := (rpd_tup (part_rp h hl)).mono (by decide) (by decide)
abbrev S7 : List ME := [.var 5, .bi .listF [.var 5], .sl (.var 5) (some (.c (.int 1))) none, .add (.var 5) (.tup [.c (.int 0)]), .rev (.var 5), .c .non, .tup [], .ix (.var 1) (.c (.int 1)), .ix (.var 1) (.c (.int 2)), .call 20 [.var 0]]
theorem vE {F : Fns} {e : ME} {d : D} (h : ∀ M, evE F t.G e env M = .ok d M) (hd : Val d) : Dr i 0 (evE F t.G e env) Val := dE h hd
theorem d_vals (s : Sm m lo hi P) {cs : List Int} (hc : COk m lo hi P cs) {x4 x6 x7 x8 x9 x10 x11 x12 x13 x14 x15 : Option D} : Dr i 4 (evEs (E (k + 3)) t.G S7 (eR i m lo hi P vs x4 (some (tupI cs)) x6 x7 x8 x9 x10 x11 x12 x13 x14 x15)) (fun ds => ds.length = 10 ∧ ∀ x ∈ ds, Val x) := by
  have hm := s.mem hc
  have hl := hc.len
  have hp4 := s.p4
  have hll := s.ho.ll
  have hlh := s.ho.lh
  have b1 : ∀ z ∈ cs, 0 ≤ z ∧ z ≤ 100 := fun z hz => by have := hm z hz; omega
  have bl : ∀ z ∈ lo, 0 ≤ z ∧ z ≤ 100 := fun z hz => by
    obtain ⟨j, hj, rfl⟩ := List.mem_iff_getElem.mp hz
    have h1 := s.sm j (by omega)
    have h2 := s.ho.lo0 j (by omega)
    have e : lo.getD j 0 = lo[j] := by simp [List.getD, hj]
    omega
  have bh : ∀ z ∈ hi, 0 ≤ z ∧ z ≤ 100 := fun z hz => by
    obtain ⟨j, hj, rfl⟩ := List.mem_iff_getElem.mp hz
    have h1 := s.sm j (by omega)
    have h2 := s.ho.lo0 j (by omega)
    have h3 := s.ho.le j (by omega)
    have e : hi.getD j 0 = hi[j] := by simp [List.getD, hj]
    omega
  refine Dr.mono (dCons (vE (fun M => eVar (d := tupI cs) rfl) (val_ints b1 (by omega))) fun d1 h1 => dCons (vE (d := .lst (cs.map D.int)) (fun M => (eBi1 (eVar rfl)).trans rfl) ((rpd_lst (part_rp b1 (by omega))).mono (by decide) (by decide))) fun d2 h2 => dCons (vE (d := tupI (cs.drop 1)) (fun M => ?_) (val_ints (fun z hz => b1 z (List.mem_of_mem_drop hz)) (by rw [List.length_drop]; omega))) fun d3 h3 => dCons (vE (d := .tup (cs.map D.int ++ [.int 0])) (fun M => eAddT (eVar rfl) (eTup (esCons eC esNil) s1) (sl (by rw [List.length_map]; show cs.length + 1 ≤ 1000; omega))) ?_) fun d4 h4 => dCons (vE (d := tupI cs.reverse) (fun M => ?_) (val_ints (fun z hz => b1 z (List.mem_reverse.mp hz)) (by rw [List.length_reverse]; omega))) fun d5 h5 => dCons (vE (d := .non) (fun M => eC) (odd_non.mono (by decide) (by decide))) fun d6 h6 => dCons (vE (d := tupI []) (fun M => eTup esNil (Nat.zero_le _)) (val_ints (fun z hz => by cases hz) (Nat.zero_le _))) fun d7 h7 => dCons (vE (d := tupI lo) (fun M => o1 rfl) (val_ints bl (by omega))) fun d8 h8 => dCons (vE (d := tupI hi) (fun M => o2 rfl) (val_ints bh (by omega))) fun d9 h9 => dCons ((dOdd (k := k) rfl).imp fun d h => (h.mono (by decide) (by decide) : Val d)) fun d10 h10 => dNil ⟨rfl, fun x hx => by
      simp only [List.mem_cons, List.not_mem_nil, or_false] at hx
      rcases hx with rfl | rfl | rfl | rfl | rfl | rfl | rfl | rfl | rfl | rfl <;> assumption⟩) (by decide)
  · show Res.ok (D.tup (cutD (cs.map D.int) (some ((1 : Nat) : Int)) none)) M = _
    rw [PM.cut_drop]; unfold tupI; rw [List.map_drop]
  · have : (cs.map D.int ++ [D.int 0]) = (cs ++ [0]).map D.int := by rw [List.map_append]; rfl
    rw [this]
    exact val_ints (fun z hz => by
      rcases List.mem_append.mp hz with h | h
      · exact b1 z h
      · rw [List.mem_singleton.mp h]; exact ⟨by decide, by decide⟩) (by rw [List.length_append, List.length_singleton]; omega)
  · show Res.ok (D.tup (cs.map D.int).reverse) M = _
    rw [← List.map_reverse]; rfl
abbrev nearE : ME := .comp .frz (.add (.add (.sl (.var 5) none (some (.var 6))) (.tup [.var 11])) (.sl (.var 5) (some (.add (.var 6) (.c (.int 1)))) none)) (.nm 11) (.seq (.tup [.add (.ix (.var 5) (.var 6)) (.c (.int 1)), .sub (.ix (.var 5) (.var 6)) (.c (.int 1)), .c (.bl true), .c .non, .bi .str [.ix (.var 5) (.var 6)]])) [] [11]
theorem near_run {F : Fns} (s : Sm m lo hi P) {cs : List Int} (hc : COk m lo hi P cs) {j : Nat} (hj : j < cs.length) {x4 x7 x8 x9 x10 x11 x12 x13 x14 x15 : Option D} : ∃ ds : List D, ds.length = 5 ∧ (∀ x ∈ ds, Val x) ∧ evE F t.G nearE (eR i m lo hi P vs x4 (some (tupI cs)) (some (.int j)) x7 x8 x9 x10 x11 x12 x13 x14 x15) M = .ok (.lst ds) M := by
  have hm := s.mem hc
  have hl := hc.len
  have hp4 := s.p4
  have b1 : ∀ z ∈ cs, 0 ≤ z ∧ z ≤ 100 := fun z hz => by have := hm z hz; omega
  have hz := hm _ (getD_mem (vs := cs) (p := j) hj)
  generalize hgz : cs.getD j 0 = z at hz
  have ez : ∀ {M : Store} {env : EnvD}, env[5]? = some (some (tupI cs)) → env[6]? = some (some (.int j)) → evE F t.G (.ix (.var 5) (.var 6)) env M = .ok (.int z) M := fun h1 h2 => by rw [← hgz]; exact eIxI (eVar h1) (eVar h2) hj
  let xs : List D := [.int (z + 1), .int (z - 1), .bl true, .non, .str (toString z)]
  have hxs : ∀ x ∈ xs, RpD 13 0 x := fun x hx => by
    simp only [xs, List.mem_cons, List.not_mem_nil, or_false] at hx
    rcases hx with rfl | rfl | rfl | rfl | rfl
    · exact (rpd_of (rp_int (by omega) (by omega))).mono (by decide) (by decide)
    · exact (rpd_of (rp_int (by omega) (by omega))).mono (by decide) (by decide)
    · exact (rpd_of (rp_bl true)).mono (by decide) (by decide)
    · exact (rpd_of rp_non).mono (by decide) (by decide)
    · exact rpd_strI (by omega) (by omega)
  let ψ : D → D := fun x => .tup ((cs.take j).map D.int ++ [x] ++ (cs.drop (j + 1)).map D.int)
  refine ⟨xs.map ψ, rfl, fun y hy => ?_, ?_⟩
  · obtain ⟨x, hx, rfl⟩ := List.mem_map.mp hy
    have h1 := part_rp (l := cs.take j) (fun z hz => b1 z (List.mem_of_mem_take hz)) (by rw [List.length_take]; omega)
    have h2 := part_rp (l := cs.drop (j + 1)) (fun z hz => b1 z (List.mem_of_mem_drop hz)) (by rw [List.length_drop]; omega)
    have h3 := rpds_cons (hxs x hx) rpds_nil (n := 14) (m := 0) (by decide) (by decide) (by decide)
    exact (rpd_tup (rpds_app (n := 30) (rpds_app (n := 22) h1 h3 (by decide)) h2 (by decide))).mono (by decide) (by decide)
  · have hit : evIt F t.G (.seq (.tup [.add (.ix (.var 5) (.var 6)) (.c (.int 1)), .sub (.ix (.var 5) (.var 6)) (.c (.int 1)), .c (.bl true), .c .non, .bi .str [.ix (.var 5) (.var 6)]])) (eR i m lo hi P vs x4 (some (tupI cs)) (some (.int j)) x7 x8 x9 x10 x11 x12 x13 x14 x15) M = .ok ⟨xs.map id, []⟩ M := by
      rw [List.map_id]
      exact it_tup (eTup (esCons (eAdd (ez rfl rfl) eC) (esCons (eSub (ez rfl rfl) eC) (esCons eC (esCons eC (esCons (str_run (by omega) (ez rfl rfl)) esNil))))) (sl (by show 5 ≤ 1000; decide)))
    refine eMap xs id ψ hit rfl (sl (by show 5 ≤ 1000; decide)) fun x hx => ⟨eR i m lo hi P vs x4 (some (tupI cs)) (some (.int j)) x7 x8 x9 x10 (some x) x12 x13 x14 x15, rfl, ?_⟩
    have a1 : evE F t.G (.sl (.var 5) none (some (.var 6))) (eR i m lo hi P vs x4 (some (tupI cs)) (some (.int j)) x7 x8 x9 x10 (some x) x12 x13 x14 x15) M = .ok (.tup ((cs.take j).map D.int)) M := by
      show Res.ok (D.tup (cutD (cs.map D.int) none (some (j : Int)))) M = _
      rw [PM.cut_take, List.map_take]
    have a2 : evE F t.G (.sl (.var 5) (some (.add (.var 6) (.c (.int 1)))) none) (eR i m lo hi P vs x4 (some (tupI cs)) (some (.int j)) x7 x8 x9 x10 (some x) x12 x13 x14 x15) M = .ok (.tup ((cs.drop (j + 1)).map D.int)) M := by
      show Res.ok (D.tup (cutD (cs.map D.int) (some ((j + 1 : Nat) : Int)) none)) M = _
      rw [PM.cut_drop, List.map_drop]
    have l1 : ((cs.take j).map D.int).length ≤ 4 := by rw [List.length_map, List.length_take]; omega
    have l2 : ((cs.drop (j + 1)).map D.int).length ≤ 4 := by rw [List.length_map, List.length_drop]; omega
    exact eAddT (eAddT a1 (eTup (esCons (eVar rfl) esNil) s1) (sl (by show _ + 1 ≤ 1000; omega))) a2 (sl (by rw [List.length_append]; show _ + 1 + _ ≤ 1000; omega))
theorem d_bents (s : Sm m lo hi P) {cs : List Int} (hc : COk m lo hi P cs) {x4 x6 x7 x8 x9 x10 x11 x12 x13 x14 x15 : Option D} : Dr i 32 (evE (E (k + 5)) t.G (.comp .frz (.call 21 [.var 0, .var 5]) (.nm 12) (.rng1 (.c (.int 4))) [] [12]) (eR i m lo hi P vs x4 (some (tupI cs)) x6 x7 x8 x9 x10 x11 x12 x13 x14 x15)) (fun d => ∃ ds, d = .lst ds ∧ ds.length = 4 ∧ ∀ x ∈ ds, Val x) := by
  have hm := s.mem hc
  have hl := hc.len
  have hp4 := s.p4
  have hp1 := s.ho.p1
  have b1 : ∀ z ∈ cs, 0 ≤ z ∧ z ≤ 100 := fun z hz => by have := hm z hz; omega
  refine Dr.mono (dComp (Kb := 8) (List.range 4) (fun (j : Nat) => D.int j) (R := fun _ d => Val d) (fun M => by rw [← rangeD0]; exact it_rng (by decide) eC) (sl (by decide)) (fun j hj => ⟨eR i m lo hi P vs x4 (some (tupI cs)) x6 x7 x8 x9 x10 x11 (some (.int j)) x13 x14 x15, rfl, Dr.mono (dCall (R := fun l => l = [.ref i, tupI cs]) (dCons (P := fun d => d = .ref i) (dVar rfl rfl) fun d1 h1 => dCons (P := fun d => d = tupI cs) (dVar rfl rfl) fun d2 h2 => dNil (by rw [h1, h2])) fun l hl' => by
    subst hl'
    exact d_bentT (k := k) (by omega) b1) (by decide)⟩) fun ds h => ⟨ds, rfl, by have := h.length; rw [List.length_range] at this; exact this.symm, ?_⟩) (by decide)
  have : ∀ {xs : List Nat} {l : List D}, All2 (fun (_ : Nat) d => Val d) xs l → ∀ x ∈ l, Val x := by
    intro xs l h
    induction h with
    | nil => intro x hx; cases hx
    | cons r _ ih => intro x hx; rcases List.mem_cons.mp hx with rfl | hx; exact r; exact ih x hx
  exact this h
theorem d_right : Dr i 60 (E (k + 7) 24 [.ref i]) (fun d => d = .bl true) := by
  intro n M q
  obtain ⟨d1, M1, e1, ⟨P, m, lo, hi, rfl, ho, hp4, hsm⟩, u1, q1⟩ := d_out (k := k + 4) (i := i) (n + 50) M (q.mono (by omega))
  have s : Sm m lo hi P := ⟨ho, hp4, hsm⟩
  have hll := ho.ll
  have hp1 := ho.p1
  have ec := c_counts (k := k + 5) (M := M1) ho hp4 hsm
  obtain ⟨d2, M2, e2, ⟨vs, rfl, hvl, hvb⟩, u2, q2⟩ := d_votes (k := k + 4) (i := i) s (n + 46) M1 (q1.mono (by omega)) (x2 := none) (x3 := none) (x4 := none) (x5 := none) (x6 := none) (x7 := none) (x8 := none) (x9 := none) (x10 := none) (x11 := none) (x12 := none) (x13 := none) (x14 := none) (x15 := none)
  have hv : VOk vs := ⟨List.all_eq_true.mpr fun z hz => by
    have := hvb z hz
    unfold btw; rw [decide_eq_true (by omega), decide_eq_true (Int.le_trans (show z ≤ 50 by omega) (by decide))]; rfl, by omega, by omega⟩
  -- the parties
  obtain ⟨env3, M3, e3, x4, x9, rfl, hM3⟩ := forL_img (φ := fun (p : Nat) => D.int (p : Int)) (f := forF (E (k + 6)) t.G (.nm 4) ptyBody) (s := ⟨(List.range P).map fun (p : Nat) => D.int (p : Int), []⟩) (env := eR i m lo hi P vs none none none none none none none none none none none none) (M := M2)
    (fun done env M' => ∃ x4 x9, env = eR i m lo hi P vs x4 none none none none x9 none none none none none none ∧ M' = M2) (xs := List.range P) ⟨none, none, rfl, rfl⟩ (fun _ _ _ _ => rfl) (by
      rintro done p rest _ _ hx ⟨x4, x9, rfl, rfl⟩
      have hp : p < P := List.mem_range.mp (by rw [hx]; simp)
      exact ⟨_, _, pty_run (k := k) (vs := vs) s hp, _, _, rfl, rfl⟩)
  subst hM3
  -- one count
  obtain ⟨d4, M4, e4, ⟨cs, rfl, hcs⟩, u4, q4⟩ : ∃ d M', evE (E (k + 6)) t.G (.call 18 [.var 0, .var 2]) (eR i m lo hi P vs x4 none none none none x9 none none none none none none) M3 = .ok d M' ∧ (∃ cs, d = tupI cs ∧ COk m lo hi P cs) ∧ Upd i M3 M' ∧ Pot (n + 45) i M' := by
    have hd : Dr i (0 + 0 + 1) (evE (E (k + 6)) t.G (.call 18 [.var 0, .var 2]) (eR i m lo hi P vs x4 none none none none x9 none none none none none none)) (fun d => d.pure = true ∧ ∃ cs, d = tupI cs ∧ COk m lo hi P cs) := by
      refine dOf (P := fun d => ∃ cs, d = tupI cs ∧ COk m lo hi P cs) (t_of (k := k + 4)) rfl (dVar (d := rowsD m lo hi P) rfl (seqL ?_ ?_ (pures_tups _) fun d hd => ?_))
      · rw [List.length_map]
        obtain ⟨r, hr⟩ := ex_count ho
        exact List.length_pos_of_mem ((countsU_iff ho s.s5).mpr hr)
      · rw [List.length_map]; have := rows_len s; omega
      · obtain ⟨r, hr, rfl⟩ := List.mem_map.mp hd
        exact ⟨r, rfl, (countsU_iff ho s.s5).mp hr⟩
    obtain ⟨d, M', a, b, c, e⟩ := hd (n + 45) M3 (q2.mono (by omega))
    exact ⟨d, M', a, b.2, c, e⟩
  have hcl := hcs.len
  have hbh := c_behind (k := k) (M := M4) hv hvl s hcs
  have hput : evE (E (k + 6)) t.G (.bi .tuple [.comp .frz (.add (.var 11) (.var 15)) (.tp [.nm 11, .nm 15]) (.zip [.var 3, .var 5]) [] [11, 15]]) (eR i m lo hi P vs x4 (some (tupI cs)) none none none x9 none none none none none none) M4 = .ok (tupI (putL vs cs)) M4 := by
    refine (eBi1 (eMap (vs.zip cs) (fun p => D.tup [.int p.1, .int p.2]) (fun p => D.int (p.1 + p.2)) (zipI (eVar rfl) (eVar rfl)) rfl (sl (by rw [List.length_zip]; omega)) fun p hp => ⟨eR i m lo hi P vs x4 (some (tupI cs)) none none none x9 none (some (.int p.1)) none none none (some (.int p.2)), rfl, eAdd (eVar rfl) (eVar rfl)⟩)).trans ?_
    show Res.ok (D.tup _) M4 = _
    unfold putL tupI; rw [List.map_map]; rfl
  have hprp : Rp (putL vs cs).length 1 (tupI (putL vs cs)) := rp_tup (rps_ints fun z hz => by
    obtain ⟨p, hp, rfl⟩ := List.mem_map.mp hz
    have h1 := hvb _ (List.of_mem_zip hp).1
    have h2 := s.mem hcs _ (List.of_mem_zip hp).2
    omega)
  have hpl : (putL vs cs).length ≤ 4 := by unfold putL; rw [List.length_map, List.length_zip]; omega
  -- a place
  obtain ⟨x6, p6, h60, h61, e6, q6⟩ := c_take (k := k + 5) (n + 44) i M4 P (q4.mono (by omega)) (by omega) (by omega)
  obtain ⟨j, rfl⟩ := Int.eq_ofNat_of_zero_le h60
  have hj : j < cs.length := by omega
  generalize hM6 : M4.set i p6 = M6 at e6 q6
  have u6 : Upd i M4 M6 := ⟨p6, hM6.symm⟩
  -- the values
  obtain ⟨ds7, M7, e7, ⟨h7l, h7v⟩, u7, q7⟩ := d_vals (k := k + 3) (i := i) (vs := vs) s hcs (x4 := x4) (x6 := some (.int j)) (x7 := none) (x8 := none) (x9 := x9) (x10 := none) (x11 := none) (x12 := none) (x13 := none) (x14 := none) (x15 := none) (n + 40) M6 (q6.mono (by omega))
  have hi7 := q7.lt
  have ecell : evE (E (k + 6)) t.G (.lst .cell S7) (eR i m lo hi P vs x4 (some (tupI cs)) (some (.int j)) none none x9 none none none none none none) M6 = .ok (.ref M7.length) (M7 ++ [.lst ds7]) := by
    show (evEs _ t.G S7 _ M6).bind _ = _
    rw [e7, ok_bind]
    have h1 : (lineOk ds7.length && D.pures ds7) = true := by
      rw [pures_of fun d hd => (h7v d hd).pu, Bool.and_true]
      exact decide_eq_true (sl (by omega))
    rw [if_pos h1]
  obtain ⟨ds8, h8l, h8v, e8⟩ := near_run (F := E (k + 6)) (M := M7 ++ [.lst ds7]) (i := i) (vs := vs) s hcs hj (x4 := x4) (x7 := some (.ref M7.length)) (x8 := none) (x9 := x9) (x10 := none) (x11 := none) (x12 := none) (x13 := none) (x14 := none) (x15 := none)
  obtain ⟨d9, M9, e9, ⟨ds9, rfl, h9l, h9v⟩, u9, q9⟩ := d_bents (k := k + 1) (i := i) (vs := vs) s hcs (x4 := x4) (x6 := some (.int j)) (x7 := some (.ref M7.length)) (x8 := none) (x9 := x9) (x10 := none) (x11 := none) (x12 := none) (x13 := none) (x14 := none) (x15 := none) n (M7 ++ [.lst (ds7 ++ ds8)]) ((q7.mono (by omega)).app)
  obtain ⟨c9, rfl⟩ := u9
  have es9 : (M7 ++ [Cell.lst (ds7 ++ ds8)]).set i c9 = M7.set i c9 ++ [Cell.lst (ds7 ++ ds8)] := List.set_append_left _ _ hi7
  rw [es9] at e9 q9
  have hl7 : (M7.set i c9).length = M7.length := List.length_set
  have q10 := pot_down q9 (by rw [List.length_set]; exact hi7)
  have hval : ∀ x ∈ ds7 ++ ds8 ++ ds9, Val x := fun x hx => by
    rcases List.mem_append.mp hx with hx | hx
    · rcases List.mem_append.mp hx with hx | hx
      · exact h7v x hx
      · exact h8v x hx
    · exact h9v x hx
  have get7 : ∀ {l : List D} {M7' : Store}, M7'.length = M7.length → (M7' ++ [Cell.lst l])[M7.length]? = some (.lst l) := fun {l M7'} h => by rw [← h]; exact app1_0
  have set7 : ∀ {l l' : List D} {M7' : Store}, M7'.length = M7.length → (M7' ++ [Cell.lst l]).set M7.length (.lst l') = M7' ++ [Cell.lst l'] := fun {l l' M7'} h => by rw [← h]; exact set1_0
  have ext : ∀ {l xs : List D} {M7' : Store}, M7'.length = M7.length → l.length + xs.length ≤ 1000 → (∀ x ∈ xs, Val x) → mi .extend (.ref M7.length) [.lst xs] (M7' ++ [Cell.lst l]) = .ok .non (M7' ++ [Cell.lst (l ++ xs)]) := fun {l xs M7'} h hlen hx => by
    have h1 : D.pures xs = true := pures_of fun d hd => (hx d hd).pu
    have h2 : lineOk (l.length + xs.length) = true := decide_eq_true (sl hlen)
    simp only [mi, get7 h, h1, h2, set7 h, Bool.and_self, if_true]
  have isl : ∀ {l : List D} {M7' : Store}, M7'.length = M7.length → (lstOf (.ref M7.length) (M7' ++ [Cell.lst l])).isSome = true := fun {l M7'} h => by simp only [lstOf, seqOf, get7 h]; rfl
  -- each value
  obtain ⟨env10, M10, e10, ⟨y8, y10, rfl, rfl⟩⟩ := forL_inv (f := forF (E (k + 6)) t.G (.nm 8) valBody) (s := ⟨ds7 ++ ds8 ++ ds9, [(M7.length, .lst (ds7 ++ ds8 ++ ds9))]⟩) (xs := ds7 ++ ds8 ++ ds9)
    (fun done env M' => ∃ y8 y10, env = eR i m lo hi P vs x4 (some (tupI cs)) (some (.int j)) (some (.ref M7.length)) y8 x9 y10 none none none none none ∧ M' = M7.set i c9 ++ [Cell.lst (ds7 ++ ds8 ++ ds9)]) (env := eR i m lo hi P vs x4 (some (tupI cs)) (some (.int j)) (some (.ref M7.length)) none x9 none none none none none none) (M := M7.set i c9 ++ [Cell.lst (ds7 ++ ds8 ++ ds9)]) ⟨none, none, rfl, rfl⟩ (fun _ _ _ ⟨_, _, _, h⟩ => by
      rw [h]
      show (decide (_ = _) && true) = true
      rw [decide_eq_true (get7 hl7)]; rfl) (by
      rintro done x rest _ _ hx ⟨y8, y10, rfl, rfl⟩
      obtain ⟨b, e⟩ := val_run (k := k) (M := M7.set i c9 ++ [Cell.lst (ds7 ++ ds8 ++ ds9)]) (i := i) (vs := vs) s (hval x (by rw [hx]; simp)) (x4 := x4) (x5 := some (tupI cs)) (x6 := some (.int j)) (x7 := some (.ref M7.length)) (x9 := x9) (x10 := y10) (x11 := none) (x12 := none) (x13 := none) (x14 := none) (x15 := none)
      exact ⟨_, _, e, _, _, rfl, rfl⟩)
  have hit10 : evIt (E (k + 6)) t.G (.seq (.var 7)) (eR i m lo hi P vs x4 (some (tupI cs)) (some (.int j)) (some (.ref M7.length)) none x9 none none none none none none) (M7.set i c9 ++ [Cell.lst (ds7 ++ ds8 ++ ds9)]) = .ok ⟨ds7 ++ ds8 ++ ds9, [(M7.length, .lst (ds7 ++ ds8 ++ ds9))]⟩ (M7.set i c9 ++ [Cell.lst (ds7 ++ ds8 ++ ds9)]) := by
    have h2 : evE (E (k + 6)) t.G (.var 7) (eR i m lo hi P vs x4 (some (tupI cs)) (some (.int j)) (some (.ref M7.length)) none x9 none none none none none none) (M7.set i c9 ++ [Cell.lst (ds7 ++ ds8 ++ ds9)]) = .ok (.ref M7.length) (M7.set i c9 ++ [Cell.lst (ds7 ++ ds8 ++ ds9)]) := eVar rfl
    simp only [evIt, h2, ok_bind, srcSeq, get7 hl7, optR_some]
  have hit3 : evIt (E (k + 6)) t.G (.rng1 (.bi .len [.var 3])) (eR i m lo hi P vs none none none none none none none none none none none none) M3 = .ok ⟨(List.range P).map fun (p : Nat) => D.int (p : Int), []⟩ M3 := by
    rw [← rangeD0]
    refine it_rng (by omega) ?_
    have := eLenI (F := E (k + 6)) (M := M3) (e := .var 3) (l := vs) (env := eR i m lo hi P vs none none none none none none none none none none none none) (eVar rfl)
    rw [hvl] at this; exact this
  have hb : evSs (E (k + 6)) t.G b__law_right ([D.ref i].map some ++ List.replicate (16 - 1) none) M = .ok (.ret (.bl true)) (M7.set i c9 ++ [Cell.lst (ds7 ++ ds8 ++ ds9)]) := by
    refine sAsg (x := outD m lo hi) (M1 := M1) ((eCall (esCons (eVar rfl) esNil)).trans e1) rfl ?_
    refine sAsg (x := .tup [rowsD m lo hi P, tupI vs]) (M1 := M3) (eTup (esCons ((eCall (esCons (eVar rfl) esNil)).trans ec) (esCons e2 esNil)) s2) rfl ?_
    refine sFor hit3 e3 ?_
    refine sAsg e4 rfl ?_
    refine sNo (PM.eNeRepr (d := tupI (putL vs cs)) ((eCall (esCons (eVar rfl) (esCons (eVar rfl) (esCons (eVar rfl) esNil)))).trans hbh) hput hprp (by omega) (by decide) tup_ref) ?_
    refine sAsg (x := .int j) (M1 := M6) ?_ rfl ?_
    · have hl5 := eLenI (F := E (k + 6)) (M := M4) (e := .var 5) (l := cs) (env := eR i m lo hi P vs x4 (some (tupI cs)) none none none x9 none none none none none none) (eVar rfl)
      rw [hcl] at hl5
      exact (eCall (esCons (eVar rfl) (esCons hl5 esNil))).trans e6
    refine sAsg ecell rfl ?_
    refine sEx (x := .non) (M1 := M7 ++ [.lst (ds7 ++ ds8)]) (eMe (x := .ref M7.length) (eVar rfl) (isl rfl) (esCons e8 esNil) (ext rfl (by omega) h8v)) ?_
    refine sEx (x := .non) (M1 := M7.set i c9 ++ [.lst (ds7 ++ ds8 ++ ds9)]) (eMe (x := .ref M7.length) (eVar rfl) (isl rfl) (esCons e9 esNil) (ext hl7 (by rw [List.length_append]; omega) h9v)) ?_
    exact sFor hit10 e10 (sRet eC)
  have hu : Upd i M (M7.set i c9) := ((((u1.trans u2).trans u4).trans u6).trans u7).trans ⟨c9, rfl⟩
  refine ⟨.bl true, M7.set i c9, ?_, rfl, hu, q10⟩
  refine (callF_data (T := t.fns) (G := t.G) (k := k + 6) (f := 24) f__law_right rfl rfl rfl rfl hb).trans ?_
  have : (M7.set i c9 ++ [Cell.lst (ds7 ++ ds8 ++ ds9)]).take M.length = M7.set i c9 := by
    have h := take_app (M7.set i c9) [Cell.lst (ds7 ++ ds8 ++ ds9)]
    rwa [hu.len] at h
  rw [this]
end
end K11

/-! K11L: the law holds. -/
namespace K11
open PySem L2 PM
section
variable {M : Store} {k i : Nat}
theorem lap_law {ns : List Int} {x1 : Option D} : Dr i 120 (evE (E (k + 7)) t.G (.or [.not (.call 24 [.var 2]), .not (.call 24 [.var 2])]) [some (.scr ns), x1, some (.ref i)]) fun d => d = .bl false := fun n M q => by
  obtain ⟨d, M1, e1, rfl, u1, q1⟩ := d_right (k := k) (i := i) (n + 60) M (q.mono (by omega))
  obtain ⟨d, M2, e2, rfl, u2, q2⟩ := d_right (k := k) (i := i) n M1 q1
  refine ⟨.bl false, M2, ?_, rfl, u1.trans u2, q2⟩
  exact (eOrF (eNot ((eCall (esCons (eVar rfl) esNil)).trans e1))).trans (eOr1.trans (eNot ((eCall (esCons (eVar rfl) esNil)).trans e2)))
theorem c_law (ns : List Int) : ∃ M, E 10 25 [.scr ns] [] = .ok (.bl true) M := by
  obtain ⟨N, hN, e1⟩ := c_cells (k := 8) (M := []) (ns := ns)
  have hit : evIt (E 9) t.G (.seq (.call 19 [.var 0, .c (.int 3)])) [some (.scr ns), none, none] [] = .ok ⟨rangeD 0 N, []⟩ [] := it_lst ((eCall (esCons (eVar rfl) (esCons eC esNil))).trans e1)
  obtain ⟨env', M', e, ⟨x1, x2, rfl⟩⟩ := forL_inv (f := forF (E 9) t.G (.nm 1) [.asg (.nm 2) (.call 16 [.var 0, .var 1]), .if_ (.or [.not (.call 24 [.var 2]), .not (.call 24 [.var 2])]) [.ret (.c (.bl false))] []]) (s := ⟨rangeD 0 N, []⟩) (xs := rangeD 0 N)
    (fun done env M => ∃ x1 x2, env = [some (.scr ns), x1, x2]) (env := [some (.scr ns), none, none]) (M := []) ⟨none, none, rfl⟩ (fun _ _ _ _ => rfl) (by
      rintro done x rest _ M1 hx ⟨x1, x2, rfl⟩
      obtain ⟨j, hj, rfl⟩ : ∃ j : Nat, j < 3 ∧ x = .int j := by
        have hm : x ∈ rangeD 0 N := by rw [hx]; simp
        rw [rangeD0] at hm
        obtain ⟨j, hj, rfl⟩ := List.mem_map.mp hm
        have := List.mem_range.mp hj
        exact ⟨j, by omega, rfl⟩
      obtain ⟨cl, e2, hp⟩ := c_pot (k := 8) (M := M1) (ns := ns) (pl := j) (by omega)
      obtain ⟨d, M2, e3, rfl, hu, _⟩ := lap_law (k := 2) (i := M1.length) (ns := ns) (x1 := some (.int j)) 0 (M1 ++ [cl]) (hp.mono (by decide))
      refine ⟨_, M2, ?_, some (.int j), some (.ref M1.length), rfl⟩
      show evSs (E 9) t.G _ [some (.scr ns), some (.int j), x2] M1 = _
      exact sAsg ((eCall (esCons (eVar rfl) (esCons (eVar rfl) esNil))).trans e2) rfl (sNo e3 sNil))
  refine ⟨[], ?_⟩
  exact (callF_data (T := t.fns) (G := t.G) (k := 9) (f := 25) (ds := [.scr ns]) f_law rfl rfl rfl rfl (M := []) (sFor hit e (sRet eC))).trans rfl
end
end K11

namespace K11
open PySem L2 PM
abbrev hk : PySem.W.Hook := hookP 4 t.imp t.fa t.fn
end K11
open PySem PySem.W PyProof.Rows
set_option maxRecDepth 100000 in
set_option maxHeartbeats 0 in
theorem PySem.Challenge.cw_seatssure_k11_whole_counts_and_shares_holds : PySem.Challenge.rw_seatssure_k11_whole_counts_and_shares.Holds := by
  w_on
  o_law
  o_head K11.hk
  case hw => w_witness2
  case hc => exact PM.walkG (n := 63) (k := 10) (f := 25) rfl (by decide) rfl ⟨rfl, by decide, by decide⟩ rfl K11.ok (fun ns _ => K11.c_law ns)

