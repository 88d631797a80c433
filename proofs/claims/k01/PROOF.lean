import PyProof.Rows.All
import HandS.ForMost
import KE.SortData
import PyProof.ReprRoads
import HandS.TupAny
import HandS.TupMul
import HandS.Deep
import HandS.Style
import HandS.IsInst
import HandS.Flow
import HandS.Defaults
import PyProof.Rows.SetFrom
import HandS.Strs
import HandS.TupSets
import HandS.SetKeys
import KE.SortKeyed
import HandS.Keys
import HandS.SortKw
import HandS.Ends
import HandS.HeadEnd
import PyProof.StrLawsRepr
import HandS.Head0
import HandS.Head1
import HandS.Head2
import HandS.HeadHook1
import HandS.HeadHook2
import PySem.Challenge.RW_joinedtrees_k01_what_is_a_tree
set_option Elab.async false
set_option linter.all false
/-! DpSt0: what a set of listed keys holds. -/
namespace DP
section
variable {κ : Type} [BEq κ]
def put1 (l : List κ) (k : κ) : List κ := if l.any (· == k) then l else l ++ [k]
def met (val : Nat → κ) : Nat → List κ
  | 0 => []
  | i + 1 => put1 (met val i) (val i)
end
end DP

set_option maxRecDepth 100000
/-! DpSem: a small Python by values: its terms (E, C), what they do (wE, wSs), over a store of lists and dicts. -/
namespace DP
open PySem L2

/-- a datum: tuples by value, lists and dicts by their place; fz: a list that is never written -/
inductive D where
  | non | bl (b : Bool) | int (i : Int) | str (x : Str) | tup (xs : List D) | fz (xs : List D) | ref (a : Addr)

/-- what stands in the store -/
inductive Ob where
  | lst (xs : List D) | dK (kvs : List (Key × D)) | dT (kvs : List (List Key × D))
/-- what an expression gives: a datum, or an object that nothing names yet -/
inductive R where
  | v (d : D) | n (o : Ob)

abbrev Sto := Addr → Option Ob
def up (S : Sto) (a : Addr) (o : Ob) : Sto := fun b => if b = a then some o else S b
theorem up_same {S : Sto} {a : Addr} {o : Ob} : up S a o a = some o := if_pos rfl
theorem up_ne {S : Sto} {a b : Addr} {o : Ob} (h : b ≠ a) : up S a o b = S b := if_neg h

abbrev Env := List (Option D)
abbrev PR := R → Sto → Prop
abbrev PD := D → Sto → Prop

/-- an unnamed object is given a place -/
def mat (r : R) (S : Sto) (Q : PD) : Prop := match r with
  | .v d => Q d S
  | .n o => ∀ a, S a = none → Q (.ref a) (up S a o)
def see (S : Sto) : R → Option Ob
  | .n o => some o
  | .v (.ref a) => S a
  | _ => none
/-- the items of a list -/
def lstOf (S : Sto) : R → Option (List D)
  | .v (.fz xs) => some xs
  | r => match see S r with
    | some (.lst xs) => some xs
    | _ => none
/-- the items of a list or tuple -/
def seqOf (S : Sto) : R → Option (List D)
  | .v (.tup xs) => some xs
  | r => lstOf S r

/-! ### data read as a whole -/
def keyP : Key → PyData
  | .inl i => .int i
  | .inr x => .str x
def keyD : Key → D
  | .inl i => .int i
  | .inr x => .str x
mutual
inductive Rdg (S : Sto) : D → PyData → Prop
  | non : Rdg S .non .none
  | bl (b : Bool) : Rdg S (.bl b) (.bool b)
  | int (i : Int) : Rdg S (.int i) (.int i)
  | str (x : Str) : Rdg S (.str x) (.str x)
  | tup {xs : List D} {ps : List PyData} : RdgL S xs ps → Rdg S (.tup xs) (.tuple ps)
  | lst {a : Addr} {xs : List D} {ps : List PyData} : S a = some (.lst xs) → RdgL S xs ps → Rdg S (.ref a) (.list ps)
  | dK {a : Addr} {kvs : List (Key × D)} {ps : List PyData} : S a = some (.dK kvs) → RdgL S (kvs.map (·.2)) ps → Rdg S (.ref a) (.dict ((kvs.map fun kv => keyP kv.1).zip ps))
inductive RdgL (S : Sto) : List D → List PyData → Prop
  | nil : RdgL S [] []
  | cons {d : D} {ds : List D} {p : PyData} {ps : List PyData} : Rdg S d p → RdgL S ds ps → RdgL S (d :: ds) (p :: ps)
end
def RdgR (S : Sto) : R → PyData → Prop
  | .v d, p => Rdg S d p
  | .n (.lst xs), p => ∃ ps, p = .list ps ∧ RdgL S xs ps
  | .n (.dK kvs), p => ∃ ps, p = .dict ((kvs.map fun kv => keyP kv.1).zip ps) ∧ RdgL S (kvs.map (·.2)) ps
  | .n (.dT _), _ => False

/-! ### data without lists and dicts -/
mutual
def encD : D → PyData
  | .non => .none
  | .bl b => .bool b
  | .int i => .int i
  | .str x => .str x
  | .tup xs => .tuple (encDs xs)
  | .fz _ => .none
  | .ref _ => .none
def encDs : List D → List PyData
  | [] => []
  | d :: ds => encD d :: encDs ds
end
mutual
def pureD : D → Bool
  | .tup xs => pureDs xs
  | .fz _ => false
  | .ref _ => false
  | _ => true
def pureDs : List D → Bool
  | [] => true
  | d :: ds => pureD d && pureDs ds
end
theorem encDs_map : ∀ ds : List D, encDs ds = ds.map encD
  | [] => rfl
  | d :: ds => by rw [encDs, encDs_map ds]; rfl
theorem pureDs_all : ∀ ds : List D, pureDs ds = ds.all pureD
  | [] => rfl
  | d :: ds => by rw [pureDs, pureDs_all ds]; rfl
mutual
theorem rdg_pure (S : Sto) : ∀ d : D, pureD d = true → Rdg S d (encD d)
  | .non, _ => .non
  | .bl b, _ => .bl b
  | .int i, _ => .int i
  | .str x, _ => .str x
  | .tup xs, h => by rw [encD]; exact .tup (rdgL_pure S xs (by simpa only [pureD] using h))
  | .fz _, h => by simp [pureD] at h
  | .ref _, h => by simp [pureD] at h
theorem rdgL_pure (S : Sto) : ∀ ds : List D, pureDs ds = true → RdgL S ds (encDs ds)
  | [], _ => .nil
  | d :: ds, h => by
    rw [pureDs, Bool.and_eq_true] at h
    rw [encDs]
    exact .cons (rdg_pure S d h.1) (rdgL_pure S ds h.2)
end
/-- the sorted list of such data -/
def sortD (xs : List D) : List D := xs.mergeSort (PySem.W.dataLe false encD)

mutual
def hasLst : PyData → Bool
  | .list _ => true
  | .tuple xs => hasLsts xs
  | .dict kvs => hasLstK kvs
  | _ => false
def hasLsts : List PyData → Bool
  | [] => false
  | x :: xs => hasLst x || hasLsts xs
def hasLstK : List (PyData × PyData) → Bool
  | [] => false
  | (k, v) :: r => hasLst k || hasLst v || hasLstK r
end

/-! ### truth -/
def tru (S : Sto) (r : R) : Option Bool := match r with
  | .v .non => some false
  | .v (.bl b) => some b
  | .v (.int i) => some (i != 0)
  | .v (.str x) => if x.length ≤ sizeLine then some (x.length != 0) else none
  | r => match seqOf S r with
    | some xs => some (!xs.isEmpty)
    | none => match see S r with
      | some (.dK kvs) => some (!kvs.isEmpty)
      | _ => none

/-! ### what a set of listed keys holds -/
def metS (xs : List Str) : List Str := met (fun i => xs.getD i ⟨#[]⟩) xs.length
/-! ### terms -/
inductive BOp where | add | sub | mul | fdiv | mod | pow
inductive COp where | eq | ne | lt | le | gt | ge | isin | notin | is | isnot
inductive Ty where | str | tup | int | bool | list | dict
inductive Bi where | len | all | any | sorted | tupl | list | abs | int | min | max | sum | repr
inductive Me where | append | extend | pop | reverse | upper | join
/-- targets of loops and comprehensions -/
inductive TN where
  | name (i : Nat) | tup (ts : List Nat)

mutual
inductive E where
  | var (i : Nat)
  | cst (c : D)
  | glo (x : Str) (c : D)
  | tup (es : List E)
  | lst (es : List E)
  | dK (ks : List Key) (es : List E)
  | bin (o : BOp) (a b : E)
  | neg (a : E)
  | cmp (o : COp) (a b : E)
  | chn (o p : COp) (a b c : E)
  | not (a : E)
  | and (a b : E)
  | or (a b : E)
  | ite (c a b : E)
  | ix (a i : E)
  | sl (a : E) (lo hi : Option E)
  | rev (a : E)
  | isi (a : E) (t : Ty)
  | bi (b : Bi) (es : List E)
  | me (m : Me) (o : E) (es : List E)
  | call (f : Nat) (es : List E)
  | lc (elt : E) (tg : TN) (it : I) (ifs : Option E) (own : List Nat)
  | emp (neg tp : Bool) (a : E)
  | lset (a : E)
  | sset (a : E)
  | sortk (f : Nat) (a : E)
  | lc2 (elt : E) (tg : TN) (it : I) (ifs : Option E) (tg1 : TN) (it1 : I) (ifs1 : Option E) (own own1 : List Nat)
inductive I where
  | seq (e : E)
  | rng1 (a : E)
  | rng2 (a b : E)
  | enum (e : E)
end
inductive TS where
  | name (i : Nat)
  | tup (ts : List Nat)
  | sub (o i : E)
inductive C where
  | exp (e : E)
  | asg (t : TS) (e : E)
  | par (i j : Nat) (es : List E)
  | asg2 (o1 i1 o2 i2 : E) (es : List E)
  | aug (i : Nat) (o : BOp) (e : E)
  | ret (e : E)
  | ret0
  | ife (c : E) (a b : List C)
  | whl (c : E) (b : List C)
  | for (tg : TN) (it : I) (b : List C)
  | brk
  | cnt
  | pas
  | bad

/-! ### operators -/
def addW (x y : R) (S : Sto) (Q : PR) : Prop := match x, y with
  | .v (.int i), .v (.int j) => Q (.v (.int (i + j))) S
  | .v (.str i), .v (.str j) => i.length + j.length ≤ sizeLine ∧ Q (.v (.str (i ++ j))) S
  | .v (.tup xs), .v (.tup ys) => xs.length + ys.length ≤ sizeLine ∧ Q (.v (.tup (xs ++ ys))) S
  | x, y => ∃ xs ys, see S x = some (.lst xs) ∧ see S y = some (.lst ys) ∧ xs.length + ys.length ≤ sizeLine ∧ Q (.n (.lst (xs ++ ys))) S
def subW (x y : R) (S : Sto) (Q : PR) : Prop := match x, y with
  | .v (.int i), .v (.int j) => Q (.v (.int (i - j))) S
  | _, _ => False
/-- a text k times -/
def repS (z : Str) (k : Nat) : Str := ⟨(List.replicate k z.cps.toList).flatten.toArray⟩
def mulW (x y : R) (S : Sto) (Q : PR) : Prop := match x, y with
  | .v (.int i), .v (.int j) => CMul i j ∧ Q (.v (.int (i * j))) S
  | .v (.str z), .v (.int k) => 1 ≤ z.length ∧ z.length ≤ 1000 ∧ 2 ≤ k ∧ k ≤ 1000 ∧ Q (.v (.str (repS z k.toNat))) S
  | x, y => ∃ xs k, see S x = some (.lst xs) ∧ y = .v (.int k) ∧ -(2 ^ 63) ≤ k ∧ k < 2 ^ 63 ∧ xs.length * k.toNat ≤ sizeLine ∧ Q (.n (.lst (List.replicate k.toNat xs).flatten)) S
def fdivW (x y : R) (S : Sto) (Q : PR) : Prop := match x, y with
  | .v (.int i), .v (.int j) => CDivN i j ∧ Q (.v (.int (i.fdiv j))) S
  | _, _ => False
def modW (x y : R) (S : Sto) (Q : PR) : Prop := match x, y with
  | .v (.int i), .v (.int j) => j ≠ 0 ∧ Q (.v (.int (i.fmod j))) S
  | _, _ => False
def powW (x y : R) (S : Sto) (Q : PR) : Prop := match x, y with
  | .v (.int i), .v (.int j) => CPow i j ∧ Q (.v (.int (i ^ j.toNat))) S
  | _, _ => False
def opW (o : BOp) (x y : R) (S : Sto) (Q : PR) : Prop := match o with
  | .add => addW x y S Q
  | .sub => subW x y S Q
  | .mul => mulW x y S Q
  | .fdiv => fdivW x y S Q
  | .mod => modW x y S Q
  | .pow => powW x y S Q

section
variable {κ : Type} [DecidableEq κ]
def valD (kvs : List (κ × D)) (k : κ) : Option D := (kvs.find? fun kv => decide (kv.1 = k)).map (·.2)
def putD (kvs : List (κ × D)) (k : κ) (v : D) : List (κ × D) :=
  if (kvs.any fun kv => decide (kv.1 = k)) = true then kvs.map (fun kv => if kv.1 = k then (kv.1, v) else kv) else kvs ++ [(k, v)]
end
/-- a datum as a key of a dict -/
def keyOf : D → Option Key
  | .int i => some (.inl i)
  | .str x => some (.inr x)
  | _ => none
def inStr (x z : Str) : Bool := !(Builtin.Str.occurrences z x 0 z.length 1).isEmpty
def eqW (x y : R) (S : Sto) (Q : Bool → Prop) : Prop := match x, y with
  | .v (.str i), .v (.str j) => Q (decide (i = j))
  | .v (.int i), .v (.int j) => Q (decide (i = j))
  | .v (.bl i), .v (.bl j) => Q (decide (i = j))
  | x, y => ∃ p q, RdgR S x p ∧ RdgR S y q ∧ SeqAt.shaped p = true ∧ SeqAt.shaped q = true ∧ Q (PyData.eqv p q)
def inW (x y : R) (S : Sto) (Q : Bool → Prop) : Prop := match x, y with
  | .v (.str i), .v (.str j) => Q (inStr i j)
  | x, y => (∃ p qs, RdgR S x p ∧ RdgR S y (.list qs) ∧ SeqAt.shaped p = true ∧ SeqAt.shaped (.list qs) = true ∧ Q (qs.any fun q => PyData.eqv q p)) ∨
    (∃ p qs, RdgR S x p ∧ RdgR S y (.tuple qs) ∧ SeqAt.shaped p = true ∧ SeqAt.shaped (.tuple qs) = true ∧ Q (qs.any fun q => PyData.eqv q p)) ∨
    (∃ kvs d k, see S y = some (.dK kvs) ∧ x = .v d ∧ keyOf d = some k ∧ Q (valD kvs k).isSome)
def ltW (x y : R) (Q : Bool → Prop) : Prop := match x, y with
  | .v (.int i), .v (.int j) => Q (decide (i < j))
  | .v (.str i), .v (.str j) => Q (decide (i.cps.toList < j.cps.toList))
  | _, _ => False
def leW (x y : R) (Q : Bool → Prop) : Prop := match x, y with
  | .v (.int i), .v (.int j) => Q (decide (i ≤ j))
  | _, _ => False
def isW (x y : R) (Q : Bool → Prop) : Prop := match x, y with
  | .v .non, .v .non => Q true
  | _, .v .non => Q false
  | .v (.bl a), .v (.bl b) => Q (decide (a = b))
  | _, _ => False
def cmpW (o : COp) (x y : R) (S : Sto) (Q : PR) : Prop := match o with
  | .eq => eqW x y S fun b => Q (.v (.bl b)) S
  | .ne => eqW x y S fun b => Q (.v (.bl (!b))) S
  | .lt => ltW x y fun b => Q (.v (.bl b)) S
  | .le => leW x y fun b => Q (.v (.bl b)) S
  | .gt => ltW y x fun b => Q (.v (.bl b)) S
  | .ge => leW y x fun b => Q (.v (.bl b)) S
  | .isin => inW x y S fun b => Q (.v (.bl b)) S
  | .notin => inW x y S fun b => Q (.v (.bl (!b))) S
  | .is => isW x y fun b => Q (.v (.bl b)) S
  | .isnot => isW x y fun b => Q (.v (.bl (!b))) S

/-- beside the empty list, the empty tuple -/
def empW (tp : Bool) (x : R) (S : Sto) (K : Bool → Prop) : Prop := match tp with
  | true => ∃ xs, x = .v (.tup xs) ∧ K xs.isEmpty
  | false => ∃ xs, lstOf S x = some xs ∧ K xs.isEmpty
def negB (neg b : Bool) : Bool := if neg = true then !b else b

/-! ### subscripts, slices -/
def ixW (x y : R) (S : Sto) (Q : PR) : Prop := match x, y with
  | .v (.str z), .v (.int i) => z.length ≤ sizeLine ∧ ∃ c, atI z.cps.toList i = some c ∧ Q (.v (.str ⟨#[c]⟩)) S
  | x, .v (.int i) => (∃ xs d, seqOf S x = some xs ∧ atI xs i = some d ∧ Q (.v d) S) ∨ ∃ kvs d, see S x = some (.dK kvs) ∧ valD kvs (.inl i) = some d ∧ Q (.v d) S
  | x, .v (.str k) => ∃ kvs d, see S x = some (.dK kvs) ∧ valD kvs (.inr k) = some d ∧ Q (.v d) S
  | _, _ => False
/-- the items of xs[lo:hi] -/
def cut {α : Type} (xs : List α) (lo hi : Option Int) : List α := (xs.drop (HT.sIx xs.length 0 lo)).take (HT.sIx xs.length xs.length hi - HT.sIx xs.length 0 lo)
def partW (r : R) (Q : Option Int → Prop) : Prop := match r with
  | .v (.int i) => Q (some i)
  | _ => False
def slW (x : R) (lo hi : Option Int) (S : Sto) (Q : PR) : Prop := match x with
  | .v (.str z) => z.length ≤ sizeLine ∧ Q (.v (.str ⟨(cut z.cps.toList lo hi).toArray⟩)) S
  | .v (.tup xs) => Q (.v (.tup (cut xs lo hi))) S
  | x => match lstOf S x with
    | some xs => Q (.n (.lst (cut xs lo hi))) S
    | none => False
def revW (x : R) (S : Sto) (Q : PR) : Prop := match x with
  | .v (.tup xs) => Q (.v (.tup xs.reverse)) S
  | x => match lstOf S x with
    | some xs => Q (.n (.lst xs.reverse)) S
    | none => False

/-! ### kinds -/
def obTy (o : Option Ob) (t : Ty) : Option Bool := match o, t with
  | some (.lst _), .list => some true
  | some (.lst _), _ => some false
  | some (.dK _), .dict => some true
  | some (.dK _), _ => some false
  | some (.dT _), .dict => some true
  | some (.dT _), _ => some false
  | none, _ => none
def isTy (S : Sto) (r : R) (t : Ty) : Option Bool := match r, t with
  | .v .non, _ => some false
  | .v (.bl _), .bool => some true
  | .v (.bl _), .int => some true
  | .v (.bl _), _ => some false
  | .v (.int _), .int => some true
  | .v (.int _), _ => some false
  | .v (.str _), .str => some true
  | .v (.str _), _ => some false
  | .v (.tup _), .tup => some true
  | .v (.tup _), _ => some false
  | .v (.fz _), .list => some true
  | .v (.fz _), _ => some false
  | r, t => obTy (see S r) t

/-! ### built-ins -/
def strsOf : List D → Option (List Str)
  | [] => some []
  | .str x :: r => (strsOf r).map (x :: ·)
  | _ => none
def intsOf : List D → Option (List Int)
  | [] => some []
  | .int x :: r => (intsOf r).map (x :: ·)
  | _ => none
def blsOf : List D → Option (List Bool)
  | [] => some []
  | .bl x :: r => (blsOf r).map (x :: ·)
  | _ => none
def biW (b : Bi) (rs : List R) (S : Sto) (Q : PR) : Prop := match b, rs with
  | .len, [.v (.str x)] => x.length ≤ sizeLine ∧ Q (.v (.int x.length)) S
  | .len, [r] => (∃ xs, seqOf S r = some xs ∧ Q (.v (.int xs.length)) S) ∨ (∃ kvs, see S r = some (.dK kvs) ∧ Q (.v (.int kvs.length)) S)
  | .all, [r] => ∃ xs bs, lstOf S r = some xs ∧ blsOf xs = some bs ∧ Q (.v (.bl (bs.all id))) S
  | .any, [r] => ∃ xs bs, lstOf S r = some xs ∧ blsOf xs = some bs ∧ Q (.v (.bl (bs.any id))) S
  | .sorted, [r] => ∃ xs, lstOf S r = some xs ∧ pureDs xs = true ∧ PySem.W.AllAlike (xs.map encD) ∧ PySem.W.Sortable (xs.map encD) ∧ (∀ d ∈ xs, (encD d).depth ≤ 60) ∧ Q (.n (.lst (sortD xs))) S
  | .tupl, [r] => ∃ xs, seqOf S r = some xs ∧ Q (.v (.tup xs)) S
  | .list, [r] => ∃ xs, seqOf S r = some xs ∧ Q (.n (.lst xs)) S
  | .abs, [.v (.int i)] => Q (.v (.int (if i < 0 then -i else i))) S
  | .int, [.v (.int i)] => Q (.v (.int i)) S
  | .int, [.v (.bl k)] => Q (.v (.int (if k then 1 else 0))) S
  | .min, [.v (.int i), .v (.int j)] => Q (.v (.int (if j < i then j else i))) S
  | .max, [.v (.int i), .v (.int j)] => Q (.v (.int (if j > i then j else i))) S
  | .sum, [r] => ∃ xs ns, lstOf S r = some xs ∧ intsOf xs = some ns ∧ Q (.v (.int ns.sum)) S
  | .repr, [r] => ∃ p, RdgR S r p ∧ p.showable = true ∧ p.depth ≤ 60 ∧ (p.hasDict = true → hasLst p = false) ∧ p.shown.length ≤ sizeLine ∧ Q (.v (.str p.shown)) S
  | _, _ => False
/-- the kind of what a method is called of -/
def meTy (m : Me) (o : R) (S : Sto) : Prop := match m with
  | .upper => ∃ z, o = .v (.str z)
  | .join => ∃ z, o = .v (.str z)
  | _ => ∃ xs, lstOf S o = some xs
def meW (m : Me) (o : R) (ds : List D) (S : Sto) (Q : PR) : Prop := match m, o, ds with
  | .append, .v (.ref a), [d] => ∃ xs, S a = some (.lst xs) ∧ xs.length < sizeLine ∧ Q (.v .non) (up S a (.lst (xs ++ [d])))
  | .pop, .v (.ref a), [] => ∃ xs d, S a = some (.lst xs) ∧ xs[xs.length - 1]? = some d ∧ Q (.v d) (up S a (.lst xs.dropLast))
  | .pop, .v (.ref a), [.int i] => ∃ xs k d, S a = some (.lst xs) ∧ -(2 ^ 63) ≤ i ∧ i < 2 ^ 63 ∧ ixN xs.length i = some k ∧ xs[k]? = some d ∧ Q (.v d) (up S a (.lst (xs.eraseIdx k)))
  | .reverse, .v (.ref a), [] => ∃ xs, S a = some (.lst xs) ∧ Q (.v .non) (up S a (.lst xs.reverse))
  | .upper, .v (.str z), [] => z.length ≤ 5592405 ∧ Q (.v (.str (Txt.upper z))) S
  | .extend, .v (.ref a), [.ref b] => ∃ xs ys, S a = some (.lst xs) ∧ S b = some (.lst ys) ∧ xs.length + ys.length ≤ sizeLine ∧ Q (.v .non) (up S a (.lst (xs ++ ys)))
  | .join, .v (.str z), [d] => ∃ xs ss, seqOf S (.v d) = some xs ∧ strsOf xs = some ss ∧ (ss.map (·.length)).sum + ss.length * z.length ≤ 16777216 ∧ Q (.v (.str (Txt.join z ss))) S
  | _, _, _ => False

/-! ### loops -/
def signs (z : Str) : List D := z.cps.toList.map fun c => .str ⟨#[c]⟩
def lcL (step : D → Sto → (Option D → Sto → Prop) → Prop) (hold : Sto → Prop) : List D → List D → Sto → (List D → Sto → Prop) → Prop
  | [], acc, S, Q => hold S ∧ Q acc S
  | x :: xs, acc, S, Q => hold S ∧ step x S fun o S' => lcL step hold xs (acc ++ o.toList) S' Q
/-- the same, the list handed on -/
def accL (step : D → List D → Sto → (List D → Sto → Prop) → Prop) (hold : Sto → Prop) : List D → List D → Sto → (List D → Sto → Prop) → Prop
  | [], acc, S, Q => hold S ∧ Q acc S
  | x :: xs, acc, S, Q => hold S ∧ step x acc S fun acc' S' => accL step hold xs acc' S' Q
def wipeE (ρ : Env) : List Nat → Env
  | [] => ρ
  | v :: vs => (wipeE ρ vs).set v none
def bindL : List Nat → List D → Env → Env
  | i :: is, d :: ds, ρ => bindL is ds (ρ.set i (some d))
  | _, _, ρ => ρ
def bindN (t : TN) (d : D) (ρ : Env) (Q : Env → Prop) : Prop := match t, d with
  | .name i, d => Q (ρ.set i (some d))
  | .tup is, .tup ds => ds.length = is.length ∧ Q (bindL is ds ρ)
  | _, _ => False
structure Nd where
  nx : Env → Sto → Prop
  rt : PR
  bk : Env → Sto → Prop := fun _ _ => False
  ct : Env → Sto → Prop := fun _ _ => False
def forL (body : Env → Sto → Nd → Prop) (tg : TN) (hold : Sto → Prop) (nd : Nd) : List D → Env → Sto → Prop
  | [], ρ, S => hold S ∧ nd.nx ρ S
  | x :: xs, ρ, S => hold S ∧ bindN tg x ρ fun ρ' => body ρ' S { nx := forL body tg hold nd xs, ct := forL body tg hold nd xs, bk := nd.nx, rt := nd.rt }

/-- what a def does: its number, the arguments, the store, what is wanted -/
abbrev Fw := Nat → List D → Sto → PR → Prop
def seqW (r : R) (S : Sto) (K : List D → (Sto → Prop) → Prop) : Prop := match r with
  | .v (.str z) => z.length ≤ sizeLine ∧ K (signs z) fun _ => True
  | .v (.tup xs) => K xs fun _ => True
  | .v (.fz xs) => K xs fun _ => True
  | .n (.lst xs) => K xs fun _ => True
  | .v (.ref a) => ∃ xs, S a = some (.lst xs) ∧ K xs fun S' => S' a = some (.lst xs)
  | _ => False
/-- what can be walked with its numbers: a list -/
def enumW (r : R) (S : Sto) (K : List D → (Sto → Prop) → Prop) : Prop := match r with
  | .v (.fz xs) => xs.length ≤ sizeLine ∧ K xs fun _ => True
  | .n (.lst xs) => xs.length ≤ sizeLine ∧ K xs fun _ => True
  | .v (.ref a) => ∃ xs, S a = some (.lst xs) ∧ xs.length ≤ sizeLine ∧ K xs fun S' => S' a = some (.lst xs)
  | _ => False
def numD (xs : List D) : List D := xs.zipIdx.map fun p => .tup [.int (p.2 : Nat), p.1]
def rngD (lo : Int) (n : Nat) : List D := (List.range n).map fun (i : Nat) => .int (lo + i)
/-- the keys of some data, one by one -/
def keysW (F : Fw) (f : Nat) : List D → List Str → Sto → (Sto → Prop) → Prop
  | [], [], S, Q => Q S
  | d :: ds, y :: ys, S, Q => F f [d] S fun r S' => r = .v (.str y) ∧ keysW F f ds ys S' Q
  | _, _, _, _ => False
/-- data by their keys -/
def sortK (ds : List D) (ys : List Str) : List D := ((ds.zip ys).mergeSort (PySem.W.dataLe false fun p => PyData.str p.2)).map fun p => p.1
mutual
def wE (F : Fw) : E → Env → Sto → PR → Prop
  | .var i, ρ, S, Q => ∃ d, ρ[i]? = some (some d) ∧ Q (.v d) S
  | .cst c, _, S, Q => Q (.v c) S
  | .glo _ c, _, S, Q => Q (.v c) S
  | .tup es, ρ, S, Q => wEs F es ρ S fun ds S' => ds.length ≤ sizeLine ∧ Q (.v (.tup ds)) S'
  | .lst es, ρ, S, Q => wEs F es ρ S fun ds S' => ds.length ≤ sizeLine ∧ Q (.n (.lst ds)) S'
  | .dK ks es, ρ, S, Q => wEs F es ρ S fun ds S' => Q (.n (.dK (ks.zip ds))) S'
  | .bin o a b, ρ, S, Q => wE F a ρ S fun x S1 => wE F b ρ S1 fun y S2 => opW o x y S2 Q
  | .neg a, ρ, S, Q => wE F a ρ S fun x S1 => ∃ i, x = .v (.int i) ∧ Q (.v (.int (-i))) S1
  | .cmp o a b, ρ, S, Q => wE F a ρ S fun x S1 => wE F b ρ S1 fun y S2 => cmpW o x y S2 Q
  | .chn o p a b c, ρ, S, Q => wE F a ρ S fun x S1 => wE F b ρ S1 fun y S2 => cmpW o x y S2 fun z S3 => ∃ k, z = .v (.bl k) ∧
      if k = true then wE F c ρ S3 fun w S4 => cmpW p y w S4 Q else Q (.v (.bl false)) S3
  | .not a, ρ, S, Q => wE F a ρ S fun x S1 => ∃ k, tru S1 x = some k ∧ Q (.v (.bl (!k))) S1
  | .and a b, ρ, S, Q => wE F a ρ S fun x S1 => ∃ k, tru S1 x = some k ∧ if k = true then wE F b ρ S1 Q else Q x S1
  | .or a b, ρ, S, Q => wE F a ρ S fun x S1 => ∃ k, tru S1 x = some k ∧ if k = true then Q x S1 else wE F b ρ S1 Q
  | .ite c a b, ρ, S, Q => wT F c ρ S fun k S1 => if k = true then wE F a ρ S1 Q else wE F b ρ S1 Q
  | .ix a i, ρ, S, Q => wE F a ρ S fun x S1 => wE F i ρ S1 fun y S2 => ixW x y S2 Q
  | .sl a lo hi, ρ, S, Q => wE F a ρ S fun x S1 => wO F lo ρ S1 fun l S2 => wO F hi ρ S2 fun h S3 => slW x l h S3 Q
  | .rev a, ρ, S, Q => wE F a ρ S fun x S1 => revW x S1 Q
  | .isi a t, ρ, S, Q => wE F a ρ S fun x S1 => ∃ b, isTy S1 x t = some b ∧ Q (.v (.bl b)) S1
  | .bi b es, ρ, S, Q => wRs F es ρ S fun rs S1 => biW b rs S1 Q
  | .me m o es, ρ, S, Q => wE F o ρ S fun x S1 => meTy m x S1 ∧ wEs F es ρ S1 fun ds S2 => meW m x ds S2 Q
  | .call f es, ρ, S, Q => wEs F es ρ S fun ds S1 => F f ds S1 Q
  | .lc elt tg it ifs own, ρ, S, Q => wI F it ρ S fun xs hold S1 => lcL (fun x S2 k => bindN tg x (wipeE ρ own) fun ρ' => wOT F ifs ρ' S2 fun b S3 =>
      if b = true then wE F elt ρ' S3 fun r S4 => mat r S4 fun d S5 => k (some d) S5 else k none S3) hold xs [] S1 fun ds S2 => Q (.n (.lst ds)) S2
  | .sortk f a, ρ, S, Q => wE F a ρ S fun r S1 => ∃ ds ys, lstOf S1 r = some ds ∧ ys.length = ds.length ∧ keysW F f ds ys S1 fun S2 => Q (.n (.lst (sortK ds ys))) S2
  | .lset a, ρ, S, Q => wE F a ρ S fun r S1 => ∃ xs, lstOf S1 r = some (xs.map .str) ∧ xs.length < 1000 ∧ Q (.v (.int (metS xs).length)) S1
  | .emp neg tp a, ρ, S, Q => wE F a ρ S fun x S1 => ([] : List D).length ≤ sizeLine ∧ empW tp x S1 fun b => Q (.v (.bl (negB neg b))) S1
  | .sset a, ρ, S, Q => wE F a ρ S fun r S1 => ∃ xs : List Key, seqOf S1 r = some (xs.map keyD) ∧ xs.length < 1000 ∧ PySem.W.AllAlike (xs.map keyP) ∧ ∀ ys : List Key, ys.Nodup → (∀ k, k ∈ ys ↔ k ∈ xs) → Q (.n (.lst (sortD (ys.map keyD)))) S1
  | .lc2 elt tg it ifs tg1 it1 ifs1 own own1, ρ, S, Q => wI F it ρ S fun xs hold S1 => accL (fun x acc S2 k => bindN tg x (wipeE ρ own) fun ρ1 => wOT F ifs ρ1 S2 fun b S3 =>
      if b = true then wI F it1 ρ1 S3 fun ys hold1 S4 => accL (fun y acc S5 k1 => bindN tg1 y (wipeE ρ1 own1) fun ρ2 => wOT F ifs1 ρ2 S5 fun b S6 =>
        if b = true then wE F elt ρ2 S6 fun r S7 => mat r S7 fun d S8 => acc.length < sizeLine ∧ k1 (acc ++ [d]) S8 else k1 acc S6) hold1 ys acc S4 k else k acc S3) hold xs [] S1 fun ds S2 => Q (.n (.lst ds)) S2
def wO (F : Fw) : Option E → Env → Sto → (Option Int → Sto → Prop) → Prop
  | none, _, S, Q => Q none S
  | some e, ρ, S, Q => wE F e ρ S fun r S' => partW r fun i => Q i S'
def wOT (F : Fw) : Option E → Env → Sto → (Bool → Sto → Prop) → Prop
  | none, _, S, Q => Q true S
  | some e, ρ, S, Q => wT F e ρ S Q
def wEs (F : Fw) : List E → Env → Sto → (List D → Sto → Prop) → Prop
  | [], _, S, Q => Q [] S
  | e :: es, ρ, S, Q => wE F e ρ S fun r S1 => mat r S1 fun d S2 => wEs F es ρ S2 fun ds S3 => Q (d :: ds) S3
def wRs (F : Fw) : List E → Env → Sto → (List R → Sto → Prop) → Prop
  | [], _, S, Q => Q [] S
  | e :: es, ρ, S, Q => wE F e ρ S fun r S1 => wRs F es ρ S1 fun rs S2 => Q (r :: rs) S2
def wT (F : Fw) : E → Env → Sto → (Bool → Sto → Prop) → Prop
  | .not a, ρ, S, Q => wT F a ρ S fun k S1 => Q (!k) S1
  | .and a b, ρ, S, Q => wT F a ρ S fun k S1 => if k = true then wT F b ρ S1 Q else Q false S1
  | .or a b, ρ, S, Q => wT F a ρ S fun k S1 => if k = true then Q true S1 else wT F b ρ S1 Q
  | .cmp o a b, ρ, S, Q => wE F a ρ S fun x S1 => wE F b ρ S1 fun y S2 => cmpW o x y S2 fun z S3 => ∃ k, z = .v (.bl k) ∧ Q k S3
  | .chn o p a b c, ρ, S, Q => wE F a ρ S fun x S1 => wE F b ρ S1 fun y S2 => cmpW o x y S2 fun z S3 => ∃ k, z = .v (.bl k) ∧
      if k = true then wE F c ρ S3 fun w S4 => cmpW p y w S4 fun z S5 => ∃ k, z = .v (.bl k) ∧ Q k S5 else Q false S3
  | .ite c a b, ρ, S, Q => wT F c ρ S fun k S1 => if k = true then wT F a ρ S1 Q else wT F b ρ S1 Q
  | .var i, ρ, S, Q => ∃ d, ρ[i]? = some (some d) ∧ ∃ k, tru S (.v d) = some k ∧ Q k S
  | .isi a t, ρ, S, Q => wE F a ρ S fun x S1 => ∃ b, isTy S1 x t = some b ∧ ∃ k, tru S1 (.v (.bl b)) = some k ∧ Q k S1
  | .emp neg tp a, ρ, S, Q => wE F a ρ S fun x S1 => ([] : List D).length ≤ sizeLine ∧ empW tp x S1 fun b => ∃ k, (R.v (.bl (negB neg b))) = .v (.bl k) ∧ Q k S1
  | .bi b es, ρ, S, Q => wRs F es ρ S fun rs S1 => biW b rs S1 fun z S2 => ∃ k, tru S2 z = some k ∧ Q k S2
  | .me m o es, ρ, S, Q => wE F o ρ S fun x S1 => meTy m x S1 ∧ wEs F es ρ S1 fun ds S2 => meW m x ds S2 fun z S2 => ∃ k, tru S2 z = some k ∧ Q k S2
  | .call f es, ρ, S, Q => wEs F es ρ S fun ds S1 => F f ds S1 fun z S2 => ∃ k, tru S2 z = some k ∧ Q k S2
  | .ix a i, ρ, S, Q => wE F a ρ S fun x S1 => wE F i ρ S1 fun y S2 => ixW x y S2 fun z S2 => ∃ k, tru S2 z = some k ∧ Q k S2
  | _, _, _, _ => False
def wI (F : Fw) : I → Env → Sto → (List D → (Sto → Prop) → Sto → Prop) → Prop
  | .seq e, ρ, S, K => wE F e ρ S fun r S1 => seqW r S1 fun xs hold => K xs hold S1
  | .rng1 a, ρ, S, K => wE F a ρ S fun r S1 => ∃ j, r = .v (.int j) ∧ j ≤ 16777216 ∧ -(2 ^ 62) ≤ j ∧ K (rngD 0 j.toNat) (fun _ => True) S1
  | .rng2 a b, ρ, S, K => wE F a ρ S fun r S1 => wE F b ρ S1 fun q S2 => ∃ i j, r = .v (.int i) ∧ q = .v (.int j) ∧ (-(2 ^ 62) ≤ i ∧ i < 2 ^ 62 ∧ -(2 ^ 62) ≤ j ∧ j < 2 ^ 62) ∧ j - i ≤ 16777216 ∧ K (rngD i (j - i).toNat) (fun _ => True) S2
  | .enum e, ρ, S, K => wE F e ρ S fun r S1 => enumW r S1 fun xs hold => K (numD xs) hold S1
end

/-! ### statements -/
def setW (o i : R) (d : D) (S : Sto) (Q : Sto → Prop) : Prop := match o, i with
  | .v (.ref a), .v (.int k) => (∃ xs j, S a = some (.lst xs) ∧ ixN xs.length k = some j ∧ Q (up S a (.lst (xs.set j d)))) ∨ ∃ kvs, S a = some (.dK kvs) ∧ kvs.length < sizeLine ∧ Q (up S a (.dK (putD kvs (.inl k) d)))
  | .v (.ref a), .v (.str k) => ∃ kvs, S a = some (.dK kvs) ∧ kvs.length < sizeLine ∧ Q (up S a (.dK (putD kvs (.inr k) d)))
  | _, _ => False
def asgW (F : Fw) (t : TS) (d : D) (ρ : Env) (S : Sto) (k : Env → Sto → Prop) : Prop := match t with
  | .name i => k (ρ.set i (some d)) S
  | .tup is => match d with
    | .tup ds => ds.length = is.length ∧ k (bindL is ds ρ) S
    | _ => False
  | .sub o i => wE F o ρ S fun x S1 => wE F i ρ S1 fun y S2 => setW x y d S2 fun S3 => k ρ S3
mutual
def wS (F : Fw) : C → Env → Sto → Nd → Prop
  | .exp e, ρ, S, nd => wE F e ρ S fun _ S' => nd.nx ρ S'
  | .asg t e, ρ, S, nd => wE F e ρ S fun r S1 => mat r S1 fun d S2 => asgW F t d ρ S2 nd.nx
  | .par i j es, ρ, S, nd => wEs F es ρ S fun ds S1 => ∃ d e, ds = [d, e] ∧ nd.nx ((ρ.set i (some d)).set j (some e)) S1
  | .asg2 o1 i1 o2 i2 es, ρ, S, nd => wEs F es ρ S fun ds S1 => ds.length ≤ sizeLine ∧ ∃ d e, D.tup ds = .tup [d, e] ∧ wE F o1 ρ S1 fun x S2 => wE F i1 ρ S2 fun y S3 => setW x y d S3 fun S4 => wE F o2 ρ S4 fun x2 S5 => wE F i2 ρ S5 fun y2 S6 => setW x2 y2 e S6 fun S7 => nd.nx ρ S7
  | .aug i o e, ρ, S, nd => ∃ d, ρ[i]? = some (some d) ∧ wE F e ρ S fun r S1 => opW o (.v d) r S1 fun q S2 => mat q S2 fun d' S3 => nd.nx (ρ.set i (some d')) S3
  | .ret e, ρ, S, nd => wE F e ρ S nd.rt
  | .ret0, _, S, nd => nd.rt (.v .non) S
  | .ife c a b, ρ, S, nd => wT F c ρ S fun k S1 => if k = true then wSs F a ρ S1 nd else wSs F b ρ S1 nd
  | .whl c b, ρ, S, nd => ∃ J : Nat → Env → Sto → Prop, (∃ m, J m ρ S) ∧ ∀ m ρ' S', J m ρ' S' → wT F c ρ' S' fun k S1 =>
      if k = true then wSs F b ρ' S1 { nx := fun ρ2 S2 => ∃ m', m' < m ∧ J m' ρ2 S2, ct := fun ρ2 S2 => ∃ m', m' < m ∧ J m' ρ2 S2, bk := nd.nx, rt := nd.rt } else nd.nx ρ' S1
  | .for tg it b, ρ, S, nd => wI F it ρ S fun xs hold S1 => forL (fun ρ' S' nd' => wSs F b ρ' S' nd') tg hold nd xs ρ S1
  | .brk, ρ, S, nd => nd.bk ρ S
  | .cnt, ρ, S, nd => nd.ct ρ S
  | .pas, ρ, S, nd => nd.nx ρ S
  | .bad, _, _, _ => False
def wSs (F : Fw) : List C → Env → Sto → Nd → Prop
  | [], ρ, S, nd => nd.nx ρ S
  | c :: cs, ρ, S, nd => wS F c ρ S { nd with nx := fun ρ' S' => wSs F cs ρ' S' nd }
end

/-- a def: its parameters, its slots, its body -/
structure Fn where
  np : Nat
  ns : Nat
  body : List C
def startE (b : Fn) (ds : List D) : Env := ds.map some ++ List.replicate (b.ns - ds.length) none
/-- what the defs of a table do, n calls deep -/
def W (T : List Fn) : Nat → Fw
  | 0, _, _, _, _ => False
  | n + 1, f, ds, S, Q => match T[f]? with
    | none => False
    | some b => ds.length = b.np ∧ wSs (W T n) b.body (startE b ds) S { nx := fun _ S' => Q (.v .non) S', rt := Q }
theorem W_def {T : List Fn} {n f : Nat} {b : Fn} (h : T[f]? = some b) (ds : List D) (S : Sto) (Q : PR) :
    W T (n + 1) f ds S Q = (ds.length = b.np ∧ wSs (W T n) b.body (startE b ds) S { nx := fun _ S' => Q (.v .non) S', rt := Q }) := by
  show (match T[f]? with | none => False | some b => _) = _
  rw [h]
end DP

set_option maxRecDepth 100000
/-! DpRel: data and stores beside the layer's values and heaps; what an evaluation leaves. -/
namespace DP
open PySem PySem.Spec PyProof.Rows L2
section
variable (K : PySem.W.Frag) (H : Hp)
/-- a list that is known to the object (the script) -/
def FzL (a : Addr) (xs : List V) : Prop := (∃ o, H a = some (.frz o (.lst xs))) ∨
  ∃ (o : Obj) (its : Array Value) (n : Nat), K.lookup a = some o ∧ o.cls = .type "list" ∧ o.dict = none ∧ o.data = .seq its n ∧ its.size ≤ sizeLine ∧ Vals xs its.toList
mutual
def RD : D → V → Prop
  | .non, v => v = .non
  | .bl b, v => v = .bl b
  | .int i, v => v = .int i
  | .str x, v => v = .str x
  | .tup ds, v => ∃ a vs, v = .ref a ∧ SqT K H a vs ∧ RDs ds vs
  | .fz ds, v => ∃ a vs, v = .ref a ∧ FzL K H a vs ∧ RDs ds vs
  | .ref a, v => v = .ref a
def RDs : List D → List V → Prop
  | [], vs => vs = []
  | d :: ds, vs => ∃ v r, vs = v :: r ∧ RD d v ∧ RDs ds r
end
def RKv {κ : Type} (kvs : List (κ × D)) (ws : List (κ × V)) : Prop := Paired (fun (p : κ × D) (q : κ × V) => p.1 = q.1 ∧ RD K H p.2 q.2) kvs ws
def RO (a : Addr) : Ob → Prop
  | .lst ds => ∃ vs, H a = some (.lst vs) ∧ RDs K H ds vs
  | .dK kvs => ∃ ws, H a = some (.dK ws) ∧ RKv K H kvs ws
  | .dT kvs => ∃ ws, H a = some (.dT ws) ∧ RKv K H kvs ws
def RS (S : Sto) : Prop := ∀ a o, S a = some o → RO K H a o
def REnv (σ : L2.St) (ρ : Env) : Prop := σ.length = ρ.length ∧ ∀ (i : Nat) (d : D), ρ[i]? = some (some d) → ∃ v : V, σ[i]? = some (some v) ∧ RD K H d v
end
/-- a result: fresh objects are younger than H0 -/
def RR (K : PySem.W.Frag) (H0 H : Hp) (S : Sto) (r : R) (v : V) : Prop := match r with
  | .v d => RD K H d v
  | .n o => ∃ a, v = .ref a ∧ H0 a = none ∧ S a = none ∧ RO K H a o
structure Kp (S : Sto) (H : Hp) (S' : Sto) (H' : Hp) : Prop where
  keep : ∀ a o, H a = some o → S a = none → H' a = some o ∧ S' a = none
  dom : ∀ a, H' a = none → H a = none
  sdom : ∀ a, S' a = none → S a = none
section
variable {K : PySem.W.Frag} {S S' S0 S1 S2 : Sto} {H H' H0 H1 H2 : Hp} {σ : L2.St} {ρ : Env}
theorem Kp.refl : Kp S H S H := ⟨fun _ _ h h' => ⟨h, h'⟩, fun _ h => h, fun _ h => h⟩
theorem Kp.trans (a : Kp S0 H0 S1 H1) (b : Kp S1 H1 S2 H2) : Kp S0 H0 S2 H2 :=
  ⟨fun c o h h' => let ⟨x, y⟩ := a.keep c o h h'; b.keep c o x y, fun c h => a.dom c (b.dom c h), fun c h => a.sdom c (b.sdom c h)⟩
theorem RO.some {a : Addr} {o : Ob} (h : RO K H a o) : H a ≠ none := by
  cases o with
  | lst ds => obtain ⟨vs, e, _⟩ := h; rw [e]; simp
  | dK ds => obtain ⟨vs, e, _⟩ := h; rw [e]; simp
  | dT ds => obtain ⟨vs, e, _⟩ := h; rw [e]; simp
theorem RS.no (h : RS K H S) {a : Addr} (e : H a = none) : S a = none := by
  cases q : S a with
  | none => rfl
  | some o => exact absurd e (h a o q).some
/-- what is no list and no dict stands outside the store -/
theorem RS.out (h : RS K H S) {a : Addr} {u : HO} (e : H a = some u) (n1 : ∀ vs, u ≠ .lst vs) (n2 : ∀ vs, u ≠ .dK vs) (n3 : ∀ vs, u ≠ .dT vs) : S a = none := by
  cases q : S a with
  | none => rfl
  | some o =>
    have r := h a o q
    cases o with
    | lst ds => obtain ⟨vs, e', _⟩ := r; rw [e] at e'; exact absurd (Option.some.inj e') (n1 vs)
    | dK ds => obtain ⟨vs, e', _⟩ := r; rw [e] at e'; exact absurd (Option.some.inj e') (n2 vs)
    | dT ds => obtain ⟨vs, e', _⟩ := r; rw [e] at e'; exact absurd (Option.some.inj e') (n3 vs)
theorem SqT.kp {a : Addr} {vs : List V} (k : Kp S H S' H') (hs : RS K H S) (h : SqT K H a vs) : SqT K H' a vs := by
  rcases h with (h | ⟨o, h⟩) | h
  · exact .inl (.inl (k.keep a _ h (hs.out h (fun _ z => nomatch z) (fun _ z => nomatch z) fun _ z => nomatch z)).1)
  · exact .inl (.inr ⟨o, (k.keep a _ h (hs.out h (fun _ z => nomatch z) (fun _ z => nomatch z) fun _ z => nomatch z)).1⟩)
  · exact .inr h
theorem FzL.kp {a : Addr} {vs : List V} (k : Kp S H S' H') (hs : RS K H S) (h : FzL K H a vs) : FzL K H' a vs := by
  rcases h with ⟨o, h⟩ | h
  · exact .inl ⟨o, (k.keep a _ h (hs.out h (fun _ z => nomatch z) (fun _ z => nomatch z) fun _ z => nomatch z)).1⟩
  · exact .inr h
theorem FzL.sq {a : Addr} {vs : List V} (h : FzL K H a vs) : SqL K H a vs := by
  rcases h with ⟨o, h⟩ | h
  · exact .inl (.inr ⟨o, h⟩)
  · exact .inr h
mutual
theorem RD.kp (k : Kp S H S' H') (hs : RS K H S) : ∀ (d : D) (v : V), RD K H d v → RD K H' d v
  | .non, _, h => h
  | .bl _, _, h => h
  | .int _, _, h => h
  | .str _, _, h => h
  | .tup ds, _, h => by
    simp only [RD] at h ⊢
    obtain ⟨a, vs, e, h1, h2⟩ := h
    exact ⟨a, vs, e, SqT.kp k hs h1, RDs.kp k hs ds vs h2⟩
  | .fz ds, _, h => by
    simp only [RD] at h ⊢
    obtain ⟨a, vs, e, h1, h2⟩ := h
    exact ⟨a, vs, e, FzL.kp k hs h1, RDs.kp k hs ds vs h2⟩
  | .ref _, _, h => h
theorem RDs.kp (k : Kp S H S' H') (hs : RS K H S) : ∀ (ds : List D) (vs : List V), RDs K H ds vs → RDs K H' ds vs
  | [], _, h => h
  | d :: ds, _, h => by
    simp only [RDs] at h ⊢
    obtain ⟨v, r, e, h1, h2⟩ := h
    exact ⟨v, r, e, RD.kp k hs d v h1, RDs.kp k hs ds r h2⟩
end
theorem RKv.mono {κ : Type} {kvs : List (κ × D)} {ws : List (κ × V)} (f : ∀ d v, RD K H d v → RD K H' d v) (h : RKv K H kvs ws) : RKv K H' kvs ws :=
  Paired.mapP h fun p q ⟨a, b⟩ => ⟨a, f _ _ b⟩
theorem REnv.kp (k : Kp S H S' H') (hs : RS K H S) (h : REnv K H σ ρ) : REnv K H' σ ρ :=
  ⟨h.1, fun i d e => let ⟨v, e', r⟩ := h.2 i d e; ⟨v, e', RD.kp k hs d v r⟩⟩
theorem RO.kp {a : Addr} {o : Ob} (k : Kp S H S' H') (hs : RS K H S) (hn : S a = none) (h : RO K H a o) : RO K H' a o := by
  cases o with
  | lst ds => obtain ⟨vs, e, r⟩ := h; exact ⟨vs, (k.keep a _ e hn).1, RDs.kp k hs ds vs r⟩
  | dK kvs => obtain ⟨vs, e, r⟩ := h; exact ⟨vs, (k.keep a _ e hn).1, r.mono (RD.kp k hs)⟩
  | dT kvs => obtain ⟨vs, e, r⟩ := h; exact ⟨vs, (k.keep a _ e hn).1, r.mono (RD.kp k hs)⟩
/-- the weaker: an older list that nothing tells of may change -/
structure Kq (H0 : Hp) (S : Sto) (H : Hp) (S' : Sto) (H' : Hp) : Prop where
  keep : ∀ a o, H a = some o → S a = none → (H0 a = none ∨ ∀ vs, o ≠ .lst vs) → H' a = some o ∧ S' a = none
  dom : ∀ a, H' a = none → H a = none
  sdom : ∀ a, S' a = none → S a = none
theorem Kp.q (k : Kp S H S' H') : Kq H0 S H S' H' := ⟨fun a o h h' _ => k.keep a o h h', k.dom, k.sdom⟩
theorem SqT.kq {a : Addr} {vs : List V} (k : Kq H0 S H S' H') (hs : RS K H S) (h : SqT K H a vs) : SqT K H' a vs := by
  rcases h with (h | ⟨o, h⟩) | h
  · exact .inl (.inl (k.keep a _ h (hs.out h (fun _ z => nomatch z) (fun _ z => nomatch z) fun _ z => nomatch z) (.inr fun _ z => nomatch z)).1)
  · exact .inl (.inr ⟨o, (k.keep a _ h (hs.out h (fun _ z => nomatch z) (fun _ z => nomatch z) fun _ z => nomatch z) (.inr fun _ z => nomatch z)).1⟩)
  · exact .inr h
theorem FzL.kq {a : Addr} {vs : List V} (k : Kq H0 S H S' H') (hs : RS K H S) (h : FzL K H a vs) : FzL K H' a vs := by
  rcases h with ⟨o, h⟩ | h
  · exact .inl ⟨o, (k.keep a _ h (hs.out h (fun _ z => nomatch z) (fun _ z => nomatch z) fun _ z => nomatch z) (.inr fun _ z => nomatch z)).1⟩
  · exact .inr h
mutual
theorem RD.kq (k : Kq H0 S H S' H') (hs : RS K H S) : ∀ (d : D) (v : V), RD K H d v → RD K H' d v
  | .non, _, h => h
  | .bl _, _, h => h
  | .int _, _, h => h
  | .str _, _, h => h
  | .tup ds, _, h => by
    simp only [RD] at h ⊢
    obtain ⟨a, vs, e, h1, h2⟩ := h
    exact ⟨a, vs, e, SqT.kq k hs h1, RDs.kq k hs ds vs h2⟩
  | .fz ds, _, h => by
    simp only [RD] at h ⊢
    obtain ⟨a, vs, e, h1, h2⟩ := h
    exact ⟨a, vs, e, FzL.kq k hs h1, RDs.kq k hs ds vs h2⟩
  | .ref _, _, h => h
theorem RDs.kq (k : Kq H0 S H S' H') (hs : RS K H S) : ∀ (ds : List D) (vs : List V), RDs K H ds vs → RDs K H' ds vs
  | [], _, h => h
  | d :: ds, _, h => by
    simp only [RDs] at h ⊢
    obtain ⟨v, r, e, h1, h2⟩ := h
    exact ⟨v, r, e, RD.kq k hs d v h1, RDs.kq k hs ds r h2⟩
end
theorem RO.lst_kq {a : Addr} {xs : List D} (k : Kq H0 S H S' H') (hs : RS K H S) (hn : S a = none) (h0 : H0 a = none) (h : RO K H a (.lst xs)) : ∃ vs, SqL K H' a vs ∧ RDs K H' xs vs := by
  obtain ⟨vs, e, r⟩ := h
  exact ⟨vs, .inl (.inl (k.keep a _ e hn (.inl h0)).1), RDs.kq k hs xs vs r⟩
theorem RR.kp {r : R} {v : V} (k : Kp S H S' H') (hs : RS K H S) (h : RR K H0 H S r v) : RR K H0 H' S' r v := by
  cases r with
  | v d => exact RD.kp k hs d v h
  | n o =>
    obtain ⟨a, e, h0, hn, ho⟩ := h
    have hsome : ∃ u, H a = some u := by
      cases q : H a with
      | none => exact absurd q ho.some
      | some u => exact ⟨u, rfl⟩
    obtain ⟨u, hu⟩ := hsome
    exact ⟨a, e, h0, (k.keep a u hu hn).2, RO.kp k hs hn ho⟩
/-- fresh for a later heap: fresh for an earlier one -/
theorem RR.back {r : R} {v : V} (k : Kp S0 H0 S1 H1) (h : RR K H1 H S r v) : RR K H0 H S r v := by
  cases r with
  | v d => exact h
  | n o => obtain ⟨a, e, h0, hn, ho⟩ := h; exact ⟨a, e, k.dom a h0, hn, ho⟩
/-- a new untracked object -/
theorem Kp.laid {p : Addr} {u : HO} (hp : H p = none) : Kp S H S (upd H p u) :=
  ⟨fun a o h h' => ⟨by rw [upd_ne (ne_of_none h hp)]; exact h, h'⟩, fun a h => by
    by_cases e : a = p
    · subst e; exact hp
    · rw [upd_ne e] at h; exact h, fun _ h => h⟩
theorem RS.laid {p : Addr} {u : HO} (hs : RS K H S) (hp : H p = none) : RS K (upd H p u) S := fun a o e => by
  have k : Kp S H S (upd H p u) := Kp.laid hp
  have r := hs a o e
  have hne : a ≠ p := fun z => by subst z; exact r.some hp
  cases o with
  | lst ds => obtain ⟨vs, e, r⟩ := r; exact ⟨vs, by rw [upd_ne hne]; exact e, RDs.kp k hs ds vs r⟩
  | dK kvs => obtain ⟨vs, e, r⟩ := r; exact ⟨vs, by rw [upd_ne hne]; exact e, r.mono (RD.kp k hs)⟩
  | dT kvs => obtain ⟨vs, e, r⟩ := r; exact ⟨vs, by rw [upd_ne hne]; exact e, r.mono (RD.kp k hs)⟩
/-- a fresh object is named -/
theorem named {o : Ob} {a : Addr} (hs : RS K H S) (ho : RO K H a o) : RS K H (up S a o) := fun b u e => by
  by_cases h : b = a
  · subst h; rw [up_same] at e; cases e; exact ho
  · rw [up_ne h] at e; exact hs b u e
theorem Kp.named {o : Ob} {a : Addr} (k : Kp S0 H0 S H) (h0 : H0 a = none) : Kp S0 H0 (up S a o) H :=
  ⟨fun b u e h => let ⟨x, y⟩ := k.keep b u e h; ⟨x, by rw [up_ne (fun z => by subst z; rw [h0] at e; cases e)]; exact y⟩, k.dom, fun b h => by
    by_cases z : b = a
    · subst z; rw [up_same] at h; cases h
    · rw [up_ne z] at h; exact k.sdom b h⟩
theorem mat_ok {r : R} {v : V} {Q : PD} (h : mat r S Q) (rr : RR K H0 H S r v) (hs : RS K H S) (k : Kp S0 H0 S H) : ∃ d S', RD K H d v ∧ RS K H S' ∧ Kp S0 H0 S' H ∧ Q d S' := by
  cases r with
  | v d => exact ⟨d, S, rr, hs, k, h⟩
  | n o =>
    obtain ⟨a, rfl, h0, hn, ho⟩ := rr
    exact ⟨.ref a, up S a o, rfl, named hs ho, k.named h0, h a hn⟩
theorem REnv.set {i : Nat} {d : D} {v : V} (h : REnv K H σ ρ) (r : RD K H d v) : REnv K H (σ.set i (some v)) (ρ.set i (some d)) := by
  refine ⟨by rw [List.length_set, List.length_set]; exact h.1, fun j x e => ?_⟩
  by_cases hj : i = j
  · subst hj
    by_cases hl : i < ρ.length
    · rw [List.getElem?_set_self hl] at e
      cases e
      exact ⟨v, by rw [List.getElem?_set_self (by rw [h.1]; exact hl)], r⟩
    · rw [List.getElem?_eq_none (by rw [List.length_set]; omega)] at e; cases e
  · rw [List.getElem?_set_ne hj] at e
    obtain ⟨w, e', q⟩ := h.2 j x e
    exact ⟨w, by rw [List.getElem?_set_ne hj]; exact e', q⟩
theorem REnv.wipe (h : REnv K H σ ρ) : ∀ vs : List Nat, REnv K H (L2.wipe σ vs) (wipeE ρ vs)
  | [] => h
  | v :: vs => by
    have ih := REnv.wipe h vs
    refine ⟨by unfold L2.wipe wipeE; rw [List.length_set, List.length_set]; exact ih.1, fun j x e => ?_⟩
    unfold wipeE at e
    by_cases hj : v = j
    · subst hj
      by_cases hl : v < (wipeE ρ vs).length
      · rw [List.getElem?_set_self hl] at e; cases e
      · rw [List.getElem?_eq_none (by rw [List.length_set]; omega)] at e; cases e
    · rw [List.getElem?_set_ne hj] at e
      obtain ⟨w, e', q⟩ := ih.2 j x e
      exact ⟨w, by unfold L2.wipe; rw [List.getElem?_set_ne hj]; exact e', q⟩
theorem RDs.length : ∀ {ds : List D} {vs : List V}, RDs K H ds vs → ds.length = vs.length
  | [], _, h => by simp only [RDs] at h; subst h; rfl
  | d :: ds, _, h => by
    simp only [RDs] at h
    obtain ⟨v, r, e, h1, h2⟩ := h
    rw [e, List.length_cons, List.length_cons, RDs.length h2]
theorem RDs.get : ∀ {ds : List D} {vs : List V}, RDs K H ds vs → ∀ {i : Nat} {d : D}, ds[i]? = some d → ∃ v, vs[i]? = some v ∧ RD K H d v
  | [], _, _, i, d, e => by simp at e
  | x :: ds, _, h, i, d, e => by
    simp only [RDs] at h
    obtain ⟨v, r, rfl, h1, h2⟩ := h
    cases i with
    | zero => simp at e; subst e; exact ⟨v, rfl, h1⟩
    | succ i => obtain ⟨w, a, b⟩ := RDs.get h2 (i := i) (by simpa using e); exact ⟨w, by simpa using a, b⟩
theorem RDs.append : ∀ {ds es : List D} {vs ws : List V}, RDs K H ds vs → RDs K H es ws → RDs K H (ds ++ es) (vs ++ ws)
  | [], _, _, _, h, h' => by simp only [RDs] at h; subst h; exact h'
  | d :: ds, _, _, _, h, h' => by
    simp only [RDs] at h
    obtain ⟨v, r, rfl, h1, h2⟩ := h
    rw [List.cons_append, List.cons_append]
    simp only [RDs]
    exact ⟨v, _, rfl, h1, RDs.append h2 h'⟩
theorem RDs.one {d : D} {v : V} (h : RD K H d v) : RDs K H [d] [v] := by simp only [RDs]; exact ⟨v, [], rfl, h, rfl⟩
theorem RDs.mk : ∀ {ds : List D} {vs : List V}, ds.length = vs.length → (∀ (i : Nat) (d : D), ds[i]? = some d → ∃ v, vs[i]? = some v ∧ RD K H d v) → RDs K H ds vs
  | [], [], _, _ => by simp only [RDs]
  | [], _ :: _, h, _ => by simp at h
  | _ :: _, [], h, _ => by simp at h
  | d :: ds, v :: vs, h, f => by
    simp only [RDs]
    refine ⟨v, vs, rfl, ?_, RDs.mk (by simpa using h) fun i x e => ?_⟩
    · obtain ⟨w, e, r⟩ := f 0 d rfl
      simp at e; subst e; exact r
    · obtain ⟨w, e', r⟩ := f (i + 1) x (by simpa using e)
      exact ⟨w, by simpa using e', r⟩
theorem RDs.take {ds : List D} {vs : List V} (h : RDs K H ds vs) (n : Nat) : RDs K H (ds.take n) (vs.take n) := by
  refine RDs.mk (by rw [List.length_take, List.length_take, h.length]) fun i d e => ?_
  rw [List.getElem?_take] at e ⊢
  split at e
  · rename_i hi
    rw [if_pos hi]; exact h.get e
  · cases e
theorem RDs.drop {ds : List D} {vs : List V} (h : RDs K H ds vs) (n : Nat) : RDs K H (ds.drop n) (vs.drop n) := by
  refine RDs.mk (by rw [List.length_drop, List.length_drop, h.length]) fun i d e => ?_
  rw [List.getElem?_drop] at e ⊢
  exact h.get e
theorem RDs.reverse : ∀ {ds : List D} {vs : List V}, RDs K H ds vs → RDs K H ds.reverse vs.reverse
  | [], _, h => by simp only [RDs] at h; subst h; simp [RDs]
  | d :: ds, _, h => by
    simp only [RDs] at h
    obtain ⟨v, r, rfl, h1, h2⟩ := h
    rw [List.reverse_cons, List.reverse_cons]
    exact RDs.append (RDs.reverse h2) (RDs.one h1)
theorem RDs.set {ds : List D} {vs : List V} (h : RDs K H ds vs) {d : D} {v : V} (r : RD K H d v) (j : Nat) : RDs K H (ds.set j d) (vs.set j v) := by
  refine RDs.mk (by rw [List.length_set, List.length_set, h.length]) fun i x e => ?_
  by_cases hj : j = i
  · subst hj
    by_cases hl : j < ds.length
    · rw [List.getElem?_set_self hl] at e; cases e
      exact ⟨v, by rw [List.getElem?_set_self (by rw [← h.length]; exact hl)], r⟩
    · rw [List.getElem?_eq_none (by rw [List.length_set]; omega)] at e; cases e
  · rw [List.getElem?_set_ne hj] at e ⊢; exact h.get e
theorem RDs.dropLast {ds : List D} {vs : List V} (h : RDs K H ds vs) : RDs K H ds.dropLast vs.dropLast := by
  rw [List.dropLast_eq_take, List.dropLast_eq_take, h.length]; exact h.take _
theorem RDs.erase {ds : List D} {vs : List V} (h : RDs K H ds vs) (j : Nat) : RDs K H (ds.eraseIdx j) (vs.eraseIdx j) := by
  rw [List.eraseIdx_eq_take_drop_succ, List.eraseIdx_eq_take_drop_succ]
  exact (h.take j).append (h.drop (j + 1))
theorem RDs.rep {ds : List D} {vs : List V} (h : RDs K H ds vs) : ∀ k : Nat, RDs K H (List.replicate k ds).flatten (List.replicate k vs).flatten
  | 0 => by simp [RDs]
  | k + 1 => by
    rw [List.replicate_succ, List.replicate_succ, List.flatten_cons, List.flatten_cons]
    exact h.append (RDs.rep h k)
end

/-! ### evaluations -/
abbrev Ev := Env → Sto → PR → Prop
def Post (K : PySem.W.Frag) (S : Sto) (H : Hp) (Q : PR) (QV : VK) : Prop := ∀ v H' r S', RR K H H' S' r v → RS K H' S' → Kp S H S' H' → Q r S' → QV v H'
def tD (K : PySem.W.Frag) (w : Ev) : TE := fun σ H QV => ∃ ρ S Q, REnv K H σ ρ ∧ RS K H S ∧ w ρ S Q ∧ Post K S H Q QV
def tDT (K : PySem.W.Frag) (w : Env → Sto → (Bool → Sto → Prop) → Prop) : TT := fun σ H QV => ∃ ρ S Q, REnv K H σ ρ ∧ RS K H S ∧ w ρ S Q ∧ ∀ b H' S', RS K H' S' → Kp S H S' H' → Q b S' → QV b H'
def tDA (K : PySem.W.Frag) (w : Env → Sto → (List D → Sto → Prop) → Prop) : TA := fun σ H QV => ∃ ρ S Q, REnv K H σ ρ ∧ RS K H S ∧ w ρ S Q ∧ ∀ vs H' ds S', RDs K H' ds vs → RS K H' S' → Kp S H S' H' → Q ds S' → QV vs H'
def RRs (K : PySem.W.Frag) (H0 H : Hp) (S : Sto) (rs : List R) (vs : List V) : Prop := Paired (RR K H0 H S) rs vs
def tDR (K : PySem.W.Frag) (w : Env → Sto → (List R → Sto → Prop) → Prop) : TA := fun σ H QV => ∃ ρ S Q, REnv K H σ ρ ∧ RS K H S ∧ w ρ S Q ∧ ∀ vs H' rs S', RRs K H H' S' rs vs → RS K H' S' → Kp S H S' H' → Q rs S' → QV vs H'
def tDO (K : PySem.W.Frag) (w : Env → Sto → (Option Int → Sto → Prop) → Prop) : TO := fun σ H QV => ∃ ρ S Q, REnv K H σ ρ ∧ RS K H S ∧ w ρ S Q ∧ ∀ o H' S', RS K H' S' → Kp S H S' H' → Q o S' → QV o H'
/-- the end of a statement -/
def tDS (K : PySem.W.Frag) (w : Env → Sto → Nd → Prop) : L2.TS := fun D σ H => ∃ ρ S nd, REnv K H σ ρ ∧ RS K H S ∧ w ρ S nd ∧
  (∀ σ' H' ρ' S', REnv K H' σ' ρ' → RS K H' S' → Kp S H S' H' → nd.nx ρ' S' → D.nx σ' H') ∧ Post K S H nd.rt D.rt ∧
  (∀ σ' H' ρ' S', REnv K H' σ' ρ' → RS K H' S' → Kp S H S' H' → nd.bk ρ' S' → D.bk σ' H') ∧ (∀ σ' H' ρ' S', REnv K H' σ' ρ' → RS K H' S' → Kp S H S' H' → nd.ct ρ' S' → D.ct σ' H')
/-- a walk over items: what it yields, while the store holds -/
def ItOk (K : PySem.W.Frag) (H0 : Hp) (S : Sto) (H : Hp) (J : It) (xs : List D) (hold : Sto → Prop) : Prop := ∀ (i : Nat) S' H', Kq H0 S H S' H' → RS K H' S' → hold S' →
  (xs.length ≤ i → J.stop i H') ∧ ∀ d, xs[i]? = some d → J.go i H' ∧ ∀ x H2, J.yld i H' x H2 → RD K H2 d x ∧ RS K H2 S' ∧ Kp S' H' S' H2
def tDI (K : PySem.W.Frag) (w : Env → Sto → (List D → (Sto → Prop) → Sto → Prop) → Prop) : TI := fun σ H R => ∃ ρ S Q, REnv K H σ ρ ∧ RS K H S ∧ w ρ S Q ∧
  ∀ J H' xs hold S', ItOk K H S' H' J xs hold → xs.length ≤ sizeLine → RS K H' S' → Kp S H S' H' → Q xs hold S' → R J H'

theorem _root_.L2.PE.weak {X : Cx} {e : Expr} {t t' : TE} (h : PE X e t) (f : ∀ σ H Q, t' σ H Q → t σ H Q) : PE X e t' := ⟨fun pins s σ H Q I q => h.run pins s σ H Q I (f _ _ _ q)⟩
theorem _root_.L2.PT.weak {X : Cx} {e : Expr} {t t' : TT} (h : PT X e t) (f : ∀ σ H Q, t' σ H Q → t σ H Q) : PT X e t' := ⟨fun pins s σ H Q I q => h.run pins s σ H Q I (f _ _ _ q)⟩
theorem _root_.L2.PW.weak {X : Cx} {e : Expr} {t t' : TT} (h : PW X e t) (f : ∀ σ H Q, t' σ H Q → t σ H Q) : PW X e t' := ⟨fun wh pins s σ H Q I q => h.run wh pins s σ H Q I (f _ _ _ q)⟩
theorem _root_.L2.PA.weak {X : Cx} {e : List Expr} {t t' : TA} (h : PA X e t) (f : ∀ σ H Q, t' σ H Q → t σ H Q) : PA X e t' := ⟨fun pos pins s σ H Q I q => h.run pos pins s σ H Q I (f _ _ _ q)⟩
theorem _root_.L2.PS.weak {X : Cx} {e : Stmt} {t t' : L2.TS} (h : PS X e t) (f : ∀ D σ H, t' D σ H → t D σ H) : PS X e t' := ⟨fun pins s σ H D I q => h.run pins s σ H D I (f _ _ _ q)⟩
theorem _root_.L2.PSs.weak {X : Cx} {e : List Stmt} {t t' : L2.TS} (h : PSs X e t) (f : ∀ D σ H, t' D σ H → t D σ H) : PSs X e t' := ⟨fun pins s σ H D I q => h.run pins s σ H D I (f _ _ _ q)⟩
theorem _root_.L2.PI.weak {X : Cx} {tg e : Expr} {t t' : TI} (h : PI X tg e t) (f : ∀ σ H R, t' σ H R → t σ H R) : PI X tg e t' := ⟨fun pins s σ H R I q => h.run pins s σ H R I (f _ _ _ q)⟩
theorem _root_.L2.PO.weak {X : Cx} {e : Option Expr} {t t' : TO} (h : PO X e t) (f : ∀ σ H R, t' σ H R → t σ H R) : PO X e t' := ⟨fun pins s σ H R I q => h.run pins s σ H R I (f _ _ _ q)⟩
section
variable {K : PySem.W.Frag} {S S0 S1 S2 : Sto} {H H0 H1 H2 : Hp} {σ : L2.St} {ρ : Env} {wa wb : Ev}
/-- one evaluation, then something by its result -/
theorem tD1 {k : R → Sto → Prop} {QV : VK} (re : REnv K H σ ρ) (hs : RS K H S) (h : wa ρ S k) (f : ∀ r v H1 S1, RR K H H1 S1 r v → RS K H1 S1 → Kp S H S1 H1 → REnv K H1 σ ρ → k r S1 → QV v H1) : tD K wa σ H QV :=
  ⟨ρ, S, k, re, hs, h, fun v H' r S' a b c d => f r v H' S' a b c (re.kp c hs) d⟩
theorem tD2 {k : R → R → Sto → Prop} {QV : V → V → Hp → Prop} (re : REnv K H σ ρ) (hs : RS K H S) (h : wa ρ S fun x S1 => wb ρ S1 fun y S2 => k x y S2)
    (f : ∀ x y v u H2 S2, RR K H H2 S2 x v → RR K H H2 S2 y u → RS K H2 S2 → Kp S H S2 H2 → k x y S2 → QV v u H2) : tD K wa σ H fun v H1 => tD K wb σ H1 fun u H2 => QV v u H2 :=
  tD1 re hs h fun x v H1 S1 r1 s1 k1 re1 q => tD1 re1 s1 q fun y u H2 S2 r2 s2 k2 _ q => f x y v u H2 S2 (r1.kp k2 s1) (r2.back k1) s2 (k1.trans k2) q
theorem Post.sub {S' : Sto} {H' : Hp} {Q : PR} {QV : VK} (p : Post K S H Q QV) (k : Kp S H S' H') : Post K S' H' Q QV := fun v H2 r S2 a b c d => p v H2 r S2 (a.back k) b (k.trans c) d
/-- the result is the datum d, nothing has changed -/
theorem Post.at {S' : Sto} {H' : Hp} {Q : PR} {QV : VK} {r : R} {v : V} (p : Post K S H Q QV) (k : Kp S H S' H') (hs : RS K H' S') (rr : RR K H H' S' r v) (q : Q r S') : QV v H' := p v H' r S' rr hs k q
/-- the result is a new tuple -/
theorem Post.tup {S' : Sto} {H' : Hp} {Q : PR} {QV : VK} {ds : List D} {vs : List V} {p : Addr} (po : Post K S H Q QV) (k : Kp S H S' H') (hs : RS K H' S') (hp : H' p = none) (r : RDs K H' ds vs) (q : Q (.v (.tup ds)) S') : QV (.ref p) (upd H' p (.tup vs)) := by
  have k2 : Kp S' H' S' (upd H' p (.tup vs)) := Kp.laid hp
  refine po _ _ _ S' ?_ (hs.laid hp) (k.trans k2) q
  show RD K _ (.tup ds) _
  simp only [RD]
  exact ⟨p, vs, rfl, .inl (.inl upd_same), RDs.kp k2 hs ds vs r⟩
/-- the result is a new list -/
theorem Post.lst {S' : Sto} {H' : Hp} {Q : PR} {QV : VK} {ds : List D} {vs : List V} {p : Addr} (po : Post K S H Q QV) (k : Kp S H S' H') (hs : RS K H' S') (hp : H' p = none) (r : RDs K H' ds vs) (q : Q (.n (.lst ds)) S') : QV (.ref p) (upd H' p (.lst vs)) := by
  have k2 : Kp S' H' S' (upd H' p (.lst vs)) := Kp.laid hp
  have rr : RR K H (upd H' p (.lst vs)) S' (.n (.lst ds)) (.ref p) := ⟨p, rfl, k.dom p hp, hs.no hp, vs, upd_same, RDs.kp k2 hs ds vs r⟩
  exact po _ _ _ S' rr (hs.laid hp) (k.trans k2) q
/-- an object of the store is written -/
theorem Kp.wrote {a : Addr} {o : Ob} {u : HO} (hs : RS K H S) (ha : S a ≠ none) : Kp S H (up S a o) (upd H a u) := by
  have hne : ∀ b, S b = none → b ≠ a := fun b hb z => by subst z; exact ha hb
  have hH : H a ≠ none := by
    cases q : S a with
    | none => exact absurd q ha
    | some o' => exact (hs a o' q).some
  refine ⟨fun b x h h' => ⟨by rw [upd_ne (hne b h')]; exact h, by rw [up_ne (hne b h')]; exact h'⟩, fun b h => ?_, fun b h => ?_⟩
  · by_cases z : b = a
    · subst z; rw [upd_same] at h; cases h
    · rw [upd_ne z] at h; exact h
  · by_cases z : b = a
    · subst z; rw [up_same] at h; cases h
    · rw [up_ne z] at h; exact h
theorem RS.wrote {a : Addr} {o : Ob} {u : HO} (hs : RS K H S) (ha : S a ≠ none) (ho : RO K (upd H a u) a o) : RS K (upd H a u) (up S a o) := fun b x e => by
  have k : Kp S H (up S a o) (upd H a u) := Kp.wrote hs ha
  by_cases z : b = a
  · subst z; rw [up_same] at e; cases e; exact ho
  · rw [up_ne z] at e
    have r := hs b x e
    cases x with
    | lst ds => obtain ⟨vs, e, r⟩ := r; exact ⟨vs, by rw [upd_ne z]; exact e, RDs.kp k hs ds vs r⟩
    | dK kvs => obtain ⟨vs, e, r⟩ := r; exact ⟨vs, by rw [upd_ne z]; exact e, r.mono (RD.kp k hs)⟩
    | dT kvs => obtain ⟨vs, e, r⟩ := r; exact ⟨vs, by rw [upd_ne z]; exact e, r.mono (RD.kp k hs)⟩
/-- what a list, a tuple, a dict is by its value -/
theorem see_lst {x : R} {v : V} {ds : List D} (hs : RS K H S) (r : RR K H0 H S x v) (h : see S x = some (.lst ds)) : ∃ a vs, v = .ref a ∧ H a = some (.lst vs) ∧ RDs K H ds vs := by
  cases x with
  | n o =>
    obtain ⟨a, e, _, _, ho⟩ := r
    have e2 : o = .lst ds := Option.some.inj h
    subst e2
    obtain ⟨vs, h1, h2⟩ := ho
    exact ⟨a, vs, e, h1, h2⟩
  | v d =>
    cases d with
    | ref a =>
      obtain ⟨vs, h1, h2⟩ := hs a _ h
      exact ⟨a, vs, r, h1, h2⟩
    | _ => cases h
theorem see_dK {x : R} {v : V} {kvs : List (Key × D)} (hs : RS K H S) (r : RR K H0 H S x v) (h : see S x = some (.dK kvs)) : ∃ a ws, v = .ref a ∧ H a = some (.dK ws) ∧ RKv K H kvs ws := by
  cases x with
  | n o =>
    obtain ⟨a, e, _, _, ho⟩ := r
    have e2 : o = .dK kvs := Option.some.inj h
    subst e2
    obtain ⟨vs, h1, h2⟩ := ho
    exact ⟨a, vs, e, h1, h2⟩
  | v d =>
    cases d with
    | ref a =>
      obtain ⟨vs, h1, h2⟩ := hs a _ h
      exact ⟨a, vs, r, h1, h2⟩
    | _ => cases h
theorem see_dT {x : R} {v : V} {kvs : List (List Key × D)} (hs : RS K H S) (r : RR K H0 H S x v) (h : see S x = some (.dT kvs)) : ∃ a ws, v = .ref a ∧ H a = some (.dT ws) ∧ RKv K H kvs ws := by
  cases x with
  | n o =>
    obtain ⟨a, e, _, _, ho⟩ := r
    have e2 : o = .dT kvs := Option.some.inj h
    subst e2
    obtain ⟨vs, h1, h2⟩ := ho
    exact ⟨a, vs, e, h1, h2⟩
  | v d =>
    cases d with
    | ref a =>
      obtain ⟨vs, h1, h2⟩ := hs a _ h
      exact ⟨a, vs, r, h1, h2⟩
    | _ => cases h
theorem lstOf_sq {x : R} {v : V} {ds : List D} (hs : RS K H S) (r : RR K H0 H S x v) (h : lstOf S x = some ds) : ∃ a vs, v = .ref a ∧ SqL K H a vs ∧ RDs K H ds vs := by
  have go : ∀ x, RR K H0 H S x v → (match see S x with | some (Ob.lst xs) => some xs | _ => none) = some ds → ∃ a vs, v = .ref a ∧ SqL K H a vs ∧ RDs K H ds vs := fun x r h => by
    split at h
    · rename_i xs hx
      cases h
      obtain ⟨a, vs, e, h1, h2⟩ := see_lst hs r hx
      exact ⟨a, vs, e, .inl (.inl h1), h2⟩
    · cases h
  cases x with
  | n o => exact go _ r h
  | v d =>
    cases d with
    | fz xs =>
      have e : xs = ds := Option.some.inj h
      rw [e] at r
      have r : RD K H (.fz ds) v := r
      simp only [RD] at r
      obtain ⟨a, vs, e, h1, h2⟩ := r
      exact ⟨a, vs, e, h1.sq, h2⟩
    | _ => exact go _ r h
theorem seqOf_sq {x : R} {v : V} {ds : List D} (hs : RS K H S) (r : RR K H0 H S x v) (h : seqOf S x = some ds) : ∃ a vs, v = .ref a ∧ (SqL K H a vs ∨ SqT K H a vs) ∧ RDs K H ds vs := by
  have go : ∀ x, RR K H0 H S x v → lstOf S x = some ds → ∃ a vs, v = .ref a ∧ (SqL K H a vs ∨ SqT K H a vs) ∧ RDs K H ds vs := fun x r h =>
    let ⟨a, vs, e, h1, h2⟩ := lstOf_sq hs r h
    ⟨a, vs, e, .inl h1, h2⟩
  cases x with
  | n o => exact go _ r h
  | v d =>
    cases d with
    | tup xs =>
      have e : xs = ds := Option.some.inj h
      rw [e] at r
      have r : RD K H (.tup ds) v := r
      simp only [RD] at r
      obtain ⟨a, vs, e, h1, h2⟩ := r
      exact ⟨a, vs, e, .inr h1, h2⟩
    | _ => exact go _ r h
end
end DP

set_option maxRecDepth 100000
set_option maxHeartbeats 1000000
/-! DpSnd: each construct of the small Python is read by the layer. -/
namespace DP
open PySem PySem.Spec PyProof.Rows L2
section
variable {X : Cx} {K : PySem.W.Frag} {S S0 S1 S2 : Sto} {H H0 H1 H2 : Hp} {σ : L2.St} {ρ : Env} {a b c : Expr} {wa wb wc : Ev} {pos : Pos}

/-! ### names, constants -/
theorem s_var {i : Nat} (h : PE X a (tVar i)) : PE X a (tD K fun ρ S Q => ∃ d, ρ[i]? = some (some d) ∧ Q (.v d) S) :=
  h.weak fun σ H QV ⟨ρ, S, Q, re, hs, ⟨d, e, q⟩, po⟩ => by
    obtain ⟨v, e', r⟩ := re.2 i d e
    exact ⟨v, e', po v H (.v d) S r hs Kp.refl q⟩
theorem s_cst {d : D} {v : V} (r : ∀ H, RD K H d v) (h : PE X a (tC v)) : PE X a (tD K fun _ S Q => Q (.v d) S) :=
  h.weak fun σ H QV ⟨ρ, S, Q, re, hs, q, po⟩ => po v H (.v d) S (r H) hs Kp.refl q

/-! ### two operands -/
theorem s_op {op : Operator} {r : R2} {k : R → R → Sto → PR → Prop} (ho : OpR X (binaryOp op) r) (ha : PE X a (tD X.K wa)) (hb : PE X b (tD X.K wb))
    (f : ∀ x y v u S0 H0 S H Q QV, RR X.K H0 H S x v → RR X.K H0 H S y u → RS X.K H S → Kp S0 H0 S H → k x y S Q → Post X.K S0 H0 Q QV → r v u H QV) :
    PE X (.BinOp a op b pos) (tD X.K fun ρ S Q => wa ρ S fun x S1 => wb ρ S1 fun y S2 => k x y S2 Q) :=
  (pe_op ho ha hb).weak fun σ H QV ⟨ρ, S, Q, re, hs, h, po⟩ => tD2 re hs h fun x y v u H2 S2 r1 r2 s2 k2 q => f x y v u S H S2 H2 Q QV r1 r2 s2 k2 q po
theorem s_cmp {op : CmpOp} {r : R2} {k : R → R → Sto → PR → Prop} (ho : OpR X (compareOp op) r) (ha : PE X a (tD X.K wa)) (hb : PE X b (tD X.K wb)) (hm : behindInMarks op b = false)
    (f : ∀ x y v u S0 H0 S H Q QV, RR X.K H0 H S x v → RR X.K H0 H S y u → RS X.K H S → Kp S0 H0 S H → k x y S Q → Post X.K S0 H0 Q QV → r v u H QV) :
    PE X (.Compare a [op] [b] pos) (tD X.K fun ρ S Q => wa ρ S fun x S1 => wb ρ S1 fun y S2 => k x y S2 Q) :=
  (pe_cmpR ho ha hb hm).weak fun σ H QV ⟨ρ, S, Q, re, hs, h, po⟩ => tD2 re hs h fun x y v u H2 S2 r1 r2 s2 k2 q => f x y v u S H S2 H2 Q QV r1 r2 s2 k2 q po
/-- a wish about a truth -/
theorem Post.bool {QT : Bool → Hp → Prop} {Q : Bool → Sto → Prop} (po : ∀ b H' S', RS K H' S' → Kp S H S' H' → Q b S' → QT b H') :
    Post K S H (fun z S3 => ∃ k, z = .v (.bl k) ∧ Q k S3) fun x H1 => ∃ k, x = .bl k ∧ QT k H1 := fun v H' r S' rr hs k ⟨b, e, q⟩ => by
  subst e
  exact ⟨b, rr, po b H' S' hs k q⟩
theorem s_cmpT {op : CmpOp} {r : R2} {k : R → R → Sto → PR → Prop} (ho : OpR X (compareOp op) r) (ha : PE X a (tD X.K wa)) (hb : PE X b (tD X.K wb)) (hm : behindInMarks op b = false)
    (f : ∀ x y v u S0 H0 S H Q QV, RR X.K H0 H S x v → RR X.K H0 H S y u → RS X.K H S → Kp S0 H0 S H → k x y S Q → Post X.K S0 H0 Q QV → r v u H QV) :
    PT X (.Compare a [op] [b] pos) (tDT X.K fun ρ S Q => wa ρ S fun x S1 => wb ρ S1 fun y S2 => k x y S2 fun z S3 => ∃ k, z = .v (.bl k) ∧ Q k S3) :=
  (pt_cmpR ho ha hb hm).weak fun σ H QT ⟨ρ, S, Q, re, hs, h, po⟩ => tD2 re hs h fun x y v u H2 S2 r1 r2 s2 k2 q => f x y v u S H S2 H2 _ _ r1 r2 s2 k2 q (Post.bool po)

/-! ### the operators by values -/
/-- what a result is where it is the datum d -/
theorem Post.dat {S' : Sto} {H' : Hp} {Q : PR} {QV : VK} {d : D} {v : V} (po : Post K S H Q QV) (k : Kp S H S' H') (hs : RS K H' S') (r : RD K H' d v) (q : Q (.v d) S') : QV v H' := po v H' (.v d) S' r hs k q
theorem op_add_all : OpR X (binaryOp .Add) (fun x y H Q => (((rI0 fun i j => .int (i + j)) x y H Q ∨ (∃ i j, x = .str i ∧ y = .str j ∧ i.length + j.length ≤ sizeLine ∧ Q (.str (i ++ j)) H)) ∨ rCatA X.K x y H Q) ∨ rCat x y H Q) :=
  ((op_add.or op_add_str).or op_catA).or op_cat
theorem add_tup {xs ys : List D} {x y : V} {Q : PR} {QV : VK} (r1 : RD K H (.tup xs) x) (r2 : RD K H (.tup ys) y) (hs : RS K H S) (k : Kp S0 H0 S H) (hz : xs.length + ys.length ≤ sizeLine) (q : Q (.v (.tup (xs ++ ys))) S) (po : Post K S0 H0 Q QV) : rCatA K x y H QV := by
  have r1' := r1
  have r2' := r2
  simp only [RD] at r1' r2'
  obtain ⟨a, vs, rfl, h1, d1⟩ := r1'
  obtain ⟨b, us, rfl, h2, d2⟩ := r2'
  refine ⟨a, b, vs, us, rfl, rfl, h1, h2, by rw [← d1.length, ← d2.length]; exact hz, fun e => ?_, fun _ e => ?_, fun _ _ p hp => ?_⟩
  · have e' : xs = [] := List.length_eq_zero_iff.mp (by rw [d1.length, e]; rfl)
    rw [e', List.nil_append] at q
    exact po.dat k hs r2 q
  · have e' : ys = [] := List.length_eq_zero_iff.mp (by rw [d2.length, e]; rfl)
    rw [e', List.append_nil] at q
    exact po.dat k hs r1 q
  · exact po.tup k hs hp (d1.append d2) q
theorem add_lst {x y : R} {v u : V} {xs ys : List D} {Q : PR} {QV : VK} (r1 : RR K H0 H S x v) (r2 : RR K H0 H S y u) (hs : RS K H S) (k : Kp S0 H0 S H) (e1 : see S x = some (.lst xs)) (e2 : see S y = some (.lst ys)) (hz : xs.length + ys.length ≤ sizeLine)
    (q : Q (.n (.lst (xs ++ ys))) S) (po : Post K S0 H0 Q QV) : rCat v u H QV := by
  obtain ⟨a, vs, rfl, h1, d1⟩ := see_lst hs r1 e1
  obtain ⟨b, us, rfl, h2, d2⟩ := see_lst hs r2 e2
  exact ⟨a, b, vs, us, rfl, rfl, h1, h2, by rw [← d1.length, ← d2.length]; exact hz, fun p hp => po.lst k hs hp (d1.append d2) q⟩
theorem rd_int {i : Int} : RD K H (.int i) (.int i) := rfl
theorem rd_str {i : Str} : RD K H (.str i) (.str i) := rfl
theorem rd_bl {i : Bool} : RD K H (.bl i) (.bl i) := rfl
theorem rd_non : RD K H .non .non := rfl
theorem l_add {x y : R} {v u : V} {Q : PR} {QV : VK} (r1 : RR K H0 H S x v) (r2 : RR K H0 H S y u) (hs : RS K H S) (k : Kp S0 H0 S H) (h : addW x y S Q) (po : Post K S0 H0 Q QV) :
    (((rI0 fun i j => .int (i + j)) v u H QV ∨ (∃ i j, v = .str i ∧ u = .str j ∧ i.length + j.length ≤ sizeLine ∧ QV (.str (i ++ j)) H)) ∨ rCatA K v u H QV) ∨ rCat v u H QV := by
  unfold addW at h
  split at h
  · exact .inl (.inl (.inl ⟨_, _, r1, r2, po.dat k hs rd_int h⟩))
  · exact .inl (.inl (.inr ⟨_, _, r1, r2, h.1, po.dat k hs rd_str h.2⟩))
  · exact .inl (.inr (add_tup r1 r2 hs k h.1 h.2 po))
  · obtain ⟨xs, ys, e1, e2, hz, q⟩ := h
    exact .inr (add_lst r1 r2 hs k e1 e2 hz q po)
theorem l_sub {x y : R} {v u : V} {Q : PR} {QV : VK} (r1 : RR K H0 H S x v) (r2 : RR K H0 H S y u) (hs : RS K H S) (k : Kp S0 H0 S H) (h : subW x y S Q) (po : Post K S0 H0 Q QV) : (rI0 fun i j => .int (i - j)) v u H QV := by
  unfold subW at h
  split at h
  · exact ⟨_, _, r1, r2, po.dat k hs rd_int h⟩
  · exact h.elim
theorem l_fdiv {x y : R} {v u : V} {Q : PR} {QV : VK} (r1 : RR K H0 H S x v) (r2 : RR K H0 H S y u) (hs : RS K H S) (k : Kp S0 H0 S H) (h : fdivW x y S Q) (po : Post K S0 H0 Q QV) : (rI CDivN fun i j => .int (i.fdiv j)) v u H QV := by
  unfold fdivW at h
  split at h
  · exact ⟨_, _, r1, r2, h.1, po.dat k hs rd_int h.2⟩
  · exact h.elim
theorem l_mod {x y : R} {v u : V} {Q : PR} {QV : VK} (r1 : RR K H0 H S x v) (r2 : RR K H0 H S y u) (hs : RS K H S) (k : Kp S0 H0 S H) (h : modW x y S Q) (po : Post K S0 H0 Q QV) : (rI (fun _ j => j ≠ 0) fun i j => .int (i.fmod j)) v u H QV := by
  unfold modW at h
  split at h
  · exact ⟨_, _, r1, r2, h.1, po.dat k hs rd_int h.2⟩
  · exact h.elim
theorem l_pow {x y : R} {v u : V} {Q : PR} {QV : VK} (r1 : RR K H0 H S x v) (r2 : RR K H0 H S y u) (hs : RS K H S) (k : Kp S0 H0 S H) (h : powW x y S Q) (po : Post K S0 H0 Q QV) : (rI CPow fun i j => .int (i ^ j.toNat)) v u H QV := by
  unfold powW at h
  split at h
  · exact ⟨_, _, r1, r2, h.1, po.dat k hs rd_int h.2⟩
  · exact h.elim
def rRepS : R2 := fun x y H Q => ∃ z k, x = .str z ∧ y = .int k ∧ 1 ≤ z.length ∧ z.length ≤ 1000 ∧ 2 ≤ k ∧ k ≤ 1000 ∧ Q (.str (repS z k.toNat)) H
theorem rep_size (z : Str) : ∀ (m : Nat) (acc : Array Nat), ((List.replicate m z.cps).foldl (· ++ ·) acc) = (acc.toList ++ (List.replicate m z.cps.toList).flatten).toArray
  | 0, acc => by simp
  | m + 1, acc => by
    rw [List.replicate_succ, List.foldl_cons, rep_size z m, List.replicate_succ, List.flatten_cons]
    simp
theorem op_repS {X : Cx} : OpR X (binaryOp .Mult) rRepS := by
  intro pins s σ H x y v u Q I rx ry h
  obtain ⟨z, k, rfl, rfl, h1, h2, h3, h4, q⟩ := h
  obtain ⟨t, rfl⟩ := rx
  obtain ⟨t', rfl⟩ := ry
  have h5 : ¬ k < 1 := by omega
  have e1 : (k == 1) = false := beq_eq_false_iff_ne.mpr (by omega)
  have e2 : (z.length == 0) = false := beq_eq_false_iff_ne.mpr (by omega)
  have h6 : (k == 1 || z.length == 0) = false := by rw [e1, e2]; rfl
  have hk : k.toNat ≤ 1000 := by omega
  have hb : z.length * k.toNat ≤ 1000 * 1000 := Nat.mul_le_mul h2 hk
  have hl : sizeLine = 16777216 := sizeLine_eq
  have el : (repS z k.toNat).length = z.length * k.toNat := by
    show (List.replicate k.toNat z.cps.toList).flatten.toArray.size = z.cps.size * k.toNat
    rw [List.size_toArray, List.length_flatten, List.map_replicate, List.sum_replicate_nat, Array.length_toList, Nat.mul_comm]
  refine P.mul_str ?_ (fun _ _ => ?_) (fun _ _ => ?_) ?_
  · have a : decide (k < -(2 ^ 63 : Int)) = false := decide_eq_false (by omega)
    have b : decide (k ≥ 2 ^ 63) = false := decide_eq_false (by omega)
    rw [a, b]; rfl
  · intro w
    have hz : (z.length : Int) ≤ 1000 := by omega
    have d : (1000 : Int) ≤ (2 ^ 63 - 1) / k := by
      rw [Int.le_ediv_iff_mul_le (by omega)]
      omega
    omega
  · exact decide_eq_false (by omega)
  · rw [if_neg h5, h6, if_neg (by simp)]
    have e3 : (List.replicate k.toNat z.cps).foldl (· ++ ·) #[] = (repS z k.toNat).cps := by
      rw [rep_size z k.toNat #[]]; simp [repS]
    show (Made.str ⟨(List.replicate k.toNat z.cps).foldl (· ++ ·) #[]⟩).post _ s
    rw [e3]
    exact ⟨by show (repS z k.toNat).length ≤ _; omega, .str (repS z k.toNat), H, I.tok _, ⟨_, rfl⟩, q⟩
theorem l_mul {x y : R} {v u : V} {Q : PR} {QV : VK} (r1 : RR K H0 H S x v) (r2 : RR K H0 H S y u) (hs : RS K H S) (k : Kp S0 H0 S H) (h : mulW x y S Q) (po : Post K S0 H0 Q QV) :
    ((rI CMul fun i j => .int (i * j)) v u H QV ∨ rRep v u H QV) ∨ rRepS v u H QV := by
  unfold mulW at h
  split at h
  · exact .inl (.inl ⟨_, _, r1, r2, h.1, po.dat k hs rd_int h.2⟩)
  · exact .inr ⟨_, _, r1, r2, h.1, h.2.1, h.2.2.1, h.2.2.2.1, po.dat k hs rd_str h.2.2.2.2⟩
  · obtain ⟨xs, n, e, rfl, h1, h2, h3, q⟩ := h
    obtain ⟨a, vs, rfl, e1, d1⟩ := see_lst hs r1 e
    exact .inl (.inr ⟨a, n, vs, rfl, r2, e1, h1, h2, by rw [← d1.length]; exact h3, fun p hp => po.lst k hs hp (d1.rep _) q⟩)
/-- all the operators -/
theorem s_bin {o : BOp} {op : Operator} (e : (match o, op with | .add, .Add => true | .sub, .Sub => true | .mul, .Mult => true | .fdiv, .FloorDiv => true | .mod, .Mod => true | .pow, .Pow => true | _, _ => false) = true)
    (ha : PE X a (tD X.K wa)) (hb : PE X b (tD X.K wb)) : PE X (.BinOp a op b pos) (tD X.K fun ρ S Q => wa ρ S fun x S1 => wb ρ S1 fun y S2 => opW o x y S2 Q) := by
  cases o <;> cases op <;> first
    | (exact absurd e (by decide))
    | exact s_op op_add_all ha hb fun x y v u S0 H0 S H Q QV r1 r2 hs k h po => l_add r1 r2 hs k h po
    | exact s_op op_sub ha hb fun x y v u S0 H0 S H Q QV r1 r2 hs k h po => l_sub r1 r2 hs k h po
    | exact s_op ((op_mul.or op_rep).or op_repS) ha hb fun x y v u S0 H0 S H Q QV r1 r2 hs k h po => l_mul r1 r2 hs k h po
    | exact s_op op_fdivN ha hb fun x y v u S0 H0 S H Q QV r1 r2 hs k h po => l_fdiv r1 r2 hs k h po
    | exact s_op op_modN ha hb fun x y v u S0 H0 S H Q QV r1 r2 hs k h po => l_mod r1 r2 hs k h po
    | exact s_op op_pow ha hb fun x y v u S0 H0 S H Q QV r1 r2 hs k h po => l_pow r1 r2 hs k h po
end
end DP

set_option maxRecDepth 100000
set_option maxHeartbeats 1000000
/-! DpSn2: comparisons, subscripts, slices, built-ins, methods. -/
namespace DP
open PySem PySem.Spec PyProof.Rows L2
section
variable {K : PySem.W.Frag} {S S0 : Sto} {H H0 Ha Hb : Hp}
/-! ### data as a whole -/
theorem RKv.vals {kvs : List (Key × D)} {ws : List (Key × V)} (h : RKv K H kvs ws) : RDs K H (kvs.map (·.2)) (ws.map (·.2)) := by
  unfold RKv at h
  induction h with
  | nil => simp [RDs]
  | cons r t ih => simp only [List.map_cons, RDs]; exact ⟨_, _, rfl, r.2, ih⟩
theorem lay_list {ps : List PyData} (h : (PyData.list ps).canLay0 = true) : PyData.canLayAll0 ps = true := by simpa only [PyData.canLay0] using h
theorem lay_tuple {ps : List PyData} (h : (PyData.tuple ps).canLay0 = true) : PyData.canLayAll0 ps = true := by simpa only [PyData.canLay0] using h
theorem lay_cons {p : PyData} {ps : List PyData} (h : PyData.canLayAll0 (p :: ps) = true) : p.canLay0 = true ∧ PyData.canLayAll0 ps = true := by simpa only [PyData.canLayAll0, Bool.and_eq_true] using h
mutual
theorem Rdg.dp (hs : RS K H S) : ∀ (p : PyData) (d : D) (v : V), Rdg S d p → p.canLay0 = true → RD K H d v → Dp K H v p
  | .none, _, _, h, _, r => by cases h; cases (show _ = V.non from r); exact .non
  | .bool b, _, _, h, _, r => by cases h; cases (show _ = V.bl b from r); exact .bl b
  | .int i, _, _, h, _, r => by cases h; cases (show _ = V.int i from r); exact .int i
  | .str x, _, _, h, _, r => by cases h; cases (show _ = V.str x from r); exact .str x
  | .list ps, _, _, h, hc, r => by
    cases h with
    | @lst a xs _ e hl =>
      cases (show _ = V.ref a from r)
      obtain ⟨vs, e1, d1⟩ := hs a _ e
      exact .lst (.inl (.inl e1)) (RdgL.dp hs ps xs vs hl (lay_list hc) d1)
  | .tuple ps, _, _, h, hc, r => by
    cases h with
    | @tup xs _ hl =>
      simp only [RD] at r
      obtain ⟨a, vs, rfl, e1, d1⟩ := r
      exact .tup e1 (RdgL.dp hs ps xs vs hl (lay_tuple hc) d1)
  | .dict _, _, _, _, hc, _ => by simp [PyData.canLay0] at hc
theorem RdgL.dp (hs : RS K H S) : ∀ (ps : List PyData) (ds : List D) (vs : List V), RdgL S ds ps → PyData.canLayAll0 ps = true → RDs K H ds vs → DpAll K H vs ps
  | [], _, _, h, _, r => by cases h; simp only [RDs] at r; subst r; exact .nil
  | p :: ps, _, _, h, hc, r => by
    cases h with
    | @cons d ds _ _ h1 h2 =>
      simp only [RDs] at r
      obtain ⟨v, r, rfl, r1, r2⟩ := r
      exact .cons (Rdg.dp hs p d v h1 (lay_cons hc).1 r1) (RdgL.dp hs ps ds r h2 (lay_cons hc).2 r2)
end
theorem RdgR.dp {x : R} {v : V} {p : PyData} (hs : RS K H S) (r : RR K H0 H S x v) (h : RdgR S x p) (hp : SeqAt.shaped p = true) : Dp K H v p := by
  have hc := SeqAt.canLay_of_shaped hp
  cases x with
  | v d => exact Rdg.dp hs p d v h hc r
  | n o =>
    obtain ⟨a, rfl, _, _, ho⟩ := r
    cases o with
    | lst xs =>
      obtain ⟨ps, rfl, h⟩ := h
      obtain ⟨vs, e1, d1⟩ := ho
      exact .lst (.inl (.inl e1)) (RdgL.dp hs ps xs vs h (lay_list hc) d1)
    | dK kvs =>
      obtain ⟨ps, rfl, h⟩ := h
      simp [PyData.canLay0] at hc
    | dT kvs => exact h.elim

/-! ### comparisons -/
theorem l_eq {x y : R} {v u : V} {f : Bool → Bool} {Q : PR} {QV : VK} (r1 : RR K Ha H S x v) (r2 : RR K Hb H S y u) (hs : RS K H S) (k : Kp S0 H0 S H) (h : eqW x y S fun b => Q (.v (.bl (f b))) S) (po : Post K S0 H0 Q QV) :
    (scal v u = true ∧ QV (.bl (f (decide (v = u)))) H) ∨ ∃ d e, Dp K H v d ∧ Dp K H u e ∧ SeqAt.shaped d = true ∧ SeqAt.shaped e = true ∧ QV (.bl (f (PyData.eqv d e))) H := by
  unfold eqW at h
  split at h
  · rename_i i j
    cases (show v = V.str i from r1)
    cases (show u = V.str j from r2)
    have e : decide (V.str i = V.str j) = decide (i = j) := by simp
    exact .inl ⟨rfl, by rw [e]; exact po.dat k hs rd_bl h⟩
  · rename_i i j
    cases (show v = V.int i from r1)
    cases (show u = V.int j from r2)
    have e : decide (V.int i = V.int j) = decide (i = j) := by simp
    exact .inl ⟨rfl, by rw [e]; exact po.dat k hs rd_bl h⟩
  · rename_i i j
    cases (show v = V.bl i from r1)
    cases (show u = V.bl j from r2)
    have e : decide (V.bl i = V.bl j) = decide (i = j) := by simp
    exact .inl ⟨rfl, by rw [e]; exact po.dat k hs rd_bl h⟩
  · obtain ⟨p, q, h1, h2, s1, s2, h⟩ := h
    exact .inr ⟨p, q, RdgR.dp hs r1 h1 s1, RdgR.dp hs r2 h2 s2, s1, s2, po.dat k hs rd_bl h⟩
def rLt : R2 := fun x y H Q => (rI0 fun i j => .bl (decide (i < j))) x y H Q ∨ ∃ i j, x = .str i ∧ y = .str j ∧ Q (.bl (decide (i.cps.toList < j.cps.toList))) H
def rGt : R2 := fun x y H Q => (rI0 fun i j => .bl (decide (j < i))) x y H Q ∨ ∃ i j, x = .str i ∧ y = .str j ∧ Q (.bl (decide (j.cps.toList < i.cps.toList))) H
theorem l_lt {x y : R} {v u : V} {Q : PR} {QV : VK} (r1 : RR K Ha H S x v) (r2 : RR K Hb H S y u) (hs : RS K H S) (k : Kp S0 H0 S H) (h : ltW x y fun b => Q (.v (.bl b)) S) (po : Post K S0 H0 Q QV) : rLt v u H QV := by
  unfold ltW at h
  split at h
  · exact .inl ⟨_, _, r1, r2, po.dat k hs rd_bl h⟩
  · exact .inr ⟨_, _, r1, r2, po.dat k hs rd_bl h⟩
  · exact h.elim
theorem l_gt {x y : R} {v u : V} {Q : PR} {QV : VK} (r1 : RR K Ha H S x v) (r2 : RR K Hb H S y u) (hs : RS K H S) (k : Kp S0 H0 S H) (h : ltW y x fun b => Q (.v (.bl b)) S) (po : Post K S0 H0 Q QV) : rGt v u H QV := by
  unfold ltW at h
  split at h
  · exact .inl ⟨_, _, r1, r2, po.dat k hs rd_bl h⟩
  · exact .inr ⟨_, _, r1, r2, po.dat k hs rd_bl h⟩
  · exact h.elim
theorem l_le {x y : R} {v u : V} {Q : PR} {QV : VK} (r1 : RR K Ha H S x v) (r2 : RR K Hb H S y u) (hs : RS K H S) (k : Kp S0 H0 S H) (h : leW x y fun b => Q (.v (.bl b)) S) (po : Post K S0 H0 Q QV) : (rI0 fun i j => .bl (decide (i ≤ j))) v u H QV := by
  unfold leW at h
  split at h
  · exact ⟨_, _, r1, r2, po.dat k hs rd_bl h⟩
  · exact h.elim
theorem l_ge {x y : R} {v u : V} {Q : PR} {QV : VK} (r1 : RR K Ha H S x v) (r2 : RR K Hb H S y u) (hs : RS K H S) (k : Kp S0 H0 S H) (h : leW y x fun b => Q (.v (.bl b)) S) (po : Post K S0 H0 Q QV) : (rI0 fun i j => .bl (decide (j ≤ i))) v u H QV := by
  unfold leW at h
  split at h
  · exact ⟨_, _, r1, r2, po.dat k hs rd_bl h⟩
  · exact h.elim
def rIs (f : Bool → Bool) : R2 := fun x y H Q => (y = .non ∧ Q (.bl (f (decide (x = .non)))) H) ∨ ∃ a b : Bool, x = .bl a ∧ y = .bl b ∧ Q (.bl (f (decide (a = b)))) H
theorem RR.nonnon {x : R} {v : V} (r : RR K H0 H S x v) (h : x ≠ .v .non) : decide (v = .non) = false := by
  refine decide_eq_false fun e => ?_
  subst e
  cases x with
  | n o => obtain ⟨a, e, _⟩ := r; cases e
  | v d =>
    cases d with
    | non => exact h rfl
    | bl b => exact nomatch (show V.non = V.bl b from r)
    | int b => exact nomatch (show V.non = V.int b from r)
    | str b => exact nomatch (show V.non = V.str b from r)
    | ref b => exact nomatch (show V.non = V.ref b from r)
    | tup b => have r : RD K H (.tup b) .non := r; simp only [RD] at r; obtain ⟨a, _, e, _⟩ := r; cases e
    | fz b => have r : RD K H (.fz b) .non := r; simp only [RD] at r; obtain ⟨a, _, e, _⟩ := r; cases e
theorem l_is {x y : R} {v u : V} {f : Bool → Bool} {Q : PR} {QV : VK} (r1 : RR K Ha H S x v) (r2 : RR K Hb H S y u) (hs : RS K H S) (k : Kp S0 H0 S H) (h : isW x y fun b => Q (.v (.bl (f b))) S) (po : Post K S0 H0 Q QV) : rIs f v u H QV := by
  unfold isW at h
  split at h
  · have e1 : v = .non := r1
    have e2 : u = .non := r2
    subst e1 e2
    exact .inl ⟨rfl, po.dat k hs rd_bl h⟩
  · rename_i hn
    refine .inl ⟨r2, ?_⟩
    rw [RR.nonnon r1 fun e => hn e]
    exact po.dat k hs rd_bl h
  · exact .inr ⟨_, _, r1, r2, po.dat k hs rd_bl h⟩
  · exact h.elim
/-! in -/
theorem RKv.val {κ : Type} [DecidableEq κ] {kvs : List (κ × D)} {ws : List (κ × V)} (h : RKv K H kvs ws) (k : κ) : (∀ d, valD kvs k = some d → ∃ v, valV ws k = some v ∧ RD K H d v) ∧ (valD kvs k = none → valV ws k = none) := by
  unfold RKv at h
  induction h with
  | nil => exact ⟨fun d e => by simp [valD] at e, fun _ => rfl⟩
  | @cons p q ps qs r t ih =>
    unfold valD valV at ih ⊢
    rw [List.find?_cons, List.find?_cons, ← r.1]
    by_cases e : p.1 = k
    · rw [decide_eq_true e]
      refine ⟨fun d hd => ⟨q.2, rfl, ?_⟩, fun hn => ?_⟩
      · have e2 : p.2 = d := Option.some.inj hd
        rw [← e2]; exact r.2
      · cases hn
    · rw [decide_eq_false e]
      exact ih
theorem RKv.isSome {κ : Type} [DecidableEq κ] {kvs : List (κ × D)} {ws : List (κ × V)} (h : RKv K H kvs ws) (k : κ) : (valD kvs k).isSome = (valV ws k).isSome := by
  obtain ⟨h1, h2⟩ := h.val k
  cases e : valD kvs k with
  | none => rw [h2 e]; rfl
  | some d => obtain ⟨v, e', _⟩ := h1 d e; rw [e']; rfl
theorem keyOf_rd {d : D} {k : Key} {v : V} (h : keyOf d = some k) (r : RD K H d v) : v = kV k := by
  cases d with
  | int i => cases h; exact r
  | str i => cases h; exact r
  | _ => cases h
def rInA (K : PySem.W.Frag) (f : Bool → Bool) : R2 := fun x y H Q => (∃ i j, x = .str i ∧ y = .str j ∧ Q (.bl (f (inStr i j))) H) ∨
  (∃ d ds, Dp K H x d ∧ (Dp K H y (.list ds) ∨ Dp K H y (.tuple ds)) ∧ SeqAt.shaped d = true ∧ PyData.canLayAll0 ds = true ∧ Q (.bl (f (ds.any fun z => PyData.eqv z d))) H) ∨
  ∃ a o, y = .ref a ∧ DGet H a x o ∧ Q (.bl (f o.isSome)) H
theorem op_inA {X : Cx} (hu : X.A.units + 65 < cLine) : OpR X (compareOp .In) (rInA X.K fun b => b) := by
  intro pins s σ H x y v u Q I rx ry h
  rcases h with ⟨i, j, rfl, rfl, q⟩ | ⟨d, ds, hd, he, sd, se, q⟩ | ⟨a, o, rfl, g, q⟩
  · exact op_in_str pins s σ H _ _ v u Q I rx ry ⟨i, j, rfl, rfl, q⟩
  · obtain ⟨as, r1⟩ := Dp.reads I d x v hd rx
    rcases he with he | he
    · obtain ⟨bs, r2⟩ := Dp.reads I (.list ds) y u he ry
      exact SeqAt.in_list_reads r2 r1 se (SeqAt.canLay_of_shaped sd) (room_in_shaped sd hu) ⟨.bl _, H, I, rfl, q⟩
    · obtain ⟨bs, r2⟩ := Dp.reads I (.tuple ds) y u he ry
      exact SeqAt.in_tuple_reads r2 r1 se (SeqAt.canLay_of_shaped sd) (room_in_shaped sd hu) ⟨.bl _, H, I, rfl, q⟩
  · cases ry
    exact d_in (by omega) I g rx fun s3 I3 => ⟨.bl o.isSome, H, I3, rfl, q⟩
theorem op_notInA {X : Cx} (hu : X.A.units + 65 < cLine) : OpR X (compareOp .NotIn) (rInA X.K fun b => !b) := by
  intro pins s σ H x y v u Q I rx ry h
  rcases h with ⟨i, j, rfl, rfl, q⟩ | ⟨d, ds, hd, he, sd, se, q⟩ | ⟨a, o, rfl, g, q⟩
  · exact op_notin_str pins s σ H _ _ v u Q I rx ry ⟨i, j, rfl, rfl, q⟩
  · obtain ⟨as, r1⟩ := Dp.reads I d x v hd rx
    rcases he with he | he
    · obtain ⟨bs, r2⟩ := Dp.reads I (.list ds) y u he ry
      exact SeqAt.notIn_list_reads r2 r1 se (SeqAt.canLay_of_shaped sd) (room_in_shaped sd hu) ⟨.bl _, H, I, rfl, q⟩
    · obtain ⟨bs, r2⟩ := Dp.reads I (.tuple ds) y u he ry
      exact SeqAt.notIn_tuple_reads r2 r1 se (SeqAt.canLay_of_shaped sd) (room_in_shaped sd hu) ⟨.bl _, H, I, rfl, q⟩
  · cases ry
    exact d_notIn (by omega) I g rx fun s3 I3 => ⟨.bl (!o.isSome), H, I3, rfl, q⟩
theorem shaped_list {qs : List PyData} (h : SeqAt.shaped (.list qs) = true) : PyData.canLayAll0 qs = true := lay_list (SeqAt.canLay_of_shaped h)
theorem shaped_tuple {qs : List PyData} (h : SeqAt.shaped (.tuple qs) = true) : PyData.canLayAll0 qs = true := lay_tuple (SeqAt.canLay_of_shaped h)
theorem l_in {x y : R} {v u : V} {f : Bool → Bool} {Q : PR} {QV : VK} (r1 : RR K Ha H S x v) (r2 : RR K Hb H S y u) (hs : RS K H S) (k : Kp S0 H0 S H) (h : inW x y S fun b => Q (.v (.bl (f b))) S) (po : Post K S0 H0 Q QV) : rInA K f v u H QV := by
  unfold inW at h
  split at h
  · exact .inl ⟨_, _, r1, r2, po.dat k hs rd_bl h⟩
  · rcases h with ⟨p, qs, h1, h2, s1, s2, h⟩ | ⟨p, qs, h1, h2, s1, s2, h⟩ | ⟨kvs, d, ky, e, rfl, ek, h⟩
    · exact .inr (.inl ⟨p, qs, RdgR.dp hs r1 h1 s1, .inl (RdgR.dp hs r2 h2 s2), s1, shaped_list s2, po.dat k hs rd_bl h⟩)
    · exact .inr (.inl ⟨p, qs, RdgR.dp hs r1 h1 s1, .inr (RdgR.dp hs r2 h2 s2), s1, shaped_tuple s2, po.dat k hs rd_bl h⟩)
    · obtain ⟨a, ws, rfl, e1, rk⟩ := see_dK hs r2 e
      have ev : v = kV ky := keyOf_rd ek r1
      subst ev
      rw [rk.isSome ky] at h
      exact .inr (.inr ⟨a, valV ws ky, rfl, DGet.k e1, po.dat k hs rd_bl h⟩)
end
section
variable {X : Cx} {a b c : Expr} {wa wb wc : Ev} {pos : Pos}
def copC : COp → CmpOp
  | .eq => .Eq | .ne => .NotEq | .lt => .Lt | .le => .LtE | .gt => .Gt | .ge => .GtE | .isin => .In | .notin => .NotIn | .is => .Is | .isnot => .IsNot
/-- every comparison by values -/
structure CmpOk (X : Cx) (o : COp) (r : R2) : Prop where
  op : OpR X (compareOp (copC o)) r
  l : ∀ x y v u S0 H0 S H Ha Hb Q QV, RR X.K Ha H S x v → RR X.K Hb H S y u → RS X.K H S → Kp S0 H0 S H → cmpW o x y S Q → Post X.K S0 H0 Q QV → r v u H QV
theorem op_is_all : OpR X (compareOp .Is) (rIs fun b => b) := op_isN.or op_isBl
theorem op_isnot_all : OpR X (compareOp .IsNot) (rIs fun b => !b) := op_notN.or op_notBl
theorem cmp_ok (hu : X.A.units + 65 < cLine) (o : COp) : ∃ r, CmpOk X o r := by
  cases o with
  | eq => exact ⟨_, op_eq.or (op_eqD (by omega)), fun x y v u S0 H0 S H Ha Hb Q QV r1 r2 hs k h po => l_eq (f := fun b => b) r1 r2 hs k h po⟩
  | ne => exact ⟨_, op_ne.or (op_neD (by omega)), fun x y v u S0 H0 S H Ha Hb Q QV r1 r2 hs k h po => l_eq (f := fun b => !b) r1 r2 hs k h po⟩
  | lt => exact ⟨_, op_lt.or op_lt_str, fun x y v u S0 H0 S H Ha Hb Q QV r1 r2 hs k h po => l_lt r1 r2 hs k h po⟩
  | le => exact ⟨_, op_le, fun x y v u S0 H0 S H Ha Hb Q QV r1 r2 hs k h po => l_le r1 r2 hs k h po⟩
  | gt => exact ⟨_, op_gt.or op_gt_str, fun x y v u S0 H0 S H Ha Hb Q QV r1 r2 hs k h po => l_gt r1 r2 hs k h po⟩
  | ge => exact ⟨_, op_ge, fun x y v u S0 H0 S H Ha Hb Q QV r1 r2 hs k h po => l_ge r1 r2 hs k h po⟩
  | isin => exact ⟨_, op_inA hu, fun x y v u S0 H0 S H Ha Hb Q QV r1 r2 hs k h po => l_in (f := fun b => b) r1 r2 hs k h po⟩
  | notin => exact ⟨_, op_notInA hu, fun x y v u S0 H0 S H Ha Hb Q QV r1 r2 hs k h po => l_in (f := fun b => !b) r1 r2 hs k h po⟩
  | is => exact ⟨_, op_is_all, fun x y v u S0 H0 S H Ha Hb Q QV r1 r2 hs k h po => l_is (f := fun b => b) r1 r2 hs k h po⟩
  | isnot => exact ⟨_, op_isnot_all, fun x y v u S0 H0 S H Ha Hb Q QV r1 r2 hs k h po => l_is (f := fun b => !b) r1 r2 hs k h po⟩
theorem s_cmpE {o : COp} (hu : X.A.units + 65 < cLine) (ha : PE X a (tD X.K wa)) (hb : PE X b (tD X.K wb)) (hm : behindInMarks (copC o) b = false) :
    PE X (.Compare a [copC o] [b] pos) (tD X.K fun ρ S Q => wa ρ S fun x S1 => wb ρ S1 fun y S2 => cmpW o x y S2 Q) := by
  obtain ⟨r, c⟩ := cmp_ok (X := X) hu o
  exact s_cmp c.op ha hb hm fun x y v u S0 H0 S H Q QV r1 r2 hs k h po => c.l x y v u S0 H0 S H H0 H0 Q QV r1 r2 hs k h po
theorem s_cmpET {o : COp} (hu : X.A.units + 65 < cLine) (ha : PE X a (tD X.K wa)) (hb : PE X b (tD X.K wb)) (hm : behindInMarks (copC o) b = false) :
    PT X (.Compare a [copC o] [b] pos) (tDT X.K fun ρ S Q => wa ρ S fun x S1 => wb ρ S1 fun y S2 => cmpW o x y S2 fun z S3 => ∃ k, z = .v (.bl k) ∧ Q k S3) := by
  obtain ⟨r, c⟩ := cmp_ok (X := X) hu o
  exact s_cmpT c.op ha hb hm fun x y v u S0 H0 S H Q QV r1 r2 hs k h po => c.l x y v u S0 H0 S H H0 H0 Q QV r1 r2 hs k h po
/-- a op b op c -/
theorem s_chnE {o p : COp} (hu : X.A.units + 65 < cLine) (ha : PE X a (tD X.K wa)) (hb : PE X b (tD X.K wb)) (hc : PE X c (tD X.K wc)) (hm : behindInMarks (copC o) b = false) (hm2 : behindInMarks (copC p) c = false) :
    PE X (.Compare a [copC o, copC p] [b, c] pos) (tD X.K fun ρ S Q => wa ρ S fun x S1 => wb ρ S1 fun y S2 => cmpW o x y S2 fun z S3 => ∃ k, z = .v (.bl k) ∧
      if k = true then wc ρ S3 fun w S4 => cmpW p y w S4 Q else Q (.v (.bl false)) S3) := by
  obtain ⟨r, c1⟩ := cmp_ok (X := X) hu o
  obtain ⟨r', c2⟩ := cmp_ok (X := X) hu p
  refine (pe_chain c1.op c2.op ha hb hc (by rw [← hm2]; rfl)).weak fun σ H QV ⟨ρ, S, Q, re, hs, h, po⟩ => ?_
  refine tD1 re hs h fun x v H1 S1 r1 s1 k1 re1 q => tD1 re1 s1 q fun y u H2 S2 r2 s2 k2 re2 q => ?_
  refine c1.l x y v u S2 H2 S2 H2 H H1 _ _ (r1.kp k2 s1) r2 s2 Kp.refl q fun z H3 r3 S3 rr s3 k3 ⟨k, e, q⟩ => ?_
  subst e
  refine ⟨k, rr, ?_⟩
  have k13 : Kp S H S3 H3 := (k1.trans k2).trans k3
  cases k with
  | false => exact po.dat k13 s3 rd_bl q
  | true => exact tD1 (re2.kp k3 s2) s3 q fun w u' H4 S4 r4 s4 k4 re4 q => c2.l y w u u' S H S4 H4 H1 H3 Q QV ((r2.kp k3 s2).kp k4 s3) r4 s4 (k13.trans k4) q po
theorem s_chnET {o p : COp} (hu : X.A.units + 65 < cLine) (ha : PE X a (tD X.K wa)) (hb : PE X b (tD X.K wb)) (hc : PE X c (tD X.K wc)) (hm : behindInMarks (copC o) b = false) (hm2 : behindInMarks (copC p) c = false) :
    PT X (.Compare a [copC o, copC p] [b, c] pos) (tDT X.K fun ρ S Q => wa ρ S fun x S1 => wb ρ S1 fun y S2 => cmpW o x y S2 fun z S3 => ∃ k, z = .v (.bl k) ∧
      if k = true then wc ρ S3 fun w S4 => cmpW p y w S4 fun z S5 => ∃ k, z = .v (.bl k) ∧ Q k S5 else Q false S3) := by
  obtain ⟨r, c1⟩ := cmp_ok (X := X) hu o
  obtain ⟨r', c2⟩ := cmp_ok (X := X) hu p
  refine (pt_chain c1.op c2.op ha hb hc (by rw [← hm2]; rfl)).weak fun σ H QT ⟨ρ, S, Q, re, hs, h, po⟩ => ?_
  refine tD1 re hs h fun x v H1 S1 r1 s1 k1 re1 q => tD1 re1 s1 q fun y u H2 S2 r2 s2 k2 re2 q => ?_
  refine c1.l x y v u S2 H2 S2 H2 H H1 _ _ (r1.kp k2 s1) r2 s2 Kp.refl q fun z H3 r3 S3 rr s3 k3 ⟨k, e, q⟩ => ?_
  subst e
  refine ⟨k, rr, ?_⟩
  have k13 : Kp S H S3 H3 := (k1.trans k2).trans k3
  cases k with
  | false => exact ⟨false, rfl, po false H3 S3 s3 k13 q⟩
  | true => exact tD1 (re2.kp k3 s2) s3 q fun w u' H4 S4 r4 s4 k4 re4 q => c2.l y w u u' S H S4 H4 H1 H3 _ _ ((r2.kp k3 s2).kp k4 s3) r4 s4 (k13.trans k4) q (Post.bool po)
end
end DP

set_option maxRecDepth 100000
set_option maxHeartbeats 1000000
/-! DpSn3: subscripts, slices, kinds, built-ins, methods. -/
namespace DP
open PySem PySem.Spec PyProof.Rows L2
section
variable {K : PySem.W.Frag} {S S0 : Sto} {H H0 Ha Hb : Hp}
/-! ### subscripts -/
theorem atI_rds {xs : List D} {vs : List V} (r : RDs K H xs vs) {i : Int} {d : D} (h : atI xs i = some d) : ∃ v, atI vs i = some v ∧ RD K H d v := by
  unfold atI at h ⊢
  rw [← r.length]
  cases e : ixN xs.length i with
  | none => rw [e] at h; cases h
  | some j =>
    rw [e] at h
    exact r.get h
def rIxA (K : PySem.W.Frag) : R2 := fun x y H Q => rIx K x y H Q ∨ ∃ a v, x = .ref a ∧ DGet H a y (some v) ∧ Q v H
theorem ix_dict {X : Cx} (hu : X.A.units + 1 < cLine) : IxR X fun x y H Q => ∃ a v, x = .ref a ∧ DGet H a y (some v) ∧ Q v H := by
  intro value slice pins s σ H x y v u Q I rx ry h hsub
  obtain ⟨a, z, rfl, g, q⟩ := h
  cases rx
  exact tail_any (dict_typeIs I g) PySem.F.slot_dict_getitem.lookup (d_getItem hu I g ry fun w' s3 I3 rw' => ⟨z, H, I3, rw', q⟩) hsub
theorem ix_all {X : Cx} (hu : X.A.units + 1 < cLine) : IxR X (rIxA X.K) := ix_seq.or (ix_dict hu)
theorem l_ixK {x : R} {v u : V} {kvs : List (Key × D)} {d : D} {ky : Key} {Q : PR} {QV : VK} (r1 : RR K Ha H S x v) (eu : u = kV ky) (hs : RS K H S) (k : Kp S0 H0 S H) (e : see S x = some (.dK kvs)) (l : valD kvs ky = some d) (q : Q (.v d) S) (po : Post K S0 H0 Q QV) :
    ∃ a v', v = .ref a ∧ DGet H a u (some v') ∧ QV v' H := by
  obtain ⟨a, ws, rfl, e1, rk⟩ := see_dK hs r1 e
  obtain ⟨v', ev, rd⟩ := (rk.val ky).1 d l
  subst eu
  exact ⟨a, v', rfl, by rw [← ev]; exact DGet.k e1, po.dat k hs rd q⟩
theorem l_ix {x y : R} {v u : V} {Q : PR} {QV : VK} (r1 : RR K Ha H S x v) (r2 : RR K Hb H S y u) (hs : RS K H S) (k : Kp S0 H0 S H) (h : ixW x y S Q) (po : Post K S0 H0 Q QV) : rIxA K v u H QV := by
  unfold ixW at h
  split at h
  · obtain ⟨hz, c, e, q⟩ := h
    exact .inl (.inr (.inr ⟨_, _, c, r1, r2, hz, e, po.dat k hs rd_str q⟩))
  · rcases h with ⟨xs, d, e, ea, q⟩ | ⟨kvs, d, e, l, q⟩
    · obtain ⟨a, vs, rfl, sq, rd⟩ := seqOf_sq hs r1 e
      obtain ⟨v', ev, rv⟩ := atI_rds rd ea
      rcases sq with sq | sq
      · exact .inl (.inl ⟨a, vs, _, v', rfl, r2, sq, ev, po.dat k hs rv q⟩)
      · exact .inl (.inr (.inl ⟨a, vs, _, v', rfl, r2, sq, ev, po.dat k hs rv q⟩))
    · exact .inr (l_ixK (ky := .inl _) r1 r2 hs k e l q po)
  · obtain ⟨kvs, d, e, l, q⟩ := h
    exact .inr (l_ixK (ky := .inr _) r1 r2 hs k e l q po)
  · exact h.elim

/-! ### slices -/
theorem cut_rds {xs : List D} {vs : List V} (r : RDs K H xs vs) (lo hi : Option Int) : RDs K H (cut xs lo hi) (cutV vs lo hi) := by
  unfold cut cutV
  rw [r.length]
  exact (r.drop _).take _
theorem cut_whole {α : Type} {xs : List α} {lo hi : Option Int} (h : HT.sIx xs.length 0 lo = 0 ∧ HT.sIx xs.length xs.length hi = xs.length) : cut xs lo hi = xs := by
  unfold cut
  rw [h.1, h.2]
  simp
def rSlAll (K : PySem.W.Frag) : V → Option Int → Option Int → Hp → VK → Prop := fun x lo hi H Q => (rSlL K x lo hi H Q ∨ rSlA K x lo hi H Q) ∨ rSlS x lo hi H Q
theorem sl_all {X : Cx} : SlR X (rSlAll X.K) := (sl_list.or sl_tupA).or sl_str
theorem cutS_eq (z : Str) (lo hi : Option Int) : cutS z lo hi = ⟨(cut z.cps.toList lo hi).toArray⟩ := by
  unfold cutS cut
  first
    | rfl
    | (simp only [Str.length, Array.length_toList])
theorem l_sl {x : R} {v : V} {lo hi : Option Int} {Q : PR} {QV : VK} (r1 : RR K Ha H S x v) (hs : RS K H S) (k : Kp S0 H0 S H) (h : slW x lo hi S Q) (po : Post K S0 H0 Q QV) : rSlAll K v lo hi H QV := by
  unfold slW at h
  split at h
  · obtain ⟨hz, q⟩ := h
    refine .inr ⟨_, r1, hz, ?_⟩
    rw [cutS_eq]
    exact po.dat k hs rd_str q
  · rename_i xs
    have r1' := r1
    have r1' : RD K H (.tup xs) v := r1'
    simp only [RD] at r1'
    obtain ⟨a, vs, rfl, sq, rd⟩ := r1'
    refine .inl (.inr ⟨a, vs, rfl, sq, fun hw => ?_, fun hw p hp => po.tup k hs hp (cut_rds rd lo hi) h⟩)
    rw [← rd.length] at hw
    rw [cut_whole hw] at h
    exact po.dat k hs r1 h
  · split at h
    · rename_i xs e
      obtain ⟨a, vs, rfl, sq, rd⟩ := lstOf_sq hs r1 e
      exact .inl (.inl ⟨a, vs, rfl, sq, fun p hp => po.lst k hs hp (cut_rds rd lo hi) h⟩)
    · exact h.elim
end
section
variable {X : Cx} {a b c : Expr} {wa wb wc : Ev} {pos p2 : Pos}
theorem s_ix (hu : X.A.units + 65 < cLine) (ha : PE X a (tD X.K wa)) (hb : PE X b (tD X.K wb)) (hp : PlainIx b) :
    PE X (.Subscript a b pos) (tD X.K fun ρ S Q => wa ρ S fun x S1 => wb ρ S1 fun y S2 => ixW x y S2 Q) :=
  (pe_ix (ix_all (by omega)) ha hb hp).weak fun σ H QV ⟨ρ, S, Q, re, hs, h, po⟩ => tD2 re hs h fun x y v u H2 S2 r1 r2 s2 k2 q => l_ix r1 r2 s2 k2 q po
theorem s_po0 : PO X none (tDO X.K fun _ S Q => Q none S) := po_none.weak fun σ H QV ⟨ρ, S, Q, re, hs, q, po⟩ => po none H S hs Kp.refl q
theorem s_po1 (ha : PE X a (tD X.K wa)) : PO X (some a) (tDO X.K fun ρ S Q => wa ρ S fun r S' => partW r fun i => Q i S') :=
  (po_some ha).weak fun σ H QV ⟨ρ, S, Q, re, hs, h, po⟩ => tD1 re hs h fun r v H1 S1 r1 s1 k1 _ q => by
    unfold partW at q
    split at q
    · exact ⟨_, r1, po _ H1 S1 s1 k1 q⟩
    · exact q.elim
theorem s_sl {lo hi : Option Expr} {wl wh : Env → Sto → (Option Int → Sto → Prop) → Prop} (ha : PE X a (tD X.K wa)) (hl : PO X lo (tDO X.K wl)) (hh : PO X hi (tDO X.K wh)) :
    PE X (.Subscript a (.Slice lo hi none p2) pos) (tD X.K fun ρ S Q => wa ρ S fun x S1 => wl ρ S1 fun l S2 => wh ρ S2 fun u S3 => slW x l u S3 Q) :=
  (pe_slice sl_all ha hl hh).weak fun σ H QV ⟨ρ, S, Q, re, hs, h, po⟩ => tD1 re hs h fun x v H1 S1 r1 s1 k1 re1 q =>
    ⟨ρ, S1, _, re1, s1, q, fun l H2 S2 s2 k2 q => ⟨ρ, S2, _, re1.kp k2 s1, s2, q, fun u H3 S3 s3 k3 q => l_sl ((r1.kp k2 s1).kp k3 s2) s3 ((k1.trans k2).trans k3) q po⟩⟩
end
end DP

set_option maxRecDepth 100000
set_option maxHeartbeats 1000000
/-! DpSn4: turned about, displays, kinds, built-ins, methods. -/
namespace DP
open PySem PySem.Spec PyProof.Rows L2
/-! ### xs[::-1] -/
section
variable {prog : Program} {w : World} {A : Around} {E : Value → Shared → Prop} {s : Shared}
theorem adj_back (n : Nat) : Builtin.Slice.sliceAdjust none none (-1) (n : Int) = ((n : Int) - 1, -1) := by
  unfold Builtin.Slice.sliceAdjust
  simp
theorem many_back (n : Nat) : Builtin.Slice.slicePlaces ((n : Int) - 1) (-1) (-1) = n := by
  unfold Builtin.Slice.slicePlaces
  rw [if_neg (by decide)]
  by_cases h : (n : Int) - 1 > -1
  · rw [if_pos h]
    have e : ((n : Int) - 1 - -1 - 1) / (- -1) + 1 = n := by
      rw [Int.neg_neg, Int.ediv_one]
      omega
    rw [e]
    exact Int.toNat_natCast n
  · rw [if_neg h]
    omega
theorem fm_map {α β : Type} {f : α → Option β} {g : α → β} : ∀ {l : List α}, (∀ m ∈ l, f m = some (g m)) → l.filterMap f = l.map g
  | [], _ => rfl
  | x :: l, h => by
    rw [List.filterMap_cons, h x List.mem_cons_self, List.map_cons, fm_map fun m hm => h m (List.mem_cons_of_mem _ hm)]
theorem pick_back (xs : List Value) : ((List.range xs.length).filterMap fun (m : Nat) => xs.toArray[(((xs.length : Int) - 1) + (m : Int) * (-1)).toNat]?) = xs.reverse := by
  refine List.ext_getElem? fun i => ?_
  have e : ((List.range xs.length).filterMap fun (m : Nat) => xs.toArray[(((xs.length : Int) - 1) + (m : Int) * (-1)).toNat]?) = (List.range xs.length).map fun m => xs.getD (xs.length - 1 - m) .none := by
    refine fm_map fun m hm => ?_
    have hm' : m < xs.length := List.mem_range.mp hm
    have e1 : (((xs.length : Int) - 1) + (m : Int) * (-1)).toNat = xs.length - 1 - m := by omega
    have h2 : xs.length - 1 - m < xs.length := by omega
    rw [e1]
    simp [h2, List.getD]
  rw [e]
  by_cases h : i < xs.length
  · rw [List.getElem?_reverse h, List.getElem?_map, List.getElem?_range h]
    have h2 : xs.length - 1 - i < xs.length := by omega
    simp [h2, List.getD]
  · rw [List.getElem?_eq_none (by simpa using h), List.getElem?_eq_none (by simpa using h)]
theorem cut_back {sl : Addr} {vk : Value} {n : Nat} {Q : Int × Int × Nat → Shared → Prop} (hs : s.heap.IsSliceOf sl .none .none vk) (pk : IsPart vk (some (-1)))
    (h : Q ((n : Int) - 1, -1, n) s) : wpAny (model prog w) A (Builtin.Slice.sliceApplied (.ref sl) (pure (n : Int))) Q E s := by
  obtain ⟨ob, g1, g2, g3⟩ := id hs
  unfold Builtin.Slice.sliceApplied Builtin.Slice.sliceFields
  refine wpAny_bind (wpAny_bind (wpAny_field g1 g3 (x := Value.none) rfl (wpAny_bind (wpAny_field g1 g3 (x := Value.none) rfl (wpAny_bind (wpAny_field g1 g3 (x := vk) rfl (wpAny_pure ?_)))))))
  refine wpAny_bind (HT.slicePart_ pk ?_)
  show wpAny _ _ (if ((-1 : Int) == 0) = true then _ else _) _ _ s
  rw [if_neg (by decide)]
  refine wpAny_bind (slicePart_none (wpAny_bind (slicePart_none (wpAny_bind (wpAny_pure ?_)))))
  show wpAny _ _ (match Builtin.Slice.sliceAdjust none none (-1) (n : Int) with | (lo, hi) => pure (lo, (-1 : Int), Builtin.Slice.slicePlaces lo hi (-1))) _ _ s
  rw [adj_back]
  show wpAny _ _ (pure ((n : Int) - 1, (-1 : Int), Builtin.Slice.slicePlaces ((n : Int) - 1) (-1) (-1))) _ _ s
  rw [many_back]
  exact wpAny_pure h
theorem tup_back {t sl : Addr} {its : List Value} {vk : Value} {Q : Value → Shared → Prop} (ht : IsTup s.heap t its.toArray) (hs : s.heap.IsSliceOf sl .none .none vk) (pk : IsPart vk (some (-1))) (hz : its.length ≤ sizeLine)
    (h : Q (.ref s.heap.objs.size) { s with heap := s.heap.push { cls := .type "tuple", data := .seq its.reverse.toArray } }) : wpAny (model prog w) A (getItem (.ref t) (.ref sl)) Q E s := by
  have hline : sizeOk (.seq its.reverse.toArray) := by
    show its.reverse.toArray.size ≤ sizeLine
    rw [List.size_toArray, List.length_reverse]; exact hz
  obtain ⟨ob, g1, g2, g3⟩ := id hs
  have hT : s.TypeIs (.ref sl) "slice" := ⟨ob, g1, g2⟩
  unfold getItem
  try with_reducible refine wpAny_holding ?_
  first | refine wpAny_bind (wpAny_pure ?_) | skip
  refine wpAny_bind (wpAny_sequenceKey ht.typeIs (by decide) ?_)
  refine wpAny_bind (wpAny_callSpecial?_slot (name := Str.ofString "__getitem__") ht.typeIs PyProof.Rows.slot_tuple_getitem (wpAny_call_entry PyProof.Rows.slot_tuple_getitem ht.typeIs entry_tuple_getitem ?_ (args_tuple_getitem _ _)))
  show wpAny _ _ (Builtin.Tuple.tupleItemsOf (.ref t) >>= _) _ _ s
  refine wpAny_bind (tupleItemsOf_ ht (wpAny_bind (wpAny_typeOf hT ?_)))
  rw [if_pos (by decide)]
  refine wpAny_bind (cut_back (n := its.toArray.size) hs pk ?_)
  show wpAny _ _ (if ((((its.toArray.size : Int) - 1) == 0) && ((-1 : Int) == 1) && (its.toArray.size == its.toArray.size)) = true then _ else _) _ _ s
  rw [if_neg (by simp)]
  have ep : ((List.range its.toArray.size).filterMap fun (m : Nat) => its.toArray[(((its.toArray.size : Int) - 1) + (m : Int) * (-1)).toNat]?).toArray = its.reverse.toArray := by
    rw [List.size_toArray, pick_back]
  rw [ep]
  first
    | exact wpAny_bind (m := Builtin.Tuple.tupleExact _) (wpAny_newObj_type (wpAny_pure ⟨_, rfl, wpAny_pure h⟩) hline)
    | exact wpAny_bind (m := Builtin.Tuple.tupleExact _) (wpAny_newObj_type (wpAny_bind (wpAny_pure (wpAny_pure ⟨_, rfl, wpAny_pure h⟩))) hline)
    | exact wpAny_bind (wpAny_bind (m := Builtin.Tuple.tupleExact _) (wpAny_newObj_type (wpAny_pure (wpAny_pure ⟨_, rfl, wpAny_pure h⟩)) hline))
    | exact wpAny_bind (wpAny_bind (m := Builtin.Tuple.tupleExact _) (wpAny_newObj_type (wpAny_pure ⟨_, rfl, wpAny_pure h⟩) hline))
end
section
variable {X : Cx} {a b c : Expr} {wa wb wc : Ev} {pos p1 p2 p3 : Pos} {j : Nat}
/-- a list's or a tuple's items, from the last to the first -/
def tRevA (K : PySem.W.Frag) (te : TE) : TE := fun σ H Q => te σ H fun x H1 => ∃ a xs, x = .ref a ∧ ((SqL K H1 a xs ∧ ∀ p, H1 p = none → Q (.ref p) (upd H1 p (.lst xs.reverse))) ∨ (SqT K H1 a xs ∧ ∀ p, H1 p = none → Q (.ref p) (upd H1 p (.tup xs.reverse))))
theorem pe_revA {e : Expr} {te : TE} (he : PE X e te) : PE X (.Subscript e (.Slice none none (some (.UnaryOp .USub (.Constant (.int 1) j p1) p2)) p3) pos) (tRevA X.K te) := by
  refine ⟨fun pins s σ H Q I h => ?_⟩
  refine Subscript_ (thn (he.run pins s σ H _ I h) fun v s1 ⟨x, H1, I1, r1, q1⟩ => ?_)
  obtain ⟨l, xs, rfl, q⟩ := q1
  cases r1
  have hst : PO X (some (.UnaryOp .USub (.Constant (.int 1) j p1) p2)) (tPart (tUn (rU fun i => .int (-i)) (tC (.int 1)))) := po_some (pe_un un_neg pe_int)
  refine wpAny_Slice ?_
  rw [evalPart_none]
  refine wpAny_pure (wpAny_pure ?_)
  refine thn (hst.run pins s1 σ H1 (fun o G => o = some (-1) ∧ G = H1) I1 ⟨1, rfl, -1, rfl, rfl, rfl⟩) fun vk s4 ⟨o, G, I4, pk, eo, eG⟩ => ?_
  subst eo eG
  have I5 : Inv X pins σ G { s4 with heap := s4.heap.push { cls := .type "slice", data := .fields #[.none, .none, vk] } } := I4.kept (t' := s4.toks) fun _ _ q => Heap.get?_push_of_some _ q
  show wpAny (model X.prog X.w) X.A (subscriptTail e (.Slice none none (some (.UnaryOp .USub (.Constant (.int 1) j p1) p2)) p3) (.ref l) (.ref s4.heap.objs.size)) (EP X pins σ Q) X.xe { s4 with heap := s4.heap.push { cls := .type "slice", data := .fields #[.none, .none, vk] } }
  rcases q with ⟨hx, q⟩ | ⟨hx, q⟩
  · obtain ⟨its, r, ht, hz⟩ := I5.list hx
    have hlen := r.length
    refine tail_any (ops := [.ref l, .ref s4.heap.objs.size]) ht.isList.typeIs PySem.slot_list_getitem.lookup ?_ (by with_unfolding_all rfl)
    refine wpAny_getItem_list_slice ht.isList (Heap.IsSliceOf.new _ .none .none vk) .none .none pk (by decide) ?_ (by rw [List.size_toArray]; omega)
    rw [PySem.W.krv_pick]
    exact ⟨.ref _, _, I5.laid (t' := s4.toks) (o := .lst xs.reverse) (fun _ _ q => Heap.get?_push_of_some _ q) (Nat.le_refl _) ⟨by rw [List.length_reverse]; exact hz, _, 0, r.reverse, Heap.get?_push_size _ rfl⟩, rfl, q _ (I5.hok.fresh (Nat.le_refl _))⟩
  · obtain ⟨its, r, ht, hz⟩ := I5.tuple hx
    have hlen := r.length
    refine tail_any (ops := [.ref l, .ref s4.heap.objs.size]) ht.typeIs PyProof.Rows.slot_tuple_getitem.lookup ?_ (by with_unfolding_all rfl)
    refine tup_back ht (Heap.IsSliceOf.new _ .none .none vk) pk (by omega) ?_
    exact ⟨.ref _, _, I5.laid (t' := s4.toks) (o := .tup xs.reverse) (fun _ _ q => Heap.get?_push_of_some _ q) (Nat.le_refl _) ⟨by rw [List.length_reverse]; exact hz, _, r.reverse, IsTup.new _ _⟩, rfl, q _ (I5.hok.fresh (Nat.le_refl _))⟩
theorem s_rev (ha : PE X a (tD X.K wa)) : PE X (.Subscript a (.Slice none none (some (.UnaryOp .USub (.Constant (.int 1) j p1) p2)) p3) pos) (tD X.K fun ρ S Q => wa ρ S fun x S1 => revW x S1 Q) :=
  (pe_revA ha).weak fun σ H QV ⟨ρ, S, Q, re, hs, h, po⟩ => tD1 re hs h fun x v H1 S1 r1 s1 k1 re1 q => by
    unfold revW at q
    split at q
    · have r1 : RD X.K H1 (.tup _) v := r1
      simp only [RD] at r1
      obtain ⟨l, vs, rfl, sq, rd⟩ := r1
      exact ⟨l, vs, rfl, .inr ⟨sq, fun p hp => po.tup k1 s1 hp rd.reverse q⟩⟩
    · split at q
      · rename_i xs e
        obtain ⟨l, vs, rfl, sq, rd⟩ := lstOf_sq s1 r1 e
        exact ⟨l, vs, rfl, .inl ⟨sq, fun p hp => po.lst k1 s1 hp rd.reverse q⟩⟩
      · exact q.elim

/-! ### lists of operands -/
variable {es : List Expr} {wes : Env → Sto → (List D → Sto → Prop) → Prop} {wrs : Env → Sto → (List R → Sto → Prop) → Prop}
theorem s_pa0 : PA X [] (tDA X.K fun _ S Q => Q [] S) := pa_nil.weak fun σ H QV ⟨ρ, S, Q, re, hs, q, po⟩ => po [] H [] S (by simp [RDs]) hs Kp.refl q
theorem s_pa1 (ha : PE X a (tD X.K wa)) (hr : PA X es (tDA X.K wes)) (hn : starEach (a :: es) X.env = (false, eval a X.env) :: starEach es X.env) :
    PA X (a :: es) (tDA X.K fun ρ S Q => wa ρ S fun r S1 => mat r S1 fun d S2 => wes ρ S2 fun ds S3 => Q (d :: ds) S3) :=
  (pa_cons ha hr hn).weak fun σ H QV ⟨ρ, S, Q, re, hs, h, po⟩ => tD1 re hs h fun r v H1 S1 r1 s1 k1 re1 q => by
    obtain ⟨d, S2, rd, s2, k2, q⟩ := mat_ok q r1 s1 k1
    refine ⟨ρ, S2, _, re.kp k2 hs, s2, q, fun vs H3 ds S3 rds s3 k3 q => po (v :: vs) H3 (d :: ds) S3 ?_ s3 (k2.trans k3) q⟩
    simp only [RDs]
    exact ⟨v, vs, rfl, RD.kp k3 s2 d v rd, rds⟩
theorem s_pr0 : PA X [] (tDR X.K fun _ S Q => Q [] S) := pa_nil.weak fun σ H QV ⟨ρ, S, Q, re, hs, q, po⟩ => po [] H [] S .nil hs Kp.refl q
theorem RRs.back {K : PySem.W.Frag} {S0 S1 S : Sto} {H0 H1 H : Hp} (k : Kp S0 H0 S1 H1) {rs : List R} {vs : List V} (h : RRs K H1 H S rs vs) : RRs K H0 H S rs vs := Paired.mapP h fun _ _ r => r.back k
theorem s_pr1 (ha : PE X a (tD X.K wa)) (hr : PA X es (tDR X.K wrs)) (hn : starEach (a :: es) X.env = (false, eval a X.env) :: starEach es X.env) :
    PA X (a :: es) (tDR X.K fun ρ S Q => wa ρ S fun r S1 => wrs ρ S1 fun rs S2 => Q (r :: rs) S2) :=
  (pa_cons ha hr hn).weak fun σ H QV ⟨ρ, S, Q, re, hs, h, po⟩ => tD1 re hs h fun r v H1 S1 r1 s1 k1 re1 q =>
    ⟨ρ, S1, _, re1, s1, q, fun vs H3 rs S3 rrs s3 k3 q => po (v :: vs) H3 (r :: rs) S3 (.cons (r1.kp k3 s1) (rrs.back k1)) s3 (k1.trans k3) q⟩
theorem s_tup {x1 : Nat} (h : PA X es (tDA X.K wes)) : PE X (.Tuple es x1 pos) (tD X.K fun ρ S Q => wes ρ S fun ds S' => ds.length ≤ sizeLine ∧ Q (.v (.tup ds)) S') :=
  (pe_tup h).weak fun σ H QV ⟨ρ, S, Q, re, hs, h, po⟩ => ⟨ρ, S, _, re, hs, h, fun vs H1 ds S1 rd s1 k1 ⟨hz, q⟩ => ⟨by rw [← rd.length]; exact hz, fun p hp => po.tup k1 s1 hp rd q⟩⟩
theorem s_lst (h : PA X es (tDA X.K wes)) : PE X (.List es pos) (tD X.K fun ρ S Q => wes ρ S fun ds S' => ds.length ≤ sizeLine ∧ Q (.n (.lst ds)) S') :=
  (pe_lst h).weak fun σ H QV ⟨ρ, S, Q, re, hs, h, po⟩ => ⟨ρ, S, _, re, hs, h, fun vs H1 ds S1 rd s1 k1 ⟨hz, q⟩ => ⟨by rw [← rd.length]; exact hz, fun p hp => po.lst k1 s1 hp rd q⟩⟩
theorem s_neg (ha : PE X a (tD X.K wa)) : PE X (.UnaryOp .USub a pos) (tD X.K fun ρ S Q => wa ρ S fun x S1 => ∃ i, x = .v (.int i) ∧ Q (.v (.int (-i))) S1) :=
  (pe_un un_neg ha).weak fun σ H QV ⟨ρ, S, Q, re, hs, h, po⟩ => tD1 re hs h fun x v H1 S1 r1 s1 k1 re1 ⟨i, e, q⟩ => by
    subst e
    exact ⟨i, r1, po.dat k1 s1 rd_int q⟩

/-! ### truth -/
theorem ne_cast (n : Nat) : (n != 0) = ((n : Int) != 0) := by
  cases n with
  | zero => rfl
  | succ n =>
    have h1 : ((n + 1 : Nat) != 0) = true := bne_iff_ne.mpr (by omega)
    have h2 : (((n + 1 : Nat) : Int) != 0) = true := bne_iff_ne.mpr (by omega)
    rw [h1, h2]
theorem tru_V {K : PySem.W.Frag} {S : Sto} {H H0 : Hp} {r : R} {v : V} {k : Bool} (rr : RR K H0 H S r v) (hs : RS K H S) (h : tru S r = some k) : TruV K v H k := by
  have isE : ∀ {xs : List D} {vs : List V}, RDs K H xs vs → (!xs.isEmpty) = !vs.isEmpty := fun {xs vs} r => by
    have := r.length
    cases xs <;> cases vs <;> first | rfl | (simp at this)
  unfold tru at h
  split at h
  · cases h; cases (show v = V.non from rr); rfl
  · cases h; cases (show v = V.bl _ from rr); rfl
  · cases h; cases (show v = V.int _ from rr); rfl
  · split at h
    · rename_i x hz
      cases h
      cases (show v = V.str _ from rr)
      exact ⟨hz, ne_cast _⟩
    · cases h
  · split at h
    · rename_i xs e
      cases h
      obtain ⟨a, vs, rfl, sq, rd⟩ := seqOf_sq hs rr e
      rcases sq with sq | sq
      · exact .inl ⟨vs, sq, isE rd⟩
      · exact .inr (.inl ⟨vs, sq, isE rd⟩)
    · split at h
      · rename_i kvs e
        cases h
        obtain ⟨a, ws, rfl, e1, rk⟩ := see_dK hs rr e
        refine .inr (.inr ⟨ws, e1, ?_⟩)
        cases rk <;> rfl
      · cases h
theorem s_not (ha : PE X a (tD X.K wa)) : PE X (.UnaryOp .Not a pos) (tD X.K fun ρ S Q => wa ρ S fun x S1 => ∃ k, tru S1 x = some k ∧ Q (.v (.bl (!k))) S1) :=
  (pe_notT ha).weak fun σ H QV ⟨ρ, S, Q, re, hs, h, po⟩ => tD1 re hs h fun x v H1 S1 r1 s1 k1 re1 ⟨k, e, q⟩ => ⟨k, tru_V r1 s1 e, po.dat k1 s1 rd_bl q⟩
theorem s_and {rest : List Expr} (ha : PE X a (tD X.K wa)) (hb : PE X (.BoolOp .And (b :: rest) pos) (tD X.K wb)) :
    PE X (.BoolOp .And (a :: b :: rest) pos) (tD X.K fun ρ S Q => wa ρ S fun x S1 => ∃ k, tru S1 x = some k ∧ if k = true then wb ρ S1 Q else Q x S1) :=
  (pe_andT ha hb).weak fun σ H QV ⟨ρ, S, Q, re, hs, h, po⟩ => tD1 re hs h fun x v H1 S1 r1 s1 k1 re1 ⟨k, e, q⟩ => by
    refine ⟨k, tru_V r1 s1 e, ?_⟩
    cases k with
    | true => exact ⟨ρ, S1, Q, re1, s1, q, po.sub k1⟩
    | false => exact po v H1 x S1 r1 s1 k1 q
theorem s_or {rest : List Expr} (ha : PE X a (tD X.K wa)) (hb : PE X (.BoolOp .Or (b :: rest) pos) (tD X.K wb)) :
    PE X (.BoolOp .Or (a :: b :: rest) pos) (tD X.K fun ρ S Q => wa ρ S fun x S1 => ∃ k, tru S1 x = some k ∧ if k = true then Q x S1 else wb ρ S1 Q) :=
  (pe_orT ha hb).weak fun σ H QV ⟨ρ, S, Q, re, hs, h, po⟩ => tD1 re hs h fun x v H1 S1 r1 s1 k1 re1 ⟨k, e, q⟩ => by
    refine ⟨k, tru_V r1 s1 e, ?_⟩
    cases k with
    | false => exact ⟨ρ, S1, Q, re1, s1, q, po.sub k1⟩
    | true => exact po v H1 x S1 r1 s1 k1 q
/-! tests -/
variable {tA tB : Env → Sto → (Bool → Sto → Prop) → Prop}
theorem tDT1 {K : PySem.W.Frag} {σ : L2.St} {ρ : Env} {H : Hp} {S : Sto} {k : Bool → Sto → Prop} {QV : Bool → Hp → Prop} (re : REnv K H σ ρ) (hs : RS K H S) (h : tA ρ S k) (f : ∀ b H1 S1, RS K H1 S1 → Kp S H S1 H1 → REnv K H1 σ ρ → k b S1 → QV b H1) : tDT K tA σ H QV :=
  ⟨ρ, S, k, re, hs, h, fun b H' S' a c d => f b H' S' a c (re.kp c hs) d⟩
theorem s_ite (hc : PT X c (tDT X.K tA)) (ha : PE X a (tD X.K wa)) (hb : PE X b (tD X.K wb)) : PE X (.IfExp c a b pos) (tD X.K fun ρ S Q => tA ρ S fun k S1 => if k = true then wa ρ S1 Q else wb ρ S1 Q) :=
  (pe_ifExp hc ha hb).weak fun σ H QV ⟨ρ, S, Q, re, hs, h, po⟩ => tDT1 re hs h fun k H1 S1 s1 k1 re1 q => by
    cases k with
    | true => exact ⟨ρ, S1, Q, re1, s1, q, po.sub k1⟩
    | false => exact ⟨ρ, S1, Q, re1, s1, q, po.sub k1⟩
theorem s_notT (ha : PT X a (tDT X.K tA)) : PT X (.UnaryOp .Not a pos) (tDT X.K fun ρ S Q => tA ρ S fun k S1 => Q (!k) S1) :=
  (pt_not ha).weak fun σ H QT ⟨ρ, S, Q, re, hs, h, po⟩ => ⟨ρ, S, _, re, hs, h, fun b H' S' s1 k1 q => po (!b) H' S' s1 k1 q⟩
theorem s_andT {rest : List Expr} (ha : PT X a (tDT X.K tA)) (hb : PW X (.BoolOp .And (b :: rest) pos) (tDT X.K tB)) : PW X (.BoolOp .And (a :: b :: rest) pos) (tDT X.K fun ρ S Q => tA ρ S fun k S1 => if k = true then tB ρ S1 Q else Q false S1) :=
  (pw_and ha hb).weak fun σ H QT ⟨ρ, S, Q, re, hs, h, po⟩ => tDT1 re hs h fun k H1 S1 s1 k1 re1 q => by
    cases k with
    | true => exact ⟨ρ, S1, Q, re1, s1, q, fun b H' S' s2 k2 q => po b H' S' s2 (k1.trans k2) q⟩
    | false => exact po false H1 S1 s1 k1 q
theorem s_orT {rest : List Expr} (ha : PT X a (tDT X.K tA)) (hb : PW X (.BoolOp .Or (b :: rest) pos) (tDT X.K tB)) : PW X (.BoolOp .Or (a :: b :: rest) pos) (tDT X.K fun ρ S Q => tA ρ S fun k S1 => if k = true then Q true S1 else tB ρ S1 Q) :=
  (pw_or ha hb).weak fun σ H QT ⟨ρ, S, Q, re, hs, h, po⟩ => tDT1 re hs h fun k H1 S1 s1 k1 re1 q => by
    cases k with
    | false => exact ⟨ρ, S1, Q, re1, s1, q, fun b H' S' s2 k2 q => po b H' S' s2 (k1.trans k2) q⟩
    | true => exact po true H1 S1 s1 k1 q
/-- a value as a test -/
theorem s_truth (ha : PE X a (tD X.K wa)) (he : ∀ whole, isTrue a X.env whole = (do let v ← whole; standAt a.pos; holding [v] (truthy v))) : PT X a (tDT X.K fun ρ S Q => wa ρ S fun z S1 => ∃ k, tru S1 z = some k ∧ Q k S1) :=
  (pt_truth ha he).weak fun σ H QT ⟨ρ, S, Q, re, hs, h, po⟩ => tD1 re hs h fun x v H1 S1 r1 s1 k1 re1 ⟨k, e, q⟩ => ⟨k, tru_V r1 s1 e, po k H1 S1 s1 k1 q⟩
end
end DP

set_option maxRecDepth 100000
set_option maxHeartbeats 1000000
/-! DpSn5: kinds, built-ins, methods. -/
namespace DP
open PySem PySem.Spec PyProof.Rows L2
/-! ### isinstance -/
def tyNm : Ty → String
  | .str => "str" | .tup => "tuple" | .int => "int" | .bool => "bool" | .list => "list" | .dict => "dict"
theorem kitBs : ∀ a ∈ ["NoneType", "bool", "int", "str", "tuple", "list", "dict"], ∀ b ∈ ["str", "tuple", "int", "bool", "list", "dict"], kitB a b = some (a == b || (a == "bool" && b == "int")) := by decide +kernel
theorem ty_mem (t : Ty) : tyNm t ∈ ["str", "tuple", "int", "bool", "list", "dict"] := by cases t <;> decide
theorem kit1 {K : PySem.W.Frag} {a : String} {t : Ty} {b : Bool} (ha : a ∈ ["NoneType", "bool", "int", "str", "tuple", "list", "dict"]) (h : (a == tyNm t || (a == "bool" && tyNm t == "int")) = b) : PySem.W.kitOne K (.type a) (.type (tyNm t)) = some b :=
  kit_ty (by rw [kitBs a ha _ (ty_mem t), h])
section
variable {K : PySem.W.Frag} {S S0 : Sto} {H H0 Ha Hb : Hp}
theorem TyX.tupV {a : Addr} {vs : List V} (h : SqT K H a vs) : TyX K H (.ref a) (.type "tuple") := by
  rcases h with (h | ⟨o, h⟩) | ⟨o, its, n, h, c, _⟩
  · exact .base (.tup h)
  · exact .fTuple h
  · exact .kTuple h c
theorem TyX.fzV {a : Addr} {vs : List V} (h : FzL K H a vs) : TyX K H (.ref a) (.type "list") := by
  rcases h with ⟨o, h⟩ | ⟨o, its, n, h, c, _⟩
  · exact .base (.frz h)
  · exact .kList h c
theorem ty_of {r : R} {v : V} {t : Ty} {b : Bool} (rr : RR K Ha H S r v) (hs : RS K H S) (h : isTy S r t = some b) : ∃ a, TyX K H v (.type a) ∧ a ∈ ["NoneType", "bool", "int", "str", "tuple", "list", "dict"] ∧ (a == tyNm t || (a == "bool" && tyNm t == "int")) = b := by
  have obj : ∀ r, RR K Ha H S r v → obTy (see S r) t = some b → ∃ a, TyX K H v (.type a) ∧ a ∈ ["NoneType", "bool", "int", "str", "tuple", "list", "dict"] ∧ (a == tyNm t || (a == "bool" && tyNm t == "int")) = b := fun r rr h => by
    cases e : see S r with
    | none => rw [e] at h; cases h
    | some o =>
      rw [e] at h
      cases o with
      | lst xs =>
        obtain ⟨a, vs, rfl, h1, _⟩ := see_lst hs rr e
        refine ⟨"list", .base (.lst h1), by decide, ?_⟩
        cases t <;> (cases h; decide)
      | dK kvs =>
        obtain ⟨a, vs, rfl, h1, _⟩ := see_dK hs rr e
        refine ⟨"dict", .base (.dK h1), by decide, ?_⟩
        cases t <;> (cases h; decide)
      | dT kvs =>
        obtain ⟨a, vs, rfl, h1, _⟩ := see_dT hs rr e
        refine ⟨"dict", .base (.dT h1), by decide, ?_⟩
        cases t <;> (cases h; decide)
  cases r with
  | n o => exact obj _ rr h
  | v d =>
    cases d with
    | ref a => exact obj _ rr h
    | non =>
      cases (show v = V.non from rr)
      refine ⟨"NoneType", .base .non, by decide, ?_⟩
      cases t <;> (cases h; decide)
    | bl x =>
      cases (show v = V.bl x from rr)
      refine ⟨"bool", .base (.bl x), by decide, ?_⟩
      cases t <;> (cases h; decide)
    | int x =>
      cases (show v = V.int x from rr)
      refine ⟨"int", .base (.int x), by decide, ?_⟩
      cases t <;> (cases h; decide)
    | str x =>
      cases (show v = V.str x from rr)
      refine ⟨"str", .base (.str x), by decide, ?_⟩
      cases t <;> (cases h; decide)
    | tup xs =>
      have rr : RD K H (.tup xs) v := rr
      simp only [RD] at rr
      obtain ⟨a, vs, rfl, h1, _⟩ := rr
      refine ⟨"tuple", TyX.tupV h1, by decide, ?_⟩
      cases t <;> (cases h; decide)
    | fz xs =>
      have rr : RD K H (.fz xs) v := rr
      simp only [RD] at rr
      obtain ⟨a, vs, rfl, h1, _⟩ := rr
      refine ⟨"list", TyX.fzV h1, by decide, ?_⟩
      cases t <;> (cases h; decide)
end
section
variable {X : Cx} {a b c : Expr} {wa wb wc : Ev} {pos p p2 : Pos} {es : List Expr} {wrs : Env → Sto → (List R → Sto → Prop) → Prop}
theorem boot_tyNm (t : Ty) : bootBuiltins (Str.ofString (tyNm t)) = some (.type (tyNm t)) := by cases t <;> decide +kernel
theorem s_isi {t : Ty} {x : Str} (ha : PE X a (tD X.K wa)) (hg : Gl X "isinstance") (hm : X.mg "isinstance" = none) (ex : x = Str.ofString (tyNm t)) (hg2 : Gl X x) (hm2 : X.mg x = none)
    (hn : starEach [a, .Name x p2] X.env = (false, eval a X.env) :: starEach [.Name x p2] X.env) :
    PE X (.Call (.Name "isinstance" p) [a, .Name x p2] [] pos) (tD X.K fun ρ S Q => wa ρ S fun z S1 => ∃ b, isTy S1 z t = some b ∧ Q (.v (.bl b)) S1) := by
  subst ex
  have hT : PE X (.Name (Str.ofString (tyNm t)) p2) (tC (.ty (tyNm t))) := pe_bltn hg2 hm2 (boot_tyNm t) rfl (by cases t <;> decide) (by cases t <;> decide)
  refine (pe_callB call_isi hg hm (by decide +kernel) (pa_cons ha (pa_cons hT pa_nil) hn) (he := hn)).weak fun σ H QV ⟨ρ, S, Q, re, hs, h, po⟩ => tD1 re hs h fun z v H1 S1 r1 s1 k1 re1 ⟨b, e, q⟩ => ?_
  obtain ⟨n, ty, hn1, e1⟩ := ty_of r1 s1 e
  exact ⟨v, .ty (tyNm t), .type n, .type (tyNm t), b, rfl, .ty _, ty, kit1 hn1 e1, po.dat k1 s1 rd_bl q⟩

/-! ### built-ins -/
/-- a rule of a built-in beside its way by data -/
structure BiOk (X : Cx) (b : Bi) (r : List V → Hp → VK → Prop) : Prop where
  l : ∀ rs vs S0 H0 S H Ha Q QV, RRs X.K Ha H S rs vs → RS X.K H S → Kp S0 H0 S H → biW b rs S Q → Post X.K S0 H0 Q QV → r vs H QV
theorem s_biB {b : Bi} {id : String} {x : Str} {r : List V → Hp → VK → Prop} (ok : BiOk X b r) (hc : CallR X (.builtin id) r) (hg : Gl X x) (hm : X.mg x = none) (hv : bootBuiltins x = some (.builtin id)) (hn1 : x ≠ "__name__") (hd : (x == ("__debug__" : Str)) = false)
    (ha : PA X (a :: es) (tDR X.K wrs)) (hn : starEach (a :: es) X.env = (false, eval a X.env) :: starEach es X.env) (hpl : (backTo pos (starEach es X.env)).any (·.1) = false) :
    PE X (.Call (.Name x p) (a :: es) [] pos) (tD X.K fun ρ S Q => wrs ρ S fun rs S1 => biW b rs S1 Q) :=
  (pe_callB hc hg hm hv ha hn1 hd hn hpl).weak fun σ H QV ⟨ρ, S, Q, re, hs, h, po⟩ => ⟨ρ, S, _, re, hs, h, fun vs H1 rs S1 rr s1 k1 q => ok.l rs vs S H S1 H1 H Q QV rr s1 k1 q po⟩
theorem s_biT {b : Bi} {T : String} {x : Str} {r : List V → Hp → VK → Prop} (ok : BiOk X b r) (hc : CallR X (.type T) r) (hg : Gl X x) (hm : X.mg x = none) (hv : bootBuiltins x = some (.type T)) (hn1 : x ≠ "__name__") (hd : (x == ("__debug__" : Str)) = false)
    (ha : PA X (a :: es) (tDR X.K wrs)) (hn : starEach (a :: es) X.env = (false, eval a X.env) :: starEach es X.env) (hpl : (backTo pos (starEach es X.env)).any (·.1) = false) :
    PE X (.Call (.Name x p) (a :: es) [] pos) (tD X.K fun ρ S Q => wrs ρ S fun rs S1 => biW b rs S1 Q) :=
  (pe_callTy hc hg hm hv ha hn1 hd hn hpl).weak fun σ H QV ⟨ρ, S, Q, re, hs, h, po⟩ => ⟨ρ, S, _, re, hs, h, fun vs H1 rs S1 rr s1 k1 q => ok.l rs vs S H S1 H1 H Q QV rr s1 k1 q po⟩
theorem RRs.one {K : PySem.W.Frag} {H0 H : Hp} {S : Sto} {r : R} {vs : List V} (h : RRs K H0 H S [r] vs) : ∃ v, vs = [v] ∧ RR K H0 H S r v := by
  cases h with
  | cons a t => cases t; exact ⟨_, rfl, a⟩
theorem RRs.two {K : PySem.W.Frag} {H0 H : Hp} {S : Sto} {r q : R} {vs : List V} (h : RRs K H0 H S [r, q] vs) : ∃ v u, vs = [v, u] ∧ RR K H0 H S r v ∧ RR K H0 H S q u := by
  cases h with
  | cons a t => cases t with
    | cons b t => cases t; exact ⟨_, _, rfl, a, b⟩
/-! len -/
def rLenA (K : PySem.W.Frag) : List V → Hp → VK → Prop := fun xs H Q => ((∃ p ys, xs = [.ref p] ∧ (SqL K H p ys ∨ SqT K H p ys) ∧ Q (.int ys.length) H) ∨ ∃ z, xs = [.str z] ∧ z.length ≤ sizeLine ∧ Q (.int z.length) H) ∨ ∃ a kvs, xs = [.ref a] ∧ Rd H a (.dK kvs) ∧ Q (.int kvs.length) H
theorem call_len_dK : CallR X (.builtin "len") fun xs H Q => ∃ a kvs, xs = [.ref a] ∧ Rd H a (.dK kvs) ∧ Q (.int kvs.length) H := by
  intro pins s σ H xs us Q I r h
  obtain ⟨d, kvs, rfl, e, q⟩ := h
  obtain ⟨u, rfl, ru⟩ := vals1 r
  cases ru
  exact d_len I e fun t s' I' => ⟨.int kvs.length, H, I', ⟨t, rfl⟩, q⟩
theorem len_all : CallR X (.builtin "len") (rLenA X.K) := (call_len_seq.or call_len_str).or call_len_dK
theorem bi_len : BiOk X .len (rLenA X.K) := ⟨fun rs vs S0 H0 S H Ha Q QV rr hs k h po => by
  unfold biW at h
  split at h <;> first | (rename_i e; cases e) | skip
  all_goals first | exact h.elim | skip
  · obtain ⟨v, rfl, r⟩ := rr.one
    cases (show v = V.str _ from r)
    exact .inl (.inr ⟨_, rfl, h.1, po.dat k hs rd_int h.2⟩)
  · obtain ⟨v, rfl, r⟩ := rr.one
    rcases h with ⟨xs, e, q⟩ | ⟨kvs, e, q⟩
    · obtain ⟨a, ws, rfl, sq, rd⟩ := seqOf_sq hs r e
      rw [rd.length] at q
      exact .inl (.inl ⟨a, ws, rfl, sq, po.dat k hs rd_int q⟩)
    · obtain ⟨a, ws, rfl, e1, rk⟩ := see_dK hs r e
      have el : kvs.length = ws.length := Paired.length rk
      rw [el] at q
      exact .inr ⟨a, ws, rfl, .inl e1, po.dat k hs rd_int q⟩⟩
end
end DP

set_option maxRecDepth 100000
set_option maxHeartbeats 1000000
/-! DpSn6: more built-ins. -/
namespace DP
open PySem PySem.Spec PyProof.Rows L2
section
variable {K : PySem.W.Frag} {S S0 : Sto} {H H0 Ha Hb : Hp}
theorem blsOf_rds : ∀ {xs : List D} {bs : List Bool} {vs : List V}, blsOf xs = some bs → RDs K H xs vs → vs = bs.map V.bl
  | [], bs, vs, h, r => by cases h; simp only [RDs] at r; exact r
  | d :: xs, bs, vs, h, r => by
    simp only [RDs] at r
    obtain ⟨v, vr, rfl, r1, r2⟩ := r
    cases d with
    | bl x =>
      obtain ⟨bs', e, rfl⟩ := Option.map_eq_some_iff.mp (show (blsOf xs).map (x :: ·) = some bs from h)
      rw [blsOf_rds e r2, show v = V.bl x from r1]
      rfl
    | _ => cases h
theorem intsOf_rds : ∀ {xs : List D} {bs : List Int} {vs : List V}, intsOf xs = some bs → RDs K H xs vs → vs = bs.map V.int
  | [], bs, vs, h, r => by cases h; simp only [RDs] at r; exact r
  | d :: xs, bs, vs, h, r => by
    simp only [RDs] at r
    obtain ⟨v, vr, rfl, r1, r2⟩ := r
    cases d with
    | int x =>
      obtain ⟨bs', e, rfl⟩ := Option.map_eq_some_iff.mp (show (intsOf xs).map (x :: ·) = some bs from h)
      rw [intsOf_rds e r2, show v = V.int x from r1]
      rfl
    | _ => cases h
theorem strsOf_rds : ∀ {xs : List D} {bs : List Str} {vs : List V}, strsOf xs = some bs → RDs K H xs vs → vs = bs.map V.str
  | [], bs, vs, h, r => by cases h; simp only [RDs] at r; exact r
  | d :: xs, bs, vs, h, r => by
    simp only [RDs] at r
    obtain ⟨v, vr, rfl, r1, r2⟩ := r
    cases d with
    | str x =>
      obtain ⟨bs', e, rfl⟩ := Option.map_eq_some_iff.mp (show (strsOf xs).map (x :: ·) = some bs from h)
      rw [strsOf_rds e r2, show v = V.str x from r1]
      rfl
    | _ => cases h
/-! ### data with dicts, read -/
mutual
inductive Dx (K : PySem.W.Frag) (H : Hp) : V → PyData → Prop
  | non : Dx K H .non .none
  | bl (b : Bool) : Dx K H (.bl b) (.bool b)
  | int (i : Int) : Dx K H (.int i) (.int i)
  | str (x : Str) : Dx K H (.str x) (.str x)
  | lst {a : Addr} {xs : List V} {ds : List PyData} : SqL K H a xs → DxL K H xs ds → Dx K H (.ref a) (.list ds)
  | tup {a : Addr} {xs : List V} {ds : List PyData} : SqT K H a xs → DxL K H xs ds → Dx K H (.ref a) (.tuple ds)
  | dK {a : Addr} {ws : List (Key × V)} {ds : List PyData} : H a = some (.dK ws) → DxL K H (ws.map (·.2)) ds → Dx K H (.ref a) (.dict ((ws.map fun kv => keyP kv.1).zip ds))
inductive DxL (K : PySem.W.Frag) (H : Hp) : List V → List PyData → Prop
  | nil : DxL K H [] []
  | cons {v : V} {vs : List V} {d : PyData} {ds : List PyData} : Dx K H v d → DxL K H vs ds → DxL K H (v :: vs) (d :: ds)
end
theorem RKv.keys {kvs : List (Key × D)} {ws : List (Key × V)} (h : RKv K H kvs ws) : kvs.map (fun kv => keyP kv.1) = ws.map fun kv => keyP kv.1 := by
  unfold RKv at h
  induction h with
  | nil => rfl
  | cons r t ih => rw [List.map_cons, List.map_cons, ih, r.1]
mutual
theorem Rdg.dx (hs : RS K H S) : ∀ {d : D} {p : PyData} {v : V}, Rdg S d p → RD K H d v → Dx K H v p
  | _, _, v, .non, r => by cases (show v = V.non from r); exact .non
  | _, _, v, .bl b, r => by cases (show v = V.bl b from r); exact .bl b
  | _, _, v, .int i, r => by cases (show v = V.int i from r); exact .int i
  | _, _, v, .str x, r => by cases (show v = V.str x from r); exact .str x
  | _, _, v, .tup hl, r => by
    simp only [RD] at r
    obtain ⟨a, vs, rfl, e1, d1⟩ := r
    exact .tup e1 (RdgL.dx hs hl d1)
  | _, _, v, .lst e hl, r => by
    cases (show v = V.ref _ from r)
    obtain ⟨vs, e1, d1⟩ := hs _ _ e
    exact .lst (.inl (.inl e1)) (RdgL.dx hs hl d1)
  | _, _, v, .dK e hl, r => by
    cases (show v = V.ref _ from r)
    obtain ⟨ws, e1, rk⟩ := hs _ _ e
    rw [rk.keys]
    exact .dK e1 (RdgL.dx hs hl rk.vals)
theorem RdgL.dx (hs : RS K H S) : ∀ {ds : List D} {ps : List PyData} {vs : List V}, RdgL S ds ps → RDs K H ds vs → DxL K H vs ps
  | _, _, _, .nil, r => by simp only [RDs] at r; subst r; exact .nil
  | _, _, _, .cons h1 h2, r => by
    simp only [RDs] at r
    obtain ⟨v, vr, rfl, r1, r2⟩ := r
    exact .cons (Rdg.dx hs h1 r1) (RdgL.dx hs h2 r2)
end
theorem RdgR.dx {x : R} {v : V} {p : PyData} (hs : RS K H S) (r : RR K Ha H S x v) (h : RdgR S x p) : Dx K H v p := by
  cases x with
  | v d => exact Rdg.dx hs h r
  | n o =>
    obtain ⟨a, rfl, _, _, ho⟩ := r
    cases o with
    | lst xs =>
      obtain ⟨ps, rfl, h⟩ := h
      obtain ⟨vs, e1, d1⟩ := ho
      exact .lst (.inl (.inl e1)) (RdgL.dx hs h d1)
    | dK kvs =>
      obtain ⟨ps, rfl, h⟩ := h
      obtain ⟨ws, e1, rk⟩ := ho
      rw [rk.keys]
      exact .dK e1 (RdgL.dx hs h rk.vals)
    | dT kvs => exact h.elim
end
/-! the heap's own reading -/
section
variable {X : Cx} {pins : List (Addr × Obj)} {σ : L2.St} {H : Hp} {s : Shared}
theorem hasLst_list {ps : List PyData} : hasLst (.list ps) = true := by simp only [hasLst]
theorem hasLst_tup {ps : List PyData} (h : hasLst (.tuple ps) = false) : hasLsts ps = false := by simpa only [hasLst] using h
theorem hasLst_cons {p : PyData} {ps : List PyData} (h : hasLsts (p :: ps) = false) : hasLst p = false ∧ hasLsts ps = false := by simpa only [hasLsts, Bool.or_eq_false_iff] using h
theorem hasLst_dict : ∀ {ks ps : List PyData}, ks.length = ps.length → hasLstK (ks.zip ps) = false → hasLsts ps = false
  | [], [], _, _ => by simp only [hasLsts]
  | [], _ :: _, h, _ => by simp at h
  | _ :: _, [], h, _ => by simp at h
  | k :: ks, p :: ps, h, e => by
    have e : hasLstK ((k, p) :: ks.zip ps) = false := e
    simp only [hasLstK, Bool.or_eq_false_iff] at e
    simp only [hasLsts, Bool.or_eq_false_iff]
    exact ⟨e.1.2, hasLst_dict (by simpa using h) e.2⟩
theorem DxL.length {K : PySem.W.Frag} {H : Hp} : ∀ {vs : List V} {ps : List PyData}, DxL K H vs ps → vs.length = ps.length
  | _, _, .nil => rfl
  | _, _, .cons _ h => by rw [List.length_cons, List.length_cons, DxL.length h]
theorem readsA_app {h : Heap} : ∀ {us : List Value} {ds : List PyData} {as : List Addr}, ReadsAll h us ds as → us.length = ds.length
  | _, _, _, .nil => rfl
  | _, _, _, .cons _ t => by rw [List.length_cons, List.length_cons, readsA_app t]
theorem read_keys {h : Heap} {knd : KeyKind X.prog X.w Key} (e : ∀ k v, knd.is k v = keyIs k v) {es : List DictEntry} {ws : List (Key × Value)} (p : Pairs knd es ws) : ReadsAll h (es.map (·.key)) (ws.map fun kv => keyP kv.1) [] := by
  induction p with
  | nil => exact .nil
  | @cons en kv es kvs h1 h2 t ih =>
    rw [List.map_cons, List.map_cons]
    rw [e] at h1
    rcases keyIs_shape h1 with ⟨i, t, e1, e2⟩ | ⟨i, t, e1, e2⟩
    · rw [e1, e2]
      exact .cons (as := []) (bs := []) (.int i t) ih
    · rw [e1, e2]
      exact .cons (as := []) (bs := []) (.str i t) ih
theorem pair_vals {knd : KeyKind X.prog X.w Key} : ∀ {es : List DictEntry} {vs : List (Key × Value)} {ws : List (Key × V)}, Pairs knd es vs → KV ws vs → Vals (ws.map (·.2)) (es.map (·.val)) := by
  intro es vs ws p
  induction p generalizing ws with
  | nil => intro k; cases k; exact .nil
  | @cons en kv es kvs h1 h2 t ih =>
    intro k
    cases k with
    | cons r q =>
      rw [List.map_cons, List.map_cons, h2]
      exact .cons r.2 (ih q)
theorem KV_keys {κ : Type} : ∀ {ws : List (κ × V)} {vs : List (κ × Value)} {f : κ → PyData}, KV ws vs → ws.map (fun kv => f kv.1) = vs.map fun kv => f kv.1 := by
  intro ws vs f k
  unfold KV at k
  induction k with
  | nil => rfl
  | cons r t ih => rw [List.map_cons, List.map_cons, ih, r.1]
mutual
theorem Dx.reads (I : Inv X pins σ H s) : ∀ {v : V} {p : PyData} {u : Value}, Dx X.K H v p → RelV v u → ∃ as, Reads s.heap u p as ∧ (hasLst p = false → sysModules ∉ as)
  | _, _, u, .non, r => by cases (show u = Value.none from r); exact ⟨_, .none, fun _ z => nomatch z⟩
  | _, _, u, .bl b, r => by cases (show u = Value.bool b from r); exact ⟨_, .bool b, fun _ z => nomatch z⟩
  | _, _, u, .int i, r => by obtain ⟨t, rfl⟩ := r; exact ⟨_, .int i t, fun _ z => nomatch z⟩
  | _, _, u, .str x, r => by obtain ⟨t, rfl⟩ := r; exact ⟨_, .str x t, fun _ z => nomatch z⟩
  | _, _, u, .lst hs hl, r => by
    cases r
    obtain ⟨its, rv, ⟨o, n, ho, hc, _, hd⟩, _⟩ := I.list hs
    obtain ⟨as, hr, _⟩ := DxL.reads I hl rv
    exact ⟨_, .list ho hc hd hr, fun z => by rw [hasLst_list] at z; cases z⟩
  | _, _, u, .tup hs hl, r => by
    cases r
    obtain ⟨its, rv, ⟨o, ho, hc, n, hd⟩, _⟩ := I.tuple hs
    obtain ⟨as, hr, hn⟩ := DxL.reads I hl rv
    exact ⟨_, .tuple ho hc hd hr, fun z => hn (hasLst_tup z)⟩
  | _, _, u, .dK e hl, r => by
    cases r
    obtain ⟨z, hsm, vs, rel, o, es, ep, ho, hx, hd, hk, hp, hnd⟩ := I.hok _ _ e
    have hv := pair_vals hp rel
    obtain ⟨as, hr, hn⟩ := DxL.reads I hl hv
    have el := DxL.length hl
    rw [List.length_map] at el
    have k1 := read_keys (h := s.heap) (fun k v => mixKind_is X.prog X.w k v) hp
    rw [← KV_keys rel] at k1
    refine ⟨_, .dict (as := []) (bs := as) ho hx.1 hd ?_ ?_, fun q => ?_⟩
    · rw [List.map_fst_zip (by rw [List.length_map]; omega)]
      exact k1
    · rw [List.map_snd_zip (by rw [List.length_map]; omega)]
      exact hr
    · simp only [hasLst] at q
      have q2 := hasLst_dict (by rw [List.length_map]; exact el) q
      intro hm
      rcases List.mem_cons.mp hm with e1 | hm
      · rw [← e1] at hsm
        simp at hsm
      · exact hn q2 (by simpa using hm)
theorem DxL.reads (I : Inv X pins σ H s) : ∀ {vs : List V} {ps : List PyData} {us : List Value}, DxL X.K H vs ps → Vals vs us → ∃ as, ReadsAll s.heap us ps as ∧ (hasLsts ps = false → sysModules ∉ as)
  | _, _, _, .nil, r => by cases r; exact ⟨_, .nil, fun _ z => nomatch z⟩
  | _, _, _, .cons h1 h2, r => by
    cases r with
    | cons r1 r2 =>
      obtain ⟨as, q1, n1⟩ := Dx.reads I h1 r1
      obtain ⟨bs, q2, n2⟩ := DxL.reads I h2 r2
      exact ⟨_, .cons q1 q2, fun z hm => (List.mem_append.mp hm).elim (n1 (hasLst_cons z).1) (n2 (hasLst_cons z).2)⟩
end
end
end DP

set_option maxRecDepth 100000
set_option maxHeartbeats 1000000
/-! DpSn7: the rules of the built-ins. -/
namespace DP
open PySem PySem.Spec PyProof.Rows L2
section
variable {X : Cx}
theorem bi_all : BiOk X .all (rAll X.K) := ⟨fun rs vs S0 H0 S H Ha Q QV rr hs k h po => by
  unfold biW at h
  split at h <;> first | (rename_i e; cases e) | skip
  all_goals first | exact h.elim | skip
  obtain ⟨v, rfl, r⟩ := rr.one
  obtain ⟨xs, bs, e, eb, q⟩ := h
  obtain ⟨a, ws, rfl, sq, rd⟩ := lstOf_sq hs r e
  rw [blsOf_rds eb rd] at sq
  exact ⟨a, bs, rfl, sq, po.dat k hs rd_bl q⟩⟩
theorem bi_any : BiOk X .any (rAny X.K) := ⟨fun rs vs S0 H0 S H Ha Q QV rr hs k h po => by
  unfold biW at h
  split at h <;> first | (rename_i e; cases e) | skip
  all_goals first | exact h.elim | skip
  obtain ⟨v, rfl, r⟩ := rr.one
  obtain ⟨xs, bs, e, eb, q⟩ := h
  obtain ⟨a, ws, rfl, sq, rd⟩ := lstOf_sq hs r e
  rw [blsOf_rds eb rd] at sq
  exact ⟨a, bs, rfl, sq, po.dat k hs rd_bl q⟩⟩
theorem bi_sum : BiOk X .sum (rSum X.K) := ⟨fun rs vs S0 H0 S H Ha Q QV rr hs k h po => by
  unfold biW at h
  split at h <;> first | (rename_i e; cases e) | skip
  all_goals first | exact h.elim | skip
  obtain ⟨v, rfl, r⟩ := rr.one
  obtain ⟨xs, ns, e, eb, q⟩ := h
  obtain ⟨a, ws, rfl, sq, rd⟩ := lstOf_sq hs r e
  rw [intsOf_rds eb rd] at sq
  exact ⟨a, ns, rfl, sq, po.dat k hs rd_int q⟩⟩
theorem bi_list : BiOk X .list (fun xs H Q => ∃ p ys, xs = [.ref p] ∧ (SqL X.K H p ys ∨ SqT X.K H p ys) ∧ ∀ l, H l = none → Q (.ref l) (upd H l (.lst ys))) := ⟨fun rs vs S0 H0 S H Ha Q QV rr hs k h po => by
  unfold biW at h
  split at h <;> first | (rename_i e; cases e) | skip
  all_goals first | exact h.elim | skip
  obtain ⟨v, rfl, r⟩ := rr.one
  obtain ⟨xs, e, q⟩ := h
  obtain ⟨a, ws, rfl, sq, rd⟩ := seqOf_sq hs r e
  exact ⟨a, ws, rfl, sq, fun l hl => po.lst k hs hl rd q⟩⟩
theorem seq_tup {K : PySem.W.Frag} {H : Hp} {S : Sto} {Ha : Hp} {r : R} {xs : List D} (rr : RR K Ha H S r (.ref (a : Addr))) (hs : RS K H S) (e : seqOf S r = some xs) : (∃ ws, SqL K H a ws ∧ RDs K H xs ws) ∨ (∃ ws, SqT K H a ws ∧ RDs K H xs ws) ∧ r = .v (.tup xs) := by
  cases r with
  | n o =>
    obtain ⟨b, ws, e1, sq, rd⟩ := lstOf_sq hs rr (show lstOf S (.n o) = some xs from e)
    cases e1
    exact .inl ⟨ws, sq, rd⟩
  | v d =>
    cases d with
    | tup ys =>
      have e2 : ys = xs := Option.some.inj e
      subst e2
      have rr' : RD K H (.tup ys) (.ref a) := rr
      simp only [RD] at rr'
      obtain ⟨b, ws, e1, sq, rd⟩ := rr'
      cases e1
      exact .inr ⟨⟨ws, sq, rd⟩, rfl⟩
    | _ =>
      obtain ⟨b, ws, e1, sq, rd⟩ := lstOf_sq hs rr e
      cases e1
      exact .inl ⟨ws, sq, rd⟩
theorem bi_tupl : BiOk X .tupl (fun xs H Q => ∃ p ys, xs = [.ref p] ∧ ((SqL X.K H p ys ∧ ∀ l, H l = none → Q (.ref l) (upd H l (.tup ys))) ∨ (SqT X.K H p ys ∧ Q (.ref p) H))) := ⟨fun rs vs S0 H0 S H Ha Q QV rr hs k h po => by
  unfold biW at h
  split at h <;> first | (rename_i e; cases e) | skip
  all_goals first | exact h.elim | skip
  obtain ⟨v, rfl, r⟩ := rr.one
  obtain ⟨xs, e, q⟩ := h
  obtain ⟨a, ws, rfl, _, _⟩ := seqOf_sq hs r e
  rcases seq_tup r hs e with ⟨ys, sq, rd⟩ | ⟨⟨ys, sq, rd⟩, e2⟩
  · exact ⟨a, ys, rfl, .inl ⟨sq, fun l hl => po.tup k hs hl rd q⟩⟩
  · subst e2
    exact ⟨a, ys, rfl, .inr ⟨sq, po.dat k hs r q⟩⟩⟩
theorem bi_abs : BiOk X .abs (fun xs H Q => ∃ i, xs = [.int i] ∧ Q (.int (if i < 0 then -i else i)) H) := ⟨fun rs vs S0 H0 S H Ha Q QV rr hs k h po => by
  unfold biW at h
  split at h <;> first | (rename_i e; cases e) | skip
  all_goals first | exact h.elim | skip
  obtain ⟨v, rfl, r⟩ := rr.one
  cases (show v = V.int _ from r)
  exact ⟨_, rfl, po.dat k hs rd_int h⟩⟩
theorem bi_int : BiOk X .int (fun xs H Q => (∃ i, xs = [.int i] ∧ Q (.int i) H) ∨ ∃ k, xs = [.bl k] ∧ Q (.int (if k then 1 else 0)) H) := ⟨fun rs vs S0 H0 S H Ha Q QV rr hs k h po => by
  unfold biW at h
  split at h <;> first | (rename_i e; cases e) | skip
  all_goals first | exact h.elim | skip
  · obtain ⟨v, rfl, r⟩ := rr.one
    cases (show v = V.int _ from r)
    exact .inl ⟨_, rfl, po.dat k hs rd_int h⟩
  · obtain ⟨v, rfl, r⟩ := rr.one
    cases (show v = V.bl _ from r)
    exact .inr ⟨_, rfl, po.dat k hs rd_int h⟩⟩
theorem bi_min : BiOk X .min (fun xs H Q => ∃ i j, xs = [.int i, .int j] ∧ Q (.int (if j < i then j else i)) H) := ⟨fun rs vs S0 H0 S H Ha Q QV rr hs k h po => by
  unfold biW at h
  split at h <;> first | (rename_i e; cases e) | skip
  all_goals first | exact h.elim | skip
  obtain ⟨v, u, rfl, r, r2⟩ := rr.two
  cases (show v = V.int _ from r)
  cases (show u = V.int _ from r2)
  exact ⟨_, _, rfl, po.dat k hs rd_int h⟩⟩
theorem bi_max : BiOk X .max (fun xs H Q => ∃ i j, xs = [.int i, .int j] ∧ Q (.int (if j > i then j else i)) H) := ⟨fun rs vs S0 H0 S H Ha Q QV rr hs k h po => by
  unfold biW at h
  split at h <;> first | (rename_i e; cases e) | skip
  all_goals first | exact h.elim | skip
  obtain ⟨v, u, rfl, r, r2⟩ := rr.two
  cases (show v = V.int _ from r)
  cases (show u = V.int _ from r2)
  exact ⟨_, _, rfl, po.dat k hs rd_int h⟩⟩
/-! repr -/
def rRepr (K : PySem.W.Frag) : List V → Hp → VK → Prop := fun xs H Q => ∃ v p, xs = [v] ∧ Dx K H v p ∧ p.showable = true ∧ p.depth ≤ 60 ∧ (p.hasDict = true → hasLst p = false) ∧ p.shown.length ≤ sizeLine ∧ Q (.str p.shown) H
theorem call_repr (hg : X.A.guards = some []) (hu : X.A.units + 65 < cLine) : CallR X (.builtin "repr") (rRepr X.K) := by
  intro pins s σ H xs us Q I r h
  obtain ⟨v, p, rfl, dx, hsh, hd, hl, hz, q⟩ := h
  obtain ⟨u, rfl, ru⟩ := vals1 r
  cases dx with
  | non => cases (show u = Value.none from ru); exact PySem.P.repr_of_none ⟨.str _, H, I.tok _, ⟨_, rfl⟩, by simpa only [PyData.shown] using q⟩
  | bl b => cases (show u = Value.bool b from ru); exact PySem.P.repr_of_bool ⟨.str _, H, I.tok _, ⟨_, rfl⟩, by simpa only [PyData.shown] using q⟩
  | int i =>
    obtain ⟨t, rfl⟩ := ru
    exact PySem.P.repr_of_int (by simpa [PyData.showable] using hsh) ⟨.str _, H, I.tok _, ⟨_, rfl⟩, by simpa only [PyData.shown] using q⟩
  | str x =>
    obtain ⟨t, rfl⟩ := ru
    exact PySem.P.repr_of_str ⟨.str _, H, I.tok _, ⟨_, rfl⟩, by simpa only [PyData.shown] using q⟩ (by simpa only [PyData.shown] using hz)
  | lst h1 h2 =>
    cases ru
    obtain ⟨as, rd, hn⟩ := Dx.reads I (.lst h1 h2) (show RelV (.ref _) (.ref _) from rfl)
    exact repr_of_reads' rd hsh (fun e => hn (hl e)) hg (by omega) (fun _ _ e => e) (fun h' u' tk kp => ⟨.str _, H, I.kept kp, ⟨u', rfl⟩, q⟩) hz
  | tup h1 h2 =>
    cases ru
    obtain ⟨as, rd, hn⟩ := Dx.reads I (.tup h1 h2) (show RelV (.ref _) (.ref _) from rfl)
    exact repr_of_reads' rd hsh (fun e => hn (hl e)) hg (by omega) (fun _ _ e => e) (fun h' u' tk kp => ⟨.str _, H, I.kept kp, ⟨u', rfl⟩, q⟩) hz
  | dK h1 h2 =>
    cases ru
    obtain ⟨as, rd, hn⟩ := Dx.reads I (.dK h1 h2) (show RelV (.ref _) (.ref _) from rfl)
    exact repr_of_reads' rd hsh (fun e => hn (hl e)) hg (by omega) (fun _ _ e => e) (fun h' u' tk kp => ⟨.str _, H, I.kept kp, ⟨u', rfl⟩, q⟩) hz
theorem bi_repr : BiOk X .repr (rRepr X.K) := ⟨fun rs vs S0 H0 S H Ha Q QV rr hs k h po => by
  unfold biW at h
  split at h <;> first | (rename_i e; cases e) | skip
  all_goals first | exact h.elim | skip
  obtain ⟨v, rfl, r⟩ := rr.one
  obtain ⟨p, e, h1, h2, h3, h4, q⟩ := h
  exact ⟨v, p, rfl, RdgR.dx hs r e, h1, h2, h3, h4, po.dat k hs rd_str q⟩⟩
/-! sorted -/
open PySem.W in
def rSortD (K : PySem.W.Frag) : List V → Hp → VK → Prop := fun xs H Q => ∃ a ds vs, xs = [.ref a] ∧ SqL K H a vs ∧ RDs K H ds vs ∧ pureDs ds = true ∧ AllAlike (ds.map encD) ∧ Sortable (ds.map encD) ∧ (∀ d ∈ ds, (encD d).depth ≤ 60) ∧
  ∀ p ws, H p = none → RDs K H (sortD ds) ws → Q (.ref p) (upd H p (.lst ws))
theorem each_of {K : PySem.W.Frag} {H : Hp} : ∀ {ds : List D} {vs : List V} {us : List Value}, RDs K H ds vs → Vals vs us → PySem.W.EachIs (fun u d => ∃ v, RelV v u ∧ RD K H d v) us ds
  | [], _, _, h, r => by simp only [RDs] at h; subst h; cases r; exact .nil
  | d :: ds, _, _, h, r => by
    simp only [RDs] at h
    obtain ⟨v, vr, rfl, h1, h2⟩ := h
    cases r with
    | cons r1 r2 => exact .cons ⟨v, r1, h1⟩ (each_of h2 r2)
theorem each_back {K : PySem.W.Frag} {H : Hp} : ∀ {ds : List D} {us : List Value}, PySem.W.EachIs (fun u d => ∃ v, RelV v u ∧ RD K H d v) us ds → ∃ vs, RDs K H ds vs ∧ Vals vs us
  | _, _, .nil => ⟨[], by simp only [RDs], .nil⟩
  | _, _, .cons ⟨v, r, d⟩ t => by
    obtain ⟨vs, h1, h2⟩ := each_back t
    exact ⟨v :: vs, by simp only [RDs]; exact ⟨v, vs, rfl, d, h1⟩, .cons r h2⟩
theorem each_read {pins : List (Addr × Obj)} {σ : L2.St} {H : Hp} {s : Shared} (I : Inv X pins σ H s) : ∀ {ds : List D} {vs : List V} {us : List Value}, RDs X.K H ds vs → Vals vs us → pureDs ds = true → PySem.W.EachIs (fun u d => ∃ as, Reads s.heap u (encD d) as) us ds
  | [], _, _, h, r, _ => by simp only [RDs] at h; subst h; cases r; exact .nil
  | d :: ds, _, _, h, r, p => by
    simp only [RDs] at h
    obtain ⟨v, vr, rfl, h1, h2⟩ := h
    rw [pureDs, Bool.and_eq_true] at p
    cases r with
    | cons r1 r2 =>
      have dx : Dx X.K H v (encD d) := Rdg.dx (S := fun _ => none) (fun _ _ e => nomatch e) (rdg_pure _ d p.1) h1
      obtain ⟨as, rd, _⟩ := Dx.reads I dx r1
      exact .cons ⟨as, rd⟩ (each_read I h2 r2 p.2)
theorem call_sortD (hu : X.A.units + 65 < cLine) : CallR X (.builtin "sorted") (rSortD X.K) := by
  intro pins s σ H xs us Q I r h
  obtain ⟨a, ds, vs, rfl, sq, rd, hp, hal, hso, hdp, q⟩ := h
  obtain ⟨u, rfl, ru⟩ := vals1 r
  cases ru
  obtain ⟨its, rv, hl, hz⟩ := I.list sq
  have hlen : ds.length ≤ sizeLine := by rw [rd.length]; exact hz
  refine PySem.W.sorted_data (enc := encD) hl.isList (each_of rd rv) (each_read I rd rv hp) hal hso hlen (fun d hd => by have := hdp d hd; omega) fun out ho he => ?_
  obtain ⟨ws, h1, h2⟩ := each_back he
  obtain ⟨ep, he'⟩ := PyProof.Rows.sortedAll_at s.heap its out.toArray
  have hfr := I.hok.fresh (Nat.le_succ s.heap.objs.size)
  refine ⟨.ref _, upd H (s.heap.objs.size + 1) (.lst ws), I.laid (t' := s.toks) (fun _ _ => PyProof.Rows.sortedAll_old) (Nat.le_succ _) ⟨?_, out, ep, h2, he'⟩, rfl, q _ ws hfr h1⟩
  have := h2.length
  omega
theorem bi_sorted : BiOk X .sorted (rSortD X.K) := ⟨fun rs vs S0 H0 S H Ha Q QV rr hs k h po => by
  unfold biW at h
  split at h <;> first | (rename_i e; cases e) | skip
  all_goals first | exact h.elim | skip
  obtain ⟨v, rfl, r⟩ := rr.one
  obtain ⟨xs, e, h1, h2, h3, h4, q⟩ := h
  obtain ⟨a, ws, rfl, sq, rd⟩ := lstOf_sq hs r e
  exact ⟨a, xs, ws, rfl, sq, rd, h1, h2, h3, h4, fun p ys hp rd2 => po.lst k hs hp rd2 q⟩⟩
end
end DP

set_option maxRecDepth 100000
set_option maxHeartbeats 1000000
/-! DpSn8: methods, calls of defs. -/
namespace DP
open PySem PySem.Spec PyProof.Rows L2
section
variable {X : Cx} {a b c o : Expr} {wa wb wc wo : Ev} {pos p p2 apos cpos : Pos} {es : List Expr} {wes : Env → Sto → (List D → Sto → Prop) → Prop}
/-- a rule of a method beside its way by data -/
structure MeOk (X : Cx) (m : Me) (T id : String) (name : Str) (r : V → List V → Hp → VK → Prop) : Prop where
  plain : PlainAttrs T
  slot : Slot T name id
  ty : typeOf (.builtin id) = pure (.type "method_descriptor")
  mt : MtR X id r
  tyV : ∀ x v S H Ha, RR X.K Ha H S x v → RS X.K H S → meTy m x S → tyV X.K T v H
  l : ∀ x v ds vs S0 H0 S H Ha Q QV, RR X.K Ha H S x v → RDs X.K H ds vs → RS X.K H S → Kp S0 H0 S H → meW m x ds S Q → Post X.K S0 H0 Q QV → r v vs H QV
theorem s_me0 {m : Me} {T id : String} {name : Str} {r : V → List V → Hp → VK → Prop} (ok : MeOk X m T id name r) (ho : PE X o (tD X.K wo)) (hbase : attributeBase o name X.env (eval o X.env) = eval o X.env) (hline : (apos.endLine == cpos.line) = true) :
    PE X (.Call (.Attribute o name apos) [] [] cpos) (tD X.K fun ρ S Q => wo ρ S fun x S1 => meTy m x S1 ∧ (fun (_ : Env) S2 (k : List D → Sto → Prop) => k [] S2) ρ S1 fun ds S2 => meW m x ds S2 Q) :=
  (pe_bm0 ok.plain ok.slot ok.ty ok.mt ho hbase hline).weak fun σ H QV ⟨ρ, S, Q, re, hs, h, po⟩ => tD1 re hs h fun x v H1 S1 r1 s1 k1 re1 ⟨ht, q⟩ =>
    ⟨ok.tyV x v S1 H1 H r1 s1 ht, ok.l x v [] [] S H S1 H1 H Q QV r1 (by simp [RDs]) s1 k1 q po⟩
theorem s_me1 {m : Me} {T id : String} {name : Str} {r : V → List V → Hp → VK → Prop} (ok : MeOk X m T id name r) (ho : PE X o (tD X.K wo)) (ha : PA X (a :: es) (tDA X.K wes)) (hbase : attributeBase o name X.env (eval o X.env) = eval o X.env)
    (hfew : ((backTo cpos (starEach (a :: es) X.env)).all (fun x => !x.1) && (backToKw cpos (keywordEach [] X.env)).all (fun x => x.1.isSome) && decide ((a :: es).length + ([] : List Keyword).length + (if ([] : List Keyword).isEmpty then 0 else 1) < 30)) = true)
    (hline : (apos.endLine == cpos.line) = true) (hn : starEach (a :: es) X.env = (false, eval a X.env) :: starEach es X.env) (hpl : (backTo cpos (starEach es X.env)).any (·.1) = false) :
    PE X (.Call (.Attribute o name apos) (a :: es) [] cpos) (tD X.K fun ρ S Q => wo ρ S fun x S1 => meTy m x S1 ∧ wes ρ S1 fun ds S2 => meW m x ds S2 Q) :=
  (pe_bm ok.plain ok.slot ok.ty ok.mt ho ha hbase hfew hline hn hpl).weak fun σ H QV ⟨ρ, S, Q, re, hs, h, po⟩ => tD1 re hs h fun x v H1 S1 r1 s1 k1 re1 ⟨ht, q⟩ =>
    ⟨ok.tyV x v S1 H1 H r1 s1 ht, ρ, S1, _, re1, s1, q, fun vs H2 ds S2 rd s2 k2 q => ok.l x v ds vs S H S2 H2 H Q QV (r1.kp k2 s1) rd s2 (k1.trans k2) q po⟩
theorem tyV_list {K : PySem.W.Frag} {x : R} {v : V} {S : Sto} {H Ha : Hp} (r : RR K Ha H S x v) (hs : RS K H S) (h : ∃ xs, lstOf S x = some xs) : tyV K "list" v H := by
  obtain ⟨xs, e⟩ := h
  obtain ⟨a, vs, rfl, sq, _⟩ := lstOf_sq hs r e
  exact .inl ⟨rfl, vs, sq⟩
theorem tyV_str {K : PySem.W.Frag} {x : R} {v : V} {S : Sto} {H Ha : Hp} (r : RR K Ha H S x v) (h : ∃ z, x = .v (.str z)) : tyV K "str" v H := by
  obtain ⟨z, rfl⟩ := h
  cases (show v = V.str z from r)
  rfl
/-- a list of the store is written -/
theorem wrote_lst {K : PySem.W.Frag} {S0 S : Sto} {H0 H : Hp} {Q : PR} {QV : VK} {l : Addr} {xs ys : List D} {us : List V} {d : D} {v : V} (po : Post K S0 H0 Q QV) (k : Kp S0 H0 S H) (hs : RS K H S) (e : S l = some (.lst xs)) (rd : RDs K H ys us) (r : RD K H d v)
    (q : Q (.v d) (up S l (.lst ys))) : QV v (upd H l (.lst us)) := by
  have hn : S l ≠ none := by rw [e]; simp
  have k2 : Kp S H (up S l (.lst ys)) (upd H l (.lst us)) := Kp.wrote hs hn
  have ro : RO K (upd H l (.lst us)) l (.lst ys) := ⟨us, upd_same, RDs.kp k2 hs ys us rd⟩
  exact po _ _ (.v d) _ (RD.kp k2 hs d v r) (RS.wrote hs hn ro) (k.trans k2) q
theorem store_lst {K : PySem.W.Frag} {S : Sto} {H : Hp} {l : Addr} {xs : List D} (hs : RS K H S) (e : S l = some (.lst xs)) : ∃ vs, H l = some (.lst vs) ∧ RDs K H xs vs := hs l _ e
theorem me_append : MeOk X .append "list" "list.append" "append" rAppend := by
  refine ⟨PySem.F.plainAttrs_list, PySem.F.slot_list_append, PySem.F.type_list_append, mt_append, fun x v S H Ha r hs h => tyV_list r hs h, fun x v ds vs S0 H0 S H Ha Q QV r rd hs k h po => ?_⟩
  unfold meW at h
  split at h <;> first | (rename_i e; cases e) | skip
  all_goals first | exact h.elim | skip
  obtain ⟨xs, e, hz, q⟩ := h
  cases (show v = V.ref _ from r)
  obtain ⟨ws, e1, d1⟩ := store_lst hs e
  simp only [RDs] at rd
  obtain ⟨u, ur, rfl, ru, rfl⟩ := rd
  exact ⟨_, ws, u, rfl, rfl, e1, by rw [← d1.length]; exact hz, wrote_lst po k hs e (d1.append (.one ru)) rd_non q⟩
theorem me_extend : MeOk X .extend "list" "list.extend" "extend" rExtend := by
  refine ⟨PySem.F.plainAttrs_list, PySem.F.slot_list_extend, PySem.F.type_list_extend, mt_extend, fun x v S H Ha r hs h => tyV_list r hs h, fun x v ds vs S0 H0 S H Ha Q QV r rd hs k h po => ?_⟩
  unfold meW at h
  split at h <;> first | (rename_i e; cases e) | skip
  all_goals first | exact h.elim | skip
  obtain ⟨xs, ys, e, e2, hz, q⟩ := h
  cases (show v = V.ref _ from r)
  obtain ⟨ws, e1, d1⟩ := store_lst hs e
  obtain ⟨ws2, e3, d3⟩ := store_lst hs e2
  simp only [RDs] at rd
  obtain ⟨u, ur, rfl, ru, rfl⟩ := rd
  cases (show u = V.ref _ from ru)
  exact ⟨_, _, ws, ws2, rfl, rfl, e1, e3, by rw [← d1.length, ← d3.length]; exact hz, wrote_lst po k hs e (d1.append d3) rd_non q⟩
theorem me_reverse : MeOk X .reverse "list" "list.reverse" "reverse" rReverse := by
  refine ⟨PySem.F.plainAttrs_list, PySem.F.slot_list_reverse, PySem.F.type_list_reverse, mt_reverse, fun x v S H Ha r hs h => tyV_list r hs h, fun x v ds vs S0 H0 S H Ha Q QV r rd hs k h po => ?_⟩
  unfold meW at h
  split at h <;> first | (rename_i e; cases e) | skip
  all_goals first | exact h.elim | skip
  obtain ⟨xs, e, q⟩ := h
  cases (show v = V.ref _ from r)
  obtain ⟨ws, e1, d1⟩ := store_lst hs e
  simp only [RDs] at rd
  exact ⟨_, ws, rfl, rd, e1, wrote_lst po k hs e d1.reverse rd_non q⟩
def rPopA : V → List V → Hp → VK → Prop := fun x vs H Q => rPop x vs H Q ∨ rPopAt x vs H Q
theorem me_pop : MeOk X .pop "list" "list.pop" "pop" rPopA := by
  refine ⟨PySem.F.plainAttrs_list, PySem.F.slot_list_pop, PySem.F.type_list_pop, MtR.or mt_pop mt_popAt, fun x v S H Ha r hs h => tyV_list r hs h, fun x v ds vs S0 H0 S H Ha Q QV r rd hs k h po => ?_⟩
  unfold meW at h
  split at h <;> first | (rename_i e; cases e) | skip
  all_goals first | exact h.elim | skip
  · obtain ⟨xs, d, e, ed, q⟩ := h
    cases (show v = V.ref _ from r)
    obtain ⟨ws, e1, d1⟩ := store_lst hs e
    simp only [RDs] at rd
    obtain ⟨y, ey, ry⟩ := d1.get ed
    rw [d1.length] at ey
    exact .inl ⟨_, ws, y, rfl, rd, e1, ey, wrote_lst po k hs e d1.dropLast ry q⟩
  · obtain ⟨xs, j, d, e, h1, h2, hj, ed, q⟩ := h
    cases (show v = V.ref _ from r)
    obtain ⟨ws, e1, d1⟩ := store_lst hs e
    simp only [RDs] at rd
    obtain ⟨u, ur, rfl, ru, rfl⟩ := rd
    cases (show u = V.int _ from ru)
    obtain ⟨y, ey, ry⟩ := d1.get ed
    exact .inr ⟨_, ws, _, j, y, rfl, rfl, e1, h1, h2, by rw [← d1.length]; exact (ixN_seq hj).1, ey, wrote_lst po k hs e (d1.erase j) ry q⟩
theorem me_upper : MeOk X .upper "str" "str.upper" "upper" (fun x xs H Q => ∃ a, x = .str a ∧ xs = [] ∧ a.length ≤ 5592405 ∧ Q (.str (Txt.upper a)) H) := by
  refine ⟨PySem.F.plainAttrs_str, PySem.F.slot_str_upper, PySem.F.type_str_upper, mt_upper, fun x v S H Ha r hs h => tyV_str r h, fun x v ds vs S0 H0 S H Ha Q QV r rd hs k h po => ?_⟩
  unfold meW at h
  split at h <;> first | (rename_i e; cases e) | skip
  all_goals first | exact h.elim | skip
  cases (show v = V.str _ from r)
  simp only [RDs] at rd
  exact ⟨_, rfl, rd, h.1, po.dat k hs rd_str h.2⟩
theorem me_join : MeOk X .join "str" "str.join" "join" (fun x xs H Q => ∃ a p, ∃ ys : List Str, x = .str a ∧ xs = [.ref p] ∧ (SqL X.K H p (ys.map V.str) ∨ SqT X.K H p (ys.map V.str)) ∧ (ys.map (·.length)).sum + ys.length * a.length ≤ 16777216 ∧ Q (.str (Txt.join a ys)) H) := by
  refine ⟨PySem.F.plainAttrs_str, PySem.F.slot_str_join, PySem.F.type_str_join, mt_join, fun x v S H Ha r hs h => tyV_str r h, fun x v ds vs S0 H0 S H Ha Q QV r rd hs k h po => ?_⟩
  unfold meW at h
  split at h <;> first | (rename_i e; cases e) | skip
  all_goals first | exact h.elim | skip
  obtain ⟨xs, ss, e, es, hz, q⟩ := h
  cases (show v = V.str _ from r)
  simp only [RDs] at rd
  obtain ⟨u, ur, rfl, ru, rfl⟩ := rd
  obtain ⟨l, ws, rfl, sq, d1⟩ := seqOf_sq (H0 := H) (x := .v _) hs ru e
  rw [strsOf_rds es d1] at sq
  exact ⟨_, l, ss, rfl, rfl, sq, hz, po.dat k hs rd_str q⟩

/-! ### defs, called where no repr is under way -/
/-- what a def promises, for callers in no repr -/
structure FnG (P : Program) (w : World) (K : PySem.W.Frag) (mg : Str → Option Value) (base : Heap) (cx : CXT) (k : Nat) (f : Addr) (fd : FuncData) (ps : List Str) (sp : Sp) : Prop where
  many : ∀ vs H Q E, sp vs H Q E → vs.length = ps.length
  go : ∀ (A : Around) (up : List PySem.Env) (s : Shared) (H : Hp) (args : Args) (us : List Value) (vs : List V) (Q : VK) (E : XK), A.guards = some [] → Room k A → Env0 P w K mg base A up s H → BindsTo s fd args (ps.zip us) → Vals vs us → sp vs H Q E →
    codeAny (model P w) A (.call (.ref f) args) (CR cx up P w H s Q E) s
variable {cx : CXT} {k : Nat} {f : Addr} {fd : FuncData} {ps : List Str} {sp : Sp} {E : XK} {x : Str}
theorem go_fn {pins : List (Addr × Obj)} {σ : L2.St} {H : Hp} {s : Shared} {Q : VK} {us : List Value} {vs : List V} (F : FnG X.prog X.w X.K X.mg X.base cx k f fd ps sp) (hg : X.A.guards = some []) (hr : Room k X.A) (hb : Binds X.K fd ps []) (hx : Passes cx X E)
    (I : Inv X pins σ H s) (r : Vals vs us) (h : sp vs H Q E) : wpAny (model X.prog X.w) X.A (call (.ref f) us) (EP X pins σ Q) X.xe s := by
  have hl : (us ++ []).length = ps.length := by rw [List.append_nil, ← r.length]; exact F.many _ _ _ _ h
  have bt := hb s us I.kIn hl
  rw [List.append_nil] at bt
  have run := F.go X.A X.stack s H ⟨us, []⟩ us vs Q E hg hr I.env0 bt r h
  refine wpAny_call (codeAny_mono run fun res s' hq => ?_)
  match res, hq with
  | .ok (.ret u), hq => exact I.after hq
  | .ok .next, hq => exact hq.elim
  | .ok .brk, hq => exact hq.elim
  | .ok .cont, hq => exact hq.elim
  | .error e, hq => exact hx pins σ H s e s' I hq
theorem pe_go (F : FnG X.prog X.w X.K X.mg X.base cx k f fd ps sp) (hg : X.A.guards = some []) (hr : Room k X.A) (hb : Binds X.K fd ps []) (hx : Passes cx X E) (hgl : Gl X x) (hm : X.mg x = some (.ref f)) (hk : PySem.W.keepIn X.K (.ref f) = true)
    {t : TA} (ha : PA X (a :: es) t) (hd : (x == ("__debug__" : Str)) = false) (hn : starEach (a :: es) X.env = (false, eval a X.env) :: starEach es X.env) (hpl : (backTo pos (starEach es X.env)).any (·.1) = false) :
    PE X (.Call (.Name x p) (a :: es) [] pos) (fun σ H Q => t σ H fun vs H1 => sp vs H1 Q E) :=
  ⟨fun pins s σ H Q I h => wpAny_Call_Name_kw (ld_glob I hgl hm (PySem.W.callWith_K (h₀ := X.base) I.ok.mod.kin hk (thn (ha.run pos pins s σ H _ I h) fun us s1 ⟨vs, H1, I1, r, q⟩ => ⟨I1.kIn, go_fn F hg hr hb hx I1 r q⟩) hn hpl) hd)⟩
/-- what a def promises, by data -/
def spD (K : PySem.W.Frag) (w : List D → Sto → PR → Prop) : Sp := fun vs H Q _ => ∃ ds S Qd, RDs K H ds vs ∧ RS K H S ∧ w ds S Qd ∧ Post K S H Qd Q
theorem s_call {w : List D → Sto → PR → Prop} (F : FnG X.prog X.w X.K X.mg X.base CX0 k f fd ps (spD X.K w)) (hg : X.A.guards = some []) (hr : Room k X.A) (hb : Binds X.K fd ps []) (hgl : Gl X x) (hm : X.mg x = some (.ref f)) (hk : PySem.W.keepIn X.K (.ref f) = true)
    (ha : PA X (a :: es) (tDA X.K wes)) (hd : (x == ("__debug__" : Str)) = false) (hn : starEach (a :: es) X.env = (false, eval a X.env) :: starEach es X.env) (hpl : (backTo pos (starEach es X.env)).any (·.1) = false) :
    PE X (.Call (.Name x p) (a :: es) [] pos) (tD X.K fun ρ S Q => wes ρ S fun ds S1 => w ds S1 Q) :=
  (pe_go F hg hr hb (E := E0) pass0 hgl hm hk ha hd hn hpl).weak fun σ H QV ⟨ρ, S, Q, re, hs, h, po⟩ => ⟨ρ, S, _, re, hs, h, fun vs H1 ds S1 rd s1 k1 q => ⟨ds, S1, Q, rd, s1, q, po.sub k1⟩⟩
end
section
variable {P : Program} {w : World} {K : PySem.W.Frag} {mg : Str → Option Value} {base : Heap} {qn nm : Str} {params : Arguments} {body : List Stmt} {scope : Scope} {f : Addr} {fd : FuncData} {cx : CXT} {N ps : List Str} {k : Nat} {sp : Sp} {dvs : List V} {kws : List (Str × V)}
/-- a def of the text keeps its promise, by its body -/
theorem fnG_of (F : FunD K nm qn params body scope dvs kws f fd) (S : FnScope N ps scope) (many : ∀ vs H Q E, sp vs H Q E → vs.length = ps.length)
    (hbody : ∀ (cdv : Value) (A : Around) (up : List PySem.Env) (s : Shared) (H : Hp) (vs : List V) (Q : VK) (E : XK), A.guards = some [] → Room k (A.deeper (envOfC qn scope s.heap.objs.size f cdv)) → (A.deeper (envOfC qn scope s.heap.objs.size f cdv)).units + 16 * k + 213 < cLine → sp vs H Q E →
      ∃ t, PSs (cxOf cx P w K mg base N qn scope f cdv A up s H E) body t ∧ t { nx := fun _ H' => Q .non H', rt := Q } (start N vs) H) : FnG P w K mg base cx (k + 1) f fd ps sp := by
  obtain ⟨oc, od, dV, kV, doc, pm, an, cdv, ct, osl, rfl, lk, hcd, _, _⟩ := F.ex
  refine ⟨many, fun A up s H args us vs Q E hg hr e0 hb r hsp => ?_⟩
  have hl := many _ _ _ _ hsp
  have inK : K.In s.heap := e0.mod.kin.keeps fun b o e => (e0.bs b o e).1
  have nolim : s.heap.NoLimit := e0.mod.nolimit.keeps fun b o e => (e0.bs b o e).1
  refine codeAny_call_function hr.depth (inK _ _ lk) rfl S.co S.gen rfl (PySem.W.codeRec_of inK hcd) (hb _ _ _ _ ?_)
  have kinds : ∀ y ∈ ps.zip us, scope.names.lookup y.1 = some .local ∨ (scope.names.lookup y.1 = some .cell ∧ ((cellsFrom (s.heap.objs.size + 1) scope.names []).lookup y.1).isSome = true) := by
    rintro ⟨n, v⟩ hy
    rcases S.par n (List.of_mem_zip hy).1 with q | q
    · exact .inl q
    · exact .inr ⟨q, PySem.W.cellsFrom_some _ _ _ (.inl q)⟩
  refine wpAny_newFunctionEnv_cells S.kind kinds fun env he s1 x => ?_
  subst he
  obtain ⟨t, ht, hq⟩ := hbody cdv A up s H vs Q E hg (hr.deeper _) (by have := hr.un; show A.units + 3 + 16 * k + 213 < cLine; omega) hsp
  have I : Inv (cxOf cx P w K mg base N qn scope f cdv A up s H E) [] (start N vs) H s1 := inv_start S hr.hd e0 hl r x
  refine ⟨nolim.keeps x.toInCall.keep, codeAny_func (wpAny_mono (ht.run [] s1 (start N vs) H _ I hq) (fun fl s' hfl => ?_) fun _ _ hx => hx)⟩
  match fl, hfl with
  | .ret u, ⟨v, σ', H', J, rv, q⟩ => exact ⟨v, H', J.os, J.bare, J.base, J.hok, rv, q⟩
  | .next, ⟨σ', H', J, q⟩ => exact ⟨.non, H', J.os, J.bare, J.base, J.hok, rfl, q⟩
  | .brk, ⟨_, _, _, q⟩ => exact q.elim
  | .cont, ⟨_, _, _, q⟩ => exact q.elim
end
end DP

set_option maxRecDepth 100000
set_option maxHeartbeats 1000000
/-! DpSn9: walks, loops, comprehensions. -/
namespace DP
open PySem PySem.Spec PyProof.Rows L2
section
variable {X : Cx} {tg a b c : Expr} {wa wb wc : Ev} {pos p p2 : Pos}
/-! ### what is walked -/
def iAny (K : PySem.W.Frag) (te : TE) : TI := fun σ H R => te σ H fun x H1 => (∃ a, x = .ref a ∧ (∃ xs, SqL K H1 a xs) ∧ R (Itl K a) H1) ∨ (∃ a, x = .ref a ∧ (∃ xs, SqT K H1 a xs) ∧ R (Itt K a) H1) ∨ ∃ z, x = .str z ∧ R (Its z) H1
theorem pi_any {te : TE} (he : PE X a te) : PI X tg a (iAny X.K te) := by
  refine ⟨fun pins s σ H R I h => thn (he.run pins s σ H _ I h) fun v s1 ⟨y, H1, I1, r1, q⟩ => ?_⟩
  rcases q with ⟨l, rfl, ⟨xs, sq⟩, q⟩ | ⟨l, rfl, ⟨xs, sq⟩, q⟩ | ⟨z, rfl, q⟩
  · cases r1
    obtain ⟨its, rv, pl, hz⟩ := I1.list sq
    exact wpAny_pyIter_list pl.isList (pi_one (tk := s1.toks) I1 _ (turn_list l _) ⟨_, Heap.get?_push_size _ rfl, rfl, rfl⟩ q)
  · cases r1
    obtain ⟨its, rv, pl, hz⟩ := I1.tuple sq
    exact wpAny_pyIter_tuple (show s1.heap.IsTuple l its.toArray from pl) (pi_one (tk := s1.toks) I1 _ (turn_tuple l _) ⟨_, Heap.get?_push_size _ rfl, rfl, rfl⟩ q)
  · obtain ⟨t, rfl⟩ := r1
    cases ha : z.cps.all (· < 128)
    · exact wpAny_pyIter_wide ha (pi_one (tk := s1.toks) I1 _ (turn_str _ z t "str_iterator" (.inr rfl)) ⟨_, Heap.get?_push_size _ rfl, rfl, rfl⟩ q)
    · exact wpAny_pyIter_ascii ha (pi_one (tk := s1.toks) I1 _ (turn_str _ z t "str_ascii_iterator" (.inl rfl)) ⟨_, Heap.get?_push_size _ rfl, rfl, rfl⟩ q)
end
section
variable {K : PySem.W.Frag} {S : Sto} {H0 H : Hp} {xs : List D} {hold : Sto → Prop}
theorem ItOk.list {a : Addr} (f : ∀ S' H', Kq H0 S H S' H' → RS K H' S' → hold S' → ∃ vs, SqL K H' a vs ∧ RDs K H' xs vs) : ItOk K H0 S H (Itl K a) xs hold := fun i S' H' k hs ho => by
  obtain ⟨vs, sq, rd⟩ := f S' H' k hs ho
  refine ⟨fun hi => ⟨vs, sq, by rw [← rd.length]; exact hi⟩, fun d e => ?_⟩
  obtain ⟨v, ev, rv⟩ := rd.get e
  refine ⟨⟨vs, v, sq, ev⟩, fun x H2 ⟨e2, y⟩ => ?_⟩
  subst e2
  have ex : v = x := Option.some.inj (ev.symm.trans (y vs sq))
  rw [← ex]
  exact ⟨rv, hs, Kp.refl⟩
theorem ItOk.tup {a : Addr} (f : ∀ S' H', Kq H0 S H S' H' → RS K H' S' → hold S' → ∃ vs, SqT K H' a vs ∧ RDs K H' xs vs) : ItOk K H0 S H (Itt K a) xs hold := fun i S' H' k hs ho => by
  obtain ⟨vs, sq, rd⟩ := f S' H' k hs ho
  refine ⟨fun hi => ⟨vs, sq, by rw [← rd.length]; exact hi⟩, fun d e => ?_⟩
  obtain ⟨v, ev, rv⟩ := rd.get e
  refine ⟨⟨vs, v, sq, ev⟩, fun x H2 ⟨e2, y⟩ => ?_⟩
  subst e2
  have ex : v = x := Option.some.inj (ev.symm.trans (y vs sq))
  rw [← ex]
  exact ⟨rv, hs, Kp.refl⟩
theorem ItOk.str {z : Str} : ItOk K H0 S H (Its z) (signs z) hold := fun i S' H' k hs ho => by
  have hl : (signs z).length = z.cps.size := by simp [signs]
  refine ⟨fun hi => by rw [hl] at hi; exact hi, fun d e => ?_⟩
  have hi : i < z.cps.size := by rw [← hl]; exact (List.getElem?_eq_some_iff.mp e).1
  refine ⟨hi, fun x H2 ⟨e2, c, ec, ex⟩ => ?_⟩
  subst e2 ex
  refine ⟨?_, hs, Kp.refl⟩
  have e3 : (signs z)[i]? = some (.str ⟨#[c]⟩) := by
    unfold signs
    rw [List.getElem?_map, Array.getElem?_toList, ec]
    rfl
  rw [e3] at e
  cases e
  rfl
theorem ItOk.rng {lo : Int} {n : Nat} : ItOk K H0 S H (Itr lo n) (rngD lo n) hold := fun i S' H' k hs ho => by
  have hl : (rngD lo n).length = n := by simp [rngD]
  refine ⟨fun hi => by rw [hl] at hi; exact hi, fun d e => ?_⟩
  have hi : i < n := by rw [← hl]; exact (List.getElem?_eq_some_iff.mp e).1
  refine ⟨hi, fun x H2 ⟨e2, ex⟩ => ?_⟩
  subst e2 ex
  refine ⟨?_, hs, Kp.refl⟩
  have e3 : (rngD lo n)[i]? = some (.int (lo + i)) := by
    unfold rngD
    rw [List.getElem?_map, List.getElem?_range hi]
    rfl
  rw [e3] at e
  cases e
  rfl
end
section
variable {X : Cx} {tg a b c : Expr} {wa wb wc : Ev} {pos p p2 : Pos}
theorem line_of {pins : List (Addr × Obj)} {σ : L2.St} {H : Hp} {s : Shared} (I : Inv X pins σ H s) {l : Addr} {vs : List V} (h : SqL X.K H l vs ∨ SqT X.K H l vs) : vs.length ≤ sizeLine := by
  rcases h with h | h
  · obtain ⟨_, _, _, hz⟩ := I.list h; exact hz
  · obtain ⟨_, _, _, hz⟩ := I.tuple h; exact hz
/-- a PI whose reading may lean on the state's own bound -/
theorem s_seq (ha : PE X a (tD X.K wa)) : PI X tg a (tDI X.K fun ρ S Kc => wa ρ S fun r S1 => seqW r S1 fun xs hold => Kc xs hold S1) := by
  refine ⟨fun pins s σ H R I ⟨ρ, S, Q, re, hs, h, po⟩ => ?_⟩
  -- the value as it comes, with the bound of its length
  have ev := ha.run pins s σ H (fun v H1 => ∃ r S1, RR X.K H H1 S1 r v ∧ RS X.K H1 S1 ∧ Kp S H S1 H1 ∧ seqW r S1 fun xs hold => Q xs hold S1) I ⟨ρ, S, _, re, hs, h, fun v H1 r S1 a b c d => ⟨r, S1, a, b, c, d⟩⟩
  refine thn ev fun v s1 ⟨y, H1, I1, r1, r, S1, rr, s1', k1, q⟩ => ?_
  have fin : (∃ l, y = .ref l ∧ (∃ xs, SqL X.K H1 l xs) ∧ R (Itl X.K l) H1) ∨ (∃ l, y = .ref l ∧ (∃ xs, SqT X.K H1 l xs) ∧ R (Itt X.K l) H1) ∨ (∃ z, y = .str z ∧ R (Its z) H1) := by
    unfold seqW at q
    split at q
    · obtain ⟨hz, q⟩ := q
      cases (show y = V.str _ from rr)
      exact .inr (.inr ⟨_, rfl, po _ H1 _ _ S1 .str (by simpa [signs, Str.length] using hz) s1' k1 q⟩)
    · have rr : RD X.K H1 (.tup _) y := rr
      simp only [RD] at rr
      obtain ⟨l, vs, rfl, sq, rd⟩ := rr
      exact .inr (.inl ⟨l, rfl, ⟨vs, sq⟩, po _ H1 _ _ S1 (.tup fun S' H' k hs' _ => ⟨vs, SqT.kq k s1' sq, RDs.kq k s1' _ vs rd⟩) (by rw [rd.length]; exact line_of I1 (.inr sq)) s1' k1 q⟩)
    · have rr : RD X.K H1 (.fz _) y := rr
      simp only [RD] at rr
      obtain ⟨l, vs, rfl, sq, rd⟩ := rr
      exact .inl ⟨l, rfl, ⟨vs, sq.sq⟩, po _ H1 _ _ S1 (.list fun S' H' k hs' _ => ⟨vs, (FzL.kq k s1' sq).sq, RDs.kq k s1' _ vs rd⟩) (by rw [rd.length]; exact line_of I1 (.inl sq.sq)) s1' k1 q⟩
    · obtain ⟨l, rfl, h0, hn, ho⟩ := rr
      have ho' := ho
      obtain ⟨vs, e, rd⟩ := ho
      exact .inl ⟨l, rfl, ⟨vs, .inl (.inl e)⟩, po _ H1 _ _ S1 (.list fun S' H' k hs' _ => RO.lst_kq k s1' hn h0 ho') (by rw [rd.length]; exact line_of I1 (.inl (.inl (.inl e)))) s1' k1 q⟩
    · obtain ⟨xs, e, q⟩ := q
      cases (show y = V.ref _ from rr)
      obtain ⟨vs, e1, rd⟩ := s1' _ _ e
      refine .inl ⟨_, rfl, ⟨vs, .inl (.inl e1)⟩, po _ H1 _ _ S1 (.list fun S' H' k hs' ho => ?_) (by rw [rd.length]; exact line_of I1 (.inl (.inl (.inl e1)))) s1' k1 q⟩
      obtain ⟨ws, e2, rd2⟩ := hs' _ _ ho
      exact ⟨ws, .inl (.inl e2), rd2⟩
    · exact q.elim
  exact thn_any I1 r1 fin
where
  thn_any {pins : List (Addr × Obj)} {σ : L2.St} {H1 : Hp} {s1 : Shared} {v : Value} {y : V} {R : It → Hp → Prop} (I1 : Inv X pins σ H1 s1) (r1 : RelV y v)
      (q : (∃ l, y = .ref l ∧ (∃ xs, SqL X.K H1 l xs) ∧ R (Itl X.K l) H1) ∨ (∃ l, y = .ref l ∧ (∃ xs, SqT X.K H1 l xs) ∧ R (Itt X.K l) H1) ∨ (∃ z, y = .str z ∧ R (Its z) H1)) :
      wpAny (model X.prog X.w) X.A (pyIter v) (PIE X pins σ tg R) X.xe s1 := by
    rcases q with ⟨l, rfl, ⟨xs, sq⟩, q⟩ | ⟨l, rfl, ⟨xs, sq⟩, q⟩ | ⟨z, rfl, q⟩
    · cases r1
      obtain ⟨its, rv, pl, hz⟩ := I1.list sq
      exact wpAny_pyIter_list pl.isList (pi_one (tk := s1.toks) I1 _ (turn_list l _) ⟨_, Heap.get?_push_size _ rfl, rfl, rfl⟩ q)
    · cases r1
      obtain ⟨its, rv, pl, hz⟩ := I1.tuple sq
      exact wpAny_pyIter_tuple (show s1.heap.IsTuple l its.toArray from pl) (pi_one (tk := s1.toks) I1 _ (turn_tuple l _) ⟨_, Heap.get?_push_size _ rfl, rfl, rfl⟩ q)
    · obtain ⟨t, rfl⟩ := r1
      cases ha : z.cps.all (· < 128)
      · exact wpAny_pyIter_wide ha (pi_one (tk := s1.toks) I1 _ (turn_str _ z t "str_iterator" (.inr rfl)) ⟨_, Heap.get?_push_size _ rfl, rfl, rfl⟩ q)
      · exact wpAny_pyIter_ascii ha (pi_one (tk := s1.toks) I1 _ (turn_str _ z t "str_ascii_iterator" (.inl rfl)) ⟨_, Heap.get?_push_size _ rfl, rfl, rfl⟩ q)
/-! ranges -/
theorem rngD_len (lo : Int) (n : Nat) : (rngD lo n).length = n := by simp [rngD]
theorem s_rng1 (hg : Gl X "range") (hm : X.mg "range" = none) (ha : PE X a (tD X.K wa)) (hn : starEach [a] X.env = [(false, eval a X.env)]) :
    PI X tg (.Call (.Name "range" p) [a] [] pos) (tDI X.K fun ρ S Kc => wa ρ S fun r S1 => ∃ j, r = .v (.int j) ∧ j ≤ 16777216 ∧ -(2 ^ 62) ≤ j ∧ Kc (rngD 0 j.toNat) (fun _ => True) S1) :=
  (pi_range1 hg hm (pa_cons ha pa_nil hn) hn).weak fun σ H R ⟨ρ, S, Q, re, hs, h, po⟩ => tD1 re hs h fun r v H1 S1 r1 s1 k1 re1 ⟨j, e, h1, h2, q⟩ => by
    subst e
    cases (show v = V.int j from r1)
    exact ⟨j, rfl, h2, by omega, po _ H1 _ _ S1 .rng (by rw [rngD_len, sizeLine_eq]; omega) s1 k1 q⟩
theorem s_rng2 (hg : Gl X "range") (hm : X.mg "range" = none) (ha : PE X a (tD X.K wa)) (hb : PE X b (tD X.K wb)) (hn : starEach [a, b] X.env = [(false, eval a X.env), (false, eval b X.env)]) (hn2 : starEach [b] X.env = [(false, eval b X.env)]) :
    PI X tg (.Call (.Name "range" p) [a, b] [] pos) (tDI X.K fun ρ S Kc => wa ρ S fun r S1 => wb ρ S1 fun q S2 => ∃ i j, r = .v (.int i) ∧ q = .v (.int j) ∧ (-(2 ^ 62) ≤ i ∧ i < 2 ^ 62 ∧ -(2 ^ 62) ≤ j ∧ j < 2 ^ 62) ∧ j - i ≤ 16777216 ∧ Kc (rngD i (j - i).toNat) (fun _ => True) S2) :=
  (pi_range2 hg hm (pa_cons ha (pa_cons hb pa_nil hn2) (by rw [hn, hn2])) hn hn2).weak fun σ H R ⟨ρ, S, Q, re, hs, h, po⟩ => tD2 re hs h fun x y v u H2 S2 r1 r2 s2 k2 ⟨i, j, e1, e2, h1, h2, q⟩ => by
    subst e1 e2
    cases (show v = V.int i from r1)
    cases (show u = V.int j from r2)
    exact ⟨i, j, rfl, h1, po _ H2 _ _ S2 .rng (by rw [rngD_len, sizeLine_eq]; omega) s2 k2 q⟩
end
end DP

set_option maxRecDepth 100000
set_option maxHeartbeats 1000000
/-! DpSnA: targets, comprehensions, loops, statements. -/
namespace DP
open PySem PySem.Spec PyProof.Rows L2
/-! ### slots wiped -/
theorem wipe_get (σ : L2.St) : ∀ (vs : List Nat) (j : Nat), (L2.wipe σ vs)[j]? = if j ∈ vs then (if j < σ.length then some none else none) else σ[j]?
  | [], j => by simp [L2.wipe]
  | v :: vs, j => by
    unfold L2.wipe
    by_cases h : v = j
    · subst h
      by_cases hl : v < σ.length
      · rw [List.getElem?_set_self (by rw [wipe_length]; exact hl), if_pos List.mem_cons_self, if_pos hl]
      · rw [List.getElem?_eq_none (by rw [List.length_set, wipe_length]; omega), if_pos List.mem_cons_self, if_neg hl]
    · rw [List.getElem?_set_ne h, wipe_get σ vs j]
      have e : (j ∈ v :: vs) ↔ j ∈ vs := by
        rw [List.mem_cons]
        exact ⟨fun q => q.elim (fun z => absurd z.symm h) id, .inr⟩
      simp only [e]
theorem wipe_set {σ : L2.St} {vs : List Nat} {i : Nat} {x : Option V} (h : i ∈ vs) : L2.wipe (σ.set i x) vs = L2.wipe σ vs := by
  refine List.ext_getElem? fun j => ?_
  rw [wipe_get, wipe_get, List.length_set]
  by_cases hj : j ∈ vs
  · rw [if_pos hj, if_pos hj]
  · rw [if_neg hj, if_neg hj, List.getElem?_set_ne (fun e => hj (by rw [← e]; exact h))]
/-! ### targets -/
def tnIds : TN → List Nat
  | .name i => [i]
  | .tup is => is
def tDG (K : PySem.W.Frag) (tg : TN) : TG := fun v σ H QV => ∃ ρ S d Q, REnv K H σ ρ ∧ RS K H S ∧ RD K H d v ∧ bindN tg d ρ Q ∧
  ∀ σ' ρ', REnv K H σ' ρ' → Q ρ' → (∀ vs, (∀ i ∈ tnIds tg, i ∈ vs) → L2.wipe σ' vs = L2.wipe σ vs) → QV σ' H
theorem _root_.L2.PG.weak {X : Cx} {e : Expr} {t t' : TG} (h : PG X e t) (f : ∀ v σ H Q, t' v σ H Q → t v σ H Q) : PG X e t' := ⟨fun pins s σ H v u Q I r q => h.run pins s σ H v u Q I r (f _ _ _ _ q)⟩
theorem _root_.L2.PGs.weak {X : Cx} {e : List Expr} {t t' : TGs} (h : PGs X e t) (f : ∀ v σ H Q, t' v σ H Q → t v σ H Q) : PGs X e t' := ⟨fun pins s σ H v u Q I r q => h.run pins s σ H v u Q I r (f _ _ _ _ q)⟩
/-- several names -/
def tDGs (K : PySem.W.Frag) (is : List Nat) : TGs := fun vs σ H QV => ∃ ρ S ds, REnv K H σ ρ ∧ RS K H S ∧ RDs K H ds vs ∧ ds.length = is.length ∧
  ∀ σ', REnv K H σ' (bindL is ds ρ) → (∀ ws, (∀ i ∈ is, i ∈ ws) → L2.wipe σ' ws = L2.wipe σ ws) → QV σ' H
section
variable {X : Cx} {tg a b c : Expr} {wa wb wc : Ev} {pos p p2 : Pos}
theorem s_gname {i : Nat} (h : PG X a (gName i)) : PG X a (tDG X.K (.name i)) := h.weak fun v σ H QV ⟨ρ, S, d, Q, re, hs, r, q, po⟩ =>
  po _ _ (re.set r) q fun vs hv => wipe_set (hv i (by simp [tnIds]))
theorem s_gs0 : PGs X [] (tDGs X.K []) := pgs_nil.weak fun vs σ H QV ⟨ρ, S, ds, re, hs, r, hl, po⟩ => by
  have e : ds = [] := List.length_eq_zero_iff.mp hl
  subst e
  simp only [RDs] at r
  exact ⟨r, po σ re fun _ _ => rfl⟩
theorem s_gs1 {i : Nat} {is : List Nat} {es : List Expr} (h : PG X a (gName i)) (hr : PGs X es (tDGs X.K is)) (hn : (assignEach (a :: es) X.env).map (·.2) = assign a X.env :: (assignEach es X.env).map (·.2)) : PGs X (a :: es) (tDGs X.K (i :: is)) :=
  (pgs_cons h hr hn).weak fun vs σ H QV ⟨ρ, S, ds, re, hs, r, hl, po⟩ => by
    cases ds with
    | nil => simp at hl
    | cons d ds =>
      simp only [RDs] at r
      obtain ⟨v, vr, rfl, r1, r2⟩ := r
      refine ⟨v, vr, rfl, ρ.set i (some d), S, ds, re.set r1, hs, r2, by simpa using hl, fun σ' re' hw => po σ' re' fun ws h => ?_⟩
      rw [hw ws fun j hj => h j (List.mem_cons_of_mem _ hj)]
      exact wipe_set (h i List.mem_cons_self)
theorem s_gtup {is : List Nat} {es : List Expr} {j : Nat} (hc : X.calm = true) (h : PGs X es (tDGs X.K is)) (hn : (assignEach es X.env).length = is.length) (hst : (assignEach es X.env).findIdx? (·.1) = none) : PG X (.Tuple es j pos) (tDG X.K (.tup is)) :=
  (pg_tup (n := is.length) hc h hn hst).weak fun v σ H QV ⟨ρ, S, d, Q, re, hs, r, q, po⟩ => by
    unfold bindN at q
    split at q
    · rename_i e; cases e
    · rename_i e
      cases e
      simp only [RD] at r
      obtain ⟨l, vs, rfl, sq, rd⟩ := r
      exact ⟨l, vs, rfl, sq, by rw [← rd.length]; exact q.1, ρ, S, _, re, hs, rd, q.1, fun σ' re' hw => po σ' _ re' q.2 hw⟩
    · exact q.elim
end
/-! ### a list that grows beside the store -/
section
variable {K : PySem.W.Frag} {S S1 : Sto} {H H1 : Hp} {l : Addr} {us ws : List V}
theorem SqT.grown {a : Addr} {vs : List V} (e : H l = some (.lst us)) (h : SqT K H a vs) : SqT K (upd H l (.lst ws)) a vs := by
  rcases h with (h | ⟨o, h⟩) | h
  · exact .inl (.inl (by rw [upd_ne (ne_of h e (fun z => nomatch z))]; exact h))
  · exact .inl (.inr ⟨o, by rw [upd_ne (ne_of h e (fun z => nomatch z))]; exact h⟩)
  · exact .inr h
theorem FzL.grown {a : Addr} {vs : List V} (e : H l = some (.lst us)) (h : FzL K H a vs) : FzL K (upd H l (.lst ws)) a vs := by
  rcases h with ⟨o, h⟩ | h
  · exact .inl ⟨o, by rw [upd_ne (ne_of h e (fun z => nomatch z))]; exact h⟩
  · exact .inr h
mutual
theorem RD.grown (e : H l = some (.lst us)) : ∀ (d : D) (v : V), RD K H d v → RD K (upd H l (.lst ws)) d v
  | .non, _, h => h
  | .bl _, _, h => h
  | .int _, _, h => h
  | .str _, _, h => h
  | .tup ds, _, h => by
    simp only [RD] at h ⊢
    obtain ⟨a, vs, q, h1, h2⟩ := h
    exact ⟨a, vs, q, SqT.grown e h1, RDs.grown e ds vs h2⟩
  | .fz ds, _, h => by
    simp only [RD] at h ⊢
    obtain ⟨a, vs, q, h1, h2⟩ := h
    exact ⟨a, vs, q, FzL.grown e h1, RDs.grown e ds vs h2⟩
  | .ref _, _, h => h
theorem RDs.grown (e : H l = some (.lst us)) : ∀ (ds : List D) (vs : List V), RDs K H ds vs → RDs K (upd H l (.lst ws)) ds vs
  | [], _, h => h
  | d :: ds, _, h => by
    simp only [RDs] at h ⊢
    obtain ⟨v, r, q, h1, h2⟩ := h
    exact ⟨v, r, q, RD.grown e d v h1, RDs.grown e ds r h2⟩
end
theorem RS.grown (e : H l = some (.lst us)) (hn : S l = none) (hs : RS K H S) : RS K (upd H l (.lst ws)) S := fun a o q => by
  have r := hs a o q
  have hne : a ≠ l := fun z => by subst z; rw [hn] at q; cases q
  cases o with
  | lst ds => obtain ⟨vs, e1, rd⟩ := r; exact ⟨vs, by rw [upd_ne hne]; exact e1, RDs.grown e ds vs rd⟩
  | dK kvs => obtain ⟨vs, e1, rd⟩ := r; exact ⟨vs, by rw [upd_ne hne]; exact e1, rd.mono (RD.grown e)⟩
  | dT kvs => obtain ⟨vs, e1, rd⟩ := r; exact ⟨vs, by rw [upd_ne hne]; exact e1, rd.mono (RD.grown e)⟩
theorem Kp.grown {u : HO} (h1 : H1 l = none) (k : Kp S1 H1 S H) : Kp S1 H1 S (upd H l u) :=
  ⟨fun a o e hn => let ⟨x, y⟩ := k.keep a o e hn; ⟨by rw [upd_ne (fun z => by subst z; rw [h1] at e; cases e)]; exact x, y⟩, fun a h => by
    by_cases z : a = l
    · subst z; exact h1
    · rw [upd_ne z] at h; exact k.dom a h, k.sdom⟩
theorem REnv.grown {σ : L2.St} {ρ : Env} (e : H l = some (.lst us)) (h : REnv K H σ ρ) : REnv K (upd H l (.lst ws)) σ ρ := ⟨h.1, fun i d q => let ⟨v, e', r⟩ := h.2 i d q; ⟨v, e', RD.grown e d v r⟩⟩
end
/-! ### list comprehensions -/
section
variable {X : Cx} {tg iter elt : Expr} {ifs : List Expr} {scope : Scope} {own : List (Str × Nat)} {pos : Pos} {t : TN} {wi : Env → Sto → (List D → (Sto → Prop) → Sto → Prop) → Prop} {wt : Env → Sto → (Bool → Sto → Prop) → Prop} {we : Ev}
/-- one turn -/
def lcStep (t : TN) (wt : Env → Sto → (Bool → Sto → Prop) → Prop) (we : Ev) (ρ : Env) (x : D) (S2 : Sto) (k : Option D → Sto → Prop) : Prop :=
  bindN t x ρ fun ρ' => wt ρ' S2 fun b S3 => if b = true then we ρ' S3 fun r S4 => mat r S4 fun d S5 => k (some d) S5 else k none S3
theorem lc_link {K : PySem.W.Frag} {σ : L2.St} {H : Hp} {QV : VK} {vs : List Nat} (ht : ∀ i ∈ tnIds t, i ∈ vs)
    (h : tD K (fun ρ S Q => wi ρ S fun xs hold S1 => lcL (lcStep t wt we (wipeE ρ vs)) hold xs [] S1 fun ds S2 => Q (.n (.lst ds)) S2) σ H QV) : tLc (tDI K wi) (tDG K t) (tDT K wt) (tD K we) vs σ H QV := by
  obtain ⟨ρ, S, Q, re, hs, h, po⟩ := h
  refine ⟨ρ, S, _, re, hs, h, fun J H1 xs hold S1 it hx s1 k1 q => fun l hl => ?_⟩
  have hl0 : S1 l = none := s1.no hl
  have hH : H l = none := k1.dom l hl
  refine ⟨fun i m G => m = xs.length - i ∧ i ≤ xs.length ∧ ∃ S' acc va, G l = some (.lst va) ∧ RDs K G acc va ∧ acc.length ≤ i ∧ S' l = none ∧ RS K G S' ∧ Kp S1 H1 S' G ∧ lcL (lcStep t wt we (wipeE ρ vs)) hold (xs.drop i) acc S' fun ds S2 => Q (.n (.lst ds)) S2,
    ⟨xs.length, by simp, Nat.zero_le _, S1, [], [], upd_same, by simp [RDs], Nat.zero_le _, hl0, s1.laid hl, Kp.laid hl, q⟩, ?_⟩
  rintro i m G ⟨rfl, hi, S', acc, va, eG, rd, ha, hn, sG, kG, q⟩
  by_cases hlt : i < xs.length
  · rw [List.drop_eq_getElem_cons hlt] at q
    obtain ⟨hh, q⟩ := q
    obtain ⟨_, hgo⟩ := it i S' G kG.q sG hh
    obtain ⟨go, hy⟩ := hgo xs[i] (List.getElem?_eq_getElem hlt)
    refine .inr ⟨go, fun G' => xs.length - (i + 1) < xs.length - i ∧ ∃ S' acc va, G' l = some (.lst va) ∧ RDs K G' acc va ∧ acc.length ≤ i + 1 ∧ S' l = none ∧ RS K G' S' ∧ Kp S1 H1 S' G' ∧ lcL (lcStep t wt we (wipeE ρ vs)) hold (xs.drop (i + 1)) acc S' fun ds S2 => Q (.n (.lst ds)) S2,
      fun G' ⟨hm, w⟩ => ⟨xs.length - (i + 1), hm, rfl, hlt, w⟩, fun x G2 y => ?_⟩
    obtain ⟨rx, s2, k2⟩ := hy x G2 y
    have e2 : G2 l = some (.lst va) := (k2.keep l _ eG hn).1
    have kk : Kp S1 H1 S' G2 := kG.trans k2
    have reW : REnv K G2 (L2.wipe σ vs) (wipeE ρ vs) := ((re.kp k1 hs).kp kk s1).wipe vs
    replace q : bindN t xs[i] (wipeE ρ vs) fun ρ' => wt ρ' S' fun b S3 => if b = true then we ρ' S3 fun r S4 => mat r S4 fun d S5 => lcL (lcStep t wt we (wipeE ρ vs)) hold (xs.drop (i + 1)) (acc ++ [d]) S5 fun ds S2 => Q (.n (.lst ds)) S2
      else lcL (lcStep t wt we (wipeE ρ vs)) hold (xs.drop (i + 1)) (acc ++ []) S3 fun ds S2 => Q (.n (.lst ds)) S2 := q
    rw [List.append_nil] at q
    refine ⟨wipeE ρ vs, S', xs[i], _, reW, s2, rx, q, fun σ3 ρ3 re3 q3 hw => ⟨?_, ?_⟩⟩
    · rw [hw vs ht]
      exact List.ext_getElem? fun j => by
        simp only [wipe_get, wipe_length]
        by_cases hj : j ∈ vs
        · simp [hj]
        · simp [hj]
    · refine tDT1 re3 s2 q3 fun b G3 S3 s3 k3 re4 q4 => ?_
      have e3 : G3 l = some (.lst va) ∧ S3 l = none := k3.keep l _ e2 hn
      cases b with
      | false =>
        exact ⟨by omega, S3, acc, va, e3.1, ((RDs.kp k2 sG acc va rd).kp k3 s2), by omega, e3.2, s3, kk.trans k3, q4⟩
      | true =>
        refine tD1 re4 s3 q4 fun r v G4 S4 r4 s4 k4 re5 q5 => ?_
        obtain ⟨d, S5, rdv, s5, k5, q6⟩ := mat_ok q5 r4 s4 k4
        have e5 : G4 l = some (.lst va) ∧ S5 l = none := k5.keep l _ e3.1 e3.2
        have rdA : RDs K G4 acc va := (((RDs.kp k2 sG acc va rd).kp k3 s2).kp k5 s3)
        refine ⟨va, e5.1, ?_, by omega, S5, acc ++ [d], va ++ [v], upd_same, ?_, by rw [List.length_append]; simpa using ha, e5.2, s5.grown e5.1 e5.2, ((kk.trans k3).trans k5).grown hl, q6⟩
        · have := rdA.length
          omega
        · exact RDs.grown e5.1 _ _ (rdA.append (.one rdv))
  · have e : i = xs.length := by omega
    subst e
    rw [List.drop_length] at q
    obtain ⟨hh, q⟩ := q
    obtain ⟨st, _⟩ := it xs.length S' G kG.q sG hh
    refine .inl ⟨st (Nat.le_refl _), ?_⟩
    have rr : RR K H G S' (.n (.lst acc)) (.ref l) := ⟨l, rfl, hH, hn, va, eG, rd⟩
    exact po _ G _ S' rr sG (k1.trans kG) q
theorem s_lc (hc : X.calm = true) (hN : X.N.Nodup) (hi : PI X tg iter (tDI X.K wi)) (ok : BlkOk X.N X.env.scope scope own) (ht : ∀ i ∈ tnIds t, i ∈ own.map (·.2))
    (hg : ∀ (s : Shared) (H : Hp) (C : Addr) (cl : List (Str × Addr)) (fp : List Addr), PG (X.blk s H scope (compEnvC scope cl C X.env) fp) tg (tDG X.K t)) (htt : ∀ (s : Shared) (H : Hp) (C : Addr) (cl : List (Str × Addr)) (fp : List Addr), PTs (X.blk s H scope (compEnvC scope cl C X.env) fp) ifs (tDT X.K wt))
    (he : ∀ (s : Shared) (H : Hp) (C : Addr) (cl : List (Str × Addr)) (fp : List Addr), PE (X.blk s H scope (compEnvC scope cl C X.env) fp) elt (tD X.K we)) (hf : ∀ x, foldedSetIterable iter X.env x = pure x) :
    PE X (.ListComp elt [⟨tg, iter, ifs, 0⟩] scope pos) (tD X.K fun ρ S Q => wi ρ S fun xs hold S1 => lcL (lcStep t wt we (wipeE ρ (own.map (·.2)))) hold xs [] S1 fun ds S2 => Q (.n (.lst ds)) S2) :=
  (pe_lc hc hN hi ok hg htt he hf).weak fun σ H QV h => lc_link ht h
end
end DP

set_option maxRecDepth 100000
set_option maxHeartbeats 1000000
/-! DpSnB: statements. -/
namespace DP
open PySem PySem.Spec PyProof.Rows L2
section
variable {X : Cx} {tg iter a b c e o : Expr} {wa wb wc we wo wi0 : Ev} {pos p p2 pos' : Pos}
/-! ### targets of an assignment -/
abbrev Gw := D → Env → Sto → (Env → Sto → Prop) → Prop
def tDGt (K : PySem.W.Frag) (w : Gw) : TG := fun v σ H QV => ∃ ρ S d Q, REnv K H σ ρ ∧ RS K H S ∧ RD K H d v ∧ w d ρ S Q ∧ ∀ σ' H' ρ' S', REnv K H' σ' ρ' → RS K H' S' → Kp S H S' H' → Q ρ' S' → QV σ' H'
theorem s_tname {i : Nat} (h : PG X a (gName i)) : PG X a (tDGt X.K fun d ρ S k => k (ρ.set i (some d)) S) := h.weak fun v σ H QV ⟨ρ, S, d, Q, re, hs, r, q, po⟩ => po _ H _ S (re.set r) hs Kp.refl q
theorem s_ttup {is : List Nat} (h : PG X a (tDG X.K (.tup is))) : PG X a (tDGt X.K fun d ρ S k => ∃ ds, d = .tup ds ∧ ds.length = is.length ∧ k (bindL is ds ρ) S) :=
  h.weak fun v σ H QV ⟨ρ, S, d, Q, re, hs, r, ⟨ds, e, hl, q⟩, po⟩ => by
    subst e
    exact ⟨ρ, S, .tup ds, fun ρ' => ρ' = bindL is ds ρ, re, hs, r, ⟨hl, rfl⟩, fun σ' ρ' re' er hw => po σ' H ρ' S re' hs Kp.refl (er ▸ q)⟩
/-! a store into a list or a dict -/
theorem set_dict (hu : X.A.units + 1 < cLine) : PSet X fun o i v H Q => ∃ a H', o = .ref a ∧ DPut H a i v H' ∧ Q H' := by
  intro pins s σ H o i v ov iv u Q I ro ri rv h
  obtain ⟨l, H', rfl, g, q⟩ := h
  cases ro
  exact d_setItem hu I g ri rv fun s' I' => ⟨H', I', q⟩
def rSetA : TSet := fun o i v H Q => rSetL o i v H Q ∨ ∃ a H', o = .ref a ∧ DPut H a i v H' ∧ Q H'
theorem set_all (hu : X.A.units + 1 < cLine) : PSet X rSetA := fun pins s σ H o i v ov iv u Q I ro ri rv h => by
  rcases h with h | h
  · exact set_list pins s σ H o i v ov iv u Q I ro ri rv h
  · exact set_dict hu pins s σ H o i v ov iv u Q I ro ri rv h
theorem RKv.put {K : PySem.W.Frag} {H : Hp} {κ : Type} [DecidableEq κ] {kvs : List (κ × D)} {ws : List (κ × V)} (r : RKv K H kvs ws) {k : κ} {d : D} {v : V} (rd : RD K H d v) : RKv K H (putD kvs k d) (putK ws k v) := by
  have hany : (kvs.any fun kv => decide (kv.1 = k)) = ws.any fun kv => decide (kv.1 = k) := by
    unfold RKv at r
    induction r with
    | nil => rfl
    | cons a t ih => rw [List.any_cons, List.any_cons, ih, a.1]
  unfold putD putK
  rw [hany]
  by_cases h : (ws.any fun kv => decide (kv.1 = k)) = true
  · rw [if_pos h, if_pos h]
    clear h hany
    unfold RKv at r ⊢
    induction r with
    | nil => exact .nil
    | @cons p q ps qs a t ih =>
      rw [List.map_cons, List.map_cons]
      refine .cons ?_ ih
      by_cases hk : q.1 = k
      · rw [if_pos (a.1.trans hk), if_pos hk]
        exact ⟨a.1, rd⟩
      · rw [if_neg (fun z => hk (a.1 ▸ z)), if_neg hk]
        exact a
  · rw [if_neg h, if_neg h]
    have app : ∀ {as : List (κ × D)} {bs : List (κ × V)}, RKv K H as bs → RKv K H (as ++ [(k, d)]) (bs ++ [(k, v)]) := fun {as bs} q => by
      unfold RKv at q ⊢
      induction q with
      | nil => exact .cons ⟨rfl, rd⟩ .nil
      | cons a t ih => exact .cons a ih
    exact app r
theorem setW_link {K : PySem.W.Frag} {S0 S : Sto} {H0 H Ha Hb : Hp} {x y : R} {d : D} {o i v : V} {Q : Sto → Prop} {QV : Hp → Prop} (r1 : RR K Ha H S x o) (r2 : RR K Hb H S y i) (rd : RD K H d v) (hs : RS K H S) (k : Kp S0 H0 S H) (h : setW x y d S Q)
    (po : ∀ H' S', RS K H' S' → Kp S0 H0 S' H' → Q S' → QV H') : rSetA o i v H QV := by
  have dict : ∀ {l : Addr} {kvs : List (Key × D)} {ky : Key}, o = .ref l → i = kV ky → S l = some (.dK kvs) → kvs.length < sizeLine → Q (up S l (.dK (putD kvs ky d))) → rSetA o i v H QV := fun {l kvs ky} eo ei e hz q => by
    subst eo ei
    obtain ⟨ws, e1, rk⟩ := hs l _ e
    have hn : S l ≠ none := by rw [e]; simp
    have el : kvs.length = ws.length := Paired.length rk
    have kk : Kp S H (up S l (.dK (putD kvs ky d))) (upd H l (.dK (putK ws ky v))) := Kp.wrote hs hn
    have ro : RO K (upd H l (.dK (putK ws ky v))) l (.dK (putD kvs ky d)) := ⟨_, upd_same, (rk.put rd).mono (RD.kp kk hs)⟩
    exact .inr ⟨l, _, rfl, DPut.k e1 (by rw [← el]; exact hz), po _ _ (RS.wrote hs hn ro) (k.trans kk) q⟩
  unfold setW at h
  split at h
  · rename_i l ii
    rcases h with ⟨xs, j, e, hj, q⟩ | ⟨kvs, e, hz, q⟩
    · cases (show o = V.ref _ from r1)
      cases (show i = V.int _ from r2)
      obtain ⟨ws, e1, d1⟩ := hs _ _ e
      have hn : S l ≠ none := by rw [e]; simp
      have kk : Kp S H (up S l (.lst (xs.set j d))) (upd H l (.lst (ws.set j v))) := Kp.wrote hs hn
      have ro : RO K (upd H l (.lst (ws.set j v))) l (.lst (xs.set j d)) := ⟨_, upd_same, RDs.kp kk hs _ _ (d1.set rd j)⟩
      exact .inl ⟨l, ws, ii, j, rfl, rfl, e1, by rw [← d1.length]; exact hj, po _ _ (RS.wrote hs hn ro) (k.trans kk) q⟩
    · exact dict (ky := .inl ii) r1 (show i = V.int ii from r2) e hz q
  · rename_i l ii
    obtain ⟨kvs, e, hz, q⟩ := h
    exact dict (ky := .inr ii) r1 (show i = V.str ii from r2) e hz q
  · exact h.elim
theorem s_tsub (hu : X.A.units + 1 < cLine) {i : Expr} (hap : ∀ v, assign (.Subscript o i pos) X.env v = (do
      let ov ← holding [v] (eval o X.env)
      let iv ← holding [v, ov] (eval i X.env)
      standAt pos
      holding [v, ov, iv] (setItem ov iv v)
      release [v, ov, iv] [])) (ho : PE X o (tD X.K wo)) (hi : PE X i (tD X.K wi0)) :
    PG X (.Subscript o i pos) (tDGt X.K fun d ρ S k => wo ρ S fun x S1 => wi0 ρ S1 fun y S2 => setW x y d S2 fun S3 => k ρ S3) :=
  (pg_sub ho hi (set_all hu) hap).weak fun v σ H QV ⟨ρ, S, d, Q, re, hs, r, q, po⟩ => tD2 re hs q fun x y ov iv H2 S2 r1 r2 s2 k2 q =>
    setW_link r1 r2 (RD.kp k2 hs d v r) s2 k2 q fun H' S' s' k' q' => po σ H' ρ S' (re.kp k' hs) s' k' q'
/-! ### statements -/
theorem s_asg {w : Gw} (he : PE X e (tD X.K we)) (hg : PG X tg (tDGt X.K w)) (hs : swapsWithSole [tg] e pos.line X.env = pure false) (hw : swappedStores [tg] e X.env = pure none) (h1 : (assignEach [tg] X.env).map (·.2) = [assign tg X.env]) :
    PS X (.Assign [tg] e pos) (tDS X.K fun ρ S nd => we ρ S fun r S1 => mat r S1 fun d S2 => w d ρ S2 nd.nx) :=
  (ps_asg he hg hs hw h1).weak fun Dn σ H ⟨ρ, S, nd, re, hs, h, nx, _⟩ => tD1 re hs h fun r v H1 S1 r1 s1 k1 re1 q => by
    obtain ⟨d, S2, rd, s2, k2, q⟩ := mat_ok q r1 s1 k1
    exact ⟨ρ, S2, d, nd.nx, re1, s2, rd, q, fun σ' H' ρ' S' a b c d => nx σ' H' ρ' S' a b (k2.trans c) d⟩
theorem s_set {i : Nat} {x : Str} (hN : X.N.Nodup) (hi : X.N[i]? = some x) (hx : Loc X.env.scope x) (he : PE X e (tD X.K we)) (hs : swapsWith e (some (.Name x pos')) pos.line X.env = pure false) (hf : X.fn x = true ∨ X.env.scope.names.lookup x = some .local) :
    PS X (.Assign [.Name x pos'] e pos) (tDS X.K fun ρ S nd => we ρ S fun r S1 => mat r S1 fun d S2 => nd.nx (ρ.set i (some d)) S2) :=
  (ps_set hN hi hx he hs hf).weak fun Dn σ H ⟨ρ, S, nd, re, hs, h, nx, _⟩ => tD1 re hs h fun r v H1 S1 r1 s1 k1 re1 q => by
    obtain ⟨d, S2, rd, s2, k2, q⟩ := mat_ok q r1 s1 k1
    exact nx _ H1 _ S2 (re1.set rd) s2 k2 q
theorem s_setLc {i : Nat} {y : Str} {elt : Expr} {ifs : List Expr} {scope : Scope} {own : List (Str × Nat)} {t : TN} {wi : Env → Sto → (List D → (Sto → Prop) → Sto → Prop) → Prop} {wt : Env → Sto → (Bool → Sto → Prop) → Prop} {spos : Pos} (hc : X.calm = true) (hN : X.N.Nodup) (hy : X.N[i]? = some y) (hyl : X.env.scope.names.lookup y = some .local)
    (hsw : swapsWith (.ListComp elt [⟨tg, iter, ifs, 0⟩] scope pos) (some (.Name y p)) spos.line X.env = pure true) (hi : PI X tg iter (tDI X.K wi)) (ok : BlkOk X.N X.env.scope scope own) (ht : ∀ i ∈ tnIds t, i ∈ own.map (·.2))
    (hg : ∀ (s : Shared) (H : Hp) (C : Addr) (cl : List (Str × Addr)) (fp : List Addr), PG (X.blk s H scope (compEnvC scope cl C X.env) fp) tg (tDG X.K t)) (htt : ∀ (s : Shared) (H : Hp) (C : Addr) (cl : List (Str × Addr)) (fp : List Addr), PTs (X.blk s H scope (compEnvC scope cl C X.env) fp) ifs (tDT X.K wt))
    (he : ∀ (s : Shared) (H : Hp) (C : Addr) (cl : List (Str × Addr)) (fp : List Addr), PE (X.blk s H scope (compEnvC scope cl C X.env) fp) elt (tD X.K we)) (hf : ∀ x, foldedSetIterable iter X.env x = pure x) :
    PS X (.Assign [.Name y p] (.ListComp elt [⟨tg, iter, ifs, 0⟩] scope pos) spos) (tDS X.K fun ρ S nd => wi ρ S fun xs hold S1 => lcL (lcStep t wt we (wipeE ρ (own.map (·.2)))) hold xs [] S1 fun ds S2 => mat (.n (.lst ds)) S2 fun d S3 => nd.nx (ρ.set i (some d)) S3) :=
  (ps_setLc hc hN hy hyl hsw hi ok hg htt he hf).weak fun Dn σ H ⟨ρ, S, nd, re, hs, h, nx, _⟩ =>
    lc_link ht ⟨ρ, S, fun r S2 => mat r S2 fun d S3 => nd.nx (ρ.set i (some d)) S3, re, hs, h, fun v H1 r S1 r1 s1 k1 q => by
      obtain ⟨d, S2, rd, s2, k2, q⟩ := mat_ok q r1 s1 k1
      exact nx _ H1 _ S2 ((re.kp k2 hs).set rd) s2 k2 q⟩
theorem s_exp (he : PE X e (tD X.K we)) (hs : swapsWith e none pos.line X.env = pure false) : PS X (.Expr e pos) (tDS X.K fun ρ S nd => we ρ S fun _ S' => nd.nx ρ S') :=
  (ps_expr he hs).weak fun Dn σ H ⟨ρ, S, nd, re, hs, h, nx, _⟩ => tD1 re hs h fun r v H1 S1 r1 s1 k1 re1 q => nx σ H1 ρ S1 re1 s1 k1 q
theorem s_ret (he : PE X e (tD X.K we)) : PS X (.Return (some e) pos) (tDS X.K fun ρ S nd => we ρ S nd.rt) :=
  (ps_ret he).weak fun Dn σ H ⟨ρ, S, nd, re, hs, h, nx, rt, _⟩ => ⟨ρ, S, nd.rt, re, hs, h, rt⟩
theorem s_ret0 : PS X (.Return none pos) (tDS X.K fun _ S nd => nd.rt (.v .non) S) :=
  ps_retN.weak fun Dn σ H ⟨ρ, S, nd, re, hs, h, nx, rt, _⟩ => rt .non H (.v .non) S (show RD X.K H .non .non from rfl) hs Kp.refl h
theorem s_pas : PS X (.Pass pos) (tDS X.K fun ρ S nd => nd.nx ρ S) := ps_pass.weak fun Dn σ H ⟨ρ, S, nd, re, hs, h, nx, _⟩ => nx σ H ρ S re hs Kp.refl h
theorem s_brk : PS X (.Break pos) (tDS X.K fun ρ S nd => nd.bk ρ S) := ps_break.weak fun Dn σ H ⟨ρ, S, nd, re, hs, h, nx, rt, bk, _⟩ => bk σ H ρ S re hs Kp.refl h
theorem s_cnt : PS X (.Continue pos) (tDS X.K fun ρ S nd => nd.ct ρ S) := ps_continue.weak fun Dn σ H ⟨ρ, S, nd, re, hs, h, nx, rt, bk, ct⟩ => ct σ H ρ S re hs Kp.refl h
abbrev Sw := Env → Sto → Nd → Prop
theorem s_nil : PSs X [] (tDS X.K fun ρ S nd => nd.nx ρ S) := pss_nil.weak fun Dn σ H ⟨ρ, S, nd, re, hs, h, nx, _⟩ => nx σ H ρ S re hs Kp.refl h
theorem s_cons {st : Stmt} {rest : List Stmt} {w1 w2 : Sw} (h1 : PS X st (tDS X.K w1)) (h2 : PSs X rest (tDS X.K w2)) : PSs X (st :: rest) (tDS X.K fun ρ S nd => w1 ρ S { nd with nx := fun ρ' S' => w2 ρ' S' nd }) :=
  (pss_cons h1 h2).weak fun Dn σ H ⟨ρ, S, nd, re, hs, h, nx, rt, bk, ct⟩ => ⟨ρ, S, { nd with nx := fun ρ' S' => w2 ρ' S' nd }, re, hs, h, fun σ1 H1 ρ1 S1 re1 s1 k1 q =>
    ⟨ρ1, S1, nd, re1, s1, q, fun σ' H' ρ' S' a b c d => nx σ' H' ρ' S' a b (k1.trans c) d, rt.sub k1, fun σ' H' ρ' S' a b c d => bk σ' H' ρ' S' a b (k1.trans c) d, fun σ' H' ρ' S' a b c d => ct σ' H' ρ' S' a b (k1.trans c) d⟩, rt, bk, ct⟩
theorem s_ife {wt : Env → Sto → (Bool → Sto → Prop) → Prop} {as bs : List Stmt} {w1 w2 : Sw} (hc : PT X c (tDT X.K wt)) (h1 : PSs X as (tDS X.K w1)) (h2 : PSs X bs (tDS X.K w2)) : PS X (.If c as bs pos) (tDS X.K fun ρ S nd => wt ρ S fun k S1 => if k = true then w1 ρ S1 nd else w2 ρ S1 nd) :=
  (ps_if hc h1 h2).weak fun Dn σ H ⟨ρ, S, nd, re, hs, h, nx, rt, bk, ct⟩ => tDT1 re hs h fun k H1 S1 s1 k1 re1 q => by
    cases k with
    | true => exact ⟨ρ, S1, nd, re1, s1, q, fun σ' H' ρ' S' a b c d => nx σ' H' ρ' S' a b (k1.trans c) d, rt.sub k1, fun σ' H' ρ' S' a b c d => bk σ' H' ρ' S' a b (k1.trans c) d, fun σ' H' ρ' S' a b c d => ct σ' H' ρ' S' a b (k1.trans c) d⟩
    | false => exact ⟨ρ, S1, nd, re1, s1, q, fun σ' H' ρ' S' a b c d => nx σ' H' ρ' S' a b (k1.trans c) d, rt.sub k1, fun σ' H' ρ' S' a b c d => bk σ' H' ρ' S' a b (k1.trans c) d, fun σ' H' ρ' S' a b c d => ct σ' H' ρ' S' a b (k1.trans c) d⟩
theorem s_whl {wt : Env → Sto → (Bool → Sto → Prop) → Prop} {body : List Stmt} {w1 : Sw} (hp : PassesOwn (model X.prog X.w) X.A X.env X.xe) (hc : PT X c (tDT X.K wt)) (h1 : PSs X body (tDS X.K w1)) :
    PS X (.While c body [] pos) (tDS X.K fun ρ S nd => ∃ J : Nat → Env → Sto → Prop, (∃ m, J m ρ S) ∧ ∀ m ρ' S', J m ρ' S' → wt ρ' S' fun k S1 =>
      if k = true then w1 ρ' S1 { nx := fun ρ2 S2 => ∃ m', m' < m ∧ J m' ρ2 S2, ct := fun ρ2 S2 => ∃ m', m' < m ∧ J m' ρ2 S2, bk := nd.nx, rt := nd.rt } else nd.nx ρ' S1) :=
  (ps_while hp hc h1).weak fun Dn σ H ⟨ρ, S, nd, re, hs, ⟨J, ⟨m0, j0⟩, turn⟩, nx, rt, bk, ct⟩ => by
    refine ⟨fun m σ' H' => ∃ ρ' S', REnv X.K H' σ' ρ' ∧ RS X.K H' S' ∧ Kp S H S' H' ∧ J m ρ' S', ⟨m0, ρ, S, re, hs, Kp.refl, j0⟩, fun m σ' H' ⟨ρ', S', re', hs', k', j⟩ => ?_⟩
    refine tDT1 re' hs' (turn m ρ' S' j) fun b H1 S1 s1 k1 re1 q => ?_
    cases b with
    | false => exact nx σ' H1 ρ' S1 re1 s1 (k'.trans k1) q
    | true =>
      refine ⟨fun σ2 H2 => ∃ m', m' < m ∧ ∃ ρ' S', REnv X.K H2 σ2 ρ' ∧ RS X.K H2 S' ∧ Kp S H S' H2 ∧ J m' ρ' S', fun σ2 H2 ⟨m', hm, w⟩ => ⟨m', hm, w⟩, ρ', S1, _, re1, s1, q, ?_, rt.sub (k'.trans k1), ?_, ?_⟩
      · exact fun σ2 H2 ρ2 S2 a b c ⟨m', hm, j2⟩ => ⟨m', hm, ρ2, S2, a, b, (k'.trans k1).trans c, j2⟩
      · exact fun σ2 H2 ρ2 S2 a b c d => nx σ2 H2 ρ2 S2 a b ((k'.trans k1).trans c) d
      · exact fun σ2 H2 ρ2 S2 a b c ⟨m', hm, j2⟩ => ⟨m', hm, ρ2, S2, a, b, (k'.trans k1).trans c, j2⟩
theorem s_for {t : TN} {wi : Env → Sto → (List D → (Sto → Prop) → Sto → Prop) → Prop} {body : List Stmt} {w1 : Sw} (hp : PassesOwn (model X.prog X.w) X.A X.env X.xe) (hc : X.calm = true) (hi : PI X tg iter (tDI X.K wi)) (hg : PG X tg (tDG X.K t)) (h1 : PSs X body (tDS X.K w1)) (hf : ∀ x, foldedSetIterable iter X.env x = pure x) :
    PS X (.For tg iter body [] pos) (tDS X.K fun ρ S nd => wi ρ S fun xs hold S1 => forL w1 t hold nd xs ρ S1) :=
  (ps_for hp hc hi hg h1 hf).weak fun Dn σ H ⟨ρ, S, nd, re, hs, h, nx, rt, bk, ct⟩ => by
    refine ⟨ρ, S, _, re, hs, h, fun J H1 xs hold S1 it hx s1 k1 q => ?_⟩
    refine ⟨fun i m σ' G => m = xs.length - i ∧ i ≤ xs.length ∧ ∃ ρ' S', REnv X.K G σ' ρ' ∧ RS X.K G S' ∧ Kp S1 H1 S' G ∧ forL w1 t hold nd (xs.drop i) ρ' S', ⟨xs.length, by simp, Nat.zero_le _, ρ, S1, re.kp k1 hs, s1, Kp.refl, q⟩, ?_⟩
    rintro i m σ' G ⟨rfl, hi, ρ', S', re', sG, kG, q⟩
    by_cases hlt : i < xs.length
    · rw [List.drop_eq_getElem_cons hlt] at q
      obtain ⟨hh, q⟩ := q
      obtain ⟨_, hgo⟩ := it i S' G kG.q sG hh
      obtain ⟨go, hy⟩ := hgo xs[i] (List.getElem?_eq_getElem hlt)
      refine .inr ⟨go, fun σ2 H2 => xs.length - (i + 1) < xs.length - i ∧ ∃ ρ' S', REnv X.K H2 σ2 ρ' ∧ RS X.K H2 S' ∧ Kp S1 H1 S' H2 ∧ forL w1 t hold nd (xs.drop (i + 1)) ρ' S', fun σ2 H2 ⟨hm, w⟩ => ⟨_, hm, rfl, hlt, w⟩, fun x G2 y => ?_⟩
      obtain ⟨rx, s2, k2⟩ := hy x G2 y
      have kk : Kp S1 H1 S' G2 := kG.trans k2
      refine ⟨ρ', S', xs[i], _, re'.kp k2 sG, s2, rx, q, fun σ3 ρ3 re3 q3 _ => ⟨ρ3, S', _, re3, s2, q3, ?_, rt.sub (k1.trans kk), ?_, ?_⟩⟩
      · exact fun σ4 H4 ρ4 S4 a b c d => ⟨by omega, ρ4, S4, a, b, kk.trans c, d⟩
      · exact fun σ4 H4 ρ4 S4 a b c d => nx σ4 H4 ρ4 S4 a b ((k1.trans kk).trans c) d
      · exact fun σ4 H4 ρ4 S4 a b c d => ⟨by omega, ρ4, S4, a, b, kk.trans c, d⟩
    · have e : i = xs.length := by omega
      subst e
      rw [List.drop_length] at q
      obtain ⟨hh, q⟩ := q
      obtain ⟨st, _⟩ := it xs.length S' G kG.q sG hh
      exact .inl ⟨st (Nat.le_refl _), nx σ' G ρ' S' re' sG (k1.trans kG) q⟩
end
end DP

set_option maxRecDepth 100000
set_option maxHeartbeats 1000000
/-! DpSnC: dict displays. -/
namespace DP
open PySem PySem.Spec PyProof.Rows L2
theorem mergeK_app : ∀ (more kvs : List (Key × V)), (more.map (·.1)).Nodup → (∀ p ∈ more, ∀ q ∈ kvs, q.1 ≠ p.1) → mergeK kvs more = kvs ++ more
  | [], kvs, _, _ => by show kvs = _; rw [List.append_nil]
  | p :: r, kvs, hn, hd => by
    rw [List.map_cons, List.nodup_cons] at hn
    have e : putK kvs p.1 p.2 = kvs ++ [p] := by
      unfold putK
      rw [if_neg]
      intro h
      rw [List.any_eq_true] at h
      obtain ⟨q, hq, e⟩ := h
      exact hd p List.mem_cons_self q hq (of_decide_eq_true e)
    show mergeK (putK kvs p.1 p.2) r = _
    rw [e, mergeK_app r _ hn.2 ?_, List.append_assoc]
    · rfl
    · intro a ha q hq
      rw [List.mem_append] at hq
      rcases hq with hq | hq
      · exact hd a (List.mem_cons_of_mem _ ha) q hq
      · rw [List.mem_singleton] at hq
        subst hq
        exact fun e => hn.1 (e ▸ List.mem_map_of_mem ha)
/-- the pairs of a display, by data -/
def pairTs (K : PySem.W.Frag) : List Key → List Ev → List (TE × TE)
  | k :: ks, w :: ws => (tC (kV k), tD K w) :: pairTs K ks ws
  | _, _ => []
def evs : List Ev → Env → Sto → (List D → Sto → Prop) → Prop
  | [], _, S, Q => Q [] S
  | w :: ws, ρ, S, Q => w ρ S fun r S1 => mat r S1 fun d S2 => evs ws ρ S2 fun ds S3 => Q (d :: ds) S3
theorem disp_link {K : PySem.W.Frag} {σ : L2.St} {ρ : Env} : ∀ (ks : List Key) (ws : List Ev) {S : Sto} {H : Hp} {Q : List D → Sto → Prop} {QV : List (V × V) → Hp → Prop}, ks.length = ws.length → REnv K H σ ρ → RS K H S → evs ws ρ S Q →
    (∀ ds vs S2 H2, RDs K H2 ds vs → ds.length = ks.length → RS K H2 S2 → Kp S H S2 H2 → Q ds S2 → QV ((ks.zip vs).map fun kv => (kV kv.1, kv.2)) H2) → tPairs (pairTs K ks ws) σ H QV
  | [], [], S, H, Q, QV, _, re, hs, h, po => po [] [] S H (by simp [RDs]) rfl hs Kp.refl h
  | k :: ks, w :: ws, S, H, Q, QV, hl, re, hs, h, po => by
    show tPairs ((tC (kV k), tD K w) :: pairTs K ks ws) σ H QV
    unfold tPairs
    show tD K w σ H fun y H2 => tPairs (pairTs K ks ws) σ H2 fun ps H3 => QV ((kV k, y) :: ps) H3
    refine tD1 re hs h fun r v H1 S1 r1 s1 k1 re1 q => ?_
    obtain ⟨d, S2, rd, s2, k2, q⟩ := mat_ok q r1 s1 k1
    refine disp_link ks ws (by simpa using hl) re1 s2 q fun ds vs S3 H3 rds hl3 s3 k3 q3 => ?_
    exact po (d :: ds) (v :: vs) S3 H3 (by simp only [RDs]; exact ⟨v, vs, rfl, RD.kp k3 s2 d v rd, rds⟩) (by simpa using hl3) s3 (k2.trans k3) q3
theorem RKv.zip {K : PySem.W.Frag} {H : Hp} : ∀ {ks : List Key} {ds : List D} {vs : List V}, RDs K H ds vs → RKv K H (ks.zip ds) (ks.zip vs)
  | [], _, _, _ => .nil
  | _ :: _, [], vs, h => by simp only [RDs] at h; subst h; exact .nil
  | k :: ks, d :: ds, vs, h => by
    simp only [RDs] at h
    obtain ⟨v, r, rfl, h1, h2⟩ := h
    exact .cons ⟨rfl, h1⟩ (RKv.zip (ks := ks) h2)
/-! ### a dict that grows beside the store -/
section
variable {K : PySem.W.Frag} {S S1 : Sto} {H H1 : Hp} {l : Addr} {us ws : List (Key × V)}
theorem SqT.grownK {a : Addr} {vs : List V} (e : H l = some (.dK us)) (h : SqT K H a vs) : SqT K (upd H l (.dK ws)) a vs := by
  rcases h with (h | ⟨o, h⟩) | h
  · exact .inl (.inl (by rw [upd_ne (ne_of h e (fun z => nomatch z))]; exact h))
  · exact .inl (.inr ⟨o, by rw [upd_ne (ne_of h e (fun z => nomatch z))]; exact h⟩)
  · exact .inr h
theorem FzL.grownK {a : Addr} {vs : List V} (e : H l = some (.dK us)) (h : FzL K H a vs) : FzL K (upd H l (.dK ws)) a vs := by
  rcases h with ⟨o, h⟩ | h
  · exact .inl ⟨o, by rw [upd_ne (ne_of h e (fun z => nomatch z))]; exact h⟩
  · exact .inr h
mutual
theorem RD.grownK (e : H l = some (.dK us)) : ∀ (d : D) (v : V), RD K H d v → RD K (upd H l (.dK ws)) d v
  | .non, _, h => h
  | .bl _, _, h => h
  | .int _, _, h => h
  | .str _, _, h => h
  | .tup ds, _, h => by
    simp only [RD] at h ⊢
    obtain ⟨a, vs, q, h1, h2⟩ := h
    exact ⟨a, vs, q, SqT.grownK e h1, RDs.grownK e ds vs h2⟩
  | .fz ds, _, h => by
    simp only [RD] at h ⊢
    obtain ⟨a, vs, q, h1, h2⟩ := h
    exact ⟨a, vs, q, FzL.grownK e h1, RDs.grownK e ds vs h2⟩
  | .ref _, _, h => h
theorem RDs.grownK (e : H l = some (.dK us)) : ∀ (ds : List D) (vs : List V), RDs K H ds vs → RDs K (upd H l (.dK ws)) ds vs
  | [], _, h => h
  | d :: ds, _, h => by
    simp only [RDs] at h ⊢
    obtain ⟨v, r, q, h1, h2⟩ := h
    exact ⟨v, r, q, RD.grownK e d v h1, RDs.grownK e ds r h2⟩
end
theorem RS.grownK (e : H l = some (.dK us)) (hn : S l = none) (hs : RS K H S) : RS K (upd H l (.dK ws)) S := fun a o q => by
  have r := hs a o q
  have hne : a ≠ l := fun z => by subst z; rw [hn] at q; cases q
  cases o with
  | lst ds => obtain ⟨vs, e1, rd⟩ := r; exact ⟨vs, by rw [upd_ne hne]; exact e1, RDs.grownK e ds vs rd⟩
  | dK kvs => obtain ⟨vs, e1, rd⟩ := r; exact ⟨vs, by rw [upd_ne hne]; exact e1, rd.mono (RD.grownK e)⟩
  | dT kvs => obtain ⟨vs, e1, rd⟩ := r; exact ⟨vs, by rw [upd_ne hne]; exact e1, rd.mono (RD.grownK e)⟩
theorem REnv.grownK {σ : L2.St} {ρ : Env} (e : H l = some (.dK us)) (h : REnv K H σ ρ) : REnv K (upd H l (.dK ws)) σ ρ := ⟨h.1, fun i d q => let ⟨v, e', r⟩ := h.2 i d q; ⟨v, e', RD.grownK e d v r⟩⟩
end
section
variable {X : Cx} {pos : Pos}
theorem s_dnew : PE X (.Dict [] [] pos) (tD X.K fun _ S Q => Q (.n (.dK [])) S) := pe_dnewK.weak fun σ H QV ⟨ρ, S, Q, re, hs, q, po⟩ p hp =>
  po _ _ (.n (.dK [])) S ⟨p, rfl, hp, hs.no hp, [], upd_same, .nil⟩ (hs.laid hp) (Kp.laid hp) q
theorem s_disp {keys : List (Option Expr)} {values : List Expr} {ks : List Key} {ws : List Ev} (h : PPs X pos keys values (pairTs X.K ks ws)) (hall : keys.all (·.isSome) = true) (hl : keys.length = values.length) (h0 : keys ≠ []) (h15 : keys.length ≤ 15) (hkl : ks.length = ws.length) (hkn : ks.Nodup) (hk15 : ks.length ≤ 15) :
    PE X (.Dict keys values pos) (tD X.K fun ρ S Q => evs ws ρ S fun ds S' => Q (.n (.dK (ks.zip ds))) S') :=
  (pe_disp h hall hl h0 h15).weak fun σ H QV ⟨ρ, S, Q, re, hs, q, po⟩ p hp => by
    have k0 : Kp S H S (upd H p (.dK [])) := Kp.laid hp
    refine disp_link ks ws hkl (re.kp k0 hs) (hs.laid hp) q fun ds vs S2 H2 rd hl2 s2 k2 q2 => ?_
    have e2 := k2.keep p (.dK []) upd_same (hs.no hp)
    have hlen : (ks.zip vs).length ≤ 15 := by rw [List.length_zip]; omega
    refine ⟨e2.1, ks.zip vs, rfl, hlen, ?_⟩
    have hm : mergeK [] (ks.zip vs) = ks.zip vs := by
      rw [mergeK_app _ _ ?_ (by simp), List.nil_append]
      rw [List.map_fst_zip (by rw [← rd.length]; omega)]
      exact hkn
    rw [hm]
    have rdz := RKv.zip (ks := ks) rd
    have rr : RR X.K H (upd H2 p (.dK (ks.zip vs))) S2 (.n (.dK (ks.zip ds))) (.ref p) := ⟨p, rfl, hp, e2.2, _, upd_same, rdz.mono (RD.grownK e2.1)⟩
    exact po _ _ _ S2 rr (s2.grownK e2.1 e2.2) ((k0.trans k2).grown hp) q2
end
end DP

set_option maxRecDepth 100000
set_option maxHeartbeats 1000000
/-! DpSnD: enumerate, comprehensions of two fors. -/
namespace DP
open PySem PySem.Spec PyProof.Rows L2
section
variable {K : PySem.W.Frag} {S : Sto} {H0 H : Hp} {xs : List D} {hold : Sto → Prop}
theorem numD_len (xs : List D) : (numD xs).length = xs.length := by simp [numD]
theorem ItOk.num {a : Addr} (f : ∀ S' H', Kq H0 S H S' H' → RS K H' S' → hold S' → ∃ vs, SqL K H' a vs ∧ RDs K H' xs vs) : ItOk K H0 S H (Ite K a) (numD xs) hold := fun i S' H' k hs ho => by
  obtain ⟨vs, sq, rd⟩ := f S' H' k hs ho
  refine ⟨fun hi => ⟨vs, sq, by rw [← rd.length, ← numD_len]; exact hi⟩, fun d e => ?_⟩
  have e' : ∃ d0, xs[i]? = some d0 ∧ d = .tup [.int (i : Nat), d0] := by
    unfold numD at e
    rw [List.getElem?_map, List.getElem?_zipIdx] at e
    cases q : xs[i]? with
    | none => rw [q] at e; cases e
    | some d0 => rw [q] at e; exact ⟨d0, rfl, by simpa using e.symm⟩
  obtain ⟨d0, e0, rfl⟩ := e'
  obtain ⟨v, ev, rv⟩ := rd.get e0
  refine ⟨⟨vs, v, sq, ev⟩, fun x H2 ⟨T, y, ex, hT, eH, hy⟩ => ?_⟩
  subst ex eH
  have e1 : v = y := Option.some.inj (ev.symm.trans (hy vs sq))
  subst e1
  have kk : Kp S' H' S' (upd H' T (.tup [.int (i : Nat), v])) := Kp.laid hT
  refine ⟨?_, hs.laid hT, kk⟩
  simp only [RD]
  refine ⟨T, [.int (i : Nat), v], rfl, .inl (.inl upd_same), ?_⟩
  simp only [RDs]
  exact ⟨_, _, rfl, rfl, _, _, rfl, RD.kp kk hs _ _ rv, rfl⟩
end
section
variable {X : Cx} {tg a : Expr} {wa : Ev} {pos p tpos : Pos} {elts : List Expr} {kk : Nat}
theorem s_enum (hg : Gl X "enumerate") (hm : X.mg "enumerate" = none) (ha : PE X a (tD X.K wa)) (hn : starEach [a] X.env = [(false, eval a X.env)]) :
    PI X (.Tuple elts kk tpos) (.Call (.Name "enumerate" p) [a] [] pos) (tDI X.K fun ρ S Kc => wa ρ S fun r S1 => enumW r S1 fun xs hold => Kc (numD xs) hold S1) := by
  refine (pi_enum hg hm (pa_cons ha pa_nil hn) hn).weak fun σ H R ⟨ρ, S, Q, re, hs, h, po⟩ => tD1 re hs h fun r v H1 S1 r1 s1 k1 re1 q => ?_
  unfold enumW at q
  split at q
  · obtain ⟨hz, q⟩ := q
    have r1 : RD X.K H1 (.fz _) v := r1
    simp only [RD] at r1
    obtain ⟨l, vs, rfl, sq, rd⟩ := r1
    exact ⟨l, vs, rfl, sq.sq, po _ H1 _ _ S1 (.num fun S' H' k hs' _ => ⟨vs, (FzL.kq k s1 sq).sq, RDs.kq k s1 _ vs rd⟩) (by rw [numD_len]; exact hz) s1 k1 q⟩
  · obtain ⟨hz, q⟩ := q
    obtain ⟨l, rfl, h0, hn, ho⟩ := r1
    have ho' := ho
    obtain ⟨vs, e, rd⟩ := ho
    exact ⟨l, vs, rfl, .inl (.inl e), po _ H1 _ _ S1 (.num fun S' H' k hs' _ => RO.lst_kq k s1 hn h0 ho') (by rw [numD_len]; exact hz) s1 k1 q⟩
  · obtain ⟨xs, e, hz, q⟩ := q
    cases (show v = V.ref _ from r1)
    obtain ⟨vs, e1, rd⟩ := s1 _ _ e
    refine ⟨_, vs, rfl, .inl (.inl e1), po _ H1 _ _ S1 (.num fun S' H' k hs' ho => ?_) (by rw [numD_len]; exact hz) s1 k1 q⟩
    obtain ⟨ws, e2, rd2⟩ := hs' _ _ ho
    exact ⟨ws, .inl (.inl e2), rd2⟩
  · exact q.elim
end
/-! ### two fors -/
section
variable {X : Cx} {tg iter elt tg1 iter1 : Expr} {ifs ifs1 : List Expr} {scope : Scope} {own : List (Str × Nat)} {pos : Pos} {t t1 : TN} {wi wi1 : Env → Sto → (List D → (Sto → Prop) → Sto → Prop) → Prop} {wt wt1 : Env → Sto → (Bool → Sto → Prop) → Prop} {we : Ev}
def lcIn (t1 : TN) (wt1 : Env → Sto → (Bool → Sto → Prop) → Prop) (we : Ev) (vs1 : List Nat) (ρ1 : Env) (y : D) (acc : List D) (S5 : Sto) (k1 : List D → Sto → Prop) : Prop :=
  bindN t1 y (wipeE ρ1 vs1) fun ρ2 => wt1 ρ2 S5 fun b S6 => if b = true then we ρ2 S6 fun r S7 => mat r S7 fun d S8 => acc.length < sizeLine ∧ k1 (acc ++ [d]) S8 else k1 acc S6
def lcOut (t : TN) (wt : Env → Sto → (Bool → Sto → Prop) → Prop) (wi1 : Env → Sto → (List D → (Sto → Prop) → Sto → Prop) → Prop) (t1 : TN) (wt1 : Env → Sto → (Bool → Sto → Prop) → Prop) (we : Ev) (vs1 : List Nat) (ρ : Env) (x : D) (acc : List D) (S2 : Sto) (k : List D → Sto → Prop) : Prop :=
  bindN t x ρ fun ρ1 => wt ρ1 S2 fun b S3 => if b = true then wi1 ρ1 S3 fun ys hold1 S4 => accL (lcIn t1 wt1 we vs1 ρ1) hold1 ys acc S4 k else k acc S3
theorem wipe_same {σ σ' : L2.St} {vs : List Nat} (h : L2.wipe σ' vs = L2.wipe (L2.wipe σ vs) vs) : L2.wipe σ' vs = L2.wipe σ vs := by
  rw [h]
  exact List.ext_getElem? fun j => by
    simp only [wipe_get, wipe_length]
    by_cases hj : j ∈ vs
    · simp [hj]
    · simp [hj]
theorem Kq.kp {H0 H H' H2 : Hp} {S S' S2 : Sto} (a : Kq H0 S H S' H') (b : Kp S' H' S2 H2) : Kq H0 S H S2 H2 :=
  ⟨fun c o h h' z => let ⟨x, y⟩ := a.keep c o h h' z; b.keep c o x y, fun c h => a.dom c (b.dom c h), fun c h => a.sdom c (b.sdom c h)⟩
theorem Kq.grown {H0 H H' : Hp} {S S' : Sto} {l : Addr} {vs : List V} {us : List V} (k : Kq H0 S H S' H') (h0 : H0 l ≠ none) (e : H' l = some (.lst us)) : Kq H0 S H S' (upd H' l (.lst vs)) :=
  ⟨fun a o h h' z => by
    obtain ⟨x, y⟩ := k.keep a o h h' z
    refine ⟨?_, y⟩
    have hne : a ≠ l := fun q => by
      subst q
      rcases z with z | z
      · exact h0 z
      · rw [e] at x
        exact z _ (Option.some.inj x).symm
    rw [upd_ne hne]
    exact x, fun a h => k.dom a (by
      by_cases z : a = l
      · subst z; rw [upd_same] at h; cases h
      · rw [upd_ne z] at h; exact h), k.sdom⟩
theorem lc2_link {K : PySem.W.Frag} {σ : L2.St} {H : Hp} {QV : VK} {vs vs1 : List Nat} (ht : ∀ i ∈ tnIds t, i ∈ vs) (ht1 : ∀ i ∈ tnIds t1, i ∈ vs1)
    (h : tD K (fun ρ S Q => wi ρ S fun xs hold S1 => accL (lcOut t wt wi1 t1 wt1 we vs1 (wipeE ρ vs)) hold xs [] S1 fun ds S2 => Q (.n (.lst ds)) S2) σ H QV) :
    tLc2 (tDI K wi) (tDG K t) (tDT K wt) (tDI K wi1) (tDG K t1) (tDT K wt1) (tD K we) vs vs1 σ H QV := by
  obtain ⟨ρ, S, Q, re, hs, h, po⟩ := h
  refine ⟨ρ, S, _, re, hs, h, fun J H1 xs hold S1 it hx s1 k1 q => fun l hl => ?_⟩
  have hl0 : S1 l = none := s1.no hl
  have hH : H l = none := k1.dom l hl
  refine ⟨fun i m G => m = xs.length - i ∧ i ≤ xs.length ∧ ∃ S' acc va, G l = some (.lst va) ∧ RDs K G acc va ∧ S' l = none ∧ RS K G S' ∧ Kp S1 H1 S' G ∧ accL (lcOut t wt wi1 t1 wt1 we vs1 (wipeE ρ vs)) hold (xs.drop i) acc S' fun ds S2 => Q (.n (.lst ds)) S2,
    ⟨xs.length, by simp, Nat.zero_le _, S1, [], [], upd_same, by simp [RDs], hl0, s1.laid hl, Kp.laid hl, q⟩, ?_⟩
  rintro i m G ⟨rfl, hi, S', acc, va, eG, rd, hn, sG, kG, q⟩
  by_cases hlt : i < xs.length
  · rw [List.drop_eq_getElem_cons hlt] at q
    obtain ⟨hh, q⟩ := q
    obtain ⟨_, hgo⟩ := it i S' G kG.q sG hh
    obtain ⟨go, hy⟩ := hgo xs[i] (List.getElem?_eq_getElem hlt)
    refine .inr ⟨go, fun G' => xs.length - (i + 1) < xs.length - i ∧ ∃ S' acc va, G' l = some (.lst va) ∧ RDs K G' acc va ∧ S' l = none ∧ RS K G' S' ∧ Kp S1 H1 S' G' ∧ accL (lcOut t wt wi1 t1 wt1 we vs1 (wipeE ρ vs)) hold (xs.drop (i + 1)) acc S' fun ds S2 => Q (.n (.lst ds)) S2,
      fun G' ⟨hm, w⟩ => ⟨xs.length - (i + 1), hm, rfl, hlt, w⟩, fun x G2 y => ?_⟩
    obtain ⟨rx, s2, k2⟩ := hy x G2 y
    have e2 : G2 l = some (.lst va) := (k2.keep l _ eG hn).1
    have kk : Kp S1 H1 S' G2 := kG.trans k2
    have reW : REnv K G2 (L2.wipe σ vs) (wipeE ρ vs) := ((re.kp k1 hs).kp kk s1).wipe vs
    replace q : bindN t xs[i] (wipeE ρ vs) fun ρ1 => wt ρ1 S' fun b S3 => if b = true then wi1 ρ1 S3 fun ys hold1 S4 => accL (lcIn t1 wt1 we vs1 ρ1) hold1 ys acc S4 fun acc' S' => accL (lcOut t wt wi1 t1 wt1 we vs1 (wipeE ρ vs)) hold (xs.drop (i + 1)) acc' S' fun ds S2 => Q (.n (.lst ds)) S2
      else accL (lcOut t wt wi1 t1 wt1 we vs1 (wipeE ρ vs)) hold (xs.drop (i + 1)) acc S3 fun ds S2 => Q (.n (.lst ds)) S2 := q
    refine ⟨wipeE ρ vs, S', xs[i], _, reW, s2, rx, q, fun σ3 ρ3 re3 q3 hw => ⟨wipe_same (hw vs ht), ?_⟩⟩
    refine tDT1 re3 s2 q3 fun b G3 S3 s3 k3 re4 q4 => ?_
    have e3 : G3 l = some (.lst va) ∧ S3 l = none := k3.keep l _ e2 hn
    have rd3 : RDs K G3 acc va := (RDs.kp k2 sG acc va rd).kp k3 s2
    have e3' := e3
    cases b with
    | false => exact ⟨by omega, S3, acc, va, e3.1, rd3, e3.2, s3, kk.trans k3, q4⟩
    | true =>
      refine ⟨ρ3, S3, _, re4, s3, q4, fun J1 H4 ys hold1 S4 it1 hy1 s4 k4 q5 => ?_⟩
      have e4 : H4 l = some (.lst va) ∧ S4 l = none := k4.keep l _ e3.1 e3.2
      have k14 : Kp S1 H1 S4 H4 := (kk.trans k3).trans k4
      refine ⟨fun j k G => k = ys.length - j ∧ j ≤ ys.length ∧ ∃ S' acc va, G l = some (.lst va) ∧ RDs K G acc va ∧ S' l = none ∧ RS K G S' ∧ Kq G3 S4 H4 S' G ∧ Kp S1 H1 S' G ∧ REnv K G σ3 ρ3 ∧ accL (lcIn t1 wt1 we vs1 ρ3) hold1 (ys.drop j) acc S' fun acc' S' => accL (lcOut t wt wi1 t1 wt1 we vs1 (wipeE ρ vs)) hold (xs.drop (i + 1)) acc' S' fun ds S2 => Q (.n (.lst ds)) S2,
        ⟨ys.length, by simp, Nat.zero_le _, S4, acc, va, e4.1, RDs.kp k4 s3 _ _ rd3, e4.2, s4, Kp.refl.q, k14, re4.kp k4 s3, q5⟩, ?_⟩
      rintro j k G ⟨rfl, hj, S', acc, va, eG, rd, hn, sG, kG, kG1, reG, q⟩
      by_cases hlt1 : j < ys.length
      · rw [List.drop_eq_getElem_cons hlt1] at q
        obtain ⟨hh, q⟩ := q
        obtain ⟨_, hgo⟩ := it1 j S' G kG sG hh
        obtain ⟨go, hy⟩ := hgo ys[j] (List.getElem?_eq_getElem hlt1)
        refine .inr ⟨go, fun G' => ys.length - (j + 1) < ys.length - j ∧ ∃ S' acc va, G' l = some (.lst va) ∧ RDs K G' acc va ∧ S' l = none ∧ RS K G' S' ∧ Kq G3 S4 H4 S' G' ∧ Kp S1 H1 S' G' ∧ REnv K G' σ3 ρ3 ∧ accL (lcIn t1 wt1 we vs1 ρ3) hold1 (ys.drop (j + 1)) acc S' fun acc' S' => accL (lcOut t wt wi1 t1 wt1 we vs1 (wipeE ρ vs)) hold (xs.drop (i + 1)) acc' S' fun ds S2 => Q (.n (.lst ds)) S2,
          fun G' ⟨hm, w⟩ => ⟨ys.length - (j + 1), hm, rfl, hlt1, w⟩, fun x G2 y => ?_⟩
        obtain ⟨rx, s2, k2⟩ := hy x G2 y
        have e2 : G2 l = some (.lst va) := (k2.keep l _ eG hn).1
        have reW : REnv K G2 (L2.wipe σ3 vs1) (wipeE ρ3 vs1) := (reG.kp k2 sG).wipe vs1
        replace q : bindN t1 ys[j] (wipeE ρ3 vs1) fun ρ2 => wt1 ρ2 S' fun b S6 => if b = true then we ρ2 S6 fun r S7 => mat r S7 fun d S8 => acc.length < sizeLine ∧ accL (lcIn t1 wt1 we vs1 ρ3) hold1 (ys.drop (j + 1)) (acc ++ [d]) S8 fun acc' S' => accL (lcOut t wt wi1 t1 wt1 we vs1 (wipeE ρ vs)) hold (xs.drop (i + 1)) acc' S' fun ds S2 => Q (.n (.lst ds)) S2
          else accL (lcIn t1 wt1 we vs1 ρ3) hold1 (ys.drop (j + 1)) acc S6 fun acc' S' => accL (lcOut t wt wi1 t1 wt1 we vs1 (wipeE ρ vs)) hold (xs.drop (i + 1)) acc' S' fun ds S2 => Q (.n (.lst ds)) S2 := q
        refine ⟨wipeE ρ3 vs1, S', ys[j], _, reW, s2, rx, q, fun σ4 ρ4 re4 q3 hw => ⟨wipe_same (hw vs1 ht1), ?_⟩⟩
        refine tDT1 re4 s2 q3 fun b G5 S3 s3 k3 re5 q4 => ?_
        have e3 : G5 l = some (.lst va) ∧ S3 l = none := k3.keep l _ e2 hn
        have rd3 : RDs K G5 acc va := (RDs.kp k2 sG acc va rd).kp k3 s2
        have re33 : REnv K G5 σ3 ρ3 := (reG.kp k2 sG).kp k3 s2
        cases b with
        | false => exact ⟨by omega, S3, acc, va, e3.1, rd3, e3.2, s3, (kG.kp k2).kp k3, (kG1.trans k2).trans k3, re33, q4⟩
        | true =>
          refine tD1 re5 s3 q4 fun r v G4 S4' r4 s4' k4' re6 q5 => ?_
          obtain ⟨d, S5, rdv, s5, k5, hz, q6⟩ := mat_ok q5 r4 s4' k4'
          have e5 : G4 l = some (.lst va) ∧ S5 l = none := k5.keep l _ e3.1 e3.2
          have rdA : RDs K G4 acc va := rd3.kp k5 s3
          have h4l : H4 l ≠ none := by rw [e4.1]; simp
          refine ⟨va, e5.1, by rw [← rdA.length]; exact hz, by omega, S5, acc ++ [d], va ++ [v], upd_same, RDs.grown e5.1 _ _ (rdA.append (.one rdv)), e5.2, s5.grown e5.1 e5.2, (((kG.kp k2).kp k3).kp k5).grown (by rw [e3'.1]; simp) e5.1, (((kG1.trans k2).trans k3).trans k5).grown hl, (re33.kp k5 s3).grown e5.1, q6⟩
      · have e : j = ys.length := by omega
        subst e
        rw [List.drop_length] at q
        obtain ⟨hh, q⟩ := q
        obtain ⟨st, _⟩ := it1 ys.length S' G kG sG hh
        exact .inl ⟨st (Nat.le_refl _), by omega, S', acc, va, eG, rd, hn, sG, kG1, q⟩
  · have e : i = xs.length := by omega
    subst e
    rw [List.drop_length] at q
    obtain ⟨hh, q⟩ := q
    obtain ⟨st, _⟩ := it xs.length S' G kG.q sG hh
    refine .inl ⟨st (Nat.le_refl _), ?_⟩
    have rr : RR K H G S' (.n (.lst acc)) (.ref l) := ⟨l, rfl, hH, hn, va, eG, rd⟩
    exact po _ G _ S' rr sG (k1.trans kG) q
theorem s_lc2 (hc : X.calm = true) (hN : X.N.Nodup) (hi : PI X tg iter (tDI X.K wi)) (ok : BlkOk X.N X.env.scope scope own) (ht : ∀ i ∈ tnIds t, i ∈ own.map (·.2)) (ht1 : ∀ i ∈ tnIds t1, i ∈ own.map (·.2))
    (hg : ∀ (s : Shared) (H : Hp) (C : Addr) (cl : List (Str × Addr)) (fp : List Addr), PG (X.blk s H scope (compEnvC scope cl C X.env) fp) tg (tDG X.K t)) (htt : ∀ (s : Shared) (H : Hp) (C : Addr) (cl : List (Str × Addr)) (fp : List Addr), PTs (X.blk s H scope (compEnvC scope cl C X.env) fp) ifs (tDT X.K wt))
    (hi1 : ∀ (s : Shared) (H : Hp) (C : Addr) (cl : List (Str × Addr)) (fp : List Addr), PI (X.blk s H scope (compEnvC scope cl C X.env) fp) tg1 iter1 (tDI X.K wi1))
    (hg1 : ∀ (s : Shared) (H : Hp) (C : Addr) (cl : List (Str × Addr)) (fp : List Addr), PG (X.blk s H scope (compEnvC scope cl C X.env) fp) tg1 (tDG X.K t1)) (htt1 : ∀ (s : Shared) (H : Hp) (C : Addr) (cl : List (Str × Addr)) (fp : List Addr), PTs (X.blk s H scope (compEnvC scope cl C X.env) fp) ifs1 (tDT X.K wt1))
    (he : ∀ (s : Shared) (H : Hp) (C : Addr) (cl : List (Str × Addr)) (fp : List Addr), PE (X.blk s H scope (compEnvC scope cl C X.env) fp) elt (tD X.K we)) (hf : ∀ x, foldedSetIterable iter X.env x = pure x) (hf1 : ∀ env x, foldedSetIterable iter1 env x = pure x) :
    PE X (.ListComp elt [⟨tg, iter, ifs, 0⟩, ⟨tg1, iter1, ifs1, 0⟩] scope pos) (tD X.K fun ρ S Q => wi ρ S fun xs hold S1 => accL (lcOut t wt wi1 t1 wt1 we (tnIds t1) (wipeE ρ (own.map (·.2)))) hold xs [] S1 fun ds S2 => Q (.n (.lst ds)) S2) :=
  (pe_lc2 (vs1 := tnIds t1) hc hN hi ok ht1 hg htt hi1 hg1 htt1 he hf hf1).weak fun σ H QV h => lc2_link ht (fun _ h => h) h
end
end DP

set_option maxRecDepth 100000
/-! DpSetA: a set made of a list of keys of any kind that the model scans; its length. -/
namespace DP.Sets
open PySem PySem.Spec PyProof.Rows L2
section
variable {κ : Type} [DecidableEq κ] [BEq κ] [LawfulBEq κ]
theorem put1_len (l : List κ) (k : κ) : (put1 l k).length = if l.any (· == k) then l.length else l.length + 1 := by
  unfold put1
  cases h : l.any (· == k) <;> simp
theorem put1_any (l : List κ) (k x : κ) : (put1 l k).any (· == x) = (l.any (· == x) || decide (x = k)) := by
  unfold put1
  cases h : l.any (· == k) with
  | true =>
    by_cases e : x = k
    · subst e
      simp only [if_true, h, Bool.true_or]
    · simp [e]
  | false =>
    rw [if_neg (by simp), List.any_append, List.any_cons, List.any_nil, Bool.or_false]
    congr 1
    by_cases e : x = k
    · subst e; simp
    · simp only [e, decide_false, beq_eq_false_iff_ne]
      exact fun z => e z.symm
theorem met_le (val : Nat → κ) : ∀ i, (met val i).length ≤ i
  | 0 => Nat.le_refl _
  | i + 1 => by
    have := met_le val i
    rw [met, put1_len]
    split <;> omega
end
section
variable {prog : Program} {w : World} {A : Around} {fin : Result → Shared → Prop} {it : Addr} {fp wr : List Addr} {G : Array GenState → Array GenState → Prop} {n : Nat} {P : Nat → Value → Prop} {St : Nat → Shared → Prop}
variable {κ : Type} [DecidableEq κ] [BEq κ] [LawfulBEq κ] {knd : KeyKind prog w κ}
/-- the set at b holds what was met in i turns -/
abbrev Holds (knd : KeyKind prog w κ) (b : Addr) (val : Nat → κ) (i : Nat) (h : Heap) : Prop := h.SetOf knd b (fun x => (met val i).any (· == x)) (met val i).length
theorem Holds.moved {b : Addr} {val : Nat → κ} {i : Nat} {z z' : Shared} (hw : b ∉ wr) (m : Moved wr G z z') (h : Holds knd b val i z.heap) : Holds knd b val i z'.heap := by
  obtain ⟨o, es, ep, tb, e, r⟩ := h
  exact ⟨o, es, ep, tb, m.heap b _ hw e, r⟩
/-- the loop that puts what is walked into the set, from turn i on -/
theorem fill (Wk : WalksS prog w A.in1 it fp wr G n P St) {b : Addr} (hb : b ∉ fp) {val : Nat → κ} (hv : ∀ i v, P i v → knd.is (val i) v = true ∧ v.scannable = true) (hn : n + 1 < scanBound) (m : Nat) :
    ∀ {i : Nat} {z : Shared}, n - i = m → i ≤ n → St i z → Holds knd b val i z.heap → (∀ z', Moved (b :: wr) G z z' → Holds knd b val n z'.heap → fin (.ok (.ret .none)) z') →
      codeAny (model prog w) A (.builtin "set.update.loop" ⟨[.ref b, .ref it], []⟩) fin z := by
  have out : b ∉ wr := fun q => hb (Wk.sub _ q)
  have wid : ∀ c ∈ wr, c ∈ b :: wr := fun c q => List.mem_cons_of_mem _ q
  induction m with
  | zero =>
    intro i z hm hi st hs q
    obtain rfl : i = n := by omega
    refine codeAny_builtin PyProof.Rows.F.entry_set_update_loop ?_
    rw [Around.under_plainId PyProof.Rows.F.plain_set_update_loop]
    exact wpAny_bind (Wk.done z _ _ st fun z1 mv => wpAny_pure (q z1 (mv.mono wid) (hs.moved out mv)))
  | succ m ih =>
    intro i z hm hi st hs q
    refine codeAny_builtin PyProof.Rows.F.entry_set_update_loop ?_
    rw [Around.under_plainId PyProof.Rows.F.plain_set_update_loop]
    refine wpAny_bind (Wk.item i z _ _ (by omega) st fun v z1 pv st1 mv => ?_)
    obtain ⟨kv, sc⟩ := hv i v pv
    have hs1 := hs.moved out mv
    have room : (met val i).length + 1 < scanBound := by have := met_le val i; omega
    refine wpAny_bind (wpAny_holding ?_)
    unfold setAdd
    refine wpAny_holding (wpAny_bind (knd.pyHash kv ?_))
    refine wpAny_setAddHashed_of (s := { z1 with toks := z1.toks + 1 }) kv sc hs1 room fun g same hs2 => ?_
    have hs3 : Holds knd b val (i + 1) g := SetOf_congr hs2 (fun x => by rw [met, put1_any]) (by rw [met, put1_len])
    refine wpAny_pure ⟨plainId_quiet PyProof.Rows.F.plain_set_update_loop _, ih (by omega) (by omega) (Wk.frame _ z1 _ _ st1 (Nat.le_succ _) fun c hc o e => ?_) hs3 fun z2 mv2 hs4 => ?_⟩
    · exact (same.2 c (fun e' => hb (e' ▸ hc))).trans e
    · exact q z2 (Moved.trans Wk.gtrans ((mv.mono wid).then_heap (Nat.le_succ _) fun c o hc e => (same.2 c (fun e' => hc (e' ▸ List.mem_cons_self))).trans e) mv2) hs4
end
section
variable {prog : Program} {w : World} {A : Around} {E : Value → Shared → Prop} {z : Shared} {κ : Type} [DecidableEq κ] [BEq κ] [LawfulBEq κ] {knd : KeyKind prog w κ}
/-- the heap with a new empty set -/
abbrev bare (h : Heap) (led : Bool) : Heap := h.push { cls := .type "set", dict := none, data := .set #[] 0 (.fresh 0 0 led) }
set_option maxHeartbeats 4000000 in
/-- set(list), of keys of one kind -/
theorem set_of_list {l : Addr} {its : Array Value} {val : Nat → κ} {Q : Value → Shared → Prop} (free : A.handled = none) (hl : z.heap.IsList l its)
    (hv : ∀ (i : Nat) (v : Value), its[i]? = some v → knd.is (val i) v = true ∧ v.scannable = true) (hn : its.size + 1 < scanBound)
    (q : ∀ (g : Heap) (tk : Nat), Holds knd z.heap.objs.size val its.size g → (∀ b o, b < z.heap.objs.size → z.heap.get? b = some o → g.get? b = some o) → Q (.ref z.heap.objs.size) { z with heap := g, toks := tk }) :
    wpAny (model prog w) A (call (.type "set") [.ref l]) Q E z := by
  obtain ⟨base, tail, order⟩ := PySem.F.called_set.mro
  have c1 := PySem.F.called_set.made
  have c2 := PySem.F.called_set.sub
  have c3 := PySem.F.called_set.notType
  have c4 := PySem.F.called_set.canCreate
  have c5 := PySem.F.typeCall_set_1 (.ref l)
  refine wpAny_call (codeAny_of_tree (wpAny_pure ⟨Code.quiet_builtin _ (by decide +kernel), codeAny_builtin PySem.F.entry_type_call ?_⟩))
  rw [Around.under_plain (weight_type_call_type "set" [.ref l] []) rfl]
  repeat (any_goals (first | assumption | wp_step))
  refine codeAny_mono (code_set_new_1 (.ref l) (E := E) (Q₁ := fun v y => ∃ led, v = .ref z.heap.objs.size ∧ y = { z with heap := bare z.heap led }) fun led => ⟨led, rfl, rfl⟩) fun r y hr => ?_
  match r, hr with
  | .error e, hr => exact hr
  | .ok (.ret v), ⟨led, e1, e2⟩ =>
    subst e1 e2
    have at0 : (bare z.heap led).get? z.heap.objs.size = some { cls := .type "set", dict := none, data := .set #[] 0 (.fresh 0 0 led) } := Heap.get?_push_size _ rfl
    have ty0 : Shared.TypeIs { z with heap := bare z.heap led } (.ref z.heap.objs.size) "set" := ⟨_, at0, rfl⟩
    have i1 := PySem.F.called_set.init.lookup
    have i2 := PySem.F.called_set.init.bind (.ref z.heap.objs.size)
    repeat (any_goals (first | assumption | wp_step))
    refine codeAny_mono (codeAny_call_builtin (R := wants (fun r y => r = .none ∧ ∃ g tk, y = { z with heap := g, toks := tk } ∧ Holds knd z.heap.objs.size val its.size g ∧ ∀ b o, b < z.heap.objs.size → z.heap.get? b = some o → g.get? b = some o) E)
      PySem.F.called_set.init.plain PySem.F.entry_set_init (check_set_init_1 ty0 ?_)) fun r2 y2 hr2 => ?_
    · obtain ⟨⟨ocls, odict, odata, oslots⟩, hol, hcl, nl, hdl⟩ := hl
      simp only at hcl hdl
      subst hcl hdl
      have hol' : (bare z.heap led).get? l = some { cls := .type "list", dict := odict, data := .seq its nl, slots := oslots } := Heap.get?_push_of_some _ hol
      have n1 := PySem.F.sub_list_set
      have n2 := PySem.F.sub_list_frozenset
      have n3 : (Value.type "list" == Value.type "dict") = false := by decide
      have hl1 : (bare z.heap led).IsList l its := ⟨_, hol', rfl, nl, rfl⟩
      have lt : l < z.heap.objs.size := Heap.lt_size hol
      unfold Builtin.«set.__init__» noKeywords Builtin.Frozenset.updateFrom
      generalize hPI : pyIter = PI
      wp_walk
      subst hPI
      refine wpAny_pyIter_list hl1 (wpAny_bind (wpAny_runValue ?_))
      have free3 : A.in1.in1.in1.handled = none := by simp [free]
      have size1 : (bare z.heap led).objs.size = z.heap.objs.size + 1 := by rw [Heap.size_push]
      have ne1 : l ≠ (bare z.heap led).objs.size := by rw [size1]; exact Nat.ne_of_lt (Nat.lt_succ_of_lt lt)
      have notin : z.heap.objs.size ∉ [(bare z.heap led).objs.size, l] := by
        rw [size1, List.mem_cons, List.mem_singleton, not_or]
        exact ⟨Nat.ne_of_lt (Nat.lt_succ_self _), Nat.ne_of_gt lt⟩
      refine fill (knd := knd) ((Walks.list free3 _ l ne1 its).toS) notin hv hn _ (i := 0) rfl (Nat.zero_le _) ⟨⟨_, Heap.get?_push_size _ rfl, rfl, rfl⟩, hl1.push _⟩ ?start ?stop
      case start =>
        exact SetOf_congr ((setObjOf_fresh (knd := knd) led).setOf (Heap.get?_push_of_some _ at0) (by unfold scanBound; omega)) (fun _ => rfl) rfl
      case stop =>
        rintro ⟨g, gs, dr, tk, os⟩ mv hs
        obtain rfl : gs = z.gens := mv.gens
        obtain rfl : dr = z.drawn := mv.drawn
        obtain rfl : os = z.os := mv.os
        refine wpAny_pure (wpAny_pure ⟨rfl, g, tk, rfl, hs, fun b o hb e => mv.heap b o ?_ (Heap.get?_push_of_some _ (Heap.get?_push_of_some _ e))⟩)
        rw [size1, List.mem_cons, List.mem_singleton, not_or]
        exact ⟨Nat.ne_of_lt hb, Nat.ne_of_lt (Nat.lt_succ_of_lt hb)⟩
    · match r2, hr2 with
      | .error e, hr2 => exact hr2
      | .ok (.ret v), ⟨e1, g, tk, e2, hs, keep⟩ =>
        subst e1 e2
        repeat (any_goals (first | assumption | wp_step))
        exact q _ _ hs keep
end
section
variable {X : Cx}
/-- len(set(xs)), xs a list of texts -/
def tLenS (K : PySem.W.Frag) (ta : TE) : TE := fun σ H Q => ta σ H fun x H1 => ∃ (l : Addr) (xs : List Str), x = V.ref l ∧ SqL K H1 l (xs.map V.str) ∧ xs.length < 1000 ∧ Q (.int (met (fun i => xs.getD i ⟨#[]⟩) xs.length).length) H1
theorem vals_str : ∀ {xs : List Str} {us : List Value}, Vals (xs.map V.str) us → ∀ (i : Nat) (v : Value), us[i]? = some v → ∃ t, v = .str (xs.getD i ⟨#[]⟩) t
  | [], us, h, i, v, e => by cases h; simp at e
  | x :: xs, _, h, i, v, e => by
    cases h with
    | cons r rr =>
      cases i with
      | zero =>
        obtain ⟨t, ht⟩ := r
        simp at e
        exact ⟨t, by rw [← e]; exact ht⟩
      | succ i => exact vals_str rr i v (by simpa using e)
theorem pe_lenS {a : Expr} {ta : TE} {p p2 q pos : Pos} (hc : X.calm = true) (hg : Gl X "len") (hm : X.mg "len" = none) (hg2 : Gl X "set") (hm2 : X.mg "set" = none) (ha : PE X a ta)
    (na : starEach [a] X.env = (false, eval a X.env) :: starEach [] X.env) : PE X (.Call (.Name "len" p) [.Call (.Name "set" p2) [a] [] q] [] pos) (tLenS X.K ta) := by
  refine ⟨fun pins s σ H Q I h => Call_ (ld_blt I hg hm PySem.boot_len (callWith_builtin1 (args_cons (Call_ (ld_blt I hg2 hm2 boot_set (callWith_type1 (args_cons (thn (ha.run pins s σ H _ I h) fun v s1 hv => args_nil ?_) na) na rfl))) rfl) rfl rfl))⟩
  obtain ⟨x, H1, I1, r1, l, xs, rfl, hq, h1, q1⟩ := hv
  cases r1
  obtain ⟨its, r, pl, hz⟩ := I1.list hq
  have hsz : its.toArray.size = xs.length := by rw [List.size_toArray, ← r.length, List.length_map]
  refine set_of_list (knd := PySem.strKind X.prog X.w) (val := fun i => xs.getD i ⟨#[]⟩) (I1.ok.hd hc) pl.isList (fun i v e => ?_) (by rw [hsz]; unfold scanBound; omega) fun g tk hS keep => args_nil ?_
  · obtain ⟨t, rfl⟩ := vals_str r i v (by simpa using e)
    exact ⟨strKind_is _ _ _ _, rfl⟩
  · rw [hsz] at hS
    obtain ⟨o, es, ep, t, ho, hex, hd, _, _, _, hf, hn⟩ := hS
    have I2 : Inv X pins σ H1 { s1 with heap := g, toks := tk } := I1.kept fun b o e => keep b o (Heap.lt_size e) e
    have := met_le (fun i => xs.getD i (⟨#[]⟩ : Str)) xs.length
    exact call_len_set ho hex hd hf (by rw [hn]; omega) ⟨.int _, H1, I2.tok _, ⟨_, by rw [hn]⟩, q1⟩
end
end DP.Sets

set_option maxRecDepth 100000
/-! DpSet: len(set(texts)) over the terms. -/
namespace DP
open PySem PySem.Spec PyProof.Rows L2
section
variable {K : PySem.W.Frag} {S : Sto} {H0 H : Hp}
theorem rds_strs : ∀ {xs : List Str} {vs : List V}, RDs K H (xs.map .str) vs → vs = xs.map V.str
  | [], _, h => by simpa only [List.map_nil, RDs] using h
  | x :: xs, _, h => by
    simp only [List.map_cons, RDs] at h
    obtain ⟨v, r, rfl, h1, h2⟩ := h
    rw [rds_strs h2]
    cases (show v = V.str x from h1)
    rfl
theorem lst_strs {r : R} {v : V} {xs : List Str} (rr : RR K H0 H S r v) (hs : RS K H S) (e : lstOf S r = some (xs.map .str)) : ∃ l, v = V.ref l ∧ SqL K H l (xs.map V.str) := by
  cases r with
  | v d =>
    cases d with
    | fz ys =>
      cases (show ys = xs.map .str from Option.some.inj e)
      have rr : RD K H (.fz _) v := rr
      simp only [RD] at rr
      obtain ⟨l, vs, rfl, sq, rd⟩ := rr
      rw [rds_strs rd] at sq
      exact ⟨l, rfl, sq.sq⟩
    | ref a =>
      cases (show v = V.ref a from rr)
      cases q : S a with
      | none => simp [lstOf, see, q] at e
      | some o =>
        cases o with
        | lst ys =>
          have e : some ys = some (xs.map .str) := by simpa [lstOf, see, q] using e
          cases e
          obtain ⟨vs, e1, rd⟩ := hs a _ q
          rw [rds_strs rd] at e1
          exact ⟨a, rfl, .inl (.inl e1)⟩
        | dK _ => simp [lstOf, see, q] at e
        | dT _ => simp [lstOf, see, q] at e
    | non => simp [lstOf, see] at e
    | bl _ => simp [lstOf, see] at e
    | int _ => simp [lstOf, see] at e
    | str _ => simp [lstOf, see] at e
    | tup _ => simp [lstOf, see] at e
  | n o =>
    cases o with
    | lst ys =>
      cases (show ys = xs.map .str from Option.some.inj e)
      obtain ⟨a, rfl, _, _, vs, e1, rd⟩ := rr
      rw [rds_strs rd] at e1
      exact ⟨a, rfl, .inl (.inl e1)⟩
    | dK _ => simp [lstOf, see] at e
    | dT _ => simp [lstOf, see] at e
end
section
variable {X : Cx} {a : Expr} {wa : Ev} {p p2 q pos : Pos}
theorem s_lset (hc : X.calm = true) (hg : Gl X "len") (hm : X.mg "len" = none) (hg2 : Gl X "set") (hm2 : X.mg "set" = none) (ha : PE X a (tD X.K wa)) (na : starEach [a] X.env = (false, eval a X.env) :: starEach [] X.env) :
    PE X (.Call (.Name "len" p) [.Call (.Name "set" p2) [a] [] q] [] pos) (tD X.K fun ρ S Q => wa ρ S fun r S1 => ∃ xs, lstOf S1 r = some (xs.map .str) ∧ xs.length < 1000 ∧ Q (.v (.int (metS xs).length)) S1) :=
  (Sets.pe_lenS hc hg hm hg2 hm2 ha na).weak fun σ H QV ⟨ρ, S, Q, re, hs, h, po⟩ => tD1 re hs h fun r v H1 S1 r1 s1 k1 re1 ⟨xs, e, hl, q⟩ => by
    obtain ⟨l, rfl, sq⟩ := lst_strs r1 s1 e
    exact ⟨l, xs, rfl, sq, hl, po.dat k1 s1 rd_int q⟩
end
end DP

set_option maxRecDepth 100000
/-! DpSet2: a set made of a list or tuple of keys, its members in some order, sorted. -/
namespace DP.Sets
open PySem PySem.Spec PyProof.Rows L2
section
variable {κ : Type} [DecidableEq κ] [BEq κ] [LawfulBEq κ] [Inhabited κ] {P : Program} {w : World} (knd : KeyKind P w κ)
def GoodK (e : Int × Value) : Prop := ∃ k, knd.is k e.2 = true ∧ e.2.scannable = true ∧ e.1 = knd.hash k
open Classical in
noncomputable def keyK (v : Value) : κ := if h : ∃ k, knd.is k v = true then h.choose else default
theorem keyK_is {v : Value} {k : κ} (h : knd.is k v = true) : keyK knd v = k := by
  have q : ∃ k, knd.is k v = true := ⟨k, h⟩
  unfold keyK
  rw [dif_pos q]
  exact knd.inj v _ _ q.choose_spec h
/-- the set at a: ks its members -/
def SetG (h : Heap) (a : Addr) (ks : List κ) : Prop :=
  ∃ o es ep t, h.get? a = some o ∧ o.ExactSet ∧ o.data = .set es ep t ∧ (∀ e ∈ es.toList, GoodK knd e) ∧ (es.toList.map fun e => keyK knd e.2).Perm ks ∧ ks.Nodup ∧
    es.size < scanBound ∧ t.fits es.size = true ∧ Ris t.place.toList ∧ (w.params.followText "set-order" = true ∨ t.led = true)
variable {knd}
theorem SetG.at {h h' : Heap} {a : Addr} {ks : List κ} (R : SetG knd h a ks) (k : ∀ o, h.get? a = some o → h'.get? a = some o) : SetG knd h' a ks := by
  obtain ⟨o, es, ep, t, ho, r⟩ := R
  exact ⟨o, es, ep, t, k o ho, r⟩
theorem goodK_elems {l : List (Int × Value)} (g : ∀ e ∈ l, GoodK knd e) : ElemsOf knd l := fun e he => by
  obtain ⟨k, h1, h2, h3⟩ := g e he
  exact ⟨⟨k, h1, h3⟩, h2⟩
theorem goodK_is {e : Int × Value} (g : GoodK knd e) (k : κ) : knd.is k e.2 = true ↔ keyK knd e.2 = k := by
  obtain ⟨k0, h1, _, _⟩ := g
  constructor
  · intro h; exact keyK_is knd h
  · intro h; rw [← h, keyK_is knd h1]; exact h1
theorem goodK_mem {l : List (Int × Value)} (g : ∀ e ∈ l, GoodK knd e) (k : κ) : k ∈ (l.map fun e => keyK knd e.2) ↔ ∃ e ∈ l, knd.is k e.2 = true := by
  rw [List.mem_map]
  constructor
  · rintro ⟨e, he, q⟩
    exact ⟨e, he, (goodK_is (g e he) k).2 q⟩
  · rintro ⟨e, he, q⟩
    exact ⟨e, he, (goodK_is (g e he) k).1 q⟩
theorem put1_in {ks : List κ} {k : κ} (h : k ∈ ks) : put1 ks k = ks := by
  unfold put1
  refine if_pos ?_
  rw [List.any_eq_true]
  exact ⟨k, h, by simp⟩
theorem put1_out {ks : List κ} {k : κ} (h : k ∉ ks) : put1 ks k = ks ++ [k] := by
  unfold put1
  rw [if_neg]
  intro z
  obtain ⟨x, hx, e⟩ := List.any_eq_true.mp z
  rw [beq_iff_eq] at e
  subst e
  exact h hx
theorem put1_nd {ks : List κ} (h : ks.Nodup) (k : κ) : (put1 ks k).Nodup := by
  unfold put1
  split
  · exact h
  · rename_i q
    rw [List.nodup_append]
    refine ⟨h, by simp, fun x hx y hy e => ?_⟩
    rw [List.mem_singleton] at hy
    subst hy e
    exact q (List.any_eq_true.mpr ⟨x, hx, beq_self_eq_true x⟩)
end
section
variable {κ : Type} [DecidableEq κ] [BEq κ] [LawfulBEq κ] [Inhabited κ] {P : Program} {w : World} {knd : KeyKind P w κ} {A : Around} {E : Value → Shared → Prop} {s : Shared} {a : Addr} {ks : List κ}
theorem setG_add_tail {g : Bool → Sem Unit} (hg : ∀ (b : Bool) (s₁ : Shared) (Q' : Unit → Shared → Prop), Q' () s₁ → wpAny (model P w) A (g b) Q' E s₁)
    {o : Obj} {es : Array (Int × Value)} {ep : Nat} {t : SetTable} (ho : s.heap.get? a = some o) (hex : o.ExactSet) (hd : o.data = .set es ep t)
    {es1 : Array (Int × Value)} {t2 : SetTable} {ks' : List κ} (g1 : ∀ e ∈ es1.toList, GoodK knd e) (m1 : (es1.toList.map fun e => keyK knd e.2).Perm ks') (nd1 : ks'.Nodup)
    (hb1 : es1.size < scanBound) (hf2 : t2.fits es1.size = true) (hr : Ris t2.place.toList) (hl : w.params.followText "set-order" = true ∨ t2.led = true) {wasDummy : Bool} {R : Option Bool → Shared → Prop}
    (hR : ∀ h', Heap.SameBut a s.heap h' → SetG knd h' a ks' → R (some true) { s with heap := h' }) :
    wpAny (model P w) A (do
        storeSet a es1 t2
        if (!wasDummy && t2.tooFull) = true then do
            g (relayAll t2 es1 (SetTable.grown es1.size)).2.2
            storeSet a (relayAll t2 es1 (SetTable.grown es1.size)).1 (relayAll t2 es1 (SetTable.grown es1.size)).2.1
            pure (some true)
          else pure (some true)) R E s := by
  refine wpAny_bind (wpAny_storeSet_of ho hd ?_ (fits_of_scanBound hb1))
  have ho1 := store_at (es' := es1) (t' := t2) ho hd
  have sb1 := Heap.SameBut.update s.heap a (Obj.putSet es1 t2)
  split
  · have pm := relayAll_perm t2 es1 (SetTable.grown es1.size)
    have hf3 := relayAll_fits t2 es1 (SetTable.grown es1.size)
    have hr3 := relayAll_ris t2 es1 (SetTable.grown es1.size)
    have hl3 := relayAll_led t2 es1 (SetTable.grown es1.size)
    generalize relayAll t2 es1 (SetTable.grown es1.size) = Z at pm hf3 hr3 hl3 ⊢
    obtain ⟨es2, t3, gave⟩ := Z
    dsimp only at pm hf3 hr3 hl3 ⊢
    have hsz : es2.size = es1.size := by rw [← Array.length_toList, pm.length_eq, Array.length_toList]
    have hb2 : es2.size < scanBound := by rw [hsz]; exact hb1
    refine wpAny_bind (hg _ _ _ ?_)
    refine wpAny_bind (wpAny_storeSet_of ho1 rfl ?_ (fits_of_scanBound hb2))
    have ho2 := store_at (es' := es2) (t' := t3) ho1 rfl
    refine wpAny_pure (hR _ (sb1.trans (Heap.SameBut.update _ a _)) ?_)
    exact ⟨_, es2, _, t3, ho2, hex, rfl, fun e he => g1 e (pm.mem_iff.mp he), (pm.map fun e => keyK knd e.2).trans m1, nd1, hb2, hf3, hr3, hl.imp id fun z => by rw [hl3]; exact z⟩
  · exact wpAny_pure (hR _ sb1 ⟨_, es1, _, t2, ho1, hex, rfl, g1, m1, nd1, hb1, hf2, hr, hl⟩)
theorem setG_add_hashed {k : κ} {v : Value} (hk : knd.is k v = true) (hsc : v.scannable = true) {Q : Bool → Shared → Prop} (R : SetG knd s.heap a ks) (room : ks.length + 1 < scanBound)
    (hQ : ∀ b h', Heap.SameBut a s.heap h' → SetG knd h' a (put1 ks k) → Q b { s with heap := h' }) :
    wpAny (model P w) A (setAddHashed a v (knd.hash k)) Q E s := by
  obtain ⟨o, es, ep, t, ho, hex, hd, g, hp, hnd, hb, hf, hr, hl⟩ := R
  have hel : ElemsOf knd es.toList := goodK_elems g
  unfold setAddHashed setAddHashedIn
  refine wpAny_holding (wpAny_bind (wpAny_setState_of ho hd hf ?_))
  dsimp only
  rw [byScan_of hsc hb hel]
  simp only [↓reduceIte]
  unfold setAddByScan
  refine wpAny_bind ?_
  refine wpAny_bind (wpAny_rule ?_)
  refine wpAny_bind (wpAny_setScan_of hk ho hd hf hel ?_)
  cases hfi : List.findIdx? (fun e => knd.is k e.2) es.toList with
  | some j =>
    dsimp only
    obtain ⟨hj, pj, _⟩ := List.findIdx?_eq_some_iff_getElem.mp hfi
    have hin : k ∈ ks := hp.mem_iff.mp ((goodK_mem g k).2 ⟨es.toList[j], List.getElem_mem hj, pj⟩)
    have e : put1 ks k = ks := put1_in hin
    refine wpAny_pure (wpAny_pure ?_)
    exact hQ _ s.heap (Heap.SameBut.refl a s.heap) ⟨o, es, ep, t, ho, hex, hd, g, by rw [e]; exact hp, by rw [e]; exact hnd, hb, hf, hr, hl⟩
  | none =>
    dsimp only
    have hnk : k ∉ (es.toList.map fun e => keyK knd e.2) := fun z => by
      obtain ⟨e, he, q⟩ := (goodK_mem g k).1 z
      have c := List.findIdx?_eq_none_iff.mp hfi e he
      rw [q] at c
      cases c
    have hnks : k ∉ ks := fun z => hnk (hp.mem_iff.mpr z)
    have e1 : put1 ks k = ks ++ [k] := put1_out hnks
    have hgw : ∀ (b : Bool) {s₁ : Shared} {Q' : Unit → Shared → Prop}, Q' () s₁ → wpAny (model P w) A (match b with | true => rule "set.scan.the-table-gave-way" | false => pure ()) Q' E s₁ :=
      fun b s₁ Q' q => by cases b <;> first | exact wpAny_pure q | exact wpAny_rule q
    have pm := layNew_perm t es (knd.hash k) v
    have hf1 := layNew_fits t es (knd.hash k) v
    have hr1 := layNew_ris t es (knd.hash k) v hr
    have hl1 := layNew_led t es (knd.hash k) v
    generalize layNew t es (knd.hash k) v = Z at pm hf1 hr1 hl1 ⊢
    obtain ⟨es1, t1, wasDummy, gave⟩ := Z
    dsimp only at pm hf1 hr1 hl1 ⊢
    rw [Array.toList_push] at pm
    have pc : es1.toList.Perm ((knd.hash k, v) :: es.toList) := pm.trans (List.perm_append_singleton _ _)
    have pk : (es1.toList.map fun e => keyK knd e.2).Perm (put1 ks k) := by
      rw [e1]
      refine (pc.map fun e => keyK knd e.2).trans ?_
      rw [List.map_cons, keyK_is knd hk]
      exact ((hp.cons k).trans (List.perm_append_singleton _ _).symm)
    have g1 : ∀ e ∈ es1.toList, GoodK knd e := fun e he => by
      rcases List.mem_cons.mp (pc.mem_iff.mp he) with z | z
      · rw [z]; exact ⟨k, hk, hsc, rfl⟩
      · exact g e z
    have nd1 := put1_nd hnd k
    have hsz : es1.size = ks.length + 1 := by rw [← Array.length_toList, pc.length_eq, List.length_cons, ← hp.length_eq, List.length_map]
    have hb1 : es1.size < scanBound := by rw [hsz]; exact room
    have hled : w.params.followText "set-order" = true ∨ t1.led = true := hl.imp id fun z => by rw [hl1]; exact z
    have fin : ∀ h', Heap.SameBut a s.heap h' → SetG knd h' a (put1 ks k) → Q true { s with heap := h' } := fun h' sb r => hQ _ h' sb r
    refine wpAny_bind (hgw _ ?_)
    split
    · refine wpAny_bind ?_
      rw [hashByValue_scannable 8 hsc]
      refine wpAny_pure ?_
      refine setG_add_tail ?_ ho hex hd g1 pk nd1 hb1 ?_ ?_ ?_ ?_
      · intro b s₁ Q' q; cases b <;> first | exact wpAny_pure q | exact wpAny_rule q
      · first | (split <;> first | exact hf1 | exact SetTable.fits_plain_off hf1) | exact hf1
      · first | (split <;> exact hr1) | exact hr1
      · first | (split <;> exact hled) | exact hled
      · intro h' sb r; dsimp only; exact wpAny_pure (fin h' sb r)
    · refine wpAny_bind (wpAny_pure ?_)
      simp only [↓reduceIte]
      refine setG_add_tail ?_ ho hex hd g1 pk nd1 hb1 hf1 hr1 hled ?_
      · intro b s₁ Q' q; cases b <;> first | exact wpAny_pure q | exact wpAny_rule q
      · intro h' sb r; dsimp only; exact wpAny_pure (fin h' sb r)
end
section
variable {prog : Program} {w : World} {A : Around} {fin : Result → Shared → Prop} {it : Addr} {fp wr : List Addr} {G : Array GenState → Array GenState → Prop} {n : Nat} {P : Nat → Value → Prop} {St : Nat → Shared → Prop}
variable {κ : Type} [DecidableEq κ] [BEq κ] [LawfulBEq κ] [Inhabited κ] {knd : KeyKind prog w κ}
theorem SetG.moved {b : Addr} {ks : List κ} {z z' : Shared} (hw : b ∉ wr) (m : Moved wr G z z') (h : SetG knd z.heap b ks) : SetG knd z'.heap b ks := h.at fun o e => m.heap b _ hw e
/-- the loop that puts what is walked into the set, from turn i on -/
theorem fillG (Wk : WalksS prog w A.in1 it fp wr G n P St) {b : Addr} (hb : b ∉ fp) {val : Nat → κ} (hv : ∀ i v, P i v → knd.is (val i) v = true ∧ v.scannable = true) (hn : n + 1 < scanBound) (m : Nat) :
    ∀ {i : Nat} {z : Shared}, n - i = m → i ≤ n → St i z → SetG knd z.heap b (met val i) → (∀ z', Moved (b :: wr) G z z' → SetG knd z'.heap b (met val n) → fin (.ok (.ret .none)) z') →
      codeAny (model prog w) A (.builtin "set.update.loop" ⟨[.ref b, .ref it], []⟩) fin z := by
  have out : b ∉ wr := fun q => hb (Wk.sub _ q)
  have wid : ∀ c ∈ wr, c ∈ b :: wr := fun c q => List.mem_cons_of_mem _ q
  induction m with
  | zero =>
    intro i z hm hi st hs q
    obtain rfl : i = n := by omega
    refine codeAny_builtin PyProof.Rows.F.entry_set_update_loop ?_
    rw [Around.under_plainId PyProof.Rows.F.plain_set_update_loop]
    exact wpAny_bind (Wk.done z _ _ st fun z1 mv => wpAny_pure (q z1 (mv.mono wid) (hs.moved out mv)))
  | succ m ih =>
    intro i z hm hi st hs q
    refine codeAny_builtin PyProof.Rows.F.entry_set_update_loop ?_
    rw [Around.under_plainId PyProof.Rows.F.plain_set_update_loop]
    refine wpAny_bind (Wk.item i z _ _ (by omega) st fun v z1 pv st1 mv => ?_)
    obtain ⟨kv, sc⟩ := hv i v pv
    have hs1 := hs.moved out mv
    have room : (met val i).length + 1 < scanBound := by have := met_le val i; omega
    refine wpAny_bind (wpAny_holding ?_)
    unfold setAdd
    refine wpAny_holding (wpAny_bind (knd.pyHash kv ?_))
    refine setG_add_hashed (s := { z1 with toks := z1.toks + 1 }) kv sc hs1 room fun bb g same hs2 => ?_
    refine wpAny_pure ⟨plainId_quiet PyProof.Rows.F.plain_set_update_loop _, ih (by omega) (by omega) (Wk.frame _ z1 _ _ st1 (Nat.le_succ _) fun c hc o e => ?_) hs2 fun z2 mv2 hs4 => ?_⟩
    · exact (same.2 c (fun e' => hb (e' ▸ hc))).trans e
    · exact q z2 (Moved.trans Wk.gtrans ((mv.mono wid).then_heap (Nat.le_succ _) fun c o hc e => (same.2 c (fun e' => hc (e' ▸ List.mem_cons_self))).trans e) mv2) hs4
end
section
variable {prog : Program} {w : World} {A : Around} {E : Value → Shared → Prop} {z : Shared} {κ : Type} [DecidableEq κ] [BEq κ] [LawfulBEq κ] [Inhabited κ] {knd : KeyKind prog w κ}
set_option maxHeartbeats 4000000 in
/-- set(x), x a list or tuple of keys of one kind -/
theorem setG_of {l : Addr} {its : Array Value} {val : Nat → κ} {Q : Value → Shared → Prop} (free : A.handled = none) (hl : z.heap.IsList l its ∨ z.heap.IsTuple l its)
    (hv : ∀ (i : Nat) (v : Value), its[i]? = some v → knd.is (val i) v = true ∧ v.scannable = true) (hn : its.size + 1 < scanBound)
    (q : ∀ (g : Heap) (tk : Nat), SetG knd g z.heap.objs.size (met val its.size) → (∀ b o, b < z.heap.objs.size → z.heap.get? b = some o → g.get? b = some o) → Q (.ref z.heap.objs.size) { z with heap := g, toks := tk }) :
    wpAny (model prog w) A (call (.type "set") [.ref l]) Q E z := by
  obtain ⟨base, tail, order⟩ := PySem.F.called_set.mro
  have c1 := PySem.F.called_set.made
  have c2 := PySem.F.called_set.sub
  have c3 := PySem.F.called_set.notType
  have c4 := PySem.F.called_set.canCreate
  have c5 := PySem.F.typeCall_set_1 (.ref l)
  refine wpAny_call (codeAny_of_tree (wpAny_pure ⟨Code.quiet_builtin _ (by decide +kernel), codeAny_builtin PySem.F.entry_type_call ?_⟩))
  rw [Around.under_plain (weight_type_call_type "set" [.ref l] []) rfl]
  repeat (any_goals (first | assumption | wp_step))
  refine codeAny_mono (code_set_led1 (.ref l) (E := E) (Q₁ := fun v y => v = .ref z.heap.objs.size ∧ y = { z with heap := bare z.heap (!w.params.followText "set-order") }) ⟨rfl, rfl⟩) fun r y hr => ?_
  match r, hr with
  | .error e, hr => exact hr
  | .ok (.ret v), ⟨e1, e2⟩ =>
    subst e1 e2
    generalize hled : (!w.params.followText "set-order") = led
    have at0 : (bare z.heap led).get? z.heap.objs.size = some { cls := .type "set", dict := none, data := .set #[] 0 (.fresh 0 0 led) } := Heap.get?_push_size _ rfl
    have ty0 : Shared.TypeIs { z with heap := bare z.heap led } (.ref z.heap.objs.size) "set" := ⟨_, at0, rfl⟩
    have ledOk : w.params.followText "set-order" = true ∨ led = true := by
      rw [← hled]
      cases w.params.followText "set-order"
      · exact .inr rfl
      · exact .inl rfl
    have new0 : ∀ (h : Heap), h.get? z.heap.objs.size = some { cls := .type "set", dict := none, data := .set #[] 0 (.fresh 0 0 led) } → SetG knd h z.heap.objs.size [] := fun h e =>
      ⟨_, #[], 0, _, e, ⟨rfl, rfl, rfl⟩, rfl, (fun e he => by simp at he), (by simp), (by simp), (by decide), (by rfl), List.Pairwise.nil, ledOk⟩
    have i1 := PySem.F.called_set.init.lookup
    have i2 := PySem.F.called_set.init.bind (.ref z.heap.objs.size)
    repeat (any_goals (first | assumption | wp_step))
    refine codeAny_mono (codeAny_call_builtin (R := wants (fun r y => r = .none ∧ ∃ g tk, y = { z with heap := g, toks := tk } ∧ SetG knd g z.heap.objs.size (met val its.size) ∧ ∀ b o, b < z.heap.objs.size → z.heap.get? b = some o → g.get? b = some o) E)
      PySem.F.called_set.init.plain PySem.F.entry_set_init (check_set_init_1 ty0 ?_)) fun r2 y2 hr2 => ?_
    · have free3 : A.in1.in1.in1.handled = none := by simp [free]
      have size1 : (bare z.heap led).objs.size = z.heap.objs.size + 1 := by rw [Heap.size_push]
      have stop : ∀ (wr : List Addr) (zz : Shared), (∀ c ∈ wr, c = (bare z.heap led).objs.size) → True := fun _ _ _ => trivial
      rcases hl with hl | hl
      · obtain ⟨⟨ocls, odict, odata, oslots⟩, hol, hcl, nl, hdl⟩ := hl
        simp only at hcl hdl
        subst hcl hdl
        have hol' : (bare z.heap led).get? l = some { cls := .type "list", dict := odict, data := .seq its nl, slots := oslots } := Heap.get?_push_of_some _ hol
        have n1 := PySem.F.sub_list_set
        have n2 := PySem.F.sub_list_frozenset
        have n3 : (Value.type "list" == Value.type "dict") = false := by decide
        have hl1 : (bare z.heap led).IsList l its := ⟨_, hol', rfl, nl, rfl⟩
        have lt : l < z.heap.objs.size := Heap.lt_size hol
        unfold Builtin.«set.__init__» noKeywords Builtin.Frozenset.updateFrom
        generalize hPI : pyIter = PI
        wp_walk
        subst hPI
        refine wpAny_pyIter_list hl1 (wpAny_bind (wpAny_runValue ?_))
        have ne1 : l ≠ (bare z.heap led).objs.size := by rw [size1]; exact Nat.ne_of_lt (Nat.lt_succ_of_lt lt)
        have notin : z.heap.objs.size ∉ [(bare z.heap led).objs.size, l] := by
          rw [size1, List.mem_cons, List.mem_singleton, not_or]
          exact ⟨Nat.ne_of_lt (Nat.lt_succ_self _), Nat.ne_of_gt lt⟩
        refine fillG (knd := knd) ((Walks.list free3 _ l ne1 its).toS) notin hv hn _ (i := 0) rfl (Nat.zero_le _) ⟨⟨_, Heap.get?_push_size _ rfl, rfl, rfl⟩, hl1.push _⟩ ?start ?stop
        case start => exact new0 _ (Heap.get?_push_of_some _ at0)
        case stop =>
          rintro ⟨g, gs, dr, tk, os⟩ mv hs
          obtain rfl : gs = z.gens := mv.gens
          obtain rfl : dr = z.drawn := mv.drawn
          obtain rfl : os = z.os := mv.os
          refine wpAny_pure (wpAny_pure ⟨rfl, g, tk, rfl, hs, fun b o hb e => mv.heap b o ?_ (Heap.get?_push_of_some _ (Heap.get?_push_of_some _ e))⟩)
          rw [size1, List.mem_cons, List.mem_singleton, not_or]
          exact ⟨Nat.ne_of_lt hb, Nat.ne_of_lt (Nat.lt_succ_of_lt hb)⟩
      · obtain ⟨⟨ocls, odict, odata, oslots⟩, hol, hcl, nl, hdl⟩ := hl
        simp only at hcl hdl
        subst hcl hdl
        have hol' : (bare z.heap led).get? l = some { cls := .type "tuple", dict := odict, data := .seq its nl, slots := oslots } := Heap.get?_push_of_some _ hol
        have n1 := PySem.F.sub_tuple_set
        have n2 := PySem.F.sub_tuple_frozenset
        have n3 : (Value.type "tuple" == Value.type "dict") = false := by decide
        have hl1 : (bare z.heap led).IsTuple l its := ⟨_, hol', rfl, nl, rfl⟩
        have lt : l < z.heap.objs.size := Heap.lt_size hol
        unfold Builtin.«set.__init__» noKeywords Builtin.Frozenset.updateFrom
        generalize hPI : pyIter = PI
        wp_walk
        subst hPI
        refine wpAny_pyIter_tuple hl1 (wpAny_bind (wpAny_runValue ?_))
        have ne1 : l ≠ (bare z.heap led).objs.size := by rw [size1]; exact Nat.ne_of_lt (Nat.lt_succ_of_lt lt)
        have notin : z.heap.objs.size ∉ [(bare z.heap led).objs.size, l] := by
          rw [size1, List.mem_cons, List.mem_singleton, not_or]
          exact ⟨Nat.ne_of_lt (Nat.lt_succ_self _), Nat.ne_of_gt lt⟩
        refine fillG (knd := knd) ((Walks.tuple free3 _ l ne1 its).toS) notin hv hn _ (i := 0) rfl (Nat.zero_le _) ⟨⟨_, Heap.get?_push_size _ rfl, rfl, rfl⟩, (let ⟨o, ho, r⟩ := hl1; ⟨o, Heap.get?_push_of_some _ ho, r⟩)⟩ ?start ?stop
        case start => exact new0 _ (Heap.get?_push_of_some _ at0)
        case stop =>
          rintro ⟨g, gs, dr, tk, os⟩ mv hs
          obtain rfl : gs = z.gens := mv.gens
          obtain rfl : dr = z.drawn := mv.drawn
          obtain rfl : os = z.os := mv.os
          refine wpAny_pure (wpAny_pure ⟨rfl, g, tk, rfl, hs, fun b o hb e => mv.heap b o ?_ (Heap.get?_push_of_some _ (Heap.get?_push_of_some _ e))⟩)
          rw [size1, List.mem_cons, List.mem_singleton, not_or]
          exact ⟨Nat.ne_of_lt hb, Nat.ne_of_lt (Nat.lt_succ_of_lt hb)⟩
    · match r2, hr2 with
      | .error e, hr2 => exact hr2
      | .ok (.ret v), ⟨e1, g, tk, e2, hs, keep⟩ =>
        subst e1 e2
        repeat (any_goals (first | assumption | wp_step))
        exact q _ _ hs keep
end
end DP.Sets
set_option maxRecDepth 100000
/-! DpSet3: sorted(set(x)). -/
namespace DP.Sets
open PySem PySem.Spec PyProof.Rows L2
section
variable {P : Program} {w : World} {A : Around} {E : Value → Shared → Prop} {s : Shared} {a : Addr} {κ : Type} [DecidableEq κ] [BEq κ] [LawfulBEq κ] [Inhabited κ] {knd : KeyKind P w κ}
theorem eachK {R : Value → κ → Prop} : ∀ (vs : List Value), (∀ v ∈ vs, R v (keyK knd v)) → PySem.W.EachIs R vs (vs.map (keyK knd))
  | [], _ => .nil
  | v :: vs, h => .cons (h v List.mem_cons_self) (eachK vs fun u hu => h u (List.mem_cons_of_mem _ hu))
theorem alike_perm {xs ys : List PyData} (h : ∀ d ∈ ys, d ∈ xs) (hal : PySem.W.AllAlike xs) : PySem.W.AllAlike ys := fun d hd d' hd' => hal d (h d hd) d' (h d' hd')
theorem sortable_perm {xs ys : List PyData} (h : ∀ d ∈ ys, d ∈ xs) (hk : PySem.W.Sortable xs) : PySem.W.Sortable ys := hk.imp (fun q d hd => q d (h d hd)) fun q d hd => q d (h d hd)
theorem sortedG {ks : List κ} {enc : κ → PyData} {Q : Value → Shared → Prop} (R : SetG knd s.heap a ks) (hh : A.handled = none) (he : ∀ (k : κ) (v : Value) (h : Heap), knd.is k v = true → v.scannable = true → ∃ as, Reads h v (enc k) as ∧ as = [])
    (hal : PySem.W.AllAlike (ks.map enc)) (hso : PySem.W.Sortable (ks.map enc)) (hL : ks.length ≤ sizeLine) (hu : ∀ k ∈ ks, A.units + 2 + (enc k).depth < cLine)
    (hQ : ∀ s' p (out : Array Value) (c : Nat) (ys : List κ), (∀ b o, s.heap.get? b = some o → s'.heap.get? b = some o) → s'.gens = s.gens → s'.os = s.os → s.heap.objs.size ≤ p →
      s'.heap.get? p = some (seqObj "list" out c) → ys.Perm ks → PySem.W.EachIs (fun v k => knd.is k v = true) out.toList (ys.mergeSort (PySem.W.dataLe false enc)) → Q (.ref p) s') :
    wpAny (model P w) A (call (.builtin "sorted") [.ref a]) Q E s := by
  obtain ⟨o, es, ep, t, ho, hex, hd, g, hp, hnd, hb, hf, hr, hl⟩ := R
  refine Calls.call_function_entry kind_sorted plain_sorted entry_sorted (args_sorted1 _) ?_
  unfold Builtin.«sorted»
  refine wpAny_bind (m := checkCount "sorted" 1 1 _) (wpAny_pure ?_)
  refine wpAny_bind (collect_set (A := A.in1) hh ⟨o, ho, hex.1, hd⟩ hf hb hr hl fun s1 vs k1 hz g1 o1 pm => ?_)
  have gv : ∀ v ∈ vs, ∃ k, knd.is k v = true ∧ v.scannable = true := fun v hv => by
    obtain ⟨e, he, q⟩ := List.mem_map.mp (pm.mem_iff.mp hv)
    obtain ⟨k, h1, h2, _⟩ := g e he
    subst q
    exact ⟨k, h1, h2⟩
  have pk : (vs.map (keyK knd)).Perm ks := by
    refine (pm.map (keyK knd)).trans ?_
    rw [List.map_map]
    exact hp
  have hvl : vs.length = ks.length := by rw [← List.length_map (f := keyK knd) (as := vs), pk.length_eq]
  have mem : ∀ k ∈ vs.map (keyK knd), k ∈ ks := fun k hk => pk.mem_iff.mp hk
  have memE : ∀ d ∈ (vs.map (keyK knd)).map enc, d ∈ ks.map enc := fun d hd => by
    obtain ⟨k, hk, rfl⟩ := List.mem_map.mp hd
    exact List.mem_map.mpr ⟨k, mem k hk, rfl⟩
  refine wpAny_bind (wpAny_newList ?_ (by rw [hvl]; exact hL))
  have hoL : (s1.heap.push (seqObj "list" vs.toArray 0)).get? s1.heap.objs.size = some (seqObj "list" vs.toArray 0) := Heap.get?_push_size _ rfl
  have e1 : PySem.W.EachIs (fun v k => knd.is k v = true) vs (vs.map (keyK knd)) := eachK vs fun v hv => by
    obtain ⟨k, h1, _⟩ := gv v hv
    rw [keyK_is knd h1]; exact h1
  have e2 : PySem.W.EachIs (fun v k => ∃ as, Reads (s1.heap.push (seqObj "list" vs.toArray 0)) v (enc k) as ∧ s1.heap.objs.size ∉ as) vs (vs.map (keyK knd)) := eachK vs fun v hv => by
    obtain ⟨k, h1, h2⟩ := gv v hv
    rw [keyK_is knd h1]
    obtain ⟨as, r, z⟩ := he k v (s1.heap.push (seqObj "list" vs.toArray 0)) h1 h2
    exact ⟨as, r, by rw [z]; simp⟩
  refine wpAny_bind (wpAny_holding (PySem.W.list_sort_data (A := A.in1) (s := { s1 with heap := s1.heap.push (seqObj "list" vs.toArray 0) }) (enc := enc) hoL e1 e2 (alike_perm memE hal) (sortable_perm memE hso) (by rw [List.length_map, hvl]; exact hL) (fun k hk => by
    have := hu k (mem k hk)
    show A.units + 1 + 1 + (enc k).depth < cLine
    omega) fun out ho' eo => ?_))
  obtain ⟨c, hc⟩ := sortedHeap_at (vs := vs) (out := out.toArray) hoL
  refine wpAny_pure ⟨_, rfl, hQ _ s1.heap.objs.size out.toArray c (vs.map (keyK knd)) (fun b u e => ?_) g1 o1 hz hc pk (by simpa using eo)⟩
  have q := k1 b u e
  have hlt := Heap.lt_size q
  show (sortedHeap (s1.heap.push (seqObj "list" vs.toArray 0)) s1.heap.objs.size vs out.toArray).get? b = some u
  rw [sortedHeap_old (Nat.ne_of_lt hlt) (by rw [size_push']; exact Nat.lt_succ_of_lt hlt)]
  exact Heap.get?_push_of_some _ q
end
section
variable {κ : Type} [DecidableEq κ] [BEq κ] [LawfulBEq κ] [Inhabited κ]
theorem met_nd (val : Nat → κ) : ∀ n, (met val n).Nodup
  | 0 => by simp [met]
  | n + 1 => put1_nd (met_nd val n) _
theorem mem_put1 {l : List κ} {k x : κ} : x ∈ put1 l k ↔ x ∈ l ∨ x = k := by
  unfold put1
  split
  · rename_i h
    obtain ⟨y, hy, e⟩ := List.any_eq_true.mp h
    rw [beq_iff_eq] at e
    subst e
    exact ⟨.inl, fun z => z.elim id fun e => e ▸ hy⟩
  · rw [List.mem_append, List.mem_singleton]
theorem mem_met (val : Nat → κ) (x : κ) : ∀ n, x ∈ met val n ↔ ∃ i, i < n ∧ x = val i
  | 0 => by simp [met]
  | n + 1 => by
    show x ∈ put1 (met val n) (val n) ↔ _
    rw [mem_put1, mem_met val x n]
    constructor
    · rintro (⟨i, h, e⟩ | e)
      · exact ⟨i, by omega, e⟩
      · exact ⟨n, by omega, e⟩
    · rintro ⟨i, h, e⟩
      by_cases z : i = n
      · subst z; exact .inr e
      · exact .inl ⟨i, by omega, e⟩
end
section
variable {X : Cx}
theorem mix_of {k : Key} {u : Value} (r : RelV (kV k) u) : (L2.mixKind X.prog X.w).is k u = true ∧ u.scannable = true := ⟨kV_is r, key_scan r⟩
theorem vals_keys : ∀ {xs : List Key} {us : List Value}, Vals (xs.map kV) us → ∀ (i : Nat) (v : Value), us[i]? = some v → RelV (kV (xs.getD i (.inl 0))) v
  | [], us, h, i, v, e => by cases h; simp at e
  | x :: xs, _, h, i, v, e => by
    cases h with
    | cons r rr =>
      cases i with
      | zero => simp at e; subst e; exact r
      | succ i => exact vals_keys rr i v (by simpa using e)
theorem rel_mix {k : Key} {u : Value} (h : (L2.mixKind X.prog X.w).is k u = true) : RelV (kV k) u := by
  rcases keyIs_shape h with ⟨i, t, rfl, rfl⟩ | ⟨x, t, rfl, rfl⟩
  · exact ⟨t, rfl⟩
  · exact ⟨t, rfl⟩
end
end DP.Sets

set_option maxRecDepth 100000
set_option maxHeartbeats 1000000
/-! DpSnE: two targets at once; sorted(set(x)). -/
namespace DP
open PySem PySem.Spec PyProof.Rows L2
section
variable {X : Cx} {a b : Expr} {pos px py pt : Pos} {es : List Expr}
theorem s_two {w1 w2 : Gw} {j : Nat} (hc : X.calm = true) (h1 : PG X a (tDGt X.K w1)) (h2 : PG X b (tDGt X.K w2)) (hn1 : (assignEach [a, b] X.env).map (·.2) = assign a X.env :: (assignEach [b] X.env).map (·.2)) (hn2 : (assignEach [b] X.env).map (·.2) = assign b X.env :: (assignEach [] X.env).map (·.2))
    (hl : (assignEach [a, b] X.env).length = 2) (hst : (assignEach [a, b] X.env).findIdx? (·.1) = none) : PG X (.Tuple [a, b] j pos) (tDGt X.K fun d ρ S k => ∃ d1 d2, d = .tup [d1, d2] ∧ w1 d1 ρ S fun ρ1 S1 => w2 d2 ρ1 S1 k) :=
  (pg_tup (n := 2) hc (pgs_cons h1 (pgs_cons h2 pgs_nil hn2) hn1) hl hst).weak fun v σ H QV ⟨ρ, S, d, Q, re, hs, r, ⟨d1, d2, e, q⟩, po⟩ => by
    subst e
    simp only [RD] at r
    obtain ⟨l, vs, rfl, sq, rd⟩ := r
    simp only [RDs] at rd
    obtain ⟨v1, vr, rfl, r1, v2, vr2, rfl, r2, rfl⟩ := rd
    refine ⟨l, _, rfl, sq, rfl, v1, _, rfl, ρ, S, d1, _, re, hs, r1, q, fun σ1 H1 ρ1 S1 re1 hs1 k1 q1 => ⟨v2, _, rfl, ρ1, S1, d2, _, re1, hs1, RD.kp k1 hs d2 v2 r2, q1, fun σ2 H2 ρ2 S2 re2 hs2 k2 q2 => ⟨rfl, ?_⟩⟩⟩
    exact po σ2 H2 ρ2 S2 re2 hs2 (k1.trans k2) q2
theorem s_par {i j : Nat} {x y : Str} {wa : Env → Sto → (List D → Sto → Prop) → Prop} {kt k2 pt2} (hc : X.calm = true) (hN : X.N.Nodup) (hi : X.N[i]? = some x) (hj : X.N[j]? = some y) (hij : i ≠ j)
    (hx : X.env.scope.names.lookup x = some .local) (hy : X.env.scope.names.lookup y = some .local) (ha : PA X [a, b] (tDA X.K wa))
    (hw : swappedStores [.Tuple [.Name x px, .Name y py] kt pt] (.Tuple [a, b] k2 pt2) X.env = pure (some [x, y])) :
    PS X (.Assign [.Tuple [.Name x px, .Name y py] kt pt] (.Tuple [a, b] k2 pt2) pos) (tDS X.K fun ρ S nd => wa ρ S fun ds S1 => ∃ d e, ds = [d, e] ∧ nd.nx ((ρ.set i (some d)).set j (some e)) S1) :=
  (ps_par hc hN hi hj hij hx hy ha hw).weak fun Dn σ H ⟨ρ, S, nd, re, hs, h, nx, _⟩ => by
    refine ⟨ρ, S, _, re, hs, h, fun vs H1 ds S1 rd s1 k1 ⟨d, e, e1, q⟩ => ?_⟩
    subst e1
    simp only [RDs] at rd
    obtain ⟨v1, vr, rfl, r1, v2, vr2, rfl, r2, rfl⟩ := rd
    exact ⟨v1, v2, rfl, nx _ H1 _ S1 (((re.kp k1 hs).set r1).set r2) s1 k1 q⟩
end
/-! ### sorted(set(x)) -/
section
variable {K : PySem.W.Frag} {S : Sto} {H0 H : Hp}
theorem rd_key {k : Key} {v : V} : RD K H (keyD k) v ↔ v = kV k := by
  cases k <;> exact Iff.rfl
theorem rds_keys : ∀ {xs : List Key} {vs : List V}, RDs K H (xs.map keyD) vs ↔ vs = xs.map kV
  | [], vs => by simp only [List.map_nil, RDs]
  | x :: xs, vs => by
    simp only [List.map_cons, RDs]
    constructor
    · rintro ⟨v, r, rfl, h1, h2⟩
      rw [rd_key.mp h1, rds_keys.mp h2]
    · rintro rfl
      exact ⟨_, _, rfl, rd_key.mpr rfl, rds_keys.mpr rfl⟩
theorem encD_key (k : Key) : encD (keyD k) = keyP k := by cases k <;> rfl
theorem sortD_keys (ys : List Key) : sortD (ys.map keyD) = (ys.mergeSort (PySem.W.dataLe false keyP)).map keyD := by
  unfold sortD
  refine (List.map_mergeSort (f := keyD) (r := PySem.W.dataLe false keyP) (s := PySem.W.dataLe false encD) fun a _ b _ => ?_).symm
  cases a <;> cases b <;> rfl
end
section
variable {X : Cx} {a : Expr} {wa : Ev} {p p2 q pos : Pos}
local instance (priority := high) keyBEq : BEq Key := instBEqOfDecidableEq
local instance keyInh : Inhabited Key := ⟨.inl 0⟩
local instance (priority := high) keyLaw : LawfulBEq Key := inferInstanceAs (@LawfulBEq Key instBEqOfDecidableEq)
/-- sorted(set(x)), x a list or tuple of keys -/
def tSSet (K : PySem.W.Frag) (ta : TE) : TE := fun σ H Q => ta σ H fun x H1 => ∃ (l : Addr) (xs : List Key), x = V.ref l ∧ (SqL K H1 l (xs.map kV) ∨ SqT K H1 l (xs.map kV)) ∧ xs.length < 1000 ∧ PySem.W.AllAlike (xs.map keyP) ∧
  ∀ (ys : List Key) (p : Addr), ys.Nodup → (∀ k, k ∈ ys ↔ k ∈ xs) → H1 p = none → Q (.ref p) (upd H1 p (.lst ((ys.mergeSort (PySem.W.dataLe false keyP)).map kV)))
theorem vals_each {P : Program} {w : World} : ∀ {ys : List Key} {us : List Value}, PySem.W.EachIs (fun v k => (L2.mixKind P w).is k v = true) us ys → Vals (ys.map kV) us
  | _, _, .nil => .nil
  | _, _, .cons h t => .cons (by
      rcases keyIs_shape h with ⟨i, t, rfl, rfl⟩ | ⟨x, t, rfl, rfl⟩
      · exact ⟨t, rfl⟩
      · exact ⟨t, rfl⟩) (vals_each t)
theorem pe_sset (hc : X.calm = true) (hu : X.A.units + 65 < cLine) (hg : Gl X "sorted") (hm : X.mg "sorted" = none) (hg2 : Gl X "set") (hm2 : X.mg "set" = none) {ta : TE} (ha : PE X a ta)
    (na : starEach [a] X.env = (false, eval a X.env) :: starEach [] X.env) : PE X (.Call (.Name "sorted" p) [.Call (.Name "set" p2) [a] [] q] [] pos) (tSSet X.K ta) := by
  refine ⟨fun pins s σ H Q I h => Call_ (ld_blt I hg hm boot_sorted (callWith_builtin1 (args_cons (Call_ (ld_blt I hg2 hm2 boot_set (callWith_type1 (args_cons (thn (ha.run pins s σ H _ I h) fun v s1 hv => args_nil ?_) na) na rfl))) rfl) rfl rfl))⟩
  obtain ⟨x, H1, I1, r1, l, xs, rfl, hq, h1, hal, q1⟩ := hv
  cases r1
  have seq : ∃ its, Vals (xs.map kV) its ∧ (s1.heap.IsList l its.toArray ∨ s1.heap.IsTuple l its.toArray) := by
    rcases hq with hq | hq
    · obtain ⟨its, r, pl, hz⟩ := I1.list hq; exact ⟨its, r, .inl pl.isList⟩
    · obtain ⟨its, r, pl, hz⟩ := I1.tuple hq; exact ⟨its, r, .inr pl⟩
  obtain ⟨its, r, pl⟩ := seq
  have hsz : its.toArray.size = xs.length := by rw [List.size_toArray, ← r.length, List.length_map]
  have hbound : ∀ n, ∀ k ∈ met (fun i => xs.getD i (.inl 0)) n, n ≤ xs.length → k ∈ xs := fun n k hk hn => by
    obtain ⟨i, hi, e⟩ := (Sets.mem_met _ k n).mp hk
    subst e
    have : i < xs.length := by omega
    rw [List.getD_eq_getElem?_getD, List.getElem?_eq_getElem this]
    exact List.getElem_mem this
  have hmem : ∀ k, k ∈ met (fun i => xs.getD i (.inl 0)) xs.length ↔ k ∈ xs := fun k => ⟨fun hk => hbound _ k hk (Nat.le_refl _), fun hk => by
    obtain ⟨i, hi, e⟩ := List.getElem_of_mem hk
    refine (Sets.mem_met _ k _).mpr ⟨i, hi, ?_⟩
    rw [List.getD_eq_getElem?_getD, List.getElem?_eq_getElem hi]
    exact e.symm⟩
  refine Sets.setG_of (knd := L2.mixKind X.prog X.w) (val := fun i => xs.getD i (.inl 0)) (I1.ok.hd hc) pl (fun i v e => Sets.mix_of (Sets.vals_keys r i v (by simpa using e))) (by rw [hsz]; unfold scanBound; omega) fun g tk hS keep => args_nil ?_
  rw [hsz] at hS
  have I2 : Inv X pins σ H1 { s1 with heap := g, toks := tk } := I1.kept fun b o e => keep b o (Heap.lt_size e) e
  have hml := Sets.met_le (fun i => xs.getD i (Sum.inl 0 : Key)) xs.length
  have hin : ∀ d ∈ (met (fun i => xs.getD i (Sum.inl 0 : Key)) xs.length).map keyP, d ∈ xs.map keyP := fun d hd => by
    obtain ⟨k, hk, rfl⟩ := List.mem_map.mp hd
    exact List.mem_map.mpr ⟨k, (hmem k).mp hk, rfl⟩
  have hS2 : Sets.SetG (L2.mixKind X.prog X.w) ({ s1 with heap := g, toks := tk } : Shared).heap s1.heap.objs.size (met (fun i => xs.getD i (Sum.inl 0 : Key)) xs.length) := hS
  generalize ({ s1 with heap := g, toks := tk } : Shared) = s2 at I2 hS2 ⊢
  refine Sets.sortedG (s := s2) (enc := keyP) hS2 (I1.ok.hd hc) (fun k v h hk hsc => ?_) (Sets.alike_perm hin hal) (.inr fun d hd => ?_) (by rw [sizeLine_eq]; omega) (fun k hk => ?_) fun s' pp out c ys k g1 o1 hp hc' pm ee => ?_
  · rcases keyIs_shape hk with ⟨i, t, rfl, rfl⟩ | ⟨x, t, rfl, rfl⟩
    · exact ⟨_, .int i t, rfl⟩
    · exact ⟨_, .str x t, rfl⟩
  · obtain ⟨k, _, rfl⟩ := List.mem_map.mp hd
    cases k <;> exact ⟨(fun z => nomatch z), fun _ z => nomatch z⟩
  · have : (keyP k).depth ≤ 1 := by cases k <;> simp [keyP, PyData.depth]
    omega
  · have hn : H1 pp = none := I2.hok.fresh hp
    have hlen : ((ys.mergeSort (PySem.W.dataLe false keyP)).map kV).length ≤ sizeLine := by
      rw [List.length_map, List.length_mergeSort, pm.length_eq, sizeLine_eq]; omega
    have J : Inv X pins σ (upd H1 pp (.lst ((ys.mergeSort (PySem.W.dataLe false keyP)).map kV))) { s2 with heap := s'.heap, gens := s'.gens, drawn := s'.drawn, toks := s'.toks } :=
      I2.call (ch := []) (Un.laid k hp hn) (I2.hok.laid k hp ⟨hlen, out.toList, c, vals_each ee, hc'⟩) (by rw [g1]; exact I2.bare) (fun _ z => nomatch z)
    have e : s' = { s2 with heap := s'.heap, gens := s'.gens, drawn := s'.drawn, toks := s'.toks } := by
      cases s'
      cases s2
      cases o1
      rfl
    rw [e]
    exact ⟨.ref pp, _, J, rfl, q1 ys pp (pm.nodup_iff.mpr (Sets.met_nd _ _)) (fun k => pm.mem_iff.trans (hmem k)) hn⟩
theorem s_sset (hc : X.calm = true) (hu : X.A.units + 65 < cLine) (hg : Gl X "sorted") (hm : X.mg "sorted" = none) (hg2 : Gl X "set") (hm2 : X.mg "set" = none) (ha : PE X a (tD X.K wa)) (na : starEach [a] X.env = (false, eval a X.env) :: starEach [] X.env) :
    PE X (.Call (.Name "sorted" p) [.Call (.Name "set" p2) [a] [] q] [] pos) (tD X.K fun ρ S Q => wa ρ S fun r S1 => ∃ xs : List Key, seqOf S1 r = some (xs.map keyD) ∧ xs.length < 1000 ∧ PySem.W.AllAlike (xs.map keyP) ∧ ∀ ys : List Key, ys.Nodup → (∀ k, k ∈ ys ↔ k ∈ xs) → Q (.n (.lst (sortD (ys.map keyD)))) S1) :=
  (pe_sset hc hu hg hm hg2 hm2 ha na).weak fun σ H QV ⟨ρ, S, Q, re, hs, h, po⟩ => tD1 re hs h fun r v H1 S1 r1 s1 k1 re1 ⟨xs, e, hl, hal, q⟩ => by
    obtain ⟨l, vs, rfl, sq, rd⟩ := seqOf_sq s1 r1 e
    rw [rds_keys.mp rd] at sq
    refine ⟨l, xs, rfl, sq, hl, hal, fun ys pp hnd hm hp => po.lst k1 s1 hp (rds_keys.mpr rfl) (by rw [← sortD_keys]; exact q ys hnd hm)⟩
end
/-! ### beside the empty list, the empty tuple -/
section
variable {X : Cx}
def rEmp (K : PySem.W.Frag) (neg : Bool) : R2 := fun x y H Q => ∃ a b vs, x = .ref a ∧ y = .ref b ∧ ((SqL K H a vs ∧ SqL K H b []) ∨ (SqT K H a vs ∧ SqT K H b [])) ∧ Q (.bl (negB neg vs.isEmpty)) H
theorem emp_core {pins : List (Addr × Obj)} {s : Shared} {σ : L2.St} {H : Hp} {a b : Addr} {vs : List V} (I : Inv X pins σ H s) (h : (SqL X.K H a vs ∧ SqL X.K H b []) ∨ (SqT X.K H a vs ∧ SqT X.K H b [])) :
    ∃ its : List Value, its.isEmpty = vs.isEmpty ∧ ((s.heap.IsList a its.toArray ∧ s.heap.IsList b #[]) ∨ (s.heap.IsTuple a its.toArray ∧ s.heap.IsTuple b #[])) := by
  have em : ∀ {vs : List V} {its : List Value}, Vals vs its → its.isEmpty = vs.isEmpty := fun {vs its} r => by cases r <;> rfl
  rcases h with ⟨h1, h2⟩ | ⟨h1, h2⟩
  · obtain ⟨its, r, l, _⟩ := I.list h1
    obtain ⟨its2, r2, l2, _⟩ := I.list h2
    cases r2
    exact ⟨its, em r, .inl ⟨l.isList, l2.isList⟩⟩
  · obtain ⟨its, r, l, _⟩ := I.tuple h1
    obtain ⟨its2, r2, l2, _⟩ := I.tuple h2
    cases r2
    exact ⟨its, em r, .inr ⟨l, l2⟩⟩
theorem op_eqEmp (hu : X.A.units + 65 < cLine) : OpR X (compareOp .Eq) (rEmp X.K false) := by
  intro pins s σ H x y v u Q I rx ry h
  obtain ⟨a, b, vs, rfl, rfl, hq, q⟩ := h
  cases rx
  cases ry
  obtain ⟨its, e, hl⟩ := emp_core I hq
  have q' : Q (.bl its.isEmpty) H := by rw [e]; exact q
  have hu1 : X.A.units < cLine := by omega
  rcases hl with ⟨l1, l2⟩ | ⟨l1, l2⟩
  · cases its with
    | nil => exact SeqAt.eq_listAt (e := fun _ => true) l1 l2 rfl hu1 (fun j h1 _ => absurd h1 (Nat.not_lt_zero _)) ⟨.bl true, H, I, rfl, q'⟩
    | cons z zs => exact SeqAt.eq_list_lengthsAt l1 l2 (by simp) hu1 ⟨.bl false, H, I, rfl, q'⟩
  · cases its with
    | nil => exact SeqAt.eq_tupleAt (e := fun _ => true) l1 l2 hu1 (fun j h1 _ => absurd h1 (Nat.not_lt_zero _)) ⟨.bl true, H, I, rfl, q'⟩
    | cons z zs => exact SeqAt.eq_tupleAt (e := fun _ => true) l1 l2 hu1 (fun j _ h1 => absurd h1 (Nat.not_lt_zero _)) (by simp; exact ⟨.bl false, H, I, rfl, q'⟩)
theorem op_neEmp (hu : X.A.units + 65 < cLine) : OpR X (compareOp .NotEq) (rEmp X.K true) := by
  intro pins s σ H x y v u Q I rx ry h
  obtain ⟨a, b, vs, rfl, rfl, hq, q⟩ := h
  cases rx
  cases ry
  obtain ⟨its, e, hl⟩ := emp_core I hq
  have q' : Q (.bl (!its.isEmpty)) H := by rw [e]; exact q
  have hu1 : X.A.units < cLine := by omega
  rcases hl with ⟨l1, l2⟩ | ⟨l1, l2⟩
  · cases its with
    | nil => exact SeqAt.RcNeAt.lists (e := fun _ => true) l1 l2 rfl hu1 (fun j h1 _ => absurd h1 (Nat.not_lt_zero _)) _ _ _ _ ⟨.bl false, H, I, rfl, q'⟩
    | cons z zs => exact SeqAt.RcNeAt.lists_lengths l1 l2 (by simp) hu1 _ _ _ _ ⟨.bl true, H, I, rfl, q'⟩
  · cases its with
    | nil => exact SeqAt.RcNeAt.tuples (e := fun _ => true) l1 l2 hu1 (fun j h1 _ => absurd h1 (Nat.not_lt_zero _)) _ _ _ _ ⟨.bl false, H, I, rfl, q'⟩
    | cons z zs => exact SeqAt.RcNeAt.tuples (e := fun _ => true) l1 l2 hu1 (fun j _ h1 => absurd h1 (Nat.not_lt_zero _)) _ _ _ _ (by simp; exact ⟨.bl true, H, I, rfl, q'⟩)
/-- what it is by values -/
def empK (neg tp : Bool) (x y : R) (S : Sto) (Q : PR) : Prop := match tp, y with
  | true, .v (.tup []) => empW true x S fun b => Q (.v (.bl (negB neg b))) S
  | false, .n (.lst []) => empW false x S fun b => Q (.v (.bl (negB neg b))) S
  | _, _ => False
theorem l_emp {neg tp : Bool} {x y : R} {v u : V} {S0 S : Sto} {H0 H : Hp} {Q : PR} {QV : VK} (r1 : RR X.K H0 H S x v) (r2 : RR X.K H0 H S y u) (hs : RS X.K H S) (k : Kp S0 H0 S H) (h : empK neg tp x y S Q) (po : Post X.K S0 H0 Q QV) : rEmp X.K neg v u H QV := by
  unfold empK at h
  split at h
  · obtain ⟨xs, e, q⟩ := h
    subst e
    have r1 : RD X.K H (.tup xs) v := r1
    have r2 : RD X.K H (.tup []) u := r2
    simp only [RD] at r1 r2
    obtain ⟨a, vs, rfl, sq, rd⟩ := r1
    obtain ⟨b, ws, rfl, sq2, rd2⟩ := r2
    simp only [RDs] at rd2
    subst rd2
    refine ⟨a, b, vs, rfl, rfl, .inr ⟨sq, sq2⟩, ?_⟩
    have e : vs.isEmpty = xs.isEmpty := by
      have := rd.length
      cases xs <;> cases vs <;> first | rfl | simp at this
    rw [e]
    exact po.dat k hs rd_bl q
  · obtain ⟨xs, e, q⟩ := h
    obtain ⟨a, vs, rfl, sq, rd⟩ := lstOf_sq hs r1 e
    obtain ⟨b, rfl, _, _, ws, eb, rd2⟩ := r2
    simp only [RDs] at rd2
    subst rd2
    refine ⟨a, b, vs, rfl, rfl, .inl ⟨sq, .inl (.inl eb)⟩, ?_⟩
    have e : vs.isEmpty = xs.isEmpty := by
      have := rd.length
      cases xs <;> cases vs <;> first | rfl | simp at this
    rw [e]
    exact po.dat k hs rd_bl q
  · exact h.elim
end
end DP

set_option maxRecDepth 100000
set_option maxHeartbeats 1000000
/-! DpKey: sorted(xs, key=f), f a def of the text whose keys are texts. -/
namespace DP.Key
open PySem PySem.Spec PyProof.Rows L2 PySem.W
section
variable {X : Cx} {k : Nat} {f : Addr} {fd : FuncData} {ps : List Str} {sp : Sp} {pins : List (Addr × Obj)} {σ : L2.St} {H : Hp} {s : Shared}
/-- xs by their keys ys -/
def sortedBy (xs : List V) (ys : List Str) : List V := ((xs.zip ys).mergeSort (dataLe false fun p => PyData.str p.2)).map fun p => p.1
/-- the keys of xs, told one by one -/
def chain (sp : Sp) : List V → List Str → Hp → (Hp → Prop) → Prop
  | [], [], H, Q => Q H
  | x :: xs, y :: ys, H, Q => sp [x] H (fun v H' => v = .str y ∧ chain sp xs ys H' Q) E0
  | _, _, _, _ => False
/-- f(v), called from within a built-in's own call -/
theorem deep_call {Q : VK} {u : Value} {x : V} (F : FnG X.prog X.w X.K X.mg X.base CX0 k f fd ps sp) (hg : X.A.guards = some []) (hr : Room k X.A.in1.in1) (hb : Binds X.K fd ps []) (I : Inv X pins σ H s) (r : RelV x u) (h : sp [x] H Q E0) :
    wpAny (model X.prog X.w) X.A.in1.in1 (call (.ref f) [u]) (EP X pins σ Q) (fun _ _ => False) s := by
  have bt := hb s [u] I.kIn (by rw [List.append_nil]; exact F.many _ _ _ _ h)
  rw [List.append_nil] at bt
  refine wpAny_call (codeAny_mono (F.go X.A.in1.in1 X.stack s H ⟨[u], []⟩ [u] [x] Q E0 hg hr I.env0.in1.in1 bt (.cons r .nil) h) fun res s' hq => ?_)
  match res, hq with
  | .ok (.ret u), hq => exact I.after hq
  | .ok .next, hq => exact hq.elim
  | .ok .brk, hq => exact hq.elim
  | .ok .cont, hq => exact hq.elim
  | .error e, hq => exact hq.elim
/-- an untracked object is written anew -/
theorem repin {a : Addr} {o o' : Obj} {t : Nat} {g : Heap} (I : Inv X ((a, o) :: pins) σ H s) (fp : ∀ G : Hp, G a = none → FpOk X pins G a) (sb : Heap.SameBut a s.heap g) (e : g.get? a = some o') (hd : ∀ v, o'.data ≠ .cell v) :
    Inv X ((a, o') :: pins) σ H { s with heap := g, toks := t } := by
  have z := I.pin (a, o) (List.mem_append_right _ List.mem_cons_self)
  obtain ⟨f0, f1, f2, f3, f4, f5⟩ := fp H z.2.1
  have I1 : Inv X pins σ H s := I.pins_of fun p hp => I.pin p (List.mem_append_right _ (List.mem_cons_of_mem _ hp))
  have I2 : Inv X pins σ H { s with heap := g, toks := t } := I1.turned (t' := t) (fun b u hb q => (sb.2 b hb).trans q) f0 f1 f3 f4 f5
  refine I2.pins_of fun p hp => ?_
  rcases List.mem_cons.mp hp with rfl | hp
  · exact ⟨e, f0, f1, f2, hd⟩
  · exact I2.pin p (List.mem_append_right _ hp)
/-- all that stands beside three places and the base -/
def beside (B h : Heap) (L a b : Addr) : List (Addr × Obj) := (List.range h.objs.size).filterMap fun c => match h.get? c with
  | some o => if c ≠ L ∧ c ≠ a ∧ c ≠ b ∧ B.get? c = none then some (c, o) else none
  | none => none
theorem beside_of {B h : Heap} {L a b : Addr} {p : Addr × Obj} (hp : p ∈ beside B h L a b) : h.get? p.1 = some p.2 ∧ p.1 ≠ L ∧ p.1 ≠ a ∧ p.1 ≠ b ∧ B.get? p.1 = none := by
  unfold beside at hp
  obtain ⟨c, _, e⟩ := List.mem_filterMap.mp hp
  cases q : h.get? c with
  | none => rw [q] at e; cases e
  | some o =>
    rw [q] at e
    by_cases z : c ≠ L ∧ c ≠ a ∧ c ≠ b ∧ B.get? c = none
    · have e : some (c, o) = some p := by rw [← e]; exact (if_pos z).symm
      cases e
      exact ⟨q, z⟩
    · have e : none = some p := by rw [← e]; exact (if_neg z).symm
      cases e
theorem mem_beside {B h : Heap} {L a b c : Addr} {o : Obj} (e : h.get? c = some o) (h1 : c ≠ L) (h2 : c ≠ a) (h3 : c ≠ b) (h4 : B.get? c = none) : (c, o) ∈ beside B h L a b := by
  unfold beside
  refine List.mem_filterMap.mpr ⟨c, List.mem_range.mpr (Heap.lt_size e), ?_⟩
  rw [e]
  exact if_pos ⟨h1, h2, h3, h4⟩
theorem each_get {xs : List V} {ys : List Str} {us : List Value} (r : Vals xs us) (h : ys.length = xs.length) : EachIs (fun u p => RelV p.1 u) us (xs.zip ys) := by
  induction r generalizing ys with
  | nil => simpa using EachIs.nil
  | cons a t ih =>
    cases ys with
    | nil => simp at h
    | cons y ys => exact .cons a (ih (by simpa using h))
theorem vals_each {us : List Value} {bs : List (V × Str)} (h : EachIs (fun u p => RelV p.1 u) us bs) : Vals (bs.map (·.1)) us := by
  induction h with
  | nil => exact .nil
  | cons a t ih => exact .cons a ih
set_option maxHeartbeats 4000000 in
theorem sort_key {l : Addr} {xs : List V} {ys : List Str} {Q : VK} (F : FnG X.prog X.w X.K X.mg X.base CX0 k f fd ps sp) (hg : X.A.guards = some []) (hr : Room k X.A.in1.in1) (hb : Binds X.K fd ps []) (hu : X.A.units + 65 < cLine) (I : Inv X pins σ H s)
    (hq : SqL X.K H l xs) (hlen : ys.length = xs.length)
    (h : chain sp xs ys H fun H' => ∀ p, H' p = none → Q (.ref p) (upd H' p (.lst (sortedBy xs ys)))) :
    wpAny (model X.prog X.w) X.A (call (.builtin "sorted") [.ref l] [(Str.ofString "key", .ref f)]) (EP X pins σ Q) X.xe s := by
  obtain ⟨its, rv, pl, hz⟩ := I.list hq
  have hl := rv.length
  have hZ : its.length ≤ sizeLine := by omega
  refine sorted_of_sort pl.isList hZ (ksk_s1 _ _) (fun _ => ksk_l1 _ _) fun E' => ?_
  rw [ksk_t1]
  unfold ksk_tree
  have hc0 := copyHeap_at s.heap its
  generalize hD : s.heap.objs.size + 1 = D at hc0 ⊢
  have sb1 := Heap.SameBut.update (copyHeap s.heap its) D (Obj.mapSeq fun _ => (#[] : Array Value))
  obtain ⟨e1, ho1⟩ : ∃ e1, ((copyHeap s.heap its).update D (Obj.mapSeq fun _ => (#[] : Array Value))).get? D = some (seqObj "list" #[] e1) := ⟨_, get?_update_seq hc0 fun _ => #[]⟩
  have hsize : D < ((copyHeap s.heap its).update D (Obj.mapSeq fun _ => (#[] : Array Value))).objs.size := Heap.lt_size ho1
  refine wpAny_bind (listItems_at hc0 rfl ?_)
  refine wpAny_bind (listUpdate_at hc0 rfl ?_ (by rw [List.size_toArray]; exact hZ) (Nat.zero_le _))
  refine wpAny_bind (seqEpoch_at ho1 rfl ?_)
  refine wpAny_bind (wpAny_newTuple ?_ hZ)
  refine wpAny_bind (wpAny_newList ?_ (Nat.zero_le _))
  refine wpAny_holding ?_
  generalize hk1 : ((copyHeap s.heap its).update D (Obj.mapSeq fun _ => (#[] : Array Value))).push { cls := .type "tuple", data := .seq its.toArray } = g1
  have hg1 : ∀ b o, s.heap.get? b = some o → g1.get? b = some o := fun b o e => by
    subst hk1
    refine Heap.get?_push_of_some _ ((sb1.2 b fun z => ?_).trans (copyHeap_old e))
    have z1 := Heap.lt_size e
    rw [z, ← hD] at z1
    exact absurd z1 (Nat.not_lt.mpr (Nat.le_succ _))
  have hgD : g1.get? D = some (seqObj "list" #[] e1) := by
    subst hk1
    exact Heap.get?_push_of_some _ ho1
  have hs1 : s.heap.objs.size ≤ g1.objs.size := by
    subst hk1
    rw [size_push']
    omega
  have hDs : s.heap.objs.size ≤ D := by omega
  have hkD : g1.objs.size ≠ D := Nat.ne_of_gt (Heap.lt_size hgD)
  have fpk : ∀ G : Hp, G g1.objs.size = none → FpOk X pins G g1.objs.size := fun G hn => I.fpOk hs1 hn
  have fpd : ∀ G : Hp, G D = none → FpOk X pins G D := fun G hn => I.fpOk hDs hn
  have nL : D ≠ X.env.locals ∧ D ∉ X.fs := let z := fpd H (I.hok.fresh hDs); ⟨z.2.1, z.2.2.1⟩
  have I0 : Inv X ((g1.objs.size, seqObj "list" #[] 0) :: (D, seqObj "list" #[] e1) :: pins) σ H { s with heap := g1.push (seqObj "list" #[] 0) } := by
    have Ik : Inv X pins σ H { s with heap := g1.push (seqObj "list" #[] 0) } := I.kept (t' := s.toks) fun b u e => Heap.get?_push_of_some _ (hg1 b u e)
    refine Ik.pins_of fun p hp => ?_
    rcases List.mem_cons.mp hp with rfl | hp
    · have z := fpk H (I.hok.fresh hs1)
      exact ⟨Heap.get?_push_size _ rfl, z.1, z.2.1, z.2.2.1, fun v e => by cases e⟩
    · rcases List.mem_cons.mp hp with rfl | hp
      · exact ⟨Heap.get?_push_of_some _ hgD, I.hok.fresh hDs, nL.1, nL.2, fun v e => by cases e⟩
      · exact Ik.pin p (List.mem_append_right _ hp)
  have fpk2 : ∀ G : Hp, G g1.objs.size = none → FpOk X ((D, seqObj "list" #[] e1) :: pins) G g1.objs.size := fun G hn => by
    obtain ⟨f0, f1, f2, f3, f4, f5⟩ := fpk G hn
    refine ⟨f0, f1, f2, f3, f4, fun p hp => ?_⟩
    rcases List.mem_append.mp hp with hp | hp
    · exact f5 p (List.mem_append_left _ hp)
    · rcases List.mem_cons.mp hp with rfl | hp
      · exact fun z => hkD z.symm
      · exact f5 p (List.mem_append_right _ hp)
  generalize hkS : g1.objs.size = kS at *
  unfold ksk_rest
  refine wpAny_bind (wpAny_rule ?_)
  first
    | rw [List.forIn_toArray]
    | (rw [← Array.forIn_toList]; simp only [List.toList_toArray])
    | rw [← Array.forIn_toList]
  refine wpAny_bind (ksk_fold (fun i s' => ∃ H2 kA e, Inv X ((kS, seqObj "list" kA e) :: (D, seqObj "list" #[] e1) :: pins) σ H2 s' ∧ EachIs (fun v (y : Str) => ∃ t, v = Value.str y t) kA.toList (ys.take i) ∧
      chain sp (xs.drop i) (ys.drop i) H2 fun H' => ∀ p, H' p = none → Q (.ref p) (upd H' p (.lst (sortedBy xs ys)))) its 0 _
    ⟨H, #[], 0, I0, by rw [List.take_zero]; exact EachIs.nil, h⟩ ?step ?done)
  case step =>
    rintro j x s' hx ⟨H2, kA, e, I2, hk, hch⟩
    simp only [Nat.zero_add] at hk hch ⊢
    have hj : j < its.length := (List.getElem?_eq_some_iff.mp hx).1
    have hjx : j < xs.length := by omega
    have hjy : j < ys.length := by omega
    obtain ⟨u, hu1, ru⟩ := rv.get (List.getElem?_eq_getElem hjx)
    have eu : u = x := Option.some.inj (hu1.symm.trans hx)
    subst eu
    rw [List.drop_eq_getElem_cons hjx, List.drop_eq_getElem_cons hjy] at hch
    have hz2 : kA.size = j := by
      have h1 := hk.length
      rw [Array.length_toList, List.length_take] at h1
      omega
    refine wpAny_bind (wpAny_attempt (wpAny_mono (deep_call F hg hr hb I2 ru hch) (fun v s2 hv => ?_) fun _ _ hF => hF.elim))
    obtain ⟨yv, H3, I3, r3, rfl, hch3⟩ := hv
    obtain ⟨t, rfl⟩ := r3
    try dsimp only
    have nk := I3.pin (kS, seqObj "list" kA e) (List.mem_append_right _ List.mem_cons_self)
    have sb := Heap.SameBut.update s2.heap kS (Obj.mapSeq (·.push (Value.str ys[j] t)))
    obtain ⟨c2, hc2⟩ : ∃ c2, (s2.heap.update kS (Obj.mapSeq (·.push (Value.str ys[j] t)))).get? kS = some (seqObj "list" (kA.push (.str ys[j] t)) c2) := ⟨_, get?_update_seq nk.1 (·.push (Value.str ys[j] t))⟩
    refine wpAny_bind (listUpdate_at nk.1 rfl ?_ (by omega) (by rw [Array.size_push]; omega))
    refine wpAny_pure ⟨rfl, H3, kA.push (.str ys[j] t), c2, repin (t := s2.toks) I3 fpk2 sb hc2 (fun v e => by cases e), ?_, hch3⟩
    have ek : ys.take (j + 1) = ys.take j ++ [ys[j]] := by rw [List.take_add_one, List.getElem?_eq_getElem hjy]; rfl
    have ea : (kA.push (Value.str ys[j] t)).toList = kA.toList ++ [.str ys[j] t] := by simp
    rw [ea, ek]
    exact each_snoc ⟨t, rfl⟩ hk
  case done =>
    rintro s' ⟨H2, kA, e, I2, hk, hch⟩
    rw [Nat.zero_add, List.take_of_length_le (by omega)] at hk
    rw [Nat.zero_add, List.drop_of_length_le (by omega), List.drop_of_length_le (by omega)] at hch
    have nk := I2.pin (kS, seqObj "list" kA e) (List.mem_append_right _ List.mem_cons_self)
    have nd := I2.pin (D, seqObj "list" #[] e1) (List.mem_append_right _ (List.mem_cons_of_mem _ List.mem_cons_self))
    have I4 : Inv X pins σ H2 s' := I2.pins_of fun p hp => I2.pin p (List.mem_append_right _ (List.mem_cons_of_mem _ (List.mem_cons_of_mem _ hp)))
    have hbase : ∀ b, s.heap.objs.size ≤ b → X.base.get? b = none := fun b hb => Heap.get?_none_of_le (Nat.le_trans (Nat.le_trans I.ok.bsz I.sz) hb)
    obtain ⟨m, F0⟩ := I4.fr
    have N0 : News X.base X.env.locals s'.heap (beside X.base s'.heap X.env.locals kS D ++ [(kS, seqObj "list" kA e), (D, seqObj "list" #[] e1)]) := fun p hp => by
      rcases List.mem_append.mp hp with hp | hp
      · have z := beside_of hp
        exact ⟨z.1, z.2.1, z.2.2.2.2⟩
      · rcases List.mem_cons.mp hp with rfl | hp
        · exact ⟨nk.1, nk.2.2.1, hbase _ hs1⟩
        · rw [List.mem_singleton.mp hp]
          exact ⟨nd.1, nd.2.2.1, hbase _ hDs⟩
    have hsz : kA.size = its.length := by
      have h1 := hk.length
      rw [Array.length_toList] at h1
      omega
    have reads : EachIs (fun v d => ∃ as, Reads s'.heap v d as) kA.toList (ys.map PyData.str) := by
      clear hch N0 nk hsz I2
      generalize kA.toList = vs at hk
      clear hlen h
      induction hk with
      | nil => exact .nil
      | cons a t ih =>
        obtain ⟨tk, rfl⟩ := a
        exact .cons ⟨_, .str _ _⟩ ih
    have hal : AllAlike (ys.map PyData.str) := fun d hd d' hd' => by
      obtain ⟨x, _, rfl⟩ := List.mem_map.mp hd
      obtain ⟨y, _, rfl⟩ := List.mem_map.mp hd'
      simp [alike]
    have hsk : Sortable (ys.map PyData.str) := .inr fun d hd => by
      obtain ⟨x, _, rfl⟩ := List.mem_map.mp hd
      exact ⟨fun z => (by cases z), fun xs z => (by cases z)⟩
    have hdp : ∀ d, d ∈ ys.map PyData.str → X.A.in1.in1.units + d.depth < cLine := fun d hd => by
      obtain ⟨x, _, rfl⟩ := List.mem_map.mp hd
      rw [PyData.depth]
      show X.A.units + 1 + 1 + 0 < cLine
      omega
    refine wpAny_bind (listItems_at nk.1 rfl ?_)
    refine key_end (κ := dataKind s'.heap (ys.map PyData.str)) F0 N0 hkD (fun p hp => (beside_of hp).2.2.1) (fun p hp => (beside_of hp).2.2.2.1) (SortsAt.data reads hal hsk hdp) hsz hZ fun h3 tk3 c F3 N3 => ⟨rfl, ?_⟩
    generalize hout : sortVals (dataKind s'.heap (ys.map PyData.str)) false kA.toList its = out at N3
    have hko : KeyedOut false (ys.map PyData.str) its out := ⟨s'.heap, kA.toList, hal, hout.symm, reads⟩
    have hmap : (xs.zip ys).map (fun p : V × Str => PyData.str p.2) = ys.map PyData.str := by
      show (xs.zip ys).map (PyData.str ∘ Prod.snd) = _
      rw [← List.map_map, List.map_snd_zip (by omega)]
    rw [← hmap] at hko
    have hfin := vals_each (keyedOut_each (fun p : V × Str => PyData.str p.2) hko (each_get rv hlen))
    have get3 : ∀ b o, b ≠ X.env.locals → b ≠ kS → b ≠ D → s'.heap.get? b = some o → h3.get? b = some o := fun b o z1 z2 z3 e => by
      cases q : X.base.get? b with
      | none => exact (N3 (b, o) (List.mem_cons_of_mem _ (mem_beside e z1 z2 z3 q))).1
      | some o' =>
        have e2 := I4.bk b o' q
        cases e.symm.trans e2
        exact F3.keep b o q
    have getD : h3.get? D = some (seqObj "list" out.toArray c) := (N3 _ List.mem_cons_self).1
    obtain ⟨kf0, kf1, kf2, kf3, kf4, kf5⟩ := fpk H2 nk.2.1
    obtain ⟨df0, df1, df2, df3, df4, df5⟩ := fpd H2 nd.2.1
    have notin : ∀ {b : Addr}, b ∉ [kS, D] → b ≠ kS ∧ b ≠ D := fun {b} hb => ⟨fun z => hb (by simp [z]), fun z => hb (by simp [z])⟩
    have nsE : ∀ m', s'.heap.Ns X.env.locals m' → h3.Ns X.env.locals m' := fun m' hm => by
      rw [hm.eq_nsMap, ← F0.ns.eq_nsMap]
      exact F3.ns
    have I5 : Inv X pins σ H2 { s' with heap := h3, toks := tk3 } := by
      refine I4.step (g' := s'.gens) (d' := s'.drawn) (ch := [kS, D]) (fun b hb => ?_) (fun b o z1 _ z2 e _ => get3 b o z1 (notin z2).1 (notin z2).2 e) (fun b o z1 _ z2 e _ => ⟨o.slots, get3 b o z1 (notin z2).1 (notin z2).2 e⟩) (fun _ _ _ _ n => n) (fun b o z2 e => ?_)
        (fun _ _ e => e) (fun _ _ _ e => e) (fun b ps e => ⟨#[], by rw [e]; simp⟩) nsE (fun b u e => ?_) I4.bare
      · rcases List.mem_cons.mp hb with rfl | hb
        · exact ⟨kf3, kf1, kf4, kf5⟩
        · rw [List.mem_singleton.mp hb]
          exact ⟨df3, df1, df4, df5⟩
      · by_cases z1 : b = X.env.locals
        · subst z1
          obtain ⟨o', _, _, q, _⟩ := F3.ns
          exact ⟨o', q⟩
        · exact ⟨o, get3 b o z1 (notin z2).1 (notin z2).2 e⟩
      · refine (I4.hok b u e).stay (fun c' v hc q => get3 c' v ?_ ?_ ?_ q) (fun _ q => q) fun _ _ q => q
        · rcases hc with z | z
          · exact fun w => by rw [z] at w; rw [w, I4.free] at e; cases e
          · exact fun w => by rw [w, I4.free] at z; cases z
        · rcases hc with z | z
          · exact fun w => by rw [z] at w; rw [w, kf0] at e; cases e
          · exact fun w => by rw [w, kf0] at z; cases z
        · rcases hc with z | z
          · exact fun w => by rw [z] at w; rw [w, df0] at e; cases e
          · exact fun w => by rw [w, df0] at z; cases z
    have hlo : (sortedBy xs ys).length ≤ sizeLine := by
      unfold sortedBy
      rw [List.length_map, List.length_mergeSort, List.length_zip]
      omega
    exact ⟨.ref D, _, I5.take (t' := tk3) (it := D) (o := .lst (sortedBy xs ys)) (fun _ _ _ e => e) ⟨df0, df1, df2, df3, df4, df5⟩ ⟨hlo, out, c, hfin, getD⟩, rfl, hch D df0⟩
end
end DP.Key
namespace DP
open PySem PySem.Spec PyProof.Rows L2
section
variable {K : PySem.W.Frag} {S : Sto} {H0 H : Hp}
theorem lst_any {r : R} {v : V} {xs : List D} (rr : RR K H0 H S r v) (hs : RS K H S) (e : lstOf S r = some xs) : ∃ l vs, v = V.ref l ∧ SqL K H l vs ∧ RDs K H xs vs := by
  cases r with
  | v d =>
    cases d with
    | fz ys =>
      cases (show ys = xs from Option.some.inj e)
      have rr : RD K H (.fz _) v := rr
      simp only [RD] at rr
      obtain ⟨l, vs, rfl, sq, rd⟩ := rr
      exact ⟨l, vs, rfl, sq.sq, rd⟩
    | ref a =>
      cases (show v = V.ref a from rr)
      cases q : S a with
      | none => simp [lstOf, see, q] at e
      | some o =>
        cases o with
        | lst ys =>
          have e : some ys = some xs := by simpa [lstOf, see, q] using e
          cases e
          obtain ⟨vs, e1, rd⟩ := hs a _ q
          exact ⟨a, vs, rfl, .inl (.inl e1), rd⟩
        | dK _ => simp [lstOf, see, q] at e
        | dT _ => simp [lstOf, see, q] at e
    | non => simp [lstOf, see] at e
    | bl _ => simp [lstOf, see] at e
    | int _ => simp [lstOf, see] at e
    | str _ => simp [lstOf, see] at e
    | tup _ => simp [lstOf, see] at e
  | n o =>
    cases o with
    | lst ys =>
      cases (show ys = xs from Option.some.inj e)
      obtain ⟨a, rfl, _, _, vs, e1, rd⟩ := rr
      exact ⟨a, vs, rfl, .inl (.inl e1), rd⟩
    | dK _ => simp [lstOf, see] at e
    | dT _ => simp [lstOf, see] at e
theorem keys_chain {F : Fw} {f : Nat} : ∀ {ds : List D} {ys : List Str} {vs : List V} {S S0 : Sto} {H H0 : Hp} {Q : Sto → Prop} {QH : Hp → Prop}, keysW F f ds ys S Q → RDs K H ds vs → RS K H S → Kp S0 H0 S H → (∀ H' S', RS K H' S' → Kp S0 H0 S' H' → Kp S H S' H' → Q S' → QH H') → Key.chain (spD K (F f)) vs ys H QH
  | [], [], vs, S, S0, H, H0, Q, QH, h, rd, hs, k, po => by
    simp only [RDs] at rd
    subst rd
    exact po H S hs k Kp.refl h
  | d :: ds, y :: ys, vs, S, S0, H, H0, Q, QH, h, rd, hs, k, po => by
    simp only [RDs] at rd
    obtain ⟨v, r, rfl, r1, r2⟩ := rd
    refine ⟨[d], S, _, .one r1, hs, h, fun u H' q S' rr hs' k' ⟨e, h'⟩ => ?_⟩
    subst e
    exact ⟨rr, keys_chain h' (RDs.kp k' hs _ _ r2) hs' (k.trans k') fun H2 S2 a b c q => po H2 S2 a b (k'.trans c) q⟩
  | [], _ :: _, vs, S, S0, H, H0, Q, QH, h, rd, hs, k, po => h.elim
  | _ :: _, [], vs, S, S0, H, H0, Q, QH, h, rd, hs, k, po => h.elim
theorem rds_map {l : List (D × V)} (h : ∀ p ∈ l, RD K H p.1 p.2) : RDs K H (l.map fun p => p.1) (l.map fun p => p.2) := by
  induction l with
  | nil => simp only [List.map_nil, RDs]
  | cons p l ih =>
    simp only [List.map_cons, RDs]
    exact ⟨_, _, rfl, h p List.mem_cons_self, ih fun q hq => h q (List.mem_cons_of_mem _ hq)⟩
theorem zip3 {α β γ : Type} : ∀ {as : List α} {bs : List β} {cs : List γ}, as.length = bs.length → as.zip cs = ((as.zip bs).zip cs).map (fun t => (t.1.1, t.2)) ∧ bs.zip cs = ((as.zip bs).zip cs).map fun t => (t.1.2, t.2)
  | [], [], cs, _ => by simp
  | [], _ :: _, cs, h => by simp at h
  | _ :: _, [], cs, h => by simp at h
  | a :: as, b :: bs, [], _ => by simp
  | a :: as, b :: bs, c :: cs, h => by
    have ih := zip3 (cs := cs) (show as.length = bs.length by simpa using h)
    rw [List.zip_cons_cons, List.zip_cons_cons, List.zip_cons_cons, List.zip_cons_cons, List.map_cons, List.map_cons, ← ih.1, ← ih.2]
    exact ⟨rfl, rfl⟩
theorem sorted_rds {ds : List D} {vs : List V} {ys : List Str} (r : RDs K H ds vs) : RDs K H (sortK ds ys) (Key.sortedBy vs ys) := by
  have hp : ∀ p ∈ ds.zip vs, RD K H p.1 p.2 := by
    intro p hp
    obtain ⟨i, hi, e⟩ := List.getElem_of_mem hp
    have e1 : ds[i]? = some p.1 ∧ vs[i]? = some p.2 := by
      rw [← e, List.getElem_zip]
      rw [List.length_zip] at hi
      exact ⟨List.getElem?_eq_getElem (by omega), List.getElem?_eq_getElem (by omega)⟩
    obtain ⟨v, e2, rv⟩ := r.get e1.1
    cases e1.2.symm.trans e2
    exact rv
  let le3 : (D × V) × Str → (D × V) × Str → Bool := PySem.W.dataLe false fun p => PyData.str p.2
  let zs := (ds.zip vs).zip ys
  have h1 : ds.zip ys = zs.map fun t => (t.1.1, t.2) := by
    exact zip3 r.length |>.1
  have h2 : vs.zip ys = zs.map fun t => (t.1.2, t.2) := by
    exact zip3 r.length |>.2
  have m1 : (ds.zip ys).mergeSort (PySem.W.dataLe false fun p => PyData.str p.2) = (zs.mergeSort le3).map fun t => (t.1.1, t.2) := by
    rw [h1]
    exact (List.map_mergeSort (r := le3) (s := PySem.W.dataLe false fun p : D × Str => PyData.str p.2) (f := fun t => (t.1.1, t.2)) (l := zs) fun _ _ _ _ => rfl).symm
  have m2 : (vs.zip ys).mergeSort (PySem.W.dataLe false fun p => PyData.str p.2) = (zs.mergeSort le3).map fun t => (t.1.2, t.2) := by
    rw [h2]
    exact (List.map_mergeSort (r := le3) (s := PySem.W.dataLe false fun p : V × Str => PyData.str p.2) (f := fun t => (t.1.2, t.2)) (l := zs) fun _ _ _ _ => rfl).symm
  unfold sortK Key.sortedBy
  rw [m1, m2, List.map_map, List.map_map]
  have e1 : (zs.mergeSort le3).map ((fun p : D × Str => p.1) ∘ fun t => (t.1.1, t.2)) = ((zs.mergeSort le3).map fun t => t.1).map fun p => p.1 := by rw [List.map_map]; rfl
  have e2 : (zs.mergeSort le3).map ((fun p : V × Str => p.1) ∘ fun t => (t.1.2, t.2)) = ((zs.mergeSort le3).map fun t => t.1).map fun p => p.2 := by rw [List.map_map]; rfl
  rw [e1, e2]
  refine rds_map fun p hp' => ?_
  obtain ⟨t, ht, rfl⟩ := List.mem_map.mp hp'
  have ht := (List.mergeSort_perm zs le3).subset ht
  exact hp _ (List.of_mem_zip ht).1
end
section
variable {X : Cx} {a : Expr} {wa : Ev} {p p2 kp pos : Pos} {F : Fw} {f k : Nat} {ad : Addr} {fd : FuncData} {ps : List Str} {x : Str}
/-- what sorted tells, by a key def -/
def rKey (X : Cx) (w : List D → Sto → PR → Prop) (ad : Addr) : List V → List V → Hp → VK → Prop := fun vs zs H Q => ∃ l xs ys, vs = [V.ref l] ∧ zs = [V.ref ad] ∧ SqL X.K H l xs ∧ ys.length = xs.length ∧
  Key.chain (spD X.K w) xs ys H fun H' => ∀ p, H' p = none → Q (.ref p) (upd H' p (.lst (Key.sortedBy xs ys)))
theorem cr_key {w : List D → Sto → PR → Prop} (Fn : FnG X.prog X.w X.K X.mg X.base CX0 k ad fd ps (spD X.K w)) (hg : X.A.guards = some []) (hr : Room k X.A.in1.in1) (hb : Binds X.K fd ps []) (hu : X.A.units + 65 < cLine) : CallRK X (.builtin "sorted") [Str.ofString "key"] (rKey X w ad) := by
  intro pins s σ H vs zs us ws Q I r rz h
  obtain ⟨l, xs, ys, rfl, rfl, sq, hl, hc⟩ := h
  obtain rfl := Vals.ref1 r
  obtain rfl := Vals.ref1 rz
  exact Key.sort_key Fn hg hr hb hu I sq hl hc
theorem s_sortk (Fn : FnG X.prog X.w X.K X.mg X.base CX0 k ad fd ps (spD X.K (F f))) (hgd : X.A.guards = some []) (hr : Room k X.A.in1.in1) (hb : Binds X.K fd ps []) (hu : X.A.units + 65 < cLine) (hg : Gl X "sorted") (hm : X.mg "sorted" = none) (hgx : Gl X x) (hmx : X.mg x = some (.ref ad)) (hd : (x == ("__debug__" : Str)) = false)
    (ha : PE X a (tD X.K wa)) (hn : starEach [a] X.env = [(false, eval a X.env)]) :
    PE X (.Call (.Name "sorted" p) [a] [⟨some "key", .Name x p2, kp⟩] pos) (tD X.K fun ρ S Q => wa ρ S fun r S1 => ∃ ds ys, lstOf S1 r = some ds ∧ ys.length = ds.length ∧ keysW F f ds ys S1 fun S2 => Q (.n (.lst (sortK ds ys))) S2) :=
  (pe_callBK (ks := [Str.ofString "key"]) (cr_key Fn hgd hr hb hu) hg hm boot_sorted (pa_cons ha pa_nil hn) (pk_cons (pe_glob hgx hmx (show RelV (V.ref ad) (Value.ref ad) from rfl) hd) pk_nil) (he := by rw [hn]; rfl) (hpl := by rw [hn]; rfl)).weak fun σ H QV ⟨ρ, S, Q, re, hs, h, po⟩ => tD1 re hs h fun r v H1 S1 r1 s1 k1 re1 ⟨ds, ys, e, hl, q⟩ => by
    obtain ⟨l, vs, rfl, sq, rd⟩ := lst_any r1 s1 e
    refine ⟨l, vs, ys, rfl, rfl, sq, by rw [hl, rd.length], keys_chain q rd s1 k1 fun H2 S2 s2 k2 k12 q2 p hp => ?_⟩
    have rd2 := RDs.kp k12 s1 _ _ rd
    have k3 : Kp S2 H2 S2 (upd H2 p (.lst (Key.sortedBy vs ys))) := Kp.laid hp
    have hp0 : H p = none := k2.dom p hp
    have rr : RR X.K H (upd H2 p (.lst (Key.sortedBy vs ys))) S2 (.n (.lst (sortK ds ys))) (.ref p) := ⟨p, rfl, hp0, s2.no hp, _, upd_same, RDs.kp k3 s2 _ _ (sorted_rds rd2)⟩
    exact po _ _ _ S2 rr (s2.laid hp) (k2.trans k3) q2
end
end DP

set_option maxRecDepth 100000
set_option maxHeartbeats 1000000
/-! DpK: the rules over the terms: text beside term, no context in sight. -/
namespace DP
open PySem PySem.Spec PyProof.Rows L2
/-- what is known of the program's names -/
structure Gm where
  F : Fw
  n : Nat
  fns : List Str
  cst : List (Str × D)
  free : List Str
/-- a block: its slots, its scope, the scope whose cells are its own (none: all) -/
structure Bk where
  N : List Str
  sc : Scope
  own : Option Scope
def fnB (B : Bk) (x : Str) : Bool := match B.own with
  | none => true
  | some s => s.names.lookup x == some .cell
structure At (G : Gm) (B : Bk) (X : Cx) : Prop where
  calm : X.calm = true
  grd : X.A.guards = some []
  room : Room G.n X.A
  nd : X.N.Nodup
  hN : X.N = B.N
  sc : X.env.scope = B.sc
  fn : ∀ x, fnB B x = true → X.fn x = true
  uq : ∀ y ∈ B.sc.names, B.sc.names.lookup y.1 = some y.2
  nod : ∀ y ∈ B.sc.names, (y.1 == ("__debug__" : Str)) = false ∧ (y.1 == ("__classdict__" : Str)) = false
  call : ∀ f x, G.fns[f]? = some x → ∃ a fd ps, FnG X.prog X.w X.K X.mg X.base CX0 G.n a fd ps (spD X.K (G.F f)) ∧ Binds X.K fd ps [] ∧ X.mg x = some (.ref a) ∧ PySem.W.keepIn X.K (.ref a) = true
  free : ∀ x ∈ G.free, X.mg x = none
  cst : ∀ x c, (x, c) ∈ G.cst → ∃ v u, X.mg x = some u ∧ RelV v u ∧ ∀ H, RD X.K H c v
  slk : X.A.units + 16 * G.n + 213 < cLine
/-- the names of a scope, looked at -/
def scC (sc : Scope) : Bool := sc.names.all fun y => decide (sc.names.lookup y.1 = some y.2) && !(y.1 == ("__debug__" : Str)) && !(y.1 == ("__classdict__" : Str))
theorem scC_uq {sc : Scope} (h : scC sc = true) : ∀ y ∈ sc.names, sc.names.lookup y.1 = some y.2 := fun y hy => by
  unfold scC at h
  rw [List.all_eq_true] at h
  have := h y hy
  simp only [Bool.and_eq_true, decide_eq_true_eq] at this
  exact this.1.1
theorem scC_nod {sc : Scope} (h : scC sc = true) : ∀ y ∈ sc.names, (y.1 == ("__debug__" : Str)) = false ∧ (y.1 == ("__classdict__" : Str)) = false := fun y hy => by
  unfold scC at h
  rw [List.all_eq_true] at h
  have := h y hy
  simp only [Bool.and_eq_true, Bool.not_eq_true'] at this
  exact ⟨this.1.2, this.2⟩
theorem lookup_keys {f : Str × NameKind → Str × NameKind} (hf : ∀ y, (f y).1 = y.1) (x : Str) : ∀ l : List (Str × NameKind), (l.map f).lookup x = (l.lookup x).map fun k => (f (x, k)).2
  | [] => rfl
  | (n, k) :: r => by
    rw [List.map_cons]
    have e : f (n, k) = (n, (f (n, k)).2) := Prod.ext (hf _) rfl
    rw [e]
    by_cases h : x = n
    · subst h
      simp [List.lookup]
    · have hb : (x == n) = false := beq_eq_false_iff_ne.mpr h
      simp only [List.lookup, hb]
      exact lookup_keys hf x r
def relK (sc : Scope) (y : Str × NameKind) : Str × NameKind := if (y.2 == .free && sc.kind == .function && sc.names.lookup y.1 == some .cell) = true then (y.1, .cell) else y
theorem relS_names (scope sc : Scope) : (relS scope sc).names = scope.names.map (relK sc) := by
  show scope.names.map _ = _
  refine List.map_congr_left fun y _ => ?_
  obtain ⟨n, k⟩ := y
  rfl
theorem relK_fst (sc : Scope) (y : Str × NameKind) : (relK sc y).1 = y.1 := by
  unfold relK
  split <;> rfl
theorem relS_uq {scope sc : Scope} (h : scC scope = true) : ∀ y ∈ (relS scope sc).names, (relS scope sc).names.lookup y.1 = some y.2 := fun y hy => by
  rw [relS_names] at hy ⊢
  obtain ⟨z, hz, rfl⟩ := List.mem_map.mp hy
  rw [lookup_keys (relK_fst sc), relK_fst, scC_uq h z hz]
  rfl
theorem relS_nod {scope sc : Scope} (h : scC scope = true) : ∀ y ∈ (relS scope sc).names, (y.1 == ("__debug__" : Str)) = false ∧ (y.1 == ("__classdict__" : Str)) = false := fun y hy => by
  rw [relS_names] at hy
  obtain ⟨z, hz, rfl⟩ := List.mem_map.mp hy
  rw [relK_fst]
  exact scC_nod h z hz
/-- the context within a comprehension -/
abbrev Bk.blk (B : Bk) (scope : Scope) : Bk := ⟨B.N, relS scope B.sc, some scope⟩
theorem At.blk {G : Gm} {B : Bk} {X : Cx} {scope : Scope} (h : At G B X) (hs : scC scope = true) (s : Shared) (H : Hp) (C : Addr) (cl : List (Str × Addr)) (fp : List Addr) : At G (B.blk scope) (X.blk s H scope (compEnvC scope cl C X.env) fp) :=
  ⟨h.calm, h.grd, h.room, h.nd, h.hN, by show relS scope X.env.scope = _; rw [h.sc], fun x e => e, relS_uq hs, relS_nod hs, h.call, h.free, h.cst, h.slk⟩
section
variable {G : Gm} {B : Bk}
theorem At.kind {X : Cx} (h : At G B X) {i : Nat} {x : Str} {k : NameKind} (e : B.sc.names[i]? = some (x, k)) : X.env.scope.names.lookup x = some k := by
  rw [h.sc]
  exact h.uq (x, k) (List.mem_of_getElem? e)
theorem At.gl {X : Cx} (h : At G B X) {i : Nat} {x : Str} (e : B.sc.names[i]? = some (x, .globalImplicit)) : Gl X x := h.kind e
theorem At.nd1 {X : Cx} (h : At G B X) {i : Nat} {x : Str} {k : NameKind} (e : B.sc.names[i]? = some (x, k)) : (x == ("__debug__" : Str)) = false ∧ (x == ("__classdict__" : Str)) = false := h.nod (x, k) (List.mem_of_getElem? e)
def visK : NameKind → Bool
  | .local => true
  | .cell => true
  | .free => true
  | _ => false
def locK : NameKind → Bool
  | .local => true
  | .cell => true
  | _ => false
theorem At.vis {X : Cx} (h : At G B X) {i : Nat} {x : Str} {k : NameKind} (e : B.sc.names[i]? = some (x, k)) (hk : visK k = true) : Vis X.env.scope x := by
  have q := h.kind e
  cases k with
  | «local» => exact .inl q
  | cell => exact .inr (.inl q)
  | free => exact .inr (.inr q)
  | _ => cases hk
theorem At.loc {X : Cx} (h : At G B X) {i : Nat} {x : Str} {k : NameKind} (e : B.sc.names[i]? = some (x, k)) (hk : locK k = true) : Loc X.env.scope x := by
  have q := h.kind e
  cases k with
  | «local» => exact .inl q
  | cell => exact .inr q
  | _ => cases hk
def ownK (B : Bk) (x : Str) : NameKind → Bool
  | .local => true
  | .cell => fnB B x
  | _ => false
theorem ownK_loc {x : Str} {k : NameKind} (h : ownK B x k = true) : locK k = true := by cases k <;> first | rfl | cases h
theorem At.own {X : Cx} (h : At G B X) {i : Nat} {x : Str} {k : NameKind} (e : B.sc.names[i]? = some (x, k)) (hk : ownK B x k = true) : X.fn x = true ∨ X.env.scope.names.lookup x = some .local := by
  have q := h.kind e
  cases k with
  | «local» => exact .inr q
  | cell => exact .inl (h.fn x hk)
  | _ => cases hk
theorem At.units {X : Cx} (h : At G B X) : X.A.units + 65 < cLine := by have := h.room.un; omega
theorem At.units1 {X : Cx} (h : At G B X) : X.A.units + 1 < cLine := by have := h.room.un; omega

/-! ### looks at the text -/
/-- no starred argument -/
def nst : Expr → Bool
  | .Starred .. => false
  | _ => true
theorem starEach_one {e : Expr} {es : List Expr} (h : nst e = true) (env : PySem.Env) : starEach (e :: es) env = (false, eval e env) :: starEach es env := by
  cases e <;> first | rfl | cases h
theorem star_plain : ∀ {es : List Expr} (_ : es.all nst = true) (env : PySem.Env), (starEach es env).any (·.1) = false
  | [], _, _ => rfl
  | e :: es, h, env => by
    rw [List.all_cons, Bool.and_eq_true] at h
    rw [starEach_one h.1, List.any_cons, star_plain h.2]
    rfl
theorem backTo_any {pos : Pos} : ∀ (l : List (Bool × Sem Value)), (backTo pos l).any (·.1) = l.any (·.1)
  | [] => rfl
  | a :: r => by
    have := backTo_any (pos := pos) r
    unfold backTo at this ⊢
    first | simp_all | (rw [List.map_cons, List.any_cons, this]; rfl)
/-- no slice, no display -/
def nsl : Expr → Bool
  | .Slice .. => false
  | _ => true
def nset : Expr → Bool
  | .Set .. => false
  | _ => true
theorem nset_in {e : Expr} (h : nset e = true) (op : CmpOp) : behindInMarks op e = false := by cases e <;> first | rfl | cases h
theorem nset_it {e : Expr} (h : nset e = true) (env : PySem.Env) (x : Value) : foldedSetIterable e env x = pure x := by cases e <;> first | rfl | cases h
/-- a test that is a value -/
def tval : Expr → Bool
  | .UnaryOp .Not _ _ => false
  | .BoolOp .. => false
  | .IfExp .. => false
  | .Compare .. => false
  | _ => true
theorem tval_ok {e : Expr} (h : tval e = true) (env : PySem.Env) (whole : Sem Value) : isTrue e env whole = (do let v ← whole; standAt e.pos; holding [v] (truthy v)) := by
  cases e with
  | UnaryOp op a p => cases op <;> first | rfl | cases h
  | _ => first | rfl | cases h
def nbase : Expr → Bool
  | .Call .. => false
  | _ => true
theorem nbase_ok {e : Expr} (h : nbase e = true) (m : Str) (env : PySem.Env) (whole : Sem Value) : attributeBase e m env whole = whole := by cases e <;> first | rfl | cases h
/-- no comprehension: nothing is swapped -/
def ncomp : Expr → Bool
  | .ListComp .. => false
  | .SetComp .. => false
  | .DictComp .. => false
  | _ => true
theorem ncomp_sw {e : Expr} (h : ncomp e = true) (t : Option Expr) (l : Nat) (env : PySem.Env) : swapsWith e t l env = pure false := by cases e <;> first | rfl | cases h
def ntup : Expr → Bool
  | .Tuple .. => false
  | _ => true

/-! ### the rules -/
structure KE (G : Gm) (B : Bk) (a : Expr) (e : E) : Prop where
  p : ∀ X, At G B X → PE X a (tD X.K (wE G.F e))
structure KT (G : Gm) (B : Bk) (a : Expr) (e : E) : Prop where
  p : ∀ X, At G B X → PT X a (tDT X.K (wT G.F e))
structure KW (G : Gm) (B : Bk) (a : Expr) (e : E) : Prop where
  p : ∀ X, At G B X → PW X a (tDT X.K (wT G.F e))
structure KA (G : Gm) (B : Bk) (a : List Expr) (e : List E) : Prop where
  p : ∀ X, At G B X → PA X a (tDA X.K (wEs G.F e))
  n : a.all nst = true
structure KR (G : Gm) (B : Bk) (a : List Expr) (e : List E) : Prop where
  p : ∀ X, At G B X → PA X a (tDR X.K (wRs G.F e))
  n : a.all nst = true
structure KO (G : Gm) (B : Bk) (a : Option Expr) (e : Option E) : Prop where
  p : ∀ X, At G B X → PO X a (tDO X.K (wO G.F e))
structure KI (G : Gm) (B : Bk) (tg a : Expr) (i : I) : Prop where
  p : ∀ X, At G B X → PI X tg a (tDI X.K (wI G.F i))
structure KG (G : Gm) (B : Bk) (a : Expr) (t : TN) : Prop where
  p : ∀ X, At G B X → PG X a (tDG X.K t)
structure KIf (G : Gm) (B : Bk) (a : List Expr) (e : Option E) : Prop where
  p : ∀ X, At G B X → PTs X a (tDT X.K (wOT G.F e))
variable {a b c o : Expr} {ea eb ec eo : E} {pos p p2 apos cpos : Pos} {es : List Expr} {xs : List E}
theorem k_var {i j : Nat} {x : Str} {k : NameKind} (h1 : B.N[i]? = some x) (h2 : B.sc.names[j]? = some (x, k)) (h3 : visK k = true) : KE G B (.Name x pos) (.var i) :=
  ⟨fun X h => s_var (pe_var (by rw [h.hN]; exact h1) (h.vis h2 h3) (h.nd1 h2).1 (h.nd1 h2).2)⟩
theorem k_int {i : Int} {j : Nat} : KE G B (.Constant (.int i) j pos) (.cst (.int i)) := ⟨fun X h => s_cst (fun H => rfl) pe_int⟩
theorem k_str {i : Str} {j : Nat} : KE G B (.Constant (.str i) j pos) (.cst (.str i)) := ⟨fun X h => s_cst (fun H => rfl) pe_str⟩
theorem k_bl {i : Bool} {j : Nat} : KE G B (.Constant (.bool i) j pos) (.cst (.bl i)) := ⟨fun X h => s_cst (fun H => rfl) pe_bl⟩
theorem k_non {j : Nat} : KE G B (.Constant .none j pos) (.cst .non) := ⟨fun X h => s_cst (fun H => rfl) pe_non⟩
theorem k_glo {i j : Nat} {x : Str} {d : D} (h1 : G.cst[i]? = some (x, d)) (h2 : B.sc.names[j]? = some (x, .globalImplicit)) : KE G B (.Name x pos) (.glo x d) :=
  ⟨fun X h => by
    obtain ⟨v, u, e, r, rd⟩ := h.cst x d (List.mem_of_getElem? h1)
    exact s_cst rd (pe_glob (h.gl h2) e r (h.nd1 h2).1)⟩
theorem k_bin {q : BOp} {op : Operator} (e : (match q, op with | .add, .Add => true | .sub, .Sub => true | .mul, .Mult => true | .fdiv, .FloorDiv => true | .mod, .Mod => true | .pow, .Pow => true | _, _ => false) = true) (ha : KE G B a ea) (hb : KE G B b eb) : KE G B (.BinOp a op b pos) (.bin q ea eb) :=
  ⟨fun X h => s_bin e (ha.p X h) (hb.p X h)⟩
theorem k_neg (ha : KE G B a ea) : KE G B (.UnaryOp .USub a pos) (.neg ea) := ⟨fun X h => s_neg (ha.p X h)⟩
theorem k_cmp {q : COp} (ha : KE G B a ea) (hb : KE G B b eb) (hm : nset b = true) : KE G B (.Compare a [copC q] [b] pos) (.cmp q ea eb) := ⟨fun X h => s_cmpE h.units (ha.p X h) (hb.p X h) (nset_in hm _)⟩
theorem k_cmpT {q : COp} (ha : KE G B a ea) (hb : KE G B b eb) (hm : nset b = true) : KT G B (.Compare a [copC q] [b] pos) (.cmp q ea eb) := ⟨fun X h => s_cmpET h.units (ha.p X h) (hb.p X h) (nset_in hm _)⟩
theorem k_chn {q r : COp} (ha : KE G B a ea) (hb : KE G B b eb) (hc : KE G B c ec) (hm : nset b = true) (hm2 : nset c = true) : KE G B (.Compare a [copC q, copC r] [b, c] pos) (.chn q r ea eb ec) := ⟨fun X h => s_chnE h.units (ha.p X h) (hb.p X h) (hc.p X h) (nset_in hm _) (nset_in hm2 _)⟩
theorem k_chnT {q r : COp} (ha : KE G B a ea) (hb : KE G B b eb) (hc : KE G B c ec) (hm : nset b = true) (hm2 : nset c = true) : KT G B (.Compare a [copC q, copC r] [b, c] pos) (.chn q r ea eb ec) := ⟨fun X h => s_chnET h.units (ha.p X h) (hb.p X h) (hc.p X h) (nset_in hm _) (nset_in hm2 _)⟩
theorem k_not (ha : KE G B a ea) : KE G B (.UnaryOp .Not a pos) (.not ea) := ⟨fun X h => s_not (ha.p X h)⟩
theorem k_and {rest : List Expr} (ha : KE G B a ea) (hb : KE G B (.BoolOp .And (b :: rest) pos) eb) : KE G B (.BoolOp .And (a :: b :: rest) pos) (.and ea eb) := ⟨fun X h => s_and (ha.p X h) (hb.p X h)⟩
theorem k_or {rest : List Expr} (ha : KE G B a ea) (hb : KE G B (.BoolOp .Or (b :: rest) pos) eb) : KE G B (.BoolOp .Or (a :: b :: rest) pos) (.or ea eb) := ⟨fun X h => s_or (ha.p X h) (hb.p X h)⟩
theorem k_one {op : BoolOp} (ha : KE G B a ea) : KE G B (.BoolOp op [a] pos) ea := ⟨fun X h => pe_one (ha.p X h)⟩
theorem k_ite (hc : KT G B c ec) (ha : KE G B a ea) (hb : KE G B b eb) : KE G B (.IfExp c a b pos) (.ite ec ea eb) := ⟨fun X h => s_ite (hc.p X h) (ha.p X h) (hb.p X h)⟩
theorem k_notT (ha : KT G B a ea) : KT G B (.UnaryOp .Not a pos) (.not ea) := ⟨fun X h => s_notT (ha.p X h)⟩
theorem k_andT {rest : List Expr} (ha : KT G B a ea) (hb : KW G B (.BoolOp .And (b :: rest) pos) eb) : KW G B (.BoolOp .And (a :: b :: rest) pos) (.and ea eb) := ⟨fun X h => s_andT (ha.p X h) (hb.p X h)⟩
theorem k_orT {rest : List Expr} (ha : KT G B a ea) (hb : KW G B (.BoolOp .Or (b :: rest) pos) eb) : KW G B (.BoolOp .Or (a :: b :: rest) pos) (.or ea eb) := ⟨fun X h => s_orT (ha.p X h) (hb.p X h)⟩
theorem k_oneA (ha : KT G B a ea) : KW G B (.BoolOp .And [a] pos) ea := ⟨fun X h => pw_and1 (ha.p X h)⟩
theorem k_oneO (ha : KT G B a ea) : KW G B (.BoolOp .Or [a] pos) ea := ⟨fun X h => pw_or1 (ha.p X h)⟩
theorem k_W (h : KW G B a ea) : KT G B a ea := ⟨fun X x => (h.p X x).pt⟩
theorem k_iteT (hc : KT G B c ec) (ha : KT G B a ea) (hb : KT G B b eb) (hx : ∀ X, At G B X → PT X (.IfExp c a b pos) (tDT X.K (wT G.F (.ite ec ea eb)))) : KT G B (.IfExp c a b pos) (.ite ec ea eb) := ⟨hx⟩
/-- the terms that are tests by their value -/
def wval : E → Bool
  | .var _ => true
  | .isi _ _ => true
  | .bi _ _ => true
  | .me _ _ _ => true
  | .call _ _ => true
  | .ix _ _ => true
  | _ => false
theorem k_tru (ha : KE G B a ea) (h1 : tval a = true) (h2 : wval ea = true) : KT G B a ea := ⟨fun X h => (s_truth (ha.p X h) (tval_ok h1 _)).weak fun σ H QT ⟨ρ, S, Q, re, hs, q, po⟩ => ⟨ρ, S, Q, re, hs, by
  cases ea <;> first | (cases h2; done) | skip
  · obtain ⟨d, e, k, e2, q⟩ := q
    exact ⟨d, e, k, e2, q⟩
  · exact q
  · exact q
  · exact q
  · exact q
  · exact q, po⟩⟩
theorem k_ix (ha : KE G B a ea) (hb : KE G B b eb) (hp : nsl b = true) : KE G B (.Subscript a b pos) (.ix ea eb) := ⟨fun X h => s_ix h.units (ha.p X h) (hb.p X h) (by cases b <;> first | (intro _ _; rfl) | cases hp)⟩
theorem k_o0 : KO G B none none := ⟨fun X h => s_po0⟩
theorem k_o1 (ha : KE G B a ea) : KO G B (some a) (some ea) := ⟨fun X h => s_po1 (ha.p X h)⟩
theorem k_sl {lo hi : Option Expr} {el eh : Option E} (ha : KE G B a ea) (hl : KO G B lo el) (hh : KO G B hi eh) : KE G B (.Subscript a (.Slice lo hi none p) pos) (.sl ea el eh) := ⟨fun X h => s_sl (ha.p X h) (hl.p X h) (hh.p X h)⟩
theorem k_rev {j : Nat} {p1 p3 : Pos} (ha : KE G B a ea) : KE G B (.Subscript a (.Slice none none (some (.UnaryOp .USub (.Constant (.int 1) j p1) p2)) p3) pos) (.rev ea) := ⟨fun X h => s_rev (ha.p X h)⟩
theorem k_a0 : KA G B [] [] := ⟨fun X h => s_pa0, rfl⟩
theorem k_a1 (ha : KE G B a ea) (hr : KA G B es xs) (hn : nst a = true) : KA G B (a :: es) (ea :: xs) := ⟨fun X h => s_pa1 (ha.p X h) (hr.p X h) (starEach_one hn _), by rw [List.all_cons, hn, hr.n]; rfl⟩
theorem k_r0 : KR G B [] [] := ⟨fun X h => s_pr0, rfl⟩
theorem k_r1 (ha : KE G B a ea) (hr : KR G B es xs) (hn : nst a = true) : KR G B (a :: es) (ea :: xs) := ⟨fun X h => s_pr1 (ha.p X h) (hr.p X h) (starEach_one hn _), by rw [List.all_cons, hn, hr.n]; rfl⟩
theorem k_tup {j : Nat} (h : KA G B es xs) : KE G B (.Tuple es j pos) (.tup xs) := ⟨fun X x => s_tup (h.p X x)⟩
theorem k_lst (h : KA G B es xs) : KE G B (.List es pos) (.lst xs) := ⟨fun X x => s_lst (h.p X x)⟩
theorem k_isi {t : Ty} {x : Str} {i j k l : Nat} (ha : KE G B a ea) (hn : nst a = true) (h1 : B.sc.names[i]? = some (("isinstance" : Str), .globalImplicit)) (h2 : G.free[j]? = some ("isinstance" : Str)) (ex : x = Str.ofString (tyNm t)) (h3 : B.sc.names[k]? = some (x, .globalImplicit)) (h4 : G.free[l]? = some x) :
    KE G B (.Call (.Name "isinstance" p) [a, .Name x p2] [] pos) (.isi ea t) := ⟨fun X h => s_isi (ha.p X h) (h.gl h1) (h.free _ (List.mem_of_getElem? h2)) ex (h.gl h3) (h.free _ (List.mem_of_getElem? h4)) (starEach_one hn _)⟩
/-- which built-in -/
def biNm : Bi → Str
  | .len => "len"
  | .all => "all"
  | .any => "any"
  | .sorted => "sorted"
  | .tupl => "tuple"
  | .list => "list"
  | .abs => "abs"
  | .int => "int"
  | .min => "min"
  | .max => "max"
  | .sum => "sum"
  | .repr => "repr"
theorem k_bi {q : Bi} {i j : Nat} {x : Str} (ex : x = biNm q) (h1 : B.sc.names[i]? = some (x, .globalImplicit)) (h2 : G.free[j]? = some x) (ha : KR G B (a :: es) (ea :: xs)) : KE G B (.Call (.Name x p) (a :: es) [] pos) (.bi q (ea :: xs)) := ⟨fun X h => by
  have hg := h.gl h1
  have hm := h.free _ (List.mem_of_getElem? h2)
  have hd := (h.nd1 h1).1
  have hal := ha.n
  rw [List.all_cons, Bool.and_eq_true] at hal
  have hn := starEach_one (es := es) hal.1 X.env
  have hpl : (backTo pos (starEach es X.env)).any (·.1) = false := by rw [backTo_any]; exact star_plain hal.2 _
  subst ex
  cases q with
  | len => exact s_biB bi_len len_all hg hm (by decide +kernel) (by decide +kernel) hd (ha.p X h) hn hpl
  | all => exact s_biB bi_all (cr_all h.calm) hg hm (by decide +kernel) (by decide +kernel) hd (ha.p X h) hn hpl
  | any => exact s_biB bi_any (cr_any h.calm) hg hm (by decide +kernel) (by decide +kernel) hd (ha.p X h) hn hpl
  | sorted => exact s_biB bi_sorted (call_sortD h.units) hg hm (by decide +kernel) (by decide +kernel) hd (ha.p X h) hn hpl
  | tupl => exact s_biT bi_tupl call_tuple_of hg hm (by decide +kernel) (by decide +kernel) hd (ha.p X h) hn hpl
  | list => exact s_biT bi_list call_list_of hg hm (by decide +kernel) (by decide +kernel) hd (ha.p X h) hn hpl
  | abs => exact s_biB bi_abs call_abs hg hm (by decide +kernel) (by decide +kernel) hd (ha.p X h) hn hpl
  | int => exact s_biT bi_int call_int1 hg hm (by decide +kernel) (by decide +kernel) hd (ha.p X h) hn hpl
  | min => exact s_biB bi_min (call_min2 h.calm) hg hm (by decide +kernel) (by decide +kernel) hd (ha.p X h) hn hpl
  | max => exact s_biB bi_max (call_max2 h.calm) hg hm (by decide +kernel) (by decide +kernel) hd (ha.p X h) hn hpl
  | sum => exact s_biB bi_sum (cr_sum h.calm) hg hm (by decide +kernel) (by decide +kernel) hd (ha.p X h) hn hpl
  | repr => exact s_biB bi_repr (call_repr h.grd h.units) hg hm (by decide +kernel) (by decide +kernel) hd (ha.p X h) hn hpl⟩
def meNm : Me → Str
  | .append => "append"
  | .extend => "extend"
  | .pop => "pop"
  | .reverse => "reverse"
  | .upper => "upper"
  | .join => "join"
theorem k_me0 {q : Me} {x : Str} (ex : x = meNm q) (ho : KE G B o eo) (hb : nbase o = true) (hl : (apos.endLine == cpos.line) = true) : KE G B (.Call (.Attribute o x apos) [] [] cpos) (.me q eo []) := ⟨fun X h => by
  subst ex
  have hb := nbase_ok hb (meNm q) X.env (eval o X.env)
  have ho := ho.p X h
  cases q with
  | append => exact s_me0 me_append ho hb hl
  | extend => exact s_me0 me_extend ho hb hl
  | pop => exact s_me0 me_pop ho hb hl
  | reverse => exact s_me0 me_reverse ho hb hl
  | upper => exact s_me0 me_upper ho hb hl
  | join => exact s_me0 me_join ho hb hl⟩
theorem few_of {a : Expr} (hn : nst a = true) (env : PySem.Env) : ((backTo cpos (starEach [a] env)).all (fun x => !x.1) && (backToKw cpos (keywordEach [] env)).all (fun x => x.1.isSome) && decide (([a] : List Expr).length + ([] : List Keyword).length + (if ([] : List Keyword).isEmpty then 0 else 1) < 30)) = true := by
  rw [starEach_one hn]
  rfl
theorem k_me1 {q : Me} {x : Str} (ex : x = meNm q) (ho : KE G B o eo) (hb : nbase o = true) (hl : (apos.endLine == cpos.line) = true) (ha : KE G B a ea) (hn : nst a = true) : KE G B (.Call (.Attribute o x apos) [a] [] cpos) (.me q eo [ea]) := ⟨fun X h => by
  subst ex
  have hb := nbase_ok hb (meNm q) X.env (eval o X.env)
  have ho := ho.p X h
  have h1 := few_of (cpos := cpos) hn X.env
  have h2 := starEach_one (es := []) hn X.env
  have hr := (k_a1 ha k_a0 hn).p X h
  have h3 : (backTo cpos (starEach [] X.env)).any (·.1) = false := rfl
  cases q with
  | append => exact s_me1 me_append ho hr hb h1 hl h2 h3
  | extend => exact s_me1 me_extend ho hr hb h1 hl h2 h3
  | pop => exact s_me1 me_pop ho hr hb h1 hl h2 h3
  | reverse => exact s_me1 me_reverse ho hr hb h1 hl h2 h3
  | upper => exact s_me1 me_upper ho hr hb h1 hl h2 h3
  | join => exact s_me1 me_join ho hr hb h1 hl h2 h3⟩
theorem k_call {f i : Nat} {x : Str} (h1 : G.fns[f]? = some x) (h2 : B.sc.names[i]? = some (x, .globalImplicit)) (ha : KA G B (a :: es) xs) : KE G B (.Call (.Name x p) (a :: es) [] pos) (.call f xs) := ⟨fun X h => by
  obtain ⟨ad, fd, ps, F, bn, hm, hk⟩ := h.call f x h1
  have hal := ha.n
  rw [List.all_cons, Bool.and_eq_true] at hal
  exact s_call F h.grd h.room bn (h.gl h2) hm hk (ha.p X h) (h.nd1 h2).1 (starEach_one hal.1 _) (by rw [backTo_any]; exact star_plain hal.2 _)⟩
theorem k_lset {i j i2 j2 : Nat} {q : Pos} (h1 : B.sc.names[i]? = some (("len" : Str), .globalImplicit)) (h2 : G.free[j]? = some ("len" : Str)) (h3 : B.sc.names[i2]? = some (("set" : Str), .globalImplicit)) (h4 : G.free[j2]? = some ("set" : Str)) (ha : KE G B a ea) (hn : nst a = true) :
    KE G B (.Call (.Name "len" p) [.Call (.Name "set" p2) [a] [] q] [] pos) (.lset ea) :=
  ⟨fun X h => s_lset h.calm (h.gl h1) (h.free _ (List.mem_of_getElem? h2)) (h.gl h3) (h.free _ (List.mem_of_getElem? h4)) (ha.p X h) ((starEach_one hn _).trans rfl)⟩
theorem k_sortk {f i i2 j : Nat} {x : Str} {kp : Pos} (h1 : G.fns[f]? = some x) (h2 : B.sc.names[i]? = some (x, .globalImplicit)) (h3 : B.sc.names[i2]? = some (("sorted" : Str), .globalImplicit)) (h4 : G.free[j]? = some ("sorted" : Str)) (ha : KE G B a ea) (hn : nst a = true) :
    KE G B (.Call (.Name "sorted" p) [a] [⟨some "key", .Name x p2, kp⟩] pos) (.sortk f ea) := ⟨fun X h => by
  obtain ⟨ad, fd, ps, F, bn, hm, hk⟩ := h.call f x h1
  have hr : Room G.n X.A.in1.in1 := ⟨h.room.hd, h.room.dp, by have := h.slk; show X.A.units + 1 + 1 + 16 * G.n + 200 < cLine; omega⟩
  exact s_sortk F h.grd hr bn h.units (h.gl h3) (h.free _ (List.mem_of_getElem? h4)) (h.gl h2) hm (h.nd1 h2).1 (ha.p X h) (starEach_one hn _)⟩
theorem evs_wEs {F : Fw} : ∀ (xs : List E) (ρ : Env) (S : Sto) (Q : List D → Sto → Prop), evs (xs.map (wE F)) ρ S Q = wEs F xs ρ S Q
  | [], _, _, _ => by simp only [List.map_nil, evs, wEs]
  | e :: xs, ρ, S, Q => by
    simp only [List.map_cons, evs, wEs]
    congr 1
    funext r S1
    congr 1
    funext d S2
    exact evs_wEs xs ρ S2 _
structure KPs (G : Gm) (B : Bk) (pos : Pos) (keys : List (Option Expr)) (vals : List Expr) (ks : List Key) (xs : List E) : Prop where
  p : ∀ X, At G B X → PPs X pos keys vals (pairTs X.K ks (xs.map (wE G.F)))
  h : keys.all (·.isSome) = true ∧ keys.length = vals.length ∧ ks.length = xs.length ∧ keys.length = ks.length
theorem k_ps0 : KPs G B pos [] [] [] [] := ⟨fun X h => pps_nil, rfl, rfl, rfl, rfl⟩
theorem k_psS {keys : List (Option Expr)} {vals : List Expr} {ks : List Key} {z : Str} {j : Nat} (ha : KE G B a ea) (hr : KPs G B pos keys vals ks xs) : KPs G B pos (some (.Constant (.str z) j p) :: keys) (a :: vals) (.inr z :: ks) (ea :: xs) :=
  ⟨fun X h => pps_cons pe_str (ha.p X h) (hr.p X h), by rw [List.all_cons, hr.h.1]; rfl, by simp [hr.h.2.1], by simp [hr.h.2.2.1], by simp [hr.h.2.2.2]⟩
theorem k_psI {keys : List (Option Expr)} {vals : List Expr} {ks : List Key} {z : Int} {j : Nat} (ha : KE G B a ea) (hr : KPs G B pos keys vals ks xs) : KPs G B pos (some (.Constant (.int z) j p) :: keys) (a :: vals) (.inl z :: ks) (ea :: xs) :=
  ⟨fun X h => pps_cons pe_int (ha.p X h) (hr.p X h), by rw [List.all_cons, hr.h.1]; rfl, by simp [hr.h.2.1], by simp [hr.h.2.2.1], by simp [hr.h.2.2.2]⟩
theorem k_disp {keys : List (Option Expr)} {vals : List Expr} {ks : List Key} (h : KPs G B pos keys vals ks xs) (h0 : keys ≠ []) (hk : decide (ks.length ≤ 15 ∧ ks.Nodup) = true) : KE G B (.Dict keys vals pos) (.dK ks xs) := ⟨fun X x => by
  have hh := of_decide_eq_true hk
  refine (s_disp (h.p X x) h.h.1 h.h.2.1 h0 (by rw [h.h.2.2.2]; exact hh.1) (by rw [List.length_map]; exact h.h.2.2.1) hh.2 hh.1).weak fun σ H QV ⟨ρ, S, Q, re, hs, q, po⟩ => ⟨ρ, S, Q, re, hs, ?_, po⟩
  show evs (xs.map (wE G.F)) ρ S _
  rw [evs_wEs]
  simp only [wE] at q
  exact q⟩
theorem k_dnew : KE G B (.Dict [] [] pos) (.dK [] []) := ⟨fun X h => s_dnew.weak fun σ H QV ⟨ρ, S, Q, re, hs, q, po⟩ => ⟨ρ, S, Q, re, hs, by simp only [wE, wEs] at q; exact q, po⟩⟩
end
end DP

set_option maxRecDepth 100000
set_option maxHeartbeats 1000000
/-! DpK2: walks, targets, comprehensions, statements, beside the text. -/
namespace DP
open PySem PySem.Spec PyProof.Rows L2
section
variable {G : Gm} {B : Bk} {a b c o tg iter elt e : Expr} {ea eb ec eo ee : E} {pos pos' p p2 apos cpos spos : Pos} {es : List Expr} {xs : List E}
theorem k_seq (ha : KE G B a ea) : KI G B tg a (.seq ea) := ⟨fun X h => s_seq (ha.p X h)⟩
theorem k_rng1 {i j : Nat} (h1 : B.sc.names[i]? = some (("range" : Str), .globalImplicit)) (h2 : G.free[j]? = some ("range" : Str)) (ha : KE G B a ea) (hn : nst a = true) : KI G B tg (.Call (.Name "range" p) [a] [] pos) (.rng1 ea) :=
  ⟨fun X h => s_rng1 (h.gl h1) (h.free _ (List.mem_of_getElem? h2)) (ha.p X h) (starEach_one hn _)⟩
theorem k_rng2 {i j : Nat} (h1 : B.sc.names[i]? = some (("range" : Str), .globalImplicit)) (h2 : G.free[j]? = some ("range" : Str)) (ha : KE G B a ea) (hb : KE G B b eb) (hn : nst a = true) (hn2 : nst b = true) : KI G B tg (.Call (.Name "range" p) [a, b] [] pos) (.rng2 ea eb) :=
  ⟨fun X h => s_rng2 (h.gl h1) (h.free _ (List.mem_of_getElem? h2)) (ha.p X h) (hb.p X h) ((starEach_one hn _).trans (by rw [starEach_one hn2]; rfl)) (starEach_one hn2 _)⟩
theorem k_enum {i j kk : Nat} {elts : List Expr} {tpos : Pos} (h1 : B.sc.names[i]? = some (("enumerate" : Str), .globalImplicit)) (h2 : G.free[j]? = some ("enumerate" : Str)) (ha : KE G B a ea) (hn : nst a = true) : KI G B (.Tuple elts kk tpos) (.Call (.Name "enumerate" p) [a] [] pos) (.enum ea) :=
  ⟨fun X h => s_enum (h.gl h1) (h.free _ (List.mem_of_getElem? h2)) (ha.p X h) (starEach_one hn _)⟩
theorem k_gn {i j : Nat} {x : Str} {k : NameKind} (h1 : B.N[i]? = some x) (h2 : B.sc.names[j]? = some (x, k)) (h3 : ownK B x k = true) : KG G B (.Name x pos) (.name i) :=
  ⟨fun X h => s_gname (pg_name h.nd (by rw [h.hN]; exact h1) (h.loc h2 (ownK_loc h3)) (h.own h2 h3))⟩
structure KGs (G : Gm) (B : Bk) (a : List Expr) (t : List Nat) : Prop where
  p : ∀ X, At G B X → PGs X a (tDGs X.K t)
  l : ∀ env, (assignEach a env).length = t.length
  s : ∀ env, (assignEach a env).findIdx? (·.1) = none
theorem k_gs0 : KGs G B [] [] := ⟨fun X h => s_gs0, fun _ => rfl, fun _ => rfl⟩
theorem assignEach_one {e : Expr} {es : List Expr} (h : nst e = true) (env : PySem.Env) : assignEach (e :: es) env = (false, assign e env) :: assignEach es env := by
  cases e <;> first | rfl | cases h
theorem k_gs1 {i j : Nat} {is : List Nat} {x : Str} {k : NameKind} (h1 : B.N[i]? = some x) (h2 : B.sc.names[j]? = some (x, k)) (h3 : ownK B x k = true) (hr : KGs G B es is) : KGs G B (.Name x pos :: es) (i :: is) :=
  ⟨fun X h => s_gs1 (pg_name h.nd (by rw [h.hN]; exact h1) (h.loc h2 (ownK_loc h3)) (h.own h2 h3)) (hr.p X h) (by rw [assignEach_one rfl]; rfl), fun env => by rw [assignEach_one rfl, List.length_cons, hr.l]; rfl, fun env => by
    rw [assignEach_one rfl, List.findIdx?_cons, hr.s]
    rfl⟩
theorem k_gt {is : List Nat} {j : Nat} (h : KGs G B es is) : KG G B (.Tuple es j pos) (.tup is) := ⟨fun X x => s_gtup x.calm (h.p X x) (h.l _) (h.s _)⟩
/-! comprehensions -/
theorem pts_weak {X : Cx} {e : List Expr} {t t' : TT} (h : PTs X e t) (f : ∀ σ H Q, t' σ H Q → t σ H Q) : PTs X e t' := ⟨fun pins s σ H Q I r => h.run pins s σ H Q I (f _ _ _ r)⟩
theorem k_if0 : KIf G B [] none := ⟨fun X h => pts_weak pts_nil fun σ H QT ⟨ρ, S, Q, re, hs, q, po⟩ => po true H S hs Kp.refl q⟩
theorem k_if1 (h : KT G B a ea) : KIf G B [a] (some ea) := ⟨fun X x => pts_one (h.p X x)⟩
theorem k_lc {ifs : List Expr} {scope : Scope} {own : List (Str × Nat)} {vs : List Nat} {t : TN} {it : I} {ei : Option E} (hok : blkC B.N B.sc scope own = true) (hsc : scC scope = true) (hv : own.map (·.2) = vs) (ht : decide (∀ i ∈ tnIds t, i ∈ vs) = true) (hs : nset iter = true)
    (hi : KI G B tg iter it) (hg : KG G (B.blk scope) tg t) (hf : KIf G (B.blk scope) ifs ei) (he : KE G (B.blk scope) elt ee) : KE G B (.ListComp elt [⟨tg, iter, ifs, 0⟩] scope pos) (.lc ee t it ei vs) := ⟨fun X h => by
  subst hv
  refine (s_lc (own := own) (t := t) h.calm h.nd (hi.p X h) (by rw [h.hN, h.sc]; exact blkOk_by hok) (of_decide_eq_true ht) (fun s H C cl fp => hg.p _ (h.blk hsc s H C cl fp)) (fun s H C cl fp => hf.p _ (h.blk hsc s H C cl fp)) (fun s H C cl fp => he.p _ (h.blk hsc s H C cl fp)) (nset_it hs _)).weak fun σ H QV h => h⟩
/-! ### statements -/
structure KS (G : Gm) (B : Bk) (s : Stmt) (c : C) : Prop where
  p : ∀ X, At G B X → PassesOwn (model X.prog X.w) X.A X.env X.xe → PS X s (tDS X.K (wS G.F c))
structure KSs (G : Gm) (B : Bk) (s : List Stmt) (c : List C) : Prop where
  p : ∀ X, At G B X → PassesOwn (model X.prog X.w) X.A X.env X.xe → PSs X s (tDS X.K (wSs G.F c))
theorem k_lc2 {tg1 iter1 : Expr} {ifs ifs1 : List Expr} {scope : Scope} {own : List (Str × Nat)} {vs vs1 : List Nat} {t t1 : TN} {it it1 : I} {ei ei1 : Option E} (hok : blkC B.N B.sc scope own = true) (hsc : scC scope = true) (hv : own.map (·.2) = vs) (ht : decide (∀ i ∈ tnIds t, i ∈ vs) = true) (hv1 : tnIds t1 = vs1) (ht1 : decide (∀ i ∈ tnIds t1, i ∈ vs) = true) (hs : nset iter = true) (hs1 : nset iter1 = true)
    (hi : KI G B tg iter it) (hg : KG G (B.blk scope) tg t) (hf : KIf G (B.blk scope) ifs ei) (hi1 : KI G (B.blk scope) tg1 iter1 it1) (hg1 : KG G (B.blk scope) tg1 t1) (hf1 : KIf G (B.blk scope) ifs1 ei1) (he : KE G (B.blk scope) elt ee) : KE G B (.ListComp elt [⟨tg, iter, ifs, 0⟩, ⟨tg1, iter1, ifs1, 0⟩] scope pos) (.lc2 ee t it ei t1 it1 ei1 vs vs1) := ⟨fun X h => by
  subst hv hv1
  refine (s_lc2 (own := own) (t := t) (t1 := t1) h.calm h.nd (hi.p X h) (by rw [h.hN, h.sc]; exact blkOk_by hok) (of_decide_eq_true ht) (of_decide_eq_true ht1) (fun s H C cl fp => hg.p _ (h.blk hsc s H C cl fp)) (fun s H C cl fp => hf.p _ (h.blk hsc s H C cl fp)) (fun s H C cl fp => hi1.p _ (h.blk hsc s H C cl fp)) (fun s H C cl fp => hg1.p _ (h.blk hsc s H C cl fp)) (fun s H C cl fp => hf1.p _ (h.blk hsc s H C cl fp)) (fun s H C cl fp => he.p _ (h.blk hsc s H C cl fp)) (nset_it hs _) (nset_it hs1)).weak fun σ H QV h => h⟩
theorem k_set {i j : Nat} {x : Str} {k : NameKind} (h1 : B.N[i]? = some x) (h2 : B.sc.names[j]? = some (x, k)) (h3 : ownK B x k = true) (he : KE G B a ea) (hs : ncomp a = true) : KS G B (.Assign [.Name x p] a pos) (.asg (.name i) ea) :=
  ⟨fun X h _ => s_set h.nd (by rw [h.hN]; exact h1) (h.loc h2 (ownK_loc h3)) (he.p X h) (ncomp_sw hs _ _ _) (h.own h2 h3)⟩
theorem k_setLc {i j : Nat} {x : Str} {ifs : List Expr} {scope : Scope} {own : List (Str × Nat)} {vs : List Nat} {t : TN} {it : I} {ei : Option E} (h1 : B.N[i]? = some x) (h2 : B.sc.names[j]? = some (x, .local)) (hk : B.sc.kind = .function) (hl : (p.line == pos.line) = true) (ha : (scope.names.any fun (n, k) => n == x && (k == .local || k == .cell)) = false)
    (hok : blkC B.N B.sc scope own = true) (hsc : scC scope = true) (hv : own.map (·.2) = vs) (ht : decide (∀ i ∈ tnIds t, i ∈ vs) = true) (hs : nset iter = true)
    (hi : KI G B tg iter it) (hg : KG G (B.blk scope) tg t) (hf : KIf G (B.blk scope) ifs ei) (he : KE G (B.blk scope) elt ee) : KS G B (.Assign [.Name x p] (.ListComp elt [⟨tg, iter, ifs, 0⟩] scope pos) spos) (.asg (.name i) (.lc ee t it ei vs)) := ⟨fun X h _ => by
  subst hv
  exact s_setLc (own := own) (t := t) h.calm h.nd (by rw [h.hN]; exact h1) (h.kind h2) (sw_true (by rw [h.sc]; exact hk) (h.kind h2) hl ha) (hi.p X h) (by rw [h.hN, h.sc]; exact blkOk_by hok) (of_decide_eq_true ht) (fun s H C cl fp => hg.p _ (h.blk hsc s H C cl fp)) (fun s H C cl fp => hf.p _ (h.blk hsc s H C cl fp)) (fun s H C cl fp => he.p _ (h.blk hsc s H C cl fp)) (nset_it hs _)⟩
/-- a comprehension to a name on another line, or to a cell: nothing is swapped -/
theorem k_setN {i j : Nat} {x : Str} {k : NameKind} (h1 : B.N[i]? = some x) (h2 : B.sc.names[j]? = some (x, k)) (h3 : ownK B x k = true) (he : KE G B a ea) (hs : (k == .local && p.line == a.pos.line) = false) : KS G B (.Assign [.Name x p] a pos) (.asg (.name i) ea) :=
  ⟨fun X h _ => s_set h.nd (by rw [h.hN]; exact h1) (h.loc h2 (ownK_loc h3)) (he.p X h) (by
    have hk : X.env.kindOf x = some k := h.kind h2
    by_cases hc : ncomp a = true
    · exact ncomp_sw hc _ _ _
    · have hb : (X.env.kindOf x == some .local && p.line == a.pos.line) = false := by
        rw [hk]
        cases k <;> first | exact hs | rfl
      unfold swapsWith
      cases a <;> first | (exact absurd rfl hc) | skip
      all_goals (simp only [Bool.and_assoc]; simp only [Bool.and_eq_false_iff] at hb; rcases hb with hb | hb <;> simp only [hb, Bool.false_and, Bool.and_false])
      all_goals rfl) (h.own h2 h3)⟩
structure KSt (G : Gm) (B : Bk) (tg : Expr) (t : TS) : Prop where
  p : ∀ X, At G B X → PG X tg (tDGt X.K (asgW G.F t))
  h1 : ∀ env, (assignEach [tg] env).map (·.2) = [assign tg env]
theorem k_tsub (ho : KE G B o eo) (hi : KE G B a ea) (hp : nsl a = true) : KSt G B (.Subscript o a pos) (.sub eo ea) :=
  ⟨fun X h => s_tsub h.units1 (by cases a <;> first | (intro _; rfl) | cases hp) (ho.p X h) (hi.p X h), fun env => by rw [assignEach_one rfl]; rfl⟩
theorem k_ttup {is : List Nat} {j : Nat} (h : KGs G B es is) : KSt G B (.Tuple es j pos) (.tup is) :=
  ⟨fun X x => (s_ttup ((k_gt h).p X x)).weak fun v σ H QV ⟨ρ, S, d, Q, re, hs, r, q, po⟩ => ⟨ρ, S, d, Q, re, hs, r, by
    cases d <;> first | exact q.elim | exact ⟨_, rfl, q⟩, po⟩, fun env => by rw [assignEach_one rfl]; rfl⟩
theorem nsw {t v : Expr} (h : ntup v = true) (env : PySem.Env) : swappedStores [t] v env = pure none := by
  cases v <;> first | (cases h; done) | skip
  all_goals (cases t <;> rfl)
theorem nsw2 {t v : Expr} (h : ntup t = true) (h2 : (match t with | .List .. => false | _ => true) = true) (env : PySem.Env) : swappedStores [t] v env = pure none := by
  cases t <;> first | (cases h; done) | (cases h2; done) | skip
  all_goals (cases v <;> rfl)
theorem swapsTup (a : Expr) (ts : List Expr) (j l : Nat) (p : Pos) (env : PySem.Env) : swapsWithSole [.Tuple ts j p] a l env = pure false := by
  show swapsWith a (some (.Tuple ts j p)) l env = pure false
  unfold swapsWith
  cases a <;> rfl
theorem swapsSub (a o i : Expr) (l : Nat) (p : Pos) (env : PySem.Env) : swapsWithSole [.Subscript o i p] a l env = pure false := by
  show swapsWith a (some (.Subscript o i p)) l env = pure false
  unfold swapsWith
  cases a <;> rfl
theorem k_asgTc {is : List Nat} {j : Nat} (h : KGs G B es is) (he : KE G B a ea) (ht : ntup a = true) : KS G B (.Assign [.Tuple es j p] a pos) (.asg (.tup is) ea) :=
  ⟨fun X x _ => s_asg (he.p X x) ((k_ttup h).p X x) (swapsTup _ _ _ _ _ _) (nsw ht _) ((k_ttup (pos := p) (j := j) h).h1 _)⟩
theorem k_asgS {i : Expr} {ei : E} (ho : KE G B o eo) (hi : KE G B i ei) (hp : nsl i = true) (he : KE G B a ea) : KS G B (.Assign [.Subscript o i p] a pos) (.asg (.sub eo ei) ea) :=
  ⟨fun X x _ => s_asg (he.p X x) ((k_tsub ho hi hp).p X x) (swapsSub _ _ _ _ _ _) (nsw2 rfl rfl _) ((k_tsub (pos := p) ho hi hp).h1 _)⟩
theorem k_exp (he : KE G B a ea) (hs : ncomp a = true) : KS G B (.Expr a pos) (.exp ea) := ⟨fun X h _ => s_exp (he.p X h) (ncomp_sw hs _ _ _)⟩
theorem k_ret (he : KE G B a ea) : KS G B (.Return (some a) pos) (.ret ea) := ⟨fun X h _ => s_ret (he.p X h)⟩
theorem k_ret0 : KS G B (.Return none pos) .ret0 := ⟨fun X h _ => s_ret0⟩
theorem k_pas : KS G B (.Pass pos) .pas := ⟨fun X h _ => s_pas⟩
theorem k_brk : KS G B (.Break pos) .brk := ⟨fun X h _ => s_brk⟩
theorem k_cnt : KS G B (.Continue pos) .cnt := ⟨fun X h _ => s_cnt⟩
theorem k_bad {s : Stmt} : KS G B s .bad := ⟨fun X h _ => ⟨fun pins z σ H D I ⟨ρ, S, nd, re, hs, q, _⟩ => q.elim⟩⟩
theorem k_nil : KSs G B [] [] := ⟨fun X h _ => s_nil⟩
theorem k_cons {s : Stmt} {ss : List Stmt} {x : C} {cs : List C} (h1 : KS G B s x) (h2 : KSs G B ss cs) : KSs G B (s :: ss) (x :: cs) := ⟨fun X h q => (s_cons (h1.p X h q) (h2.p X h q)).weak fun D σ H z => z⟩
theorem k_ife {ss ts : List Stmt} {cs ds : List C} (hc : KT G B c ec) (h1 : KSs G B ss cs) (h2 : KSs G B ts ds) : KS G B (.If c ss ts pos) (.ife ec cs ds) := ⟨fun X h q => s_ife (hc.p X h) (h1.p X h q) (h2.p X h q)⟩
theorem k_whl {ss : List Stmt} {cs : List C} (hc : KT G B c ec) (h1 : KSs G B ss cs) : KS G B (.While c ss [] pos) (.whl ec cs) := ⟨fun X h q => s_whl q (hc.p X h) (h1.p X h q)⟩
theorem k_for {ss : List Stmt} {cs : List C} {t : TN} {it : I} (hi : KI G B tg iter it) (hg : KG G B tg t) (h1 : KSs G B ss cs) (hs : nset iter = true) : KS G B (.For tg iter ss [] pos) (.for t it cs) := ⟨fun X h q => s_for q h.calm (hi.p X h) (hg.p X h) (h1.p X h q) (nset_it hs _)⟩
end
end DP

set_option maxRecDepth 100000
set_option maxHeartbeats 1000000
/-! DpK3: more rules beside the text: two targets at once, sorted(set(x)). -/
namespace DP
open PySem PySem.Spec PyProof.Rows L2
section
variable {G : Gm} {B : Bk} {a b c o tg iter elt e o1 i1 o2 i2 : Expr} {ea eb ec eo ee eo1 ei1 eo2 ei2 : E} {pos pos' p p2 apos cpos spos : Pos} {es : List Expr} {xs : List E}
theorem k_sset {i j i2 j2 : Nat} {q : Pos} (h1 : B.sc.names[i]? = some (("sorted" : Str), .globalImplicit)) (h2 : G.free[j]? = some ("sorted" : Str)) (h3 : B.sc.names[i2]? = some (("set" : Str), .globalImplicit)) (h4 : G.free[j2]? = some ("set" : Str)) (ha : KE G B a ea) (hn : nst a = true) :
    KE G B (.Call (.Name "sorted" p) [.Call (.Name "set" p2) [a] [] q] [] pos) (.sset ea) :=
  ⟨fun X h => s_sset h.calm h.units (h.gl h1) (h.free _ (List.mem_of_getElem? h2)) (h.gl h3) (h.free _ (List.mem_of_getElem? h4)) (ha.p X h) ((starEach_one hn _).trans rfl)⟩
theorem swapped2 {x y : Str} {px py pt pt2 : Pos} {kt k2 : Nat} {env : PySem.Env} (hk : env.scope.kind = .function) (hx : env.scope.names.lookup x = some .local) (hy : env.scope.names.lookup y = some .local) (hl : (px.line == py.line) = true) (hxy : (x == y) = false)
    (na : nst a = true) (nb : nst b = true) (hf : ([a, b].all (foldedForSure 8)) = false) (hc : ([a, b].all (constantsAlone 8)) = false) :
    swappedStores [.Tuple [.Name x px, .Name y py] kt pt] (.Tuple [a, b] k2 pt2) env = pure (some [x, y]) := by
  have k1 : env.kindOf x = some .local := hx
  have k2 : env.kindOf y = some .local := hy
  have bk : env.blockKind = .function := by unfold Env.blockKind; rw [hk]; rfl
  have yx : (y == x) = false := by rw [beq_eq_false_iff_ne] at hxy ⊢; exact fun z => hxy z.symm
  have hl2 : px.line = py.line := by simpa using hl
  have st : ([a, b].any fun | .Starred .. => true | _ => false) = false := by
    cases a <;> first | (cases na; done) | (cases b <;> first | (cases nb; done) | rfl)
  have er : [x, y].eraseDups = [x, y] := by simp [List.eraseDups_cons, yx]
  unfold swappedStores
  simp only [st, hf, hc, bk, k1, k2, List.filterMap_cons, List.filterMap_nil, List.head?_cons, Option.map_some, Option.getD_some, Expr.pos]
  simp [hl2, er]
  intro h
  rcases h with h | h
  · cases a <;> first | (cases na; done) | (cases h; done)
  · cases b <;> first | (cases nb; done) | (cases h; done)
theorem k_par {i j i2 j2 kt k2 : Nat} {x y : Str} {px py pt pt2 : Pos} (h1 : B.N[i]? = some x) (h2 : B.sc.names[i2]? = some (x, .local)) (h3 : B.N[j]? = some y) (h4 : B.sc.names[j2]? = some (y, .local)) (hij : i ≠ j) (hk : B.sc.kind = .function) (hl : (px.line == py.line) = true) (hxy : (x == y) = false)
    (na : nst a = true) (nb : nst b = true) (hf : ([a, b].all (foldedForSure 8)) = false) (hc : ([a, b].all (constantsAlone 8)) = false) (ha : KA G B [a, b] xs) :
    KS G B (.Assign [.Tuple [.Name x px, .Name y py] kt pt] (.Tuple [a, b] k2 pt2) pos) (.par i j xs) :=
  ⟨fun X h _ => s_par h.calm h.nd (by rw [h.hN]; exact h1) (by rw [h.hN]; exact h3) hij (h.kind h2) (h.kind h4) (ha.p X h) (swapped2 (by rw [h.sc]; exact hk) (h.kind h2) (h.kind h4) hl hxy na nb hf hc)⟩
theorem swappedS {p1 p2 pt pt2 : Pos} {kt k2 : Nat} {env : PySem.Env} {vs : List Expr} : swappedStores [.Tuple [.Subscript o1 i1 p1, .Subscript o2 i2 p2] kt pt] (.Tuple vs k2 pt2) env = pure none := by
  unfold swappedStores
  simp only [List.filterMap_cons, List.filterMap_nil]
  split
  · rfl
  · split
    · rfl
    · rfl
theorem k_asg2 {p1 p2 pt pt2 : Pos} {kt k2 : Nat} (ho1 : KE G B o1 eo1) (hi1 : KE G B i1 ei1) (hp1 : nsl i1 = true) (ho2 : KE G B o2 eo2) (hi2 : KE G B i2 ei2) (hp2 : nsl i2 = true) (ha : KA G B [a, b] xs) :
    KS G B (.Assign [.Tuple [.Subscript o1 i1 p1, .Subscript o2 i2 p2] kt pt] (.Tuple [a, b] k2 pt2) pos) (.asg2 eo1 ei1 eo2 ei2 xs) :=
  ⟨fun X h _ => (s_asg ((k_tup ha).p X h) (s_two h.calm ((k_tsub ho1 hi1 hp1).p X h) ((k_tsub ho2 hi2 hp2).p X h) (by rw [assignEach_one rfl]; rfl) (by rw [assignEach_one rfl]; rfl) (by rw [assignEach_one rfl, assignEach_one rfl]; rfl) (by rw [assignEach_one rfl, assignEach_one rfl]; rfl)) (swapsTup _ _ _ _ _ _) swappedS (by rw [assignEach_one rfl]; rfl)).weak fun Dn σ H ⟨ρ, S, nd, re, hs, q, r⟩ => by
    refine ⟨ρ, S, nd, re, hs, ?_, r⟩
    simp only [wS] at q
    exact q⟩
def eqC (neg : Bool) : CmpOp := match neg with
  | true => .NotEq
  | false => .Eq
theorem op_emp {X : Cx} (hu : X.A.units + 65 < cLine) : ∀ neg : Bool, OpR X (compareOp (eqC neg)) (rEmp X.K neg)
  | true => op_neEmp hu
  | false => op_eqEmp hu
/-- x == [], x != [] -/
theorem k_empL {neg : Bool} (ha : KE G B a ea) : KE G B (.Compare a [eqC neg] [.List [] p] pos) (.emp neg false ea) := ⟨fun X h =>
  (s_cmp (k := empK neg false) (op_emp h.units neg) (ha.p X h) ((k_lst (G := G) (B := B) (pos := p) k_a0).p X h) (by cases neg <;> rfl) fun x y v u S0 H0 S H Q QV r1 r2 hs k q po => l_emp r1 r2 hs k q po).weak fun σ H QV ⟨ρ, S, Q, re, hs, q, po⟩ => ⟨ρ, S, Q, re, hs, by
    simp only [wE] at q
    simp only [wE, wEs]
    exact q, po⟩⟩
theorem k_empT {neg : Bool} {j : Nat} (ha : KE G B a ea) : KE G B (.Compare a [eqC neg] [.Tuple [] j p] pos) (.emp neg true ea) := ⟨fun X h =>
  (s_cmp (k := empK neg true) (op_emp h.units neg) (ha.p X h) ((k_tup (G := G) (B := B) (pos := p) k_a0).p X h) (by cases neg <;> rfl) fun x y v u S0 H0 S H Q QV r1 r2 hs k q po => l_emp r1 r2 hs k q po).weak fun σ H QV ⟨ρ, S, Q, re, hs, q, po⟩ => ⟨ρ, S, Q, re, hs, by
    simp only [wE] at q
    simp only [wE, wEs]
    exact q, po⟩⟩
theorem k_empLT {neg : Bool} (ha : KE G B a ea) : KT G B (.Compare a [eqC neg] [.List [] p] pos) (.emp neg false ea) := ⟨fun X h =>
  (s_cmpT (k := empK neg false) (op_emp h.units neg) (ha.p X h) ((k_lst (G := G) (B := B) (pos := p) k_a0).p X h) (by cases neg <;> rfl) fun x y v u S0 H0 S H Q QV r1 r2 hs k q po => l_emp r1 r2 hs k q po).weak fun σ H QV ⟨ρ, S, Q, re, hs, q, po⟩ => ⟨ρ, S, Q, re, hs, by
    simp only [wT] at q
    simp only [wE, wEs]
    exact q, po⟩⟩
theorem k_empTT {neg : Bool} {j : Nat} (ha : KE G B a ea) : KT G B (.Compare a [eqC neg] [.Tuple [] j p] pos) (.emp neg true ea) := ⟨fun X h =>
  (s_cmpT (k := empK neg true) (op_emp h.units neg) (ha.p X h) ((k_tup (G := G) (B := B) (pos := p) k_a0).p X h) (by cases neg <;> rfl) fun x y v u S0 H0 S H Q QV r1 r2 hs k q po => l_emp r1 r2 hs k q po).weak fun σ H QV ⟨ρ, S, Q, re, hs, q, po⟩ => ⟨ρ, S, Q, re, hs, by
    simp only [wT] at q
    simp only [wE, wEs]
    exact q, po⟩⟩
end
end DP

set_option maxRecDepth 100000
set_option maxHeartbeats 1000000
/-! DpFn: the defs of a table, the law's end. -/
namespace DP
open PySem PySem.Spec PyProof.Rows L2
section
variable {P : Program} {w : World} {K : PySem.W.Frag} {mg : Str → Option Value} {base : Heap}
theorem env_start {H : Hp} {N : List Str} {b : Fn} {ds : List D} {vs : List V} (hN : N.length = b.ns) (r : RDs K H ds vs) : REnv K H (start N vs) (startE b ds) := by
  have hl := r.length
  refine ⟨?_, fun i d e => ?_⟩
  · show (vs.map some ++ List.replicate (N.length - vs.length) none).length = (ds.map some ++ List.replicate (b.ns - ds.length) none).length
    simp only [List.length_append, List.length_map, List.length_replicate]
    omega
  · have e' : (ds.map some ++ List.replicate (b.ns - ds.length) none)[i]? = some (some d) := e
    by_cases hi : i < ds.length
    · rw [List.getElem?_append_left (by rw [List.length_map]; exact hi), List.getElem?_map] at e'
      obtain ⟨d', e1, e2⟩ := Option.map_eq_some_iff.mp e'
      cases e2
      obtain ⟨v, e3, rv⟩ := r.get e1
      refine ⟨v, ?_, rv⟩
      show (vs.map some ++ List.replicate (N.length - vs.length) none)[i]? = _
      rw [List.getElem?_append_left (by rw [List.length_map]; omega), List.getElem?_map, e3]
      rfl
    · rw [List.getElem?_append_right (by rw [List.length_map]; omega)] at e'
      rw [List.getElem?_replicate] at e'
      split at e' <;> cases e'
/-- what is known of a def of the text -/
structure DefOk (P : Program) (K : PySem.W.Frag) (mg : Str → Option Value) (fns : List Str) (cst : List (Str × D)) (free : List Str) (x : Str) (b : Fn) : Prop where
  ex : ∃ (params : Arguments) (body : List Stmt) (scope : Scope) (N ps : List Str) (a : Addr) (fd : FuncData), FunD K x x params body scope [] [] a fd ∧ FnScope N ps scope ∧ ps.length = b.np ∧ N.length = b.ns ∧ scC scope = true ∧
    Binds K fd ps [] ∧ mg x = some (.ref a) ∧ ∀ (F : Fw) (n : Nat), KSs ⟨F, n, fns, cst, free⟩ ⟨N, scope, none⟩ body b.body
/-- every def of the table keeps its promise, at every depth -/
theorem fns_ok {T : List Fn} {fns : List Str} {cst : List (Str × D)} {free : List Str} (hd : ∀ (f : Nat) (x : Str), fns[f]? = some x → ∃ b, T[f]? = some b ∧ DefOk P K mg fns cst free x b) (hfree : ∀ x ∈ free, mg x = none)
    (hcst : ∀ x c, (x, c) ∈ cst → ∃ v u, mg x = some u ∧ RelV v u ∧ ∀ H, RD K H c v) : ∀ (n f : Nat) (x : Str), fns[f]? = some x → ∃ a fd ps, FnG P w K mg base CX0 n a fd ps (spD K (W T n f)) ∧ Binds K fd ps [] ∧ mg x = some (.ref a) ∧ PySem.W.keepIn K (.ref a) = true
  | 0, f, x, e => by
    obtain ⟨b, eb, params, body, scope, N, ps, a, fd, F, S, h1, h2, h3, bn, hm, hk⟩ := hd f x e
    refine ⟨a, fd, ps, ⟨fun vs H Q E h => ?_, fun A up s H args us vs Q E _ _ _ _ _ h => ?_⟩, bn, hm, F.kp⟩
    · obtain ⟨_, _, _, _, _, z, _⟩ := h; exact z.elim
    · obtain ⟨_, _, _, _, _, z, _⟩ := h; exact z.elim
  | n + 1, f, x, e => by
    obtain ⟨b, eb, params, body, scope, N, ps, a, fd, F, S, h1, h2, h3, bn, hm, hk⟩ := hd f x e
    refine ⟨a, fd, ps, fnG_of F S (fun vs H Q E h => ?_) (fun cdv A up s H vs Q E hg hr hsl h => ?_), bn, hm, F.kp⟩
    · obtain ⟨ds, S0, Qd, rd, rs, z, po⟩ := h
      rw [W_def eb] at z
      rw [← rd.length, z.1, h1]
    · obtain ⟨ds, S0, Qd, rd, rs, z, po⟩ := h
      rw [W_def eb] at z
      have at' : At ⟨W T n, n, fns, cst, free⟩ ⟨N, scope, none⟩ (cxOf CX0 P w K mg base N x scope a cdv A up s H E) :=
        ⟨rfl, hg, hr, S.nd, rfl, rfl, fun _ _ => rfl, scC_uq h3, scC_nod h3, fun f x e => fns_ok hd hfree hcst n f x e, hfree, hcst, hsl⟩
      refine ⟨_, (hk (W T n) n).p _ at' PassesOwn.leaving, startE b ds, S0, _, env_start h2 rd, rs, z.2, fun σ' H' ρ' S' _ s' k' q => ?_, po, fun _ _ _ _ _ _ _ q => q.elim, fun _ _ _ _ _ _ _ q => q.elim⟩
      exact po .non H' (.v .non) S' rfl s' k' q
/-- one def of it -/
theorem fn_ok {T : List Fn} {fns : List Str} {cst : List (Str × D)} {free : List Str} (hd : ∀ (f : Nat) (x : Str), fns[f]? = some x → ∃ b, T[f]? = some b ∧ DefOk P K mg fns cst free x b) (hfree : ∀ x ∈ free, mg x = none)
    (hcst : ∀ x c, (x, c) ∈ cst → ∃ v u, mg x = some u ∧ RelV v u ∧ ∀ H, RD K H c v) {n f : Nat} {x : Str} {b : Fn} {params : Arguments} {body : List Stmt} {scope : Scope} {N ps : List Str} {a : Addr} {fd : FuncData} (eb : T[f]? = some b)
    (F : FunD K x x params body scope [] [] a fd) (S : FnScope N ps scope) (h1 : ps.length = b.np) (h2 : N.length = b.ns) (h3 : scC scope = true) (hk : ∀ (F : Fw) (n : Nat), KSs ⟨F, n, fns, cst, free⟩ ⟨N, scope, none⟩ body b.body) : FnG P w K mg base CX0 (n + 1) a fd ps (spD K (W T (n + 1) f)) := by
  refine fnG_of F S (fun vs H Q E h => ?_) fun cdv A up s H vs Q E hg hr hsl h => ?_
  · obtain ⟨ds, S0, Qd, rd, rs, z, po⟩ := h
    rw [W_def eb] at z
    rw [← rd.length, z.1, h1]
  · obtain ⟨ds, S0, Qd, rd, rs, z, po⟩ := h
    rw [W_def eb] at z
    have at' : At ⟨W T n, n, fns, cst, free⟩ ⟨N, scope, none⟩ (cxOf CX0 P w K mg base N x scope a cdv A up s H E) :=
      ⟨rfl, hg, hr, S.nd, rfl, rfl, fun _ _ => rfl, scC_uq h3, scC_nod h3, fun f x e => fns_ok hd hfree hcst n f x e, hfree, hcst, hsl⟩
    refine ⟨_, (hk (W T n) n).p _ at' PassesOwn.leaving, startE b ds, S0, _, env_start h2 rd, rs, z.2, fun σ' H' ρ' S' _ s' k' q => ?_, po, fun _ _ _ _ _ _ _ q => q.elim, fun _ _ _ _ _ _ _ q => q.elim⟩
    exact po .non H' (.v .non) S' rfl s' k' q
end
/-! ### the law's end -/
/-- a law's promise by data: the script's whole numbers in a list that is never written -/
theorem end_call {P : Program} {w : World} {K : PySem.W.Frag} {mg mb : Str → Option Value} {k : Nat} {fa a : Addr} {fd : FuncData} {x : Str} {wl : List D → Sto → PR → Prop} {t : Shared} {vs : List Value} {ns : List Int}
    (inK : K.In t.heap) (gl : t.heap.Ns mainGlobals mg) (bl : t.heap.Ns builtinsNs mb) (boot : ∀ x : Str, x ≠ "__name__" → mb x = bootBuiltins x) (nolim : t.heap.NoLimit) (nogen : t.gens = #[])
    (at_a : t.heap.get? a = some { cls := .type "list", data := .seq vs.toArray }) (wholes : IntsAre vs ns) (few : ns.length ≤ sizeLine) (room : Room k callerA)
    (F : ∀ base : Heap, K.In base → base.Ns mainGlobals mg → FnG P w K mg base CX0 k fa fd [x] (spD K wl)) (bind1 : ∀ (s : Shared) (u : Value), BindsTo s fd ⟨[u], []⟩ [(x, u)])
    (law : wl [.fz (ns.map D.int)] (fun _ => none) fun r _ => r = .v (.bl true)) :
    codeAny (model P w) callerA (.call (.ref fa) ⟨[.ref a], []⟩) (fun r s' => r = .ok (.ret (.bool true)) ∧ OldK t.heap s'.heap ∧ s'.os = t.os ∧ AllBare s'.gens) t := by
  have vals := vals_ints wholes
  have size := wholes.length
  have rdI : ∀ (H : Hp) (l : List Int), RDs K H (l.map D.int) (l.map V.int) := fun H l => by
    induction l with
    | nil => simp only [List.map_nil, RDs]
    | cons i l ih => simp only [List.map_cons, RDs]; exact ⟨_, _, rfl, rfl, ih⟩
  have main : ∀ H : Hp, FzL K H a (ns.map V.int) → HOk P w H t.heap → (∀ b, H b ≠ none → b = a ∧ ∃ o u, H b = some (.frz o (.lst u)) ∧ K.lookup a = none) →
      codeAny (model P w) callerA (.call (.ref fa) ⟨[.ref a], []⟩) (fun r s' => r = .ok (.ret (.bool true)) ∧ OldK t.heap s'.heap ∧ s'.os = t.os ∧ AllBare s'.gens) t := by
    intro H fz ok only
    have keeps : ∀ {b : Addr} {o : Obj}, t.heap.get? b = some o → (H b = none ∨ b ≠ a) → (hidT t.heap H).get? b = some o := fun {b o} e n => hidT_get e (n.elim id fun ne => by
      cases q : H b with
      | none => rfl
      | some u => exact absurd (only b (by rw [q]; simp)).1 ne)
    have keepNs : ∀ {b : Addr} {m : Str → Option Value}, t.heap.Ns b m → (hidT t.heap H).Ns b m := fun {b m} h => by
      obtain ⟨o, es, ep, e, d, r⟩ := h
      refine ⟨o, es, ep, keeps e (.inr fun z => ?_), d, r⟩
      subst z
      have e2 := e.symm.trans at_a
      cases e2
      cases d
    have inB : K.In (hidT t.heap H) := fun b o e => keeps (inK b o e) (by
      cases q : H b with
      | none => exact .inl rfl
      | some u =>
        refine .inr fun z => ?_
        obtain ⟨_, _, _, _, z2⟩ := only b (by rw [q]; simp)
        subst z
        rw [z2] at e
        cases e)
    have modu : Mod K mg (hidT t.heap H) := by
      obtain ⟨mc, c1, c2⟩ := nolim
      exact ⟨inB, keepNs gl, ⟨mb, keepNs bl, boot⟩, mc, keepNs c1, c2⟩
    have env : Env0 P w K mg (hidT t.heap H) callerA [] t H := by
      refine ⟨rfl, modu, fun b o e => of_hidT e, Nat.le_of_eq (hidT_size _ _), trivial, fun b hb => ?_, ok, .of_eq nogen⟩
      exact absurd (show b ∈ ([] : List Addr) from hb) List.not_mem_nil
    have sp : spD K wl [.ref a] H (fun v _ => v = .bl true) E0 := by
      refine ⟨[.fz (ns.map D.int)], fun _ => none, _, ?_, fun b o e => (nomatch e), law, fun v H' r S' rr _ _ q => ?_⟩
      · simp only [RDs, RD]
        exact ⟨_, _, rfl, ⟨a, _, rfl, fz, rdI H ns⟩, rfl⟩
      · subst q
        exact rr
    refine codeAny_mono ((F _ inB (keepNs gl)).go callerA [] t H ⟨[.ref a], []⟩ [.ref a] [.ref a] _ E0 rfl room env (bind1 t (.ref a)) (.cons rfl .nil) sp) fun r s' h => ?_
    match r, h with
    | .error _, h => exact h.elim
    | .ok .next, h => exact h.elim
    | .ok .brk, h => exact h.elim
    | .ok .cont, h => exact h.elim
    | .ok (.ret u), h =>
      obtain ⟨v, H', e1, e2, un, ok2, rv, q⟩ := h
      have q : v = .bl true := q
      subst q
      cases (show u = Value.bool true from rv)
      refine ⟨rfl, .of_keep fun b o e => ?_, e1, e2⟩
      cases q : H b with
      | none => exact un.keep b o e q (fun z => absurd (show b ∈ ([] : List Addr) from z) List.not_mem_nil) List.not_mem_nil
      | some u =>
        obtain ⟨_, ob, us, z, _⟩ := only b (by rw [q]; simp)
        obtain ⟨g1, _⟩ := ok b _ z
        obtain ⟨g2, _⟩ := ok2 b _ (un.frzs b ob _ z)
        cases e.symm.trans g1
        exact g2
  cases hk : K.lookup a with
  | some o =>
    cases (inK a o hk).symm.trans at_a
    refine main (fun _ => none) (.inr ⟨_, vs.toArray, _, hk, rfl, rfl, rfl, ?_, by simpa using vals⟩) (fun b u z => by cases (show (none : Option HO) = some u from z)) fun b z => (z rfl).elim
    rw [List.size_toArray, size]
    exact few
  | none =>
    let H : Hp := fun b => if b = a then some (.frz { cls := .type "list", data := .seq vs.toArray } (.lst (ns.map V.int))) else none
    have Ha : H a = some (.frz { cls := .type "list", data := .seq vs.toArray } (.lst (ns.map V.int))) := if_pos rfl
    have Hn : ∀ b, H b ≠ none → b = a := fun b z => Classical.byContradiction fun ne => z (if_neg ne)
    refine main H (.inl ⟨_, Ha⟩) (fun b u z => ?_) fun b z => ?_
    · cases Hn b (by rw [z]; simp)
      cases Ha.symm.trans z
      exact ⟨at_a, by rw [List.length_map]; exact few, vs, _, vals, at_a⟩
    · cases Hn b z
      exact ⟨rfl, _, _, Ha, hk⟩
/-- the goal that the head leaves -/
theorem end_walk {l : PySem.W.OpenLaw} {n k : Nat} {q : Program} {loose : List Str} {XP : (Str → Option Value) → Heap → Prop} {YP : World → Heap → Prop} {d : DefRec} {x : Str} (most : l.most = some n) (few : n ≤ sizeLine) (nodefs : d.params.defaults = []) (room : Room k callerA)
    (F : ∀ (w : World) (mg : Str → Option Value) (fa : Addr) (h : Heap), YP w h → h.Ns mainGlobals mg → mg d.name = some (.ref fa) → ∃ (K : PySem.W.Frag) (fd : FuncData) (wl : List D → Sto → PR → Prop), K.In h ∧ (∀ (s : Shared) (u : Value), BindsTo s fd ⟨[u], []⟩ [(x, u)]) ∧
        (∀ ns : List Int, ns.length ≤ n → wl [.fz (ns.map D.int)] (fun _ => none) fun r _ => r = .v (.bl true)) ∧ ∀ base : Heap, K.In base → base.Ns mainGlobals mg → FnG l.prog w K mg base CX0 k fa fd [x] (spD K wl)) :
    PySem.W.WalkO q loose XP YP l.row.toRowW d [] (fun f vs => PySem.call f vs) := by
  refine Att.attach_call most nodefs fun w s0 t mg mb fa o pm cd doc a vs ns G Y _ _ _ hmg at_a wholes len nogen => ?_
  obtain ⟨K, fd, wl, inK, bind1, law, FG⟩ := F w mg fa _ Y G.T.g hmg
  exact end_call inK G.T.g G.T.b G.T.builtins G.T.nolimit nogen at_a wholes (Nat.le_trans len few) room FG bind1 (law ns len)
end DP

set_option maxRecDepth 100000
set_option maxHeartbeats 1000000
/-! DpR: the terms run by rules, in plain Lean. -/
namespace DP
open PySem L2
section
variable {F : Fw} {ρ : Env} {S : Sto} {Q : PR} {a b c e i o : E} {es cs' : List E} {cs : List C}
/-! expressions -/
theorem r_var {i : Nat} {d : D} (h : ρ[i]? = some (some d)) (q : Q (.v d) S) : wE F (.var i) ρ S Q := ⟨d, h, q⟩
theorem r_cst {d : D} (q : Q (.v d) S) : wE F (.cst d) ρ S Q := q
theorem r_glo {x : Str} {d : D} (q : Q (.v d) S) : wE F (.glo x d) ρ S Q := q
theorem r_tup (q : wEs F es ρ S fun ds S' => ds.length ≤ sizeLine ∧ Q (.v (.tup ds)) S') : wE F (.tup es) ρ S Q := q
theorem r_lst (q : wEs F es ρ S fun ds S' => ds.length ≤ sizeLine ∧ Q (.n (.lst ds)) S') : wE F (.lst es) ρ S Q := q
theorem r_dK {ks : List Key} (q : wEs F es ρ S fun ds S' => Q (.n (.dK (ks.zip ds))) S') : wE F (.dK ks es) ρ S Q := q
theorem r_bin {o : BOp} (q : wE F a ρ S fun x S1 => wE F b ρ S1 fun y S2 => opW o x y S2 Q) : wE F (.bin o a b) ρ S Q := q
theorem r_neg (q : wE F a ρ S fun x S1 => ∃ i, x = .v (.int i) ∧ Q (.v (.int (-i))) S1) : wE F (.neg a) ρ S Q := q
theorem r_cmp {o : COp} (q : wE F a ρ S fun x S1 => wE F b ρ S1 fun y S2 => cmpW o x y S2 Q) : wE F (.cmp o a b) ρ S Q := q
theorem r_chn {o p : COp} (q : wE F a ρ S fun x S1 => wE F b ρ S1 fun y S2 => cmpW o x y S2 fun z S3 => ∃ k, z = .v (.bl k) ∧ if k = true then wE F c ρ S3 fun w S4 => cmpW p y w S4 Q else Q (.v (.bl false)) S3) : wE F (.chn o p a b c) ρ S Q := q
theorem r_not (q : wE F a ρ S fun x S1 => ∃ k, tru S1 x = some k ∧ Q (.v (.bl (!k))) S1) : wE F (.not a) ρ S Q := q
theorem r_and (q : wE F a ρ S fun x S1 => ∃ k, tru S1 x = some k ∧ if k = true then wE F b ρ S1 Q else Q x S1) : wE F (.and a b) ρ S Q := q
theorem r_or (q : wE F a ρ S fun x S1 => ∃ k, tru S1 x = some k ∧ if k = true then Q x S1 else wE F b ρ S1 Q) : wE F (.or a b) ρ S Q := q
theorem r_ite (q : wT F c ρ S fun k S1 => if k = true then wE F a ρ S1 Q else wE F b ρ S1 Q) : wE F (.ite c a b) ρ S Q := q
theorem r_ix (q : wE F a ρ S fun x S1 => wE F i ρ S1 fun y S2 => ixW x y S2 Q) : wE F (.ix a i) ρ S Q := q
theorem r_sl {lo hi : Option E} (q : wE F a ρ S fun x S1 => wO F lo ρ S1 fun l S2 => wO F hi ρ S2 fun h S3 => slW x l h S3 Q) : wE F (.sl a lo hi) ρ S Q := q
theorem r_rev (q : wE F a ρ S fun x S1 => revW x S1 Q) : wE F (.rev a) ρ S Q := q
theorem r_isi {t : Ty} (q : wE F a ρ S fun x S1 => ∃ b, isTy S1 x t = some b ∧ Q (.v (.bl b)) S1) : wE F (.isi a t) ρ S Q := q
theorem r_bi {b : Bi} (q : wRs F es ρ S fun rs S1 => biW b rs S1 Q) : wE F (.bi b es) ρ S Q := q
theorem r_me {m : Me} (q : wE F o ρ S fun x S1 => meTy m x S1 ∧ wEs F es ρ S1 fun ds S2 => meW m x ds S2 Q) : wE F (.me m o es) ρ S Q := q
theorem r_call {f : Nat} (q : wEs F es ρ S fun ds S1 => F f ds S1 Q) : wE F (.call f es) ρ S Q := q
theorem r_lc {elt : E} {tg : TN} {it : I} {ifs : Option E} {own : List Nat} (q : wI F it ρ S fun xs hold S1 => lcL (fun x S2 k => bindN tg x (wipeE ρ own) fun ρ' => wOT F ifs ρ' S2 fun b S3 =>
      if b = true then wE F elt ρ' S3 fun r S4 => mat r S4 fun d S5 => k (some d) S5 else k none S3) hold xs [] S1 fun ds S2 => Q (.n (.lst ds)) S2) : wE F (.lc elt tg it ifs own) ρ S Q := q
theorem r_es0 {Q : List D → Sto → Prop} (q : Q [] S) : wEs F [] ρ S Q := q
theorem r_es1 {Q : List D → Sto → Prop} (q : wE F e ρ S fun r S1 => mat r S1 fun d S2 => wEs F es ρ S2 fun ds S3 => Q (d :: ds) S3) : wEs F (e :: es) ρ S Q := q
theorem r_rs0 {Q : List R → Sto → Prop} (q : Q [] S) : wRs F [] ρ S Q := q
theorem r_rs1 {Q : List R → Sto → Prop} (q : wE F e ρ S fun r S1 => wRs F es ρ S1 fun rs S2 => Q (r :: rs) S2) : wRs F (e :: es) ρ S Q := q
theorem r_o0 {Q : Option Int → Sto → Prop} (q : Q none S) : wO F none ρ S Q := q
theorem r_o1 {Q : Option Int → Sto → Prop} (q : wE F e ρ S fun r S' => partW r fun i => Q i S') : wO F (some e) ρ S Q := q
theorem r_part {i : Int} {Q : Option Int → Prop} (q : Q (some i)) : partW (.v (.int i)) Q := q
theorem r_ot0 {Q : Bool → Sto → Prop} (q : Q true S) : wOT F none ρ S Q := q
theorem r_ot1 {Q : Bool → Sto → Prop} (q : wT F e ρ S Q) : wOT F (some e) ρ S Q := q
theorem r_mv {d : D} {Q : PD} (q : Q d S) : mat (.v d) S Q := q
theorem r_mn {o : Ob} {Q : PD} (q : ∀ a, S a = none → Q (.ref a) (up S a o)) : mat (.n o) S Q := q
/-! tests -/
section
variable {Q : Bool → Sto → Prop}
theorem t_not (q : wT F a ρ S fun k S1 => Q (!k) S1) : wT F (.not a) ρ S Q := q
theorem t_and (q : wT F a ρ S fun k S1 => if k = true then wT F b ρ S1 Q else Q false S1) : wT F (.and a b) ρ S Q := q
theorem t_or (q : wT F a ρ S fun k S1 => if k = true then Q true S1 else wT F b ρ S1 Q) : wT F (.or a b) ρ S Q := q
theorem t_cmp {o : COp} (q : wE F a ρ S fun x S1 => wE F b ρ S1 fun y S2 => cmpW o x y S2 fun z S3 => ∃ k, z = .v (.bl k) ∧ Q k S3) : wT F (.cmp o a b) ρ S Q := q
theorem t_chn {o p : COp} (q : wE F a ρ S fun x S1 => wE F b ρ S1 fun y S2 => cmpW o x y S2 fun z S3 => ∃ k, z = .v (.bl k) ∧
      if k = true then wE F c ρ S3 fun w S4 => cmpW p y w S4 fun z S5 => ∃ k, z = .v (.bl k) ∧ Q k S5 else Q false S3) : wT F (.chn o p a b c) ρ S Q := q
theorem t_var {i : Nat} {d : D} (h : ρ[i]? = some (some d)) (q : ∃ k, tru S (.v d) = some k ∧ Q k S) : wT F (.var i) ρ S Q := ⟨d, h, q⟩
theorem t_isi {t : Ty} (q : wE F a ρ S fun x S1 => ∃ b, isTy S1 x t = some b ∧ ∃ k, tru S1 (.v (.bl b)) = some k ∧ Q k S1) : wT F (.isi a t) ρ S Q := q
theorem t_bi {b : Bi} (q : wRs F es ρ S fun rs S1 => biW b rs S1 fun z S2 => ∃ k, tru S2 z = some k ∧ Q k S2) : wT F (.bi b es) ρ S Q := q
theorem t_me {m : Me} (q : wE F o ρ S fun x S1 => meTy m x S1 ∧ wEs F es ρ S1 fun ds S2 => meW m x ds S2 fun z S2 => ∃ k, tru S2 z = some k ∧ Q k S2) : wT F (.me m o es) ρ S Q := q
theorem t_call {f : Nat} (q : wEs F es ρ S fun ds S1 => F f ds S1 fun z S2 => ∃ k, tru S2 z = some k ∧ Q k S2) : wT F (.call f es) ρ S Q := q
theorem t_ix (q : wE F a ρ S fun x S1 => wE F i ρ S1 fun y S2 => ixW x y S2 fun z S2 => ∃ k, tru S2 z = some k ∧ Q k S2) : wT F (.ix a i) ρ S Q := q
end
theorem x_bl {k : Bool} {P : Bool → Prop} (h : P k) : ∃ j, (R.v (.bl k)) = .v (.bl j) ∧ P j := ⟨k, rfl, h⟩
theorem x_int {k : Int} {P : Int → Prop} (h : P k) : ∃ j, (R.v (.int k)) = .v (.int j) ∧ P j := ⟨k, rfl, h⟩
theorem x_tru {r : R} {k : Bool} {P : Bool → Prop} (e : tru S r = some k) (h : P k) : ∃ j, tru S r = some j ∧ P j := ⟨k, e, h⟩
theorem x_isi {r : R} {t : Ty} {k : Bool} {P : Bool → Prop} (e : isTy S r t = some k) (h : P k) : ∃ j, isTy S r t = some j ∧ P j := ⟨k, e, h⟩
/-! branches -/
section
variable {A B P : Prop} [Decidable P]
theorem i_T (h : A) : if true = true then A else B := h
theorem i_F (h : B) : if false = true then A else B := h
theorem i_nT (h : B) : if (!true) = true then A else B := h
theorem i_nF (h : A) : if (!false) = true then A else B := h
theorem i_D (p : P) (h : A) : if decide P = true then A else B := by rw [if_pos (decide_eq_true p)]; exact h
theorem i_N (p : ¬P) (h : B) : if decide P = true then A else B := by rw [if_neg (by simp [p])]; exact h
theorem i_nD (p : ¬P) (h : A) : if (!decide P) = true then A else B := by rw [if_pos (by simp [p])]; exact h
theorem i_nN (p : P) (h : B) : if (!decide P) = true then A else B := by rw [if_neg (by simp [p])]; exact h
theorem i_eT {k : Bool} (p : k = true) (h : A) : if k = true then A else B := by rw [if_pos p]; exact h
theorem i_eF {k : Bool} (p : k = false) (h : B) : if k = true then A else B := by rw [if_neg (by simp [p])]; exact h
theorem i_neT {k : Bool} (p : k = true) (h : B) : if (!k) = true then A else B := by rw [if_neg (by simp [p])]; exact h
theorem i_neF {k : Bool} (p : k = false) (h : A) : if (!k) = true then A else B := by rw [if_pos (by simp [p])]; exact h
end
/-! operators -/
theorem o_addI {i j : Int} (q : Q (.v (.int (i + j))) S) : opW .add (.v (.int i)) (.v (.int j)) S Q := q
theorem o_addS {i j : Str} (h : i.length + j.length ≤ sizeLine) (q : Q (.v (.str (i ++ j))) S) : opW .add (.v (.str i)) (.v (.str j)) S Q := ⟨h, q⟩
theorem o_addT {i j : List D} (h : i.length + j.length ≤ sizeLine) (q : Q (.v (.tup (i ++ j))) S) : opW .add (.v (.tup i)) (.v (.tup j)) S Q := ⟨h, q⟩
theorem o_addRR {x y : Addr} {i j : List D} (h1 : S x = some (.lst i)) (h2 : S y = some (.lst j)) (h : i.length + j.length ≤ sizeLine) (q : Q (.n (.lst (i ++ j))) S) : opW .add (.v (.ref x)) (.v (.ref y)) S Q := ⟨i, j, h1, h2, h, q⟩
theorem o_addRN {x : Addr} {i j : List D} (h1 : S x = some (.lst i)) (h : i.length + j.length ≤ sizeLine) (q : Q (.n (.lst (i ++ j))) S) : opW .add (.v (.ref x)) (.n (.lst j)) S Q := ⟨i, j, h1, rfl, h, q⟩
theorem o_addNR {y : Addr} {i j : List D} (h2 : S y = some (.lst j)) (h : i.length + j.length ≤ sizeLine) (q : Q (.n (.lst (i ++ j))) S) : opW .add (.n (.lst i)) (.v (.ref y)) S Q := ⟨i, j, rfl, h2, h, q⟩
theorem o_addNN {i j : List D} (h : i.length + j.length ≤ sizeLine) (q : Q (.n (.lst (i ++ j))) S) : opW .add (.n (.lst i)) (.n (.lst j)) S Q := ⟨i, j, rfl, rfl, h, q⟩
theorem o_sub {i j : Int} (q : Q (.v (.int (i - j))) S) : opW .sub (.v (.int i)) (.v (.int j)) S Q := q
theorem o_mulI {i j : Int} (h : CMul i j) (q : Q (.v (.int (i * j))) S) : opW .mul (.v (.int i)) (.v (.int j)) S Q := ⟨h, q⟩
theorem o_mulS {z : Str} {k : Int} (h : 1 ≤ z.length ∧ z.length ≤ 1000 ∧ 2 ≤ k ∧ k ≤ 1000) (q : Q (.v (.str (repS z k.toNat))) S) : opW .mul (.v (.str z)) (.v (.int k)) S Q := ⟨h.1, h.2.1, h.2.2.1, h.2.2.2, q⟩
theorem o_mulN {k : Int} {i : List D} (h : -(2 ^ 63) ≤ k ∧ k < 2 ^ 63 ∧ i.length * k.toNat ≤ sizeLine) (q : Q (.n (.lst (List.replicate k.toNat i).flatten)) S) : opW .mul (.n (.lst i)) (.v (.int k)) S Q := ⟨i, k, rfl, rfl, h.1, h.2.1, h.2.2, q⟩
theorem o_mulR {k : Int} {x : Addr} {i : List D} (h1 : S x = some (.lst i)) (h : -(2 ^ 63) ≤ k ∧ k < 2 ^ 63 ∧ i.length * k.toNat ≤ sizeLine) (q : Q (.n (.lst (List.replicate k.toNat i).flatten)) S) : opW .mul (.v (.ref x)) (.v (.int k)) S Q := ⟨i, k, h1, rfl, h.1, h.2.1, h.2.2, q⟩
theorem o_fdiv {i j : Int} (h : j ≠ 0 ∧ j.natAbs < 1073741824) (q : Q (.v (.int (i.fdiv j))) S) : opW .fdiv (.v (.int i)) (.v (.int j)) S Q := ⟨h, q⟩
theorem o_mod {i j : Int} (h : j ≠ 0) (q : Q (.v (.int (i.fmod j))) S) : opW .mod (.v (.int i)) (.v (.int j)) S Q := ⟨h, q⟩
theorem o_pow {i j : Int} (h : 0 ≤ j ∧ j ≤ 1000000 ∧ i.natAbs < 2 ^ 64) (q : Q (.v (.int (i ^ j.toNat))) S) : opW .pow (.v (.int i)) (.v (.int j)) S Q := ⟨h, q⟩
/-! comparisons -/
theorem c_eqI {i j : Int} (q : Q (.v (.bl (decide (i = j)))) S) : cmpW .eq (.v (.int i)) (.v (.int j)) S Q := q
theorem c_eqS {i j : Str} (q : Q (.v (.bl (decide (i = j)))) S) : cmpW .eq (.v (.str i)) (.v (.str j)) S Q := q
theorem c_eqB {i j : Bool} (q : Q (.v (.bl (decide (i = j)))) S) : cmpW .eq (.v (.bl i)) (.v (.bl j)) S Q := q
theorem c_neI {i j : Int} (q : Q (.v (.bl (!decide (i = j)))) S) : cmpW .ne (.v (.int i)) (.v (.int j)) S Q := q
theorem c_neS {i j : Str} (q : Q (.v (.bl (!decide (i = j)))) S) : cmpW .ne (.v (.str i)) (.v (.str j)) S Q := q
theorem c_neB {i j : Bool} (q : Q (.v (.bl (!decide (i = j)))) S) : cmpW .ne (.v (.bl i)) (.v (.bl j)) S Q := q
theorem c_ltI {i j : Int} (q : Q (.v (.bl (decide (i < j)))) S) : cmpW .lt (.v (.int i)) (.v (.int j)) S Q := q
theorem c_ltS {i j : Str} (q : Q (.v (.bl (decide (i.cps.toList < j.cps.toList)))) S) : cmpW .lt (.v (.str i)) (.v (.str j)) S Q := q
theorem c_gtI {i j : Int} (q : Q (.v (.bl (decide (j < i)))) S) : cmpW .gt (.v (.int i)) (.v (.int j)) S Q := q
theorem c_leI {i j : Int} (q : Q (.v (.bl (decide (i ≤ j)))) S) : cmpW .le (.v (.int i)) (.v (.int j)) S Q := q
theorem c_geI {i j : Int} (q : Q (.v (.bl (decide (j ≤ i)))) S) : cmpW .ge (.v (.int i)) (.v (.int j)) S Q := q
theorem c_inS {i j : Str} (q : Q (.v (.bl (inStr i j))) S) : cmpW .isin (.v (.str i)) (.v (.str j)) S Q := q
theorem c_ninS {i j : Str} (q : Q (.v (.bl (!inStr i j))) S) : cmpW .notin (.v (.str i)) (.v (.str j)) S Q := q
theorem c_isN {d : D} (hd : isW (.v d) (.v .non) fun b => Q (.v (.bl b)) S) : cmpW .is (.v d) (.v .non) S Q := hd
/-! parts -/
theorem p_str {z : Str} {i : Int} {c : Nat} (h : z.length ≤ sizeLine) (e : atI z.cps.toList i = some c) (q : Q (.v (.str ⟨#[c]⟩)) S) : ixW (.v (.str z)) (.v (.int i)) S Q := ⟨h, c, e, q⟩
theorem p_tup {xs : List D} {i : Int} {d : D} (e : atI xs i = some d) (q : Q (.v d) S) : ixW (.v (.tup xs)) (.v (.int i)) S Q := .inl ⟨xs, d, rfl, e, q⟩
theorem p_lstN {xs : List D} {i : Int} {d : D} (e : atI xs i = some d) (q : Q (.v d) S) : ixW (.n (.lst xs)) (.v (.int i)) S Q := .inl ⟨xs, d, rfl, e, q⟩
theorem lstOf_ref {x : Addr} {xs : List D} (h : S x = some (.lst xs)) : lstOf S (.v (.ref x)) = some xs := by
  show (match S x with | some (.lst xs) => some xs | _ => none) = _
  rw [h]
theorem seqOf_ref {x : Addr} {xs : List D} (h : S x = some (.lst xs)) : seqOf S (.v (.ref x)) = some xs := lstOf_ref h
theorem p_lst {x : Addr} {xs : List D} {i : Int} {d : D} (h : S x = some (.lst xs)) (e : atI xs i = some d) (q : Q (.v d) S) : ixW (.v (.ref x)) (.v (.int i)) S Q := .inl ⟨xs, d, seqOf_ref h, e, q⟩
theorem p_dK {x : Addr} {kvs : List (Key × D)} {k : Str} {d : D} (h : S x = some (.dK kvs)) (e : valD kvs (.inr k) = some d) (q : Q (.v d) S) : ixW (.v (.ref x)) (.v (.str k)) S Q := ⟨kvs, d, h, e, q⟩
theorem l_str {z : Str} {lo hi : Option Int} (h : z.length ≤ sizeLine) (q : Q (.v (.str ⟨(cut z.cps.toList lo hi).toArray⟩)) S) : slW (.v (.str z)) lo hi S Q := ⟨h, q⟩
theorem l_tup {xs : List D} {lo hi : Option Int} (q : Q (.v (.tup (cut xs lo hi))) S) : slW (.v (.tup xs)) lo hi S Q := q
theorem l_fz {xs : List D} {lo hi : Option Int} (q : Q (.n (.lst (cut xs lo hi))) S) : slW (.v (.fz xs)) lo hi S Q := q
theorem l_lstN {xs : List D} {lo hi : Option Int} (q : Q (.n (.lst (cut xs lo hi))) S) : slW (.n (.lst xs)) lo hi S Q := q
theorem l_lst {x : Addr} {xs : List D} {lo hi : Option Int} (h : S x = some (.lst xs)) (q : Q (.n (.lst (cut xs lo hi))) S) : slW (.v (.ref x)) lo hi S Q := by
  show match lstOf S (.v (.ref x)) with | some xs => _ | none => _
  rw [lstOf_ref h]
  exact q
theorem v_tup {xs : List D} (q : Q (.v (.tup xs.reverse)) S) : revW (.v (.tup xs)) S Q := q
theorem v_lstN {xs : List D} (q : Q (.n (.lst xs.reverse)) S) : revW (.n (.lst xs)) S Q := q
theorem v_lst {x : Addr} {xs : List D} (h : S x = some (.lst xs)) (q : Q (.n (.lst xs.reverse)) S) : revW (.v (.ref x)) S Q := by
  show match lstOf S (.v (.ref x)) with | some xs => _ | none => _
  rw [lstOf_ref h]
  exact q
/-! built-ins -/
theorem b_lenS {z : Str} (h : z.length ≤ sizeLine) (q : Q (.v (.int z.length)) S) : biW .len [.v (.str z)] S Q := ⟨h, q⟩
theorem b_lenT {xs : List D} (q : Q (.v (.int xs.length)) S) : biW .len [.v (.tup xs)] S Q := .inl ⟨xs, rfl, q⟩
theorem b_lenN {xs : List D} (q : Q (.v (.int xs.length)) S) : biW .len [.n (.lst xs)] S Q := .inl ⟨xs, rfl, q⟩
theorem b_lenL {x : Addr} {xs : List D} (h : S x = some (.lst xs)) (q : Q (.v (.int xs.length)) S) : biW .len [.v (.ref x)] S Q := .inl ⟨xs, seqOf_ref h, q⟩
theorem b_abs {i : Int} (q : Q (.v (.int (if i < 0 then -i else i))) S) : biW .abs [.v (.int i)] S Q := q
theorem b_intI {i : Int} (q : Q (.v (.int i)) S) : biW .int [.v (.int i)] S Q := q
theorem b_intB {k : Bool} (q : Q (.v (.int (if k then 1 else 0))) S) : biW .int [.v (.bl k)] S Q := q
theorem b_tuplN {xs : List D} (q : Q (.v (.tup xs)) S) : biW .tupl [.n (.lst xs)] S Q := ⟨xs, rfl, q⟩
theorem b_tuplT {xs : List D} (q : Q (.v (.tup xs)) S) : biW .tupl [.v (.tup xs)] S Q := ⟨xs, rfl, q⟩
theorem b_tuplL {x : Addr} {xs : List D} (h : S x = some (.lst xs)) (q : Q (.v (.tup xs)) S) : biW .tupl [.v (.ref x)] S Q := ⟨xs, seqOf_ref h, q⟩
theorem b_listN {xs : List D} (q : Q (.n (.lst xs)) S) : biW .list [.n (.lst xs)] S Q := ⟨xs, rfl, q⟩
theorem b_listT {xs : List D} (q : Q (.n (.lst xs)) S) : biW .list [.v (.tup xs)] S Q := ⟨xs, rfl, q⟩
theorem b_listL {x : Addr} {xs : List D} (h : S x = some (.lst xs)) (q : Q (.n (.lst xs)) S) : biW .list [.v (.ref x)] S Q := ⟨xs, seqOf_ref h, q⟩
theorem b_allN {xs : List D} {bs : List Bool} (e : blsOf xs = some bs) (q : Q (.v (.bl (bs.all id))) S) : biW .all [.n (.lst xs)] S Q := ⟨xs, bs, rfl, e, q⟩
theorem b_anyN {xs : List D} {bs : List Bool} (e : blsOf xs = some bs) (q : Q (.v (.bl (bs.any id))) S) : biW .any [.n (.lst xs)] S Q := ⟨xs, bs, rfl, e, q⟩
/-! methods -/
theorem m_append {x : Addr} {xs : List D} {d : D} (h : S x = some (.lst xs)) (hl : xs.length < sizeLine) (q : Q (.v .non) (up S x (.lst (xs ++ [d])))) : meW .append (.v (.ref x)) [d] S Q := ⟨xs, h, hl, q⟩
theorem m_tyL {m : Me} {x : Addr} {xs : List D} (h : S x = some (.lst xs)) (hm : (match m with | .upper => false | .join => false | _ => true) = true) : meTy m (.v (.ref x)) S := by
  cases m <;> first | exact ⟨xs, lstOf_ref h⟩ | cases hm
/-! statements -/
variable {nd : Nd} {f : Env → Sto → Prop} {rt : PR} {bk ct : Env → Sto → Prop}
theorem z_nil (q : f ρ S) : wSs F [] ρ S ⟨f, rt, bk, ct⟩ := q
theorem z_exp (q : wE F e ρ S fun _ S' => wSs F cs ρ S' nd) : wSs F (.exp e :: cs) ρ S nd := q
theorem z_set {i : Nat} (q : wE F e ρ S fun r S1 => mat r S1 fun d S2 => wSs F cs (ρ.set i (some d)) S2 nd) : wSs F (.asg (.name i) e :: cs) ρ S nd := q
theorem z_tup {is : List Nat} (q : wE F e ρ S fun r S1 => mat r S1 fun d S2 => match d with
    | .tup ds => ds.length = is.length ∧ wSs F cs (bindL is ds ρ) S2 nd
    | _ => False) : wSs F (.asg (.tup is) e :: cs) ρ S nd := q
theorem z_sub (q : wE F e ρ S fun r S1 => mat r S1 fun d S2 => wE F o ρ S2 fun x S1 => wE F i ρ S1 fun y S2 => setW x y d S2 fun S3 => wSs F cs ρ S3 nd) : wSs F (.asg (.sub o i) e :: cs) ρ S nd := q
theorem z_ret (q : wE F e ρ S rt) : wSs F (.ret e :: cs) ρ S ⟨f, rt, bk, ct⟩ := q
theorem z_ife {as bs : List C} (q : wT F c ρ S fun k S1 => if k = true then wSs F as ρ S1 ⟨fun ρ' S' => wSs F cs ρ' S' ⟨f, rt, bk, ct⟩, rt, bk, ct⟩ else wSs F bs ρ S1 ⟨fun ρ' S' => wSs F cs ρ' S' ⟨f, rt, bk, ct⟩, rt, bk, ct⟩) : wSs F (.ife c as bs :: cs) ρ S ⟨f, rt, bk, ct⟩ := q
theorem z_for {tg : TN} {it : I} {b : List C} (q : wI F it ρ S fun xs hold S1 => forL (fun ρ' S' nd' => wSs F b ρ' S' nd') tg hold ⟨fun ρ' S' => wSs F cs ρ' S' ⟨f, rt, bk, ct⟩, rt, bk, ct⟩ xs ρ S1) : wSs F (.for tg it b :: cs) ρ S ⟨f, rt, bk, ct⟩ := q
theorem z_brk (q : bk ρ S) : wSs F (.brk :: cs) ρ S ⟨f, rt, bk, ct⟩ := q
theorem z_cnt (q : ct ρ S) : wSs F (.cnt :: cs) ρ S ⟨f, rt, bk, ct⟩ := q
theorem z_whl {b : List C} (J : Nat → Env → Sto → Prop) (h0 : ∃ m, J m ρ S) (q : ∀ m ρ' S', J m ρ' S' → wT F c ρ' S' fun k S1 =>
      if k = true then wSs F b ρ' S1 ⟨fun ρ2 S2 => ∃ m', m' < m ∧ J m' ρ2 S2, rt, fun ρ' S' => wSs F cs ρ' S' ⟨f, rt, bk, ct⟩, fun ρ2 S2 => ∃ m', m' < m ∧ J m' ρ2 S2⟩ else wSs F cs ρ' S1 ⟨f, rt, bk, ct⟩) : wSs F (.whl c b :: cs) ρ S ⟨f, rt, bk, ct⟩ := ⟨J, h0, q⟩
theorem y_dK {x : Addr} {kvs : List (Key × D)} {k : Str} {d : D} {Q : Sto → Prop} (h : S x = some (.dK kvs)) (hl : kvs.length < sizeLine) (q : Q (up S x (.dK (putD kvs (.inr k) d)))) : setW (.v (.ref x)) (.v (.str k)) d S Q := ⟨kvs, h, hl, q⟩
theorem y_lst {x : Addr} {xs : List D} {k : Int} {j : Nat} {d : D} {Q : Sto → Prop} (h : S x = some (.lst xs)) (e : ixN xs.length k = some j) (q : Q (up S x (.lst (xs.set j d)))) : setW (.v (.ref x)) (.v (.int k)) d S Q := .inl ⟨xs, j, h, e, q⟩
/-! walks -/
theorem w_seq {K : List D → (Sto → Prop) → Sto → Prop} (q : wE F a ρ S fun r S1 => seqW r S1 fun xs hold => K xs hold S1) : wI F (.seq a) ρ S K := q
theorem w_rng1 {K : List D → (Sto → Prop) → Sto → Prop} (q : wE F a ρ S fun r S1 => ∃ j, r = .v (.int j) ∧ j ≤ 16777216 ∧ -(2 ^ 62) ≤ j ∧ K (rngD 0 j.toNat) (fun _ => True) S1) : wI F (.rng1 a) ρ S K := q
theorem w_rng2 {K : List D → (Sto → Prop) → Sto → Prop} (q : wE F a ρ S fun r S1 => wE F b ρ S1 fun q S2 => ∃ i j, r = .v (.int i) ∧ q = .v (.int j) ∧ (-(2 ^ 62) ≤ i ∧ i < 2 ^ 62 ∧ -(2 ^ 62) ≤ j ∧ j < 2 ^ 62) ∧ j - i ≤ 16777216 ∧ K (rngD i (j - i).toNat) (fun _ => True) S2) : wI F (.rng2 a b) ρ S K := q
theorem for_ok {body : Env → Sto → Nd → Prop} {tg : TN} {hold : Sto → Prop} {nd : Nd} {xs : List D} (Inv : Nat → Env → Sto → Prop)
    (step : ∀ (i : Nat) (x : D) (ρ : Env) (S : Sto) (K : Env → Sto → Prop), xs[i]? = some x → Inv i ρ S → (∀ ρ' S', Inv (i + 1) ρ' S' → K ρ' S') → hold S ∧ bindN tg x ρ fun ρ' => body ρ' S ⟨K, nd.rt, nd.nx, K⟩)
    (fin : ∀ ρ S, Inv xs.length ρ S → hold S ∧ nd.nx ρ S) (h0 : Inv 0 ρ S) : forL body tg hold nd xs ρ S := by
  have go : ∀ (n i : Nat) (ρ : Env) (S : Sto), xs.length - i = n → i ≤ xs.length → Inv i ρ S → forL body tg hold nd (xs.drop i) ρ S := by
    intro n
    induction n with
    | zero =>
      intro i ρ S h1 h2 h
      have e : i = xs.length := by omega
      subst e
      rw [List.drop_length]
      exact fin ρ S h
    | succ n ih =>
      intro i ρ S h1 h2 h
      have hl : i < xs.length := by omega
      rw [List.drop_eq_getElem_cons hl]
      exact step i xs[i] ρ S _ (List.getElem?_eq_getElem hl) h fun ρ' S' h' => ih (i + 1) ρ' S' (by omega) (by omega) h'
  have := go xs.length 0 ρ S (by omega) (Nat.zero_le _) h0
  rwa [List.drop_zero] at this
theorem lc_ok {step : D → Sto → (Option D → Sto → Prop) → Prop} {hold : Sto → Prop} {xs : List D} {Q : List D → Sto → Prop} (Inv : Nat → List D → Sto → Prop)
    (turn : ∀ (i : Nat) (x : D) (acc : List D) (S : Sto) (K : Option D → Sto → Prop), xs[i]? = some x → Inv i acc S → (∀ o S', Inv (i + 1) (acc ++ o.toList) S' → K o S') → hold S ∧ step x S K)
    (fin : ∀ acc S, Inv xs.length acc S → hold S ∧ Q acc S) (h0 : Inv 0 [] S) : lcL step hold xs [] S Q := by
  have go : ∀ (n i : Nat) (acc : List D) (S : Sto), xs.length - i = n → i ≤ xs.length → Inv i acc S → lcL step hold (xs.drop i) acc S Q := by
    intro n
    induction n with
    | zero =>
      intro i acc S h1 h2 h
      have e : i = xs.length := by omega
      subst e
      rw [List.drop_length]
      exact fin acc S h
    | succ n ih =>
      intro i acc S h1 h2 h
      have hl : i < xs.length := by omega
      rw [List.drop_eq_getElem_cons hl]
      exact turn i xs[i] acc S _ (List.getElem?_eq_getElem hl) h fun o S' h' => ih (i + 1) _ S' (by omega) (by omega) h'
  have := go xs.length 0 [] S (by omega) (Nat.zero_le _) h0
  rwa [List.drop_zero] at this
/-- a comprehension that changes nothing: each item mapped, or left out -/
theorem lc_map {step : D → Sto → (Option D → Sto → Prop) → Prop} {hold : Sto → Prop} {xs : List D} {Q : List D → Sto → Prop} (g : D → Option D) (hh : hold S) (turn : ∀ x ∈ xs, ∀ K : Option D → Sto → Prop, K (g x) S → step x S K)
    (fin : Q (xs.filterMap g) S) : lcL step hold xs [] S Q := by
  have go : ∀ (l acc : List D), (∀ x ∈ l, x ∈ xs) → Q (acc ++ l.filterMap g) S → lcL step hold l acc S Q := by
    intro l
    induction l with
    | nil => intro acc _ h; exact ⟨hh, by simpa using h⟩
    | cons x l ih =>
      intro acc hm h
      refine ⟨hh, turn x (hm x List.mem_cons_self) _ (ih _ (fun y hy => hm y (List.mem_cons_of_mem _ hy)) ?_)⟩
      rw [List.filterMap_cons] at h
      cases e : g x with
      | none => rw [e] at h; simpa using h
      | some y => rw [e] at h; simpa using h
  exact go xs [] (fun _ h => h) (by simpa using fin)
end
theorem up_up {S : Sto} {a : Addr} {o p : Ob} : up (up S a o) a p = up S a p := by
  funext b
  unfold up
  by_cases h : b = a <;> simp [h]
theorem up_get {S : Sto} {a b : Addr} {o p : Ob} (h : b ≠ a) (e : S b = some p) : up S a o b = some p := (up_ne h).trans e
end DP

set_option maxRecDepth 100000
set_option maxHeartbeats 1000000
/-! DpG: what is small enough to be shown, in plain Lean. -/
namespace DP
open PySem L2
/-- the length of what is shown of a datum k deep -/
def Nk : Nat → Nat
  | 0 => 1510
  | k + 1 => 10 * (Nk k + 2) + 2
theorem Nk_mono {j k : Nat} (h : j ≤ k) : Nk j ≤ Nk k := by
  induction k with
  | zero => have : j = 0 := by omega
            subst this; exact Nat.le_refl _
  | succ k ih =>
    by_cases e : j = k + 1
    · subst e; exact Nat.le_refl _
    · have := ih (by omega)
      show Nk j ≤ 10 * (Nk k + 2) + 2
      omega
structure Gd (k : Nat) (dc ls : Bool) (p : PyData) : Prop where
  sh : p.showable = true
  dep : p.depth ≤ k
  hd : p.hasDict = true → dc = true
  hl : hasLst p = true → ls = true
  len : p.shown.length ≤ Nk k
theorem Gd.up {j k : Nat} {dc ls dc' ls' : Bool} {p : PyData} (g : Gd j dc ls p) (h : j ≤ k) (h1 : dc = true → dc' = true) (h2 : ls = true → ls' = true) : Gd k dc' ls' p :=
  ⟨g.sh, Nat.le_trans g.dep h, fun z => h1 (g.hd z), fun z => h2 (g.hl z), Nat.le_trans g.len (Nk_mono h)⟩
/-- a short text of real signs -/
def Shrt (x : Str) : Prop := x.length ≤ 150 ∧ ∀ c ∈ x.cps.toList, c < 0x110000
theorem gd_str {x : Str} (h : Shrt x) (k : Nat) (dc ls : Bool) : Gd k dc ls (.str x) := by
  refine Gd.up (j := 0) (dc := false) (ls := false) ⟨by simp [PyData.showable], by simp [PyData.depth], by simp [PyData.hasDict], by simp [hasLst], ?_⟩ (Nat.zero_le _) (fun z => nomatch z) (fun z => nomatch z)
  have := StrLaws.reprText_len x (fun c hc => by have := h.2 c hc; omega)
  have h1 := h.1
  show (reprText x).length ≤ 1510
  omega
theorem join_len {n : Nat} {ts : List Str} (h : ∀ t ∈ ts, t.length ≤ n) : (Str.join ", " ts).length ≤ ts.length * (n + 2) := by
  by_cases e : ts = []
  · subst e; exact Nat.zero_le _
  · have h2 := join_length_add ts e
    have h3 : ∀ us : List Str, (∀ t ∈ us, t.length ≤ n) → piled us ≤ us.length * (n + 2) := by
      intro us
      induction us with
      | nil => intro _; exact Nat.zero_le _
      | cons u us ih =>
        intro hu
        rw [piled_cons, List.length_cons, Nat.succ_mul]
        have := ih fun t ht => hu t (List.mem_cons_of_mem _ ht)
        have := hu u List.mem_cons_self
        omega
    have := h3 ts h
    omega
theorem text_len {n : Nat} : ∀ (ts : List Str) (k : Nat) (acc : Str), (∀ t ∈ ts, t.length ≤ n) → (textFrom k acc ts).length ≤ acc.length + ts.length * (n + 2)
  | [], k, acc, _ => by show acc.length ≤ _; omega
  | t :: r, k, acc, h => by
    have ih := text_len (n := n) r (k + 1) (acc ++ (if k > 0 then ", " else "" : String) ++ t) fun u hu => h u (List.mem_cons_of_mem _ hu)
    have e : (acc ++ (if k > 0 then ", " else "" : String) ++ t).length ≤ acc.length + 2 + t.length := by
      rw [strLen_append, strLen_append]
      split
      · exact Nat.le_refl _
      · show acc.length + 0 + t.length ≤ _
        omega
    have ht := h t List.mem_cons_self
    show (textFrom (k + 1) _ r).length ≤ _
    rw [List.length_cons, Nat.succ_mul]
    omega
theorem shownAll_len : ∀ ps : List PyData, (PyData.shownAll ps).length = ps.length
  | [] => by simp [PyData.shownAll]
  | p :: ps => by simp [PyData.shownAll, shownAll_len ps]
theorem shownAll_le {n : Nat} : ∀ {ps : List PyData}, (∀ p ∈ ps, p.shown.length ≤ n) → ∀ t ∈ PyData.shownAll ps, t.length ≤ n
  | [], _, t, ht => by simp [PyData.shownAll] at ht
  | p :: ps, h, t, ht => by
    rw [PyData.shownAll] at ht
    rcases List.mem_cons.mp ht with e | e
    · subst e; exact h p List.mem_cons_self
    · exact shownAll_le (fun q hq => h q (List.mem_cons_of_mem _ hq)) t e
theorem showAll_ok : ∀ {ps : List PyData}, (∀ p ∈ ps, p.showable = true) → PyData.showableAll ps = true
  | [], _ => by simp [PyData.showableAll]
  | p :: ps, h => by rw [PyData.showableAll, h p List.mem_cons_self, showAll_ok fun q hq => h q (List.mem_cons_of_mem _ hq)]; rfl
theorem depAll_ok {k : Nat} : ∀ {ps : List PyData}, (∀ p ∈ ps, p.depth ≤ k) → PyData.depthAll ps ≤ k
  | [], _ => by simp [PyData.depthAll]
  | p :: ps, h => by rw [PyData.depthAll]; exact Nat.max_le.mpr ⟨h p List.mem_cons_self, depAll_ok fun q hq => h q (List.mem_cons_of_mem _ hq)⟩
theorem hdAll_ok {dc : Bool} : ∀ {ps : List PyData}, (∀ p ∈ ps, p.hasDict = true → dc = true) → PyData.hasDictAll ps = true → dc = true
  | [], _, z => by simp [PyData.hasDictAll] at z
  | p :: ps, h, z => by
    rw [PyData.hasDictAll, Bool.or_eq_true] at z
    exact z.elim (h p List.mem_cons_self) (hdAll_ok fun q hq => h q (List.mem_cons_of_mem _ hq))
theorem hlAll_ok {ls : Bool} : ∀ {ps : List PyData}, (∀ p ∈ ps, hasLst p = true → ls = true) → hasLsts ps = true → ls = true
  | [], _, z => by simp [hasLsts] at z
  | p :: ps, h, z => by
    rw [hasLsts, Bool.or_eq_true] at z
    exact z.elim (h p List.mem_cons_self) (hlAll_ok fun q hq => h q (List.mem_cons_of_mem _ hq))
theorem gd_tup {k : Nat} {dc ls : Bool} {ps : List PyData} (h : ∀ p ∈ ps, Gd k dc ls p) (hl : ps.length ≤ 10) : Gd (k + 1) dc ls (.tuple ps) := by
  refine ⟨by rw [PyData.showable]; exact showAll_ok fun p hp => (h p hp).sh, by rw [PyData.depth]; exact Nat.succ_le_succ (depAll_ok fun p hp => (h p hp).dep),
    fun z => by rw [PyData.hasDict] at z; exact hdAll_ok (fun p hp => (h p hp).hd) z, fun z => by rw [hasLst] at z; exact hlAll_ok (fun p hp => (h p hp).hl) z, ?_⟩
  rw [PyData.shown]
  unfold tupleText
  have h1 := join_len (n := Nk k) (shownAll_le fun p hp => (h p hp).len)
  rw [shownAll_len] at h1
  rw [strLen_append, strLen_append]
  have e1 : ((("(" : String) : Str)).length = 1 := rfl
  by_cases e : ps.length = 1
  · rw [if_pos (by simp [shownAll_len, e])]
    have e2 : (((",)" : String) : Str)).length = 2 := rfl
    show _ ≤ 10 * (Nk k + 2) + 2
    rw [e] at h1
    omega
  · rw [if_neg (by simp [shownAll_len, e])]
    have e2 : (((")" : String) : Str)).length = 1 := rfl
    show _ ≤ 10 * (Nk k + 2) + 2
    have := Nat.mul_le_mul_right (Nk k + 2) hl
    omega
theorem gd_lst {k : Nat} {dc : Bool} {ps : List PyData} (h : ∀ p ∈ ps, Gd k dc true p) (hl : ps.length ≤ 10) : Gd (k + 1) dc true (.list ps) := by
  refine ⟨by rw [PyData.showable]; exact showAll_ok fun p hp => (h p hp).sh, by rw [PyData.depth]; exact Nat.succ_le_succ (depAll_ok fun p hp => (h p hp).dep),
    fun z => by rw [PyData.hasDict] at z; exact hdAll_ok (fun p hp => (h p hp).hd) z, fun z => rfl, ?_⟩
  rw [PyData.shown]
  unfold listText
  have h1 := text_len (n := Nk k) (PyData.shownAll ps) 0 "[" (shownAll_le fun p hp => (h p hp).len)
  rw [shownAll_len] at h1
  rw [strLen_append]
  have e1 : ((("[" : String) : Str)).length = 1 := rfl
  have e2 : ((("]" : String) : Str)).length = 1 := rfl
  show _ ≤ 10 * (Nk k + 2) + 2
  have := Nat.mul_le_mul_right (Nk k + 2) hl
  omega
theorem gd_dict (k : Nat) (ls : Bool) : Gd (k + 1) true ls (.dict []) :=
  ⟨by simp [PyData.showable, PyData.showableKv], by simp [PyData.depth, PyData.depthKv], fun _ => rfl, fun z => by simp [hasLst, hasLstK] at z, by
    rw [PyData.shown, PyData.shownKv]
    refine Nat.le_trans (m := 2) (Nat.le_of_eq (by rfl)) ?_
    show 2 ≤ 10 * (Nk k + 2) + 2
    omega⟩
theorem gd_none (k : Nat) (dc ls : Bool) : Gd k dc ls .none :=
  Gd.up (j := 0) (dc := false) (ls := false) ⟨by simp [PyData.showable], by simp [PyData.depth], by simp [PyData.hasDict], by simp [hasLst], by
    rw [PyData.shown]; exact Nat.le_of_ble_eq_true rfl⟩ (Nat.zero_le _) (fun z => nomatch z) (fun z => nomatch z)
theorem gd_bool (b : Bool) (k : Nat) (dc ls : Bool) : Gd k dc ls (.bool b) :=
  Gd.up (j := 0) (dc := false) (ls := false) ⟨by simp [PyData.showable], by simp [PyData.depth], by simp [PyData.hasDict], by simp [hasLst], by
    rw [PyData.shown]; cases b <;> exact Nat.le_of_ble_eq_true rfl⟩ (Nat.zero_le _) (fun z => nomatch z) (fun z => nomatch z)
theorem gd_int {i : Int} (h1 : i.natAbs.log2 < 1920) (h2 : ((toString i : String) : Str).length ≤ 1510) (k : Nat) (dc ls : Bool) : Gd k dc ls (.int i) :=
  Gd.up (j := 0) (dc := false) (ls := false) ⟨by simp [PyData.showable, h1], by simp [PyData.depth], by simp [PyData.hasDict], by simp [hasLst], by
    rw [PyData.shown]; exact h2⟩ (Nat.zero_le _) (fun z => nomatch z) (fun z => nomatch z)

/-! the same of data -/
/-- what a datum's kind takes to be told -/
def Kd (S : Sto) : D → Prop
  | .str x => Shrt x
  | .ref a => (∃ xs, S a = some (.lst xs)) ∨ ∃ kvs, S a = some (.dK kvs)
  | .fz _ => False
  | _ => True
def Kds (S : Sto) : D → Prop
  | .tup ds => ∀ d ∈ ds, Kd S d
  | d => Kd S d
structure Gs (S : Sto) (k : Nat) (dc ls : Bool) (d : D) : Prop where
  rd : ∃ p, Rdg S d p ∧ Gd k dc ls p
  kd : Kd S d
  kds : Kds S d
section
variable {S : Sto} {k : Nat} {dc ls : Bool}
theorem gs_str {x : Str} (h : Shrt x) : Gs S k dc ls (.str x) := ⟨⟨_, .str x, gd_str h k dc ls⟩, h, h⟩
theorem gs_none : Gs S k dc ls .non := ⟨⟨_, .non, gd_none k dc ls⟩, trivial, trivial⟩
theorem gs_bl {b : Bool} : Gs S k dc ls (.bl b) := ⟨⟨_, .bl b, gd_bool b k dc ls⟩, trivial, trivial⟩
theorem gs_int {i : Int} (h1 : i.natAbs.log2 < 1920) (h2 : ((toString i : String) : Str).length ≤ 1510) : Gs S k dc ls (.int i) := ⟨⟨_, .int i, gd_int h1 h2 k dc ls⟩, trivial, trivial⟩
theorem gsL {P : PyData → Prop} : ∀ {ds : List D}, (∀ d ∈ ds, ∃ p, Rdg S d p ∧ P p) → ∃ ps, RdgL S ds ps ∧ (∀ p ∈ ps, P p) ∧ ps.length = ds.length
  | [], _ => ⟨[], .nil, fun _ z => (by cases z), rfl⟩
  | d :: ds, h => by
    obtain ⟨p, r, g⟩ := h d List.mem_cons_self
    obtain ⟨ps, rs, gs, e⟩ := gsL (fun x hx => h x (List.mem_cons_of_mem _ hx))
    refine ⟨p :: ps, .cons r rs, fun q hq => ?_, by simp [e]⟩
    rcases List.mem_cons.mp hq with z | z
    · subst z; exact g
    · exact gs q z
theorem gs_tup {ds : List D} (h : ∀ d ∈ ds, Gs S k dc ls d) (hl : ds.length ≤ 10) : Gs S (k + 1) dc ls (.tup ds) := by
  obtain ⟨ps, rs, gs, e⟩ := gsL (fun d hd => (h d hd).rd)
  exact ⟨⟨_, .tup rs, gd_tup gs (by omega)⟩, trivial, fun d hd => (h d hd).kd⟩
theorem gs_lst {a : Addr} {ds : List D} (ha : S a = some (.lst ds)) (h : ∀ d ∈ ds, Gs S k dc true d) (hl : ds.length ≤ 10) : Gs S (k + 1) dc true (.ref a) := by
  obtain ⟨ps, rs, gs, e⟩ := gsL (fun d hd => (h d hd).rd)
  exact ⟨⟨_, .lst ha rs, gd_lst gs (by omega)⟩, .inl ⟨_, ha⟩, .inl ⟨_, ha⟩⟩
theorem gs_dict {a : Addr} (ha : S a = some (.dK [])) : Gs S (k + 1) true ls (.ref a) :=
  ⟨⟨_, .dK ha .nil, gd_dict k ls⟩, .inr ⟨_, ha⟩, .inr ⟨_, ha⟩⟩
theorem Gs.up {j : Nat} {dc' ls' : Bool} {d : D} (g : Gs S j dc ls d) (h : j ≤ k) (h1 : dc = true → dc' = true) (h2 : ls = true → ls' = true) : Gs S k dc' ls' d :=
  ⟨let ⟨p, r, q⟩ := g.rd; ⟨p, r, q.up h h1 h2⟩, g.kd, g.kds⟩
end
/-! more stores -/
def Sub (S T : Sto) : Prop := ∀ a o, S a = some o → T a = some o
mutual
theorem rdg_sub {S T : Sto} (h : Sub S T) : ∀ {d : D} {p : PyData}, Rdg S d p → Rdg T d p
  | _, _, .non => .non
  | _, _, .bl b => .bl b
  | _, _, .int i => .int i
  | _, _, .str x => .str x
  | _, _, .tup r => .tup (rdgL_sub h r)
  | _, _, .lst e r => .lst (h _ _ e) (rdgL_sub h r)
  | _, _, .dK e r => .dK (h _ _ e) (rdgL_sub h r)
theorem rdgL_sub {S T : Sto} (h : Sub S T) : ∀ {ds : List D} {ps : List PyData}, RdgL S ds ps → RdgL T ds ps
  | _, _, .nil => .nil
  | _, _, .cons r rs => .cons (rdg_sub h r) (rdgL_sub h rs)
end
theorem kd_sub {S T : Sto} (h : Sub S T) : ∀ {d : D}, Kd S d → Kd T d
  | .str _, z => z
  | .ref a, z => z.elim (fun ⟨xs, e⟩ => .inl ⟨xs, h _ _ e⟩) fun ⟨xs, e⟩ => .inr ⟨xs, h _ _ e⟩
  | .fz _, z => z
  | .non, z => z
  | .bl _, z => z
  | .int _, z => z
  | .tup _, z => z
theorem kds_sub {S T : Sto} (h : Sub S T) : ∀ {d : D}, Kds S d → Kds T d
  | .tup _, z => fun d hd => kd_sub h (z d hd)
  | .str _, z => z
  | .ref a, z => z.elim (fun ⟨xs, e⟩ => .inl ⟨xs, h _ _ e⟩) fun ⟨xs, e⟩ => .inr ⟨xs, h _ _ e⟩
  | .fz _, z => z
  | .non, z => z
  | .bl _, z => z
  | .int _, z => z
theorem Gs.sub {S T : Sto} {k : Nat} {dc ls : Bool} {d : D} (g : Gs S k dc ls d) (h : Sub S T) : Gs T k dc ls d :=
  ⟨let ⟨p, r, q⟩ := g.rd; ⟨p, rdg_sub h r, q⟩, kd_sub h g.kd, kds_sub h g.kds⟩
/-- a thing that can be shown: not both lists and dicts -/
def Gt (S : Sto) (d : D) : Prop := ∃ dc ls, (dc && ls) = false ∧ Gs S 4 dc ls d
theorem Gt.sub {S T : Sto} {d : D} (g : Gt S d) (h : Sub S T) : Gt T d := let ⟨dc, ls, e, g⟩ := g; ⟨dc, ls, e, g.sub h⟩
/-- the store without a place -/
def rm (S : Sto) (p : Addr) : Sto := fun b => if b = p then none else S b
theorem rm_get {S : Sto} {p a : Addr} {o : Ob} (h : a ≠ p) (e : S a = some o) : rm S p a = some o := (if_neg h).trans e
/-- all but p stays -/
def Ext (p : Addr) (S T : Sto) : Prop := ∀ b o, b ≠ p → S b = some o → T b = some o
theorem Ext.rfl {p : Addr} {S : Sto} : Ext p S S := fun _ _ _ h => h
theorem Ext.trans {p : Addr} {S T U : Sto} (h : Ext p S T) (h' : Ext p T U) : Ext p S U := fun b o n e => h' b o n (h b o n e)
theorem Ext.new {p a : Addr} {S : Sto} {o : Ob} (h : S a = none) : Ext p S (up S a o) := fun b q _ e => (up_ne (fun z => by subst z; rw [h] at e; cases e)).trans e
theorem Ext.then {p a : Addr} {S T : Sto} {o : Ob} (x : Ext p S T) (h : S a = none) : Ext p S (up T a o) := fun b q n e => (up_ne (fun z => by subst z; rw [h] at e; cases e)).trans (x b q n e)
theorem Ext.sub {p : Addr} {S T : Sto} (x : Ext p S T) : Sub (rm S p) (rm T p) := fun b o e => by
  by_cases h : b = p
  · rw [show rm S p b = none from if_pos h] at e; cases e
  · exact (if_neg h).trans (x b o h ((if_neg h).symm.trans e))
theorem rm_sub {S : Sto} {p : Addr} : Sub (rm S p) S := fun b o e => by
  by_cases h : b = p
  · rw [show rm S p b = none from if_pos h] at e; cases e
  · exact (if_neg h).symm.trans e
theorem b_repr {S : Sto} {d : D} {Q : PR} (g : Gt S d) (q : ∃ x, (∀ Q' : PR, Q' (.v (.str x)) S → biW .repr [.v d] S Q') ∧ ((∀ Q' : PR, Q' (.v (.str x)) S → biW .repr [.v d] S Q') → Q (.v (.str x)) S)) : biW .repr [.v d] S Q := by
  obtain ⟨x, h, q⟩ := q
  exact h Q (q h)
theorem repr_ok {S : Sto} {d : D} (g : Gt S d) : ∃ x, ∀ Q : PR, Q (.v (.str x)) S → biW .repr [.v d] S Q := by
  obtain ⟨dc, ls, e, g⟩ := g
  obtain ⟨p, r, q⟩ := g.rd
  refine ⟨p.shown, fun Q h => ⟨p, r, q.sh, Nat.le_trans q.dep (by decide), fun hd => ?_, Nat.le_trans q.len (by decide), h⟩⟩
  have := q.hd hd
  subst this
  cases hl : hasLst p with
  | false => rfl
  | true => have := q.hl hl; subst this; cases e
/-! short texts -/
theorem sh_app {x y : Str} (hx : Shrt x) (hy : Shrt y) (h : x.length + y.length ≤ 150) : Shrt (x ++ y) := by
  refine ⟨by rw [strLen_append]; exact h, fun c hc => ?_⟩
  have : c ∈ x.cps.toList ++ y.cps.toList := by rwa [← Array.toList_append]
  exact (List.mem_append.mp this).elim (hx.2 c) (hy.2 c)
theorem cut_sub {α : Type} {xs : List α} {lo hi : Option Int} {x : α} (h : x ∈ cut xs lo hi) : x ∈ xs := List.mem_of_mem_drop (List.mem_of_mem_take h)
theorem cut_len {α : Type} (xs : List α) (lo hi : Option Int) : (cut xs lo hi).length ≤ xs.length := by
  unfold cut
  rw [List.length_take, List.length_drop]
  omega
theorem sh_cut {x : Str} (h : Shrt x) (lo hi : Option Int) : Shrt ⟨(cut x.cps.toList lo hi).toArray⟩ :=
  ⟨by
    have h1 := cut_len x.cps.toList lo hi
    have h2 : x.cps.toList.length = x.length := by simp [Str.length]
    show (cut x.cps.toList lo hi).toArray.size ≤ 150
    rw [List.size_toArray]
    have := h.1
    omega, fun c hc => h.2 c (cut_sub (by simpa using hc))⟩
theorem rep_len (k : Nat) (z : Str) : (repS z k).length = k * z.length := by
  show (List.replicate k z.cps.toList).flatten.toArray.size = _
  rw [List.size_toArray, List.length_flatten, List.map_replicate, List.sum_replicate_nat]
  simp [Str.length]
theorem sh_rep {x : Str} {k : Nat} (h : Shrt x) (hl : k * x.length ≤ 150) : Shrt (repS x k) :=
  ⟨by rw [rep_len]; exact hl, fun c hc => by
    have : c ∈ (List.replicate k x.cps.toList).flatten := by simpa [repS] using hc
    obtain ⟨l, hl, hc⟩ := List.mem_flatten.mp this
    rw [(List.mem_replicate.mp hl).2] at hc
    exact h.2 c hc⟩
/-- a thing k deep that can be shown -/
def Og (S : Sto) (k : Nat) (d : D) : Prop := ∃ dc ls, (dc && ls) = false ∧ Gs S k dc ls d
theorem Og.gt {S : Sto} {k : Nat} {d : D} (g : Og S k d) (h : k ≤ 4) : Gt S d := let ⟨dc, ls, e, g⟩ := g; ⟨dc, ls, e, g.up h id id⟩
theorem Og.sub {S T : Sto} {k : Nat} {d : D} (g : Og S k d) (h : Sub S T) : Og T k d := let ⟨dc, ls, e, g⟩ := g; ⟨dc, ls, e, g.sub h⟩
theorem Og.up {S : Sto} {j k : Nat} {d : D} (g : Og S j d) (h : j ≤ k) : Og S k d := let ⟨dc, ls, e, g⟩ := g; ⟨dc, ls, e, g.up h id id⟩
def AllS (xs : List D) : Prop := ∀ d ∈ xs, ∃ x, d = .str x ∧ Shrt x
theorem allS_map {xs : List Str} (h : ∀ x ∈ xs, Shrt x) : AllS (xs.map .str) := fun d hd => by
  obtain ⟨x, hx, rfl⟩ := List.mem_map.mp hd
  exact ⟨x, rfl, h x hx⟩
theorem allS_app {xs ys : List D} (h : AllS xs) (h' : AllS ys) : AllS (xs ++ ys) := fun d hd => (List.mem_append.mp hd).elim (h d) (h' d)
theorem allS_cut {xs : List D} (h : AllS xs) (lo hi : Option Int) : AllS (cut xs lo hi) := fun d hd => h d (cut_sub hd)
theorem allS_rev {xs : List D} (h : AllS xs) : AllS xs.reverse := fun d hd => h d (List.mem_reverse.mp hd)
theorem allS_nil : AllS [] := fun _ z => by cases z
theorem allS_cons {x : Str} {xs : List D} (hx : Shrt x) (h : AllS xs) : AllS (.str x :: xs) := fun d hd => by
  rcases List.mem_cons.mp hd with e | e
  · exact ⟨x, e, hx⟩
  · exact h d e
section
variable {S : Sto} {k : Nat}
theorem AllS.gs {xs : List D} (h : AllS xs) (dc ls : Bool) : ∀ d ∈ xs, Gs S k dc ls d := fun d hd => by
  obtain ⟨x, rfl, hx⟩ := h d hd
  exact gs_str hx
theorem og_str {x : Str} (h : Shrt x) : Og S k (.str x) := ⟨false, false, rfl, gs_str h⟩
theorem og_none : Og S k .non := ⟨false, false, rfl, gs_none⟩
theorem og_bl {b : Bool} : Og S k (.bl b) := ⟨false, false, rfl, gs_bl⟩
theorem og_int {i : Int} (h1 : i.natAbs.log2 < 1920) (h2 : ((toString i : String) : Str).length ≤ 1510) : Og S k (.int i) := ⟨false, false, rfl, gs_int h1 h2⟩
theorem og_tup {xs : List D} (h : AllS xs) (hl : xs.length ≤ 10) : Og S (k + 1) (.tup xs) := ⟨false, false, rfl, gs_tup (h.gs _ _) hl⟩
theorem og_lst {a : Addr} {xs : List D} (ha : S a = some (.lst xs)) (h : AllS xs) (hl : xs.length ≤ 10) : Og S (k + 1) (.ref a) := ⟨false, true, rfl, gs_lst ha (h.gs _ _) hl⟩
theorem og_dict {a : Addr} (ha : S a = some (.dK [])) : Og S (k + 1) (.ref a) := ⟨true, false, rfl, gs_dict ha⟩
/-- a tuple with one other thing among texts -/
theorem og_one {xs ys : List D} {o : D} (ho : Og S k o) (h : AllS xs) (h' : AllS ys) (hl : xs.length + ys.length ≤ 9) : Og S (k + 1) (.tup (xs ++ [o] ++ ys)) := by
  obtain ⟨dc, ls, e, g⟩ := ho
  refine ⟨dc, ls, e, gs_tup (fun d hd => ?_) (by simp; omega)⟩
  rcases List.mem_append.mp hd with hd | hd
  · rcases List.mem_append.mp hd with hd | hd
    · exact h.gs _ _ d hd
    · have := List.mem_singleton.mp hd
      subst this
      exact g
  · exact h'.gs _ _ d hd
theorem og_sing {o : D} (ho : Og S k o) : Og S (k + 1) (.tup [o]) := og_one (xs := []) (ys := []) ho allS_nil allS_nil (by decide)
end
end DP

set_option maxRecDepth 100000
set_option maxHeartbeats 1000000
/-! DpH: the pen of a law. -/
namespace DP
open PySem L2
theorem up_keep {S : Sto} {a b : Addr} {o p : Ob} (h : S b = none) (e : S a = some o) : up S b p a = some o :=
  (up_ne (fun z => by subst z; rw [h] at e; cases e)).trans e
theorem enter {T : List Fn} {n f : Nat} {b : Fn} {ρ : DP.Env} {ds : List D} {S : Sto} {Q : PR} (h : T[f]? = some b) (hl : ds.length = b.np) (hr : startE b ds = ρ)
    (q : wSs (W T n) b.body ρ S { nx := fun _ S' => Q (.v .non) S', rt := Q }) : W T (n + 1) f ds S Q := by
  rw [W_def h]
  subst hr
  exact ⟨hl, q⟩
def pen (c : Addr) (a l : Int) : List (Key × D) := [(.inr "cells", .ref c), (.inr "at", .int a), (.inr "left", .int l)]
theorem pen_at (c : Addr) (a l x : Int) : putD (pen c a l) (.inr "at") (.int x) = pen c x l := rfl
theorem pen_left (c : Addr) (a l x : Int) : putD (pen c a l) (.inr "left") (.int x) = pen c a x := rfl
section
variable {S : Sto} {p c : Addr} {a l : Int} {Q : PR} {K : Sto → Prop}
theorem p_cells (h : S p = some (.dK (pen c a l))) (q : Q (.v (.ref c)) S) : ixW (.v (.ref p)) (.v (.str "cells")) S Q := p_dK h rfl q
theorem p_at (h : S p = some (.dK (pen c a l))) (q : Q (.v (.int a)) S) : ixW (.v (.ref p)) (.v (.str "at")) S Q := p_dK h rfl q
theorem p_left (h : S p = some (.dK (pen c a l))) (q : Q (.v (.int l)) S) : ixW (.v (.ref p)) (.v (.str "left")) S Q := p_dK h rfl q
theorem y_at {x : Int} (h : S p = some (.dK (pen c a l))) (q : K (up S p (.dK (pen c x l)))) : setW (.v (.ref p)) (.v (.str "at")) (.int x) S K := y_dK h (Nat.le_of_ble_eq_true rfl) q
theorem y_left {x : Int} (h : S p = some (.dK (pen c a l))) (q : K (up S p (.dK (pen c a x)))) : setW (.v (.ref p)) (.v (.str "left")) (.int x) S K := y_dK h (Nat.le_of_ble_eq_true rfl) q
end
def PenOk (S : Sto) (p c : Addr) (n : Nat) : Prop := p ≠ c ∧ ∃ (ns : List Int) (a l : Int), S p = some (.dK (pen c a l)) ∧ S c = some (.lst (ns.map .int)) ∧ 0 ≤ a ∧ a ≤ n ∧ 0 ≤ l ∧ ns.length ≤ 63
theorem ints_at {ns : List Int} {i : Int} (h0 : 0 ≤ i) (h1 : i < ns.length) : ∃ x, atI (ns.map D.int) i = some (.int x) := by
  unfold atI ixN
  rw [List.length_map, if_pos h0, if_pos h1]
  refine ⟨ns[i.toNat]'(by omega), ?_⟩
  show (ns.map D.int)[i.toNat]? = _
  rw [List.getElem?_map, List.getElem?_eq_getElem (by omega)]
  rfl
theorem rdg_ints (S : Sto) : ∀ ns : List Int, RdgL S (ns.map .int) (ns.map .int)
  | [] => .nil
  | n :: ns => .cons (.int n) (rdg_ints S ns)
theorem ints_can : ∀ ns : List Int, PyData.canLayAll0 (ns.map PyData.int) = true
  | [] => by simp [PyData.canLayAll0]
  | n :: ns => by rw [List.map_cons, PyData.canLayAll0, ints_can ns]; simp [PyData.canLay0]
theorem ints_dep : ∀ ns : List Int, PyData.depthAll (ns.map PyData.int) = 0
  | [] => by simp [PyData.depthAll]
  | n :: ns => by rw [List.map_cons, PyData.depthAll, ints_dep ns]; simp [PyData.depth]
theorem ints_shaped (ns : List Int) : SeqAt.shaped (.list (ns.map PyData.int)) = true := by
  unfold SeqAt.shaped
  rw [PyData.canLay0, ints_can, PyData.depth, ints_dep]
  rfl
theorem c_ne0 {S : Sto} {c : Addr} {ns : List Int} {Q : PR} (h : S c = some (.lst (ns.map .int))) (q : Q (.v (.bl (!ns.isEmpty))) S) : cmpW .ne (.v (.ref c)) (.n (.lst [])) S Q := by
  refine ⟨.list (ns.map .int), .list [], .lst h (rdg_ints S ns), ⟨[], rfl, .nil⟩, ints_shaped ns, ints_shaped [], ?_⟩
  have e : PyData.eqv (.list (ns.map .int)) (.list []) = ns.isEmpty := by
    rw [PyData.eqv]
    cases ns <;> simp [PyData.eqvAll]
  rw [e]
  exact q
theorem cmul_l {i j : Int} (h1 : -18446744073709551616 < i) (h2 : i < 18446744073709551616) : CMul i j := .inl ⟨by omega, by omega⟩
theorem cmul_r {i j : Int} (h1 : -18446744073709551616 < j) (h2 : j < 18446744073709551616) : CMul i j := .inr ⟨by omega, by omega⟩
theorem pow_lit {i j : Int} (h1 : 0 ≤ j) (h2 : j ≤ 1000000) (h3 : i.natAbs < 18446744073709551616) : 0 ≤ j ∧ j ≤ 1000000 ∧ i.natAbs < 2 ^ 64 := ⟨h1, h2, by omega⟩
theorem x_len {ds : List D} {P : Prop} (h : ds.length ≤ sizeLine) (q : P) : ds.length ≤ sizeLine ∧ P := ⟨h, q⟩
theorem x_ty {m : Me} {z : Str} {S : Sto} {P : Prop} (h : meTy m (.v (.str z)) S) (q : P) : meTy m (.v (.str z)) S ∧ P := ⟨h, q⟩
theorem x_tyL {m : Me} {x : Addr} {xs : List D} {S : Sto} {P : Prop} (h : S x = some (.lst xs)) (hm : (match m with | .upper => false | .join => false | _ => true) = true) (q : P) : meTy m (.v (.ref x)) S ∧ P := ⟨m_tyL h hm, q⟩
theorem fmod_nn {i : Int} (j : Int) (h : 0 < j) : 0 ≤ i.fmod j ∧ i.fmod j < j := ⟨Int.fmod_nonneg_of_pos i h, Int.fmod_lt_of_pos i h⟩
theorem bn_name {i : Nat} {d : D} {ρ : DP.Env} {Q : DP.Env → Prop} (q : Q (ρ.set i (some d))) : bindN (.name i) d ρ Q := q
theorem pureDs_strs : ∀ xs : List Str, pureDs (xs.map .str) = true
  | [] => rfl
  | x :: xs => by rw [List.map_cons, pureDs, pureDs_strs xs]; rfl
def leS (x y : Str) : Bool := PySem.W.dataLe false encD (.str x) (.str y)
theorem sortD_strs (xs : List Str) : sortD (xs.map .str) = (xs.mergeSort leS).map .str :=
  (List.map_mergeSort (r := leS) (s := PySem.W.dataLe false encD) (f := D.str) (l := xs) fun _ _ _ _ => rfl).symm
theorem b_sortS {S : Sto} {xs : List Str} {Q : PR} (q : Q (.n (.lst ((xs.mergeSort leS).map .str))) S) : biW .sorted [.n (.lst (xs.map .str))] S Q := by
  rw [← sortD_strs] at q
  refine ⟨_, rfl, pureDs_strs xs, ?_, .inr ?_, ?_, q⟩
  · intro d hd d' hd'
    simp only [List.map_map, List.mem_map] at hd hd'
    obtain ⟨x, _, rfl⟩ := hd
    obtain ⟨y, _, rfl⟩ := hd'
    show PySem.W.alike (.str x) (.str y) = true
    simp [PySem.W.alike]
  · intro d hd
    simp only [List.map_map, List.mem_map] at hd
    obtain ⟨x, _, rfl⟩ := hd
    exact ⟨fun z => (by cases z), fun xs z => (by cases z)⟩
  · intro d hd
    obtain ⟨x, _, rfl⟩ := List.mem_map.mp hd
    show PyData.depth (.str x) ≤ 60
    simp [PyData.depth]
theorem erase_perm {α : Type} : ∀ (l : List α) (i : Nat) (y : α), l[i]? = some y → (y :: l.eraseIdx i).Perm l
  | [], _, _, h => by simp at h
  | x :: r, 0, y, h => by
    have e : x = y := by simpa using h
    subst e
    exact List.Perm.refl _
  | x :: r, i + 1, y, h => by
    have ih := erase_perm r i y (by simpa using h)
    exact (List.Perm.swap x y (r.eraseIdx i)).trans (List.Perm.cons x ih)
theorem map_erase {α β : Type} (f : α → β) : ∀ (l : List α) (j : Nat), (l.map f).eraseIdx j = (l.eraseIdx j).map f
  | [], _ => rfl
  | _ :: _, 0 => rfl
  | x :: l, j + 1 => by
    show f x :: (l.map f).eraseIdx j = _
    rw [map_erase f l j]
    rfl
theorem m_popI {S : Sto} {t : Addr} {xs : List Str} {i : Int} {Q : PR} (h : S t = some (.lst (xs.map .str))) (h0 : 0 ≤ i) (h1 : i < xs.length) (h2 : xs.length < 1000000)
    (q : ∀ x, (x :: xs.eraseIdx i.toNat).Perm xs → Q (.v (.str x)) (up S t (.lst ((xs.eraseIdx i.toNat).map .str)))) : meW .pop (.v (.ref t)) [.int i] S Q := by
  have hi : i.toNat < xs.length := by omega
  refine ⟨xs.map .str, i.toNat, .str xs[i.toNat], h, by omega, by omega, ?_, ?_, ?_⟩
  · unfold ixN
    rw [List.length_map, if_pos h0, if_pos h1]
  · rw [List.getElem?_map, List.getElem?_eq_getElem hi]
    rfl
  · have e : (xs.map D.str).eraseIdx i.toNat = (xs.eraseIdx i.toNat).map .str := map_erase _ _ _
    rw [e]
    exact q _ (DP.erase_perm xs _ _ (List.getElem?_eq_getElem hi))
section
variable {S : Sto} {K : List D → (Sto → Prop) → Prop}
theorem q_str {z : Str} (h : z.length ≤ sizeLine) (q : K (signs z) fun _ => True) : seqW (.v (.str z)) S K := ⟨h, q⟩
theorem q_tup {xs : List D} (q : K xs fun _ => True) : seqW (.v (.tup xs)) S K := q
theorem q_fz {xs : List D} (q : K xs fun _ => True) : seqW (.v (.fz xs)) S K := q
theorem q_n {xs : List D} (q : K xs fun _ => True) : seqW (.n (.lst xs)) S K := q
theorem q_ref {a : Addr} {xs : List D} (h : S a = some (.lst xs)) (q : K xs fun S' => S' a = some (.lst xs)) : seqW (.v (.ref a)) S K := ⟨xs, h, q⟩
end
section
variable {step : D → Sto → (Option D → Sto → Prop) → Prop} {hold : Sto → Prop} {Q : List D → Sto → Prop} {S : Sto} {β : Type} {f : β → D} {cs : List β}
theorem lc_all (h : β → D) (hh : hold S) (turn : ∀ c ∈ cs, ∀ K : Option D → Sto → Prop, K (some (h c)) S → step (f c) S K) (fin : Q (cs.map h) S) : lcL step hold (cs.map f) [] S Q := by
  have go : ∀ (l : List β) (acc : List D), (∀ x ∈ l, x ∈ cs) → Q (acc ++ l.map h) S → lcL step hold (l.map f) acc S Q := by
    intro l
    induction l with
    | nil => intro acc _ z; exact ⟨hh, by simpa using z⟩
    | cons x l ih =>
      intro acc hm z
      refine ⟨hh, turn x (hm x List.mem_cons_self) _ (ih _ (fun y hy => hm y (List.mem_cons_of_mem _ hy)) ?_)⟩
      simpa using z
  exact go cs [] (fun _ z => z) (by simpa using fin)
theorem lc_if (h : β → D) (p : β → Bool) (hh : hold S) (turn : ∀ c ∈ cs, ∀ K : Option D → Sto → Prop, K (if p c = true then some (h c) else none) S → step (f c) S K) (fin : Q ((cs.filter p).map h) S) : lcL step hold (cs.map f) [] S Q := by
  have go : ∀ (l : List β) (acc : List D), (∀ x ∈ l, x ∈ cs) → Q (acc ++ (l.filter p).map h) S → lcL step hold (l.map f) acc S Q := by
    intro l
    induction l with
    | nil => intro acc _ z; exact ⟨hh, by simpa using z⟩
    | cons x l ih =>
      intro acc hm z
      refine ⟨hh, turn x (hm x List.mem_cons_self) _ (ih _ (fun y hy => hm y (List.mem_cons_of_mem _ hy)) ?_)⟩
      rw [List.filter_cons] at z
      cases e : p x with
      | true => rw [e] at z; simpa using z
      | false => rw [e] at z; simpa using z
  exact go cs [] (fun _ z => z) (by simpa using fin)
end
section
variable {step : D → Sto → (Option D → Sto → Prop) → Prop} {hold : Sto → Prop} {Q : List D → Sto → Prop} {S : Sto} {cs : List D}
theorem lc_allD (h : D → D) (hh : hold S) (turn : ∀ c ∈ cs, ∀ K : Option D → Sto → Prop, K (some (h c)) S → step c S K) (fin : Q (cs.map h) S) : lcL step hold cs [] S Q := by
  have := lc_all (f := id) (cs := cs) (step := step) (hold := hold) (Q := Q) h hh turn fin
  rwa [List.map_id] at this
theorem lc_ifD (h : D → D) (p : D → Bool) (hh : hold S) (turn : ∀ c ∈ cs, ∀ K : Option D → Sto → Prop, K (if p c = true then some (h c) else none) S → step c S K) (fin : Q ((cs.filter p).map h) S) : lcL step hold cs [] S Q := by
  have := lc_if (f := id) (cs := cs) (step := step) (hold := hold) (Q := Q) h p hh turn fin
  rwa [List.map_id] at this
end
theorem sg_shrt {c : Nat} (h : c < 0x110000) : Shrt ⟨#[c]⟩ := ⟨by show 1 ≤ 150; decide, fun d hd => by
  have : d = c := by simpa using hd
  subst this; exact h⟩
theorem str_can {x : Str} (h : Shrt x) : PyData.canLay0 (.str x) = true := by
  rw [PyData.canLay0]
  show x.cps.all _ = true
  rw [← Array.all_toList, List.all_eq_true]
  exact fun c hc => decide_eq_true (h.2 c hc)
theorem rdg_strs (S : Sto) : ∀ xs : List Str, RdgL S (xs.map .str) (xs.map .str)
  | [] => .nil
  | x :: xs => .cons (.str x) (rdg_strs S xs)
theorem strs_can : ∀ {xs : List Str}, (∀ x ∈ xs, Shrt x) → PyData.canLayAll0 (xs.map PyData.str) = true
  | [], _ => by simp [PyData.canLayAll0]
  | x :: xs, h => by rw [List.map_cons, PyData.canLayAll0, str_can (h x List.mem_cons_self), strs_can fun y hy => h y (List.mem_cons_of_mem _ hy)]; rfl
theorem strs_dep : ∀ xs : List Str, PyData.depthAll (xs.map PyData.str) = 0
  | [] => by simp [PyData.depthAll]
  | x :: xs => by rw [List.map_cons, PyData.depthAll, strs_dep xs]; simp [PyData.depth]
theorem strsL_shaped {xs : List Str} (h : ∀ x ∈ xs, Shrt x) : SeqAt.shaped (.list (xs.map PyData.str)) = true := by
  unfold SeqAt.shaped
  rw [PyData.canLay0, strs_can h, PyData.depth, strs_dep]
  rfl
theorem strsT_shaped {xs : List Str} (h : ∀ x ∈ xs, Shrt x) : SeqAt.shaped (.tuple (xs.map PyData.str)) = true := by
  unfold SeqAt.shaped
  rw [PyData.canLay0, strs_can h, PyData.depth, strs_dep]
  rfl
theorem str_shaped {x : Str} (h : Shrt x) : SeqAt.shaped (.str x) = true := by
  unfold SeqAt.shaped
  rw [str_can h, PyData.depth]
  rfl
theorem c_eq0S {S : Sto} {xs : List Str} {Q : PR} (h : ∀ x ∈ xs, Shrt x) (q : Q (.v (.bl xs.isEmpty)) S) : cmpW .eq (.n (.lst (xs.map .str))) (.n (.lst [])) S Q := by
  refine ⟨.list (xs.map .str), .list [], ⟨_, rfl, rdg_strs S xs⟩, ⟨[], rfl, .nil⟩, strsL_shaped h, ints_shaped [], ?_⟩
  have e : PyData.eqv (.list (xs.map .str)) (.list []) = xs.isEmpty := by
    rw [PyData.eqv]
    cases xs <;> simp [PyData.eqvAll]
  rw [e]
  exact q
theorem any_strs (x : Str) : ∀ ys : List Str, ((ys.map PyData.str).any fun q => PyData.eqv q (.str x)) = ys.any fun y => y == x
  | [] => rfl
  | y :: ys => by rw [List.map_cons, List.any_cons, List.any_cons, any_strs x ys, PyData.eqv]
theorem c_ninST {S : Sto} {x : Str} {ys : List Str} {Q : PR} (hx : Shrt x) (h : ∀ y ∈ ys, Shrt y) (q : Q (.v (.bl (!(ys.any fun y => y == x)))) S) : cmpW .notin (.v (.str x)) (.v (.tup (ys.map .str))) S Q := by
  refine .inr (.inl ⟨.str x, ys.map .str, .str x, .tup (rdg_strs S ys), str_shaped hx, strsT_shaped h, ?_⟩)
  rw [any_strs]
  exact q
theorem rdg_bls (S : Sto) : ∀ bs : List Bool, RdgL S (bs.map .bl) (bs.map .bool)
  | [] => .nil
  | b :: bs => .cons (.bl b) (rdg_bls S bs)
theorem bls_can : ∀ bs : List Bool, PyData.canLayAll0 (bs.map PyData.bool) = true
  | [] => by simp [PyData.canLayAll0]
  | b :: bs => by rw [List.map_cons, PyData.canLayAll0, bls_can bs]; simp [PyData.canLay0]
theorem bls_dep : ∀ bs : List Bool, PyData.depthAll (bs.map PyData.bool) = 0
  | [] => by simp [PyData.depthAll]
  | b :: bs => by rw [List.map_cons, PyData.depthAll, bls_dep bs]; simp [PyData.depth]
theorem any_bls (x : Bool) : ∀ ys : List Bool, ((ys.map PyData.bool).any fun q => PyData.eqv q (.bool x)) = ys.any fun y => y == x
  | [] => rfl
  | y :: ys => by rw [List.map_cons, List.any_cons, List.any_cons, any_bls x ys, PyData.eqv]
theorem c_inFB {S : Sto} {x : Bool} {ys : List Bool} {Q : PR} (q : Q (.v (.bl (ys.any fun y => y == x))) S) : cmpW .isin (.v (.bl x)) (.n (.lst (ys.map .bl))) S Q := by
  refine .inl ⟨.bool x, ys.map .bool, .bl x, ⟨_, rfl, rdg_bls S ys⟩, by simp [SeqAt.shaped, PyData.canLay0, PyData.depth], ?_, ?_⟩
  · unfold SeqAt.shaped
    rw [PyData.canLay0, bls_can, PyData.depth, bls_dep]
    rfl
  · rw [any_bls]
    exact q
theorem bls_all : ∀ bs : List Bool, blsOf (bs.map .bl) = some bs
  | [] => rfl
  | b :: bs => by rw [List.map_cons, blsOf, bls_all bs]; rfl
theorem b_allB {S : Sto} {bs : List Bool} {Q : PR} (q : Q (.v (.bl (bs.all id))) S) : biW .all [.n (.lst (bs.map .bl))] S Q := b_allN (bls_all bs) q
theorem b_anyB {S : Sto} {bs : List Bool} {Q : PR} (q : Q (.v (.bl (bs.any id))) S) : biW .any [.n (.lst (bs.map .bl))] S Q := b_anyN (bls_all bs) q
theorem map_blf {β : Type} (cs : List β) (f : β → Bool) : (cs.map fun c => D.bl (f c)) = (cs.map f).map .bl := by rw [List.map_map]; rfl
def kStr : D → Bool
  | .str _ => true
  | _ => false
def kTup : D → Bool
  | .tup _ => true
  | _ => false
def kInt : D → Bool
  | .int _ => true
  | .bl _ => true
  | _ => false
theorem is_str {S : Sto} {d : D} (h : Kd S d) : isTy S (.v d) .str = some (kStr d) := by
  cases d with
  | ref a =>
    rcases h with ⟨xs, h⟩ | ⟨kvs, h⟩
    · show obTy (S a) .str = _
      rw [h]
      rfl
    · show obTy (S a) .str = _
      rw [h]
      rfl
  | fz xs => exact h.elim
  | _ => rfl
theorem is_tup {S : Sto} {d : D} (h : Kd S d) : isTy S (.v d) .tup = some (kTup d) := by
  cases d with
  | ref a =>
    rcases h with ⟨xs, h⟩ | ⟨kvs, h⟩
    · show obTy (S a) .tup = _
      rw [h]
      rfl
    · show obTy (S a) .tup = _
      rw [h]
      rfl
  | fz xs => exact h.elim
  | _ => rfl
theorem is_int {S : Sto} {d : D} (h : Kd S d) : isTy S (.v d) .int = some (kInt d) := by
  cases d with
  | ref a =>
    rcases h with ⟨xs, h⟩ | ⟨kvs, h⟩
    · show obTy (S a) .int = _
      rw [h]
      rfl
    · show obTy (S a) .int = _
      rw [h]
      rfl
  | fz xs => exact h.elim
  | _ => rfl
theorem x_tupA {is : List Nat} {ds : List D} {P : List D → Prop} (h : ds.length = is.length) (q : P ds) : (match D.tup ds with
    | .tup ds => ds.length = is.length ∧ P ds
    | _ => False) := ⟨h, q⟩
theorem c_ltSS {S : Sto} {x y : Str} {Q : PR} (q : Q (.v (.bl (decide (x.cps.toList < y.cps.toList)))) S) : cmpW .lt (.v (.str x)) (.v (.str y)) S Q := q
def Nm (x : Str) : Prop := 1 ≤ x.length ∧ x.length ≤ 8 ∧ ∀ c ∈ x.cps.toList, c < 0x110000
theorem Nm.sh {x : Str} (h : Nm x) : Shrt x := ⟨by have := h.2.1; omega, h.2.2⟩
def shrtB (x : Str) : Bool := decide (x.length ≤ 150) && x.cps.toList.all fun c => decide (c < 0x110000)
theorem shrt_of {x : Str} (h : shrtB x = true) : Shrt x := by
  unfold shrtB at h
  rw [Bool.and_eq_true, List.all_eq_true] at h
  exact ⟨of_decide_eq_true h.1, fun c hc => of_decide_eq_true (h.2 c hc)⟩
def nmB (x : Str) : Bool := decide (1 ≤ x.length) && decide (x.length ≤ 8) && x.cps.toList.all fun c => decide (c < 0x110000)
theorem nm_of {x : Str} (h : nmB x = true) : Nm x := by
  unfold nmB at h
  rw [Bool.and_eq_true, Bool.and_eq_true, List.all_eq_true] at h
  exact ⟨of_decide_eq_true h.1.1, of_decide_eq_true h.1.2, fun c hc => of_decide_eq_true (h.2 c hc)⟩
theorem PenOk.new {S : Sto} {p c a : Addr} {n : Nat} {o : Ob} (hp : PenOk S p c n) (h : S a = none) : PenOk (up S a o) p c n := by
  obtain ⟨h1, ns, a', l, e1, e2, r⟩ := hp
  exact ⟨h1, ns, a', l, up_keep h e1, up_keep h e2, r⟩
theorem PenOk.ne {S : Sto} {p c a : Addr} {n : Nat} (hp : PenOk S p c n) (h : S a = none) : a ≠ p := fun z => by
  subst z
  obtain ⟨_, _, _, _, e, _⟩ := hp
  rw [h] at e
  cases e
theorem PenOk.mono {S : Sto} {p c : Addr} {n m : Nat} (hp : PenOk S p c n) (h : n ≤ m) : PenOk S p c m := by
  obtain ⟨h1, ns, a', l, e1, e2, r1, r2, r3⟩ := hp
  exact ⟨h1, ns, a', l, e1, e2, r1, by omega, r3⟩
theorem o_addSS {S : Sto} {i j : Str} {Q : PR} (hi : Shrt i) (hj : Shrt j) (q : Q (.v (.str (i ++ j))) S) : opW .add (.v (.str i)) (.v (.str j)) S Q :=
  ⟨Nat.le_trans (Nat.add_le_add hi.1 hj.1) (by decide), q⟩
theorem o_addTT {S : Sto} {i j : List D} {Q : PR} (hi : i.length ≤ 100) (hj : j.length ≤ 100) (q : Q (.v (.tup (i ++ j))) S) : opW .add (.v (.tup i)) (.v (.tup j)) S Q :=
  ⟨Nat.le_trans (Nat.add_le_add hi hj) (by decide), q⟩
theorem l_strS {S : Sto} {z : Str} {lo hi : Option Int} {Q : PR} (h : Shrt z) (q : Q (.v (.str ⟨(cut z.cps.toList lo hi).toArray⟩)) S) : slW (.v (.str z)) lo hi S Q := ⟨Nat.le_trans h.1 (by decide), q⟩
theorem atI_lt {α : Type} {xs : List α} {i : Int} (h0 : 0 ≤ i) (h1 : i < xs.length) : ∃ x, atI xs i = some x ∧ x ∈ xs := by
  unfold atI ixN
  rw [if_pos h0, if_pos h1]
  exact ⟨xs[i.toNat]'(by omega), List.getElem?_eq_getElem (by omega), List.getElem_mem _⟩
theorem join_cps {z : Str} {ts : List Str} {c : Nat} (h : c ∈ (Str.join z ts).cps.toList) : c ∈ z.cps.toList ∨ ∃ t ∈ ts, c ∈ t.cps.toList := by
  induction ts with
  | nil => cases h
  | cons t ts ih =>
    cases ts with
    | nil => exact .inr ⟨t, List.mem_cons_self, h⟩
    | cons u us =>
      have h : c ∈ ((t.cps ++ z.cps) ++ (Str.join z (u :: us)).cps).toList := h
      rw [Array.toList_append, Array.toList_append, List.mem_append, List.mem_append] at h
      rcases h with (h | h) | h
      · exact .inr ⟨t, List.mem_cons_self, h⟩
      · exact .inl h
      · rcases ih h with e | ⟨v, hv, e⟩
        · exact .inl e
        · exact .inr ⟨v, List.mem_cons_of_mem _ hv, e⟩
theorem sh_join {z : Str} {ts : List Str} (hz : ∀ c ∈ z.cps.toList, c < 0x110000) (h : ∀ t ∈ ts, ∀ c ∈ t.cps.toList, c < 0x110000) (hl : (ts.map (·.length)).sum + ts.length * z.length ≤ 150) : Shrt (Txt.join z ts) := by
  have e : Txt.join z ts = Str.join z ts := StrLaws.glued_eq_join z ts
  rw [e]
  refine ⟨Nat.le_trans (StrLaws.join_length_le z ts) hl, fun c hc => ?_⟩
  rcases join_cps hc with e | ⟨t, ht, e⟩
  · exact hz c e
  · exact h t ht c e
theorem m_join {S : Sto} {z : Str} {ss : List Str} {Q : PR} (h : (ss.map (·.length)).sum + ss.length * z.length ≤ 16777216) (q : Q (.v (.str (Txt.join z ss))) S) : meW .join (.v (.str z)) [.tup (ss.map .str)] S Q := by
  refine ⟨ss.map .str, ss, rfl, ?_, h, q⟩
  have : ∀ xs : List Str, strsOf (xs.map .str) = some xs := by
    intro xs
    induction xs with
    | nil => rfl
    | cons x xs ih => rw [List.map_cons, strsOf, ih]; rfl
  exact this ss
theorem shrt_mem {xs : List Str} (h : xs.all shrtB = true) (x : Str) (hx : x ∈ xs) : Shrt x := shrt_of (List.all_eq_true.mp h x hx)
end DP

set_option maxRecDepth 100000
set_option maxHeartbeats 1000000
/-! DpT: trees, sorted names, what is shown of them; in plain Lean. -/
namespace DP
open PySem L2
/-! ### orders -/
theorem leS_eq (x y : Str) : leS x y = decide (x.cps.toList ≤ y.cps.toList) := by
  have h := congrFun (congrFun (PySem.W.dataLe_str (β := Str) id) x) y
  exact h
theorem leS_total : PySem.W.TotalLe leS := by
  have h := PySem.W.sortLe_total (PyProof.Rows.listOrd PyProof.Rows.itemOrd) false (fun x : Str => PySem.W.keyToks (encD (.str x)))
  exact h
theorem leS_tot (x y : Str) : (leS x y || leS y x) = true := by
  rw [Bool.or_eq_true]
  exact leS_total.total x y
theorem str_ext {x y : Str} (h : x.cps.toList = y.cps.toList) : x = y := PySem.W.str_of_cps h
theorem leS_anti {x y : Str} (h1 : leS x y = true) (h2 : leS y x = true) : x = y := by
  rw [leS_eq, decide_eq_true_eq] at h1 h2
  exact str_ext (List.le_antisymm h1 h2)
abbrev sortS (xs : List Str) : List Str := xs.mergeSort leS
theorem sortS_pw (xs : List Str) : (sortS xs).Pairwise (fun x y => leS x y = true) := List.pairwise_mergeSort leS_total.trans leS_tot xs
theorem sortS_perm (xs : List Str) : (sortS xs).Perm xs := List.mergeSort_perm xs leS
theorem sortS_eq {xs ys : List Str} (h : xs.Perm ys) : sortS xs = sortS ys :=
  List.Perm.eq_of_pairwise (fun x y _ _ h1 h2 => leS_anti h1 h2) (sortS_pw xs) (sortS_pw ys) ((sortS_perm xs).trans (h.trans (sortS_perm ys).symm))
theorem sortS_lt {xs : List Str} (h : xs.Nodup) : (sortS xs).Pairwise (fun x y => x.cps.toList < y.cps.toList) := by
  have h1 := sortS_pw xs
  have h2 : (sortS xs).Pairwise (· ≠ ·) := (sortS_perm xs).nodup_iff.mpr h
  refine (h1.and h2).imp fun {x y} ⟨a, b⟩ => ?_
  rw [leS_eq, decide_eq_true_eq] at a
  by_cases q : x.cps.toList < y.cps.toList
  · exact q
  · exact absurd (str_ext (List.le_antisymm a (List.not_lt.mp q))) b
/-- lots: rising tuples of names -/
def tupS (l : List Str) : D := .tup (l.map .str)
def leL (x y : List Str) : Bool := PySem.W.dataLe false encD (tupS x) (tupS y)
theorem leL_total : PySem.W.TotalLe leL := by
  have h := PySem.W.sortLe_total (PyProof.Rows.listOrd PyProof.Rows.itemOrd) false (fun x : List Str => PySem.W.keyToks (encD (tupS x)))
  exact h
theorem leL_tot (x y : List Str) : (leL x y || leL y x) = true := by
  rw [Bool.or_eq_true]
  exact leL_total.total x y
theorem encDs_strs (xs : List Str) : encDs (xs.map .str) = xs.map .str := by
  rw [encDs_map, List.map_map]
  exact List.map_congr_left fun x _ => by show encD (.str x) = _; rw [encD]
theorem enc_tupS (l : List Str) : encD (tupS l) = .tuple (l.map .str) := by
  unfold tupS
  rw [encD, encDs_strs]
theorem toks_inj : ∀ {x y : List Str}, PySem.W.keyToksAll (x.map PyData.str) = PySem.W.keyToksAll (y.map PyData.str) → x = y
  | [], [], _ => rfl
  | [], y :: ys, h => by simp [PySem.W.keyToksAll] at h
  | x :: xs, [], h => by simp [PySem.W.keyToksAll] at h
  | x :: xs, y :: ys, h => by
    rw [List.map_cons, List.map_cons, PySem.W.keyToksAll, PySem.W.keyToksAll, PySem.W.keyToks, PySem.W.keyToks] at h
    have h := (List.cons.inj h).2
    have h1 := List.cons.inj h
    rw [toks_inj h1.2, str_ext (Sum.inr.inj h1.1)]
theorem leL_anti {x y : List Str} (h1 : leL x y = true) (h2 : leL y x = true) : x = y := by
  have e : PySem.W.keyToks (encD (tupS x)) = PySem.W.keyToks (encD (tupS y)) := by
    refine (PyProof.Rows.listOrd PyProof.Rows.itemOrd).total _ _ ?_ ?_
    · have : (!(PyProof.Rows.listOrd PyProof.Rows.itemOrd).blt (PySem.W.keyToks (encD (tupS x))) (PySem.W.keyToks (encD (tupS y)))) = true := h2
      simpa using this
    · have : (!(PyProof.Rows.listOrd PyProof.Rows.itemOrd).blt (PySem.W.keyToks (encD (tupS y))) (PySem.W.keyToks (encD (tupS x)))) = true := h1
      simpa using this
  rw [enc_tupS, enc_tupS, PySem.W.keyToks, PySem.W.keyToks] at e
  exact toks_inj e
abbrev sortL (xs : List (List Str)) : List (List Str) := xs.mergeSort leL
theorem sortL_perm (xs : List (List Str)) : (sortL xs).Perm xs := List.mergeSort_perm xs leL
theorem sortL_eq {xs ys : List (List Str)} (h : xs.Perm ys) : sortL xs = sortL ys :=
  List.Perm.eq_of_pairwise (fun x y _ _ h1 h2 => leL_anti h1 h2) (List.pairwise_mergeSort leL_total.trans leL_tot xs) (List.pairwise_mergeSort leL_total.trans leL_tot ys) ((sortL_perm xs).trans (h.trans (sortL_perm ys).symm))
theorem sortD_tups (xs : List (List Str)) : sortD (xs.map tupS) = (sortL xs).map tupS :=
  (List.map_mergeSort (r := leL) (s := PySem.W.dataLe false encD) (f := tupS) (l := xs) fun _ _ _ _ => rfl).symm
theorem alike_strs : ∀ xs ys : List Str, PySem.W.alikeAll (xs.map PyData.str) (ys.map PyData.str) = true
  | [], _ => by simp [PySem.W.alikeAll]
  | _ :: _, [] => by simp [PySem.W.alikeAll]
  | x :: xs, y :: ys => by rw [List.map_cons, List.map_cons, PySem.W.alikeAll, alike_strs xs ys]; simp [PySem.W.alike]
theorem pureDs_tups : ∀ xs : List (List Str), pureDs (xs.map tupS) = true
  | [] => rfl
  | x :: xs => by
    rw [List.map_cons, pureDs, pureDs_tups xs]
    unfold tupS
    rw [pureD, pureDs_strs]
    rfl
theorem b_sortT' {S : Sto} {xs : List (List Str)} {r : R} {Q : PR} (hr : lstOf S r = some (xs.map tupS)) (hne : ∀ l ∈ xs, l ≠ []) (q : Q (.n (.lst ((sortL xs).map tupS))) S) : biW .sorted [r] S Q := by
  rw [← sortD_tups] at q
  refine ⟨_, hr, pureDs_tups xs, ?_, .inl ?_, ?_, q⟩
  · intro d hd d' hd'
    simp only [List.map_map, List.mem_map] at hd hd'
    obtain ⟨x, _, rfl⟩ := hd
    obtain ⟨y, _, rfl⟩ := hd'
    show PySem.W.alike (encD (tupS x)) (encD (tupS y)) = true
    rw [enc_tupS, enc_tupS, PySem.W.alike]
    exact alike_strs x y
  · intro d hd
    simp only [List.map_map, List.mem_map] at hd
    obtain ⟨x, hx, rfl⟩ := hd
    show ∃ y r, encD (tupS x) = _
    rw [enc_tupS]
    cases x with
    | nil => exact absurd rfl (hne [] hx)
    | cons y r => exact ⟨_, _, rfl⟩
  · intro d hd
    obtain ⟨x, _, rfl⟩ := List.mem_map.mp hd
    rw [enc_tupS, PyData.depth, strs_dep]
    decide
theorem b_sortT {S : Sto} {xs : List (List Str)} {Q : PR} (hne : ∀ l ∈ xs, l ≠ []) (q : Q (.n (.lst ((sortL xs).map tupS))) S) : biW .sorted [.n (.lst (xs.map tupS))] S Q := b_sortT' rfl hne q
theorem b_sortTR {S : Sto} {a : Addr} {xs : List (List Str)} {Q : PR} (h : S a = some (.lst (xs.map tupS))) (hne : ∀ l ∈ xs, l ≠ []) (q : Q (.n (.lst ((sortL xs).map tupS))) S) : biW .sorted [.v (.ref a)] S Q := b_sortT' (lstOf_ref h) hne q
theorem b_sortSR {S : Sto} {a : Addr} {xs : List Str} {Q : PR} (h : S a = some (.lst (xs.map .str))) (q : Q (.n (.lst ((xs.mergeSort leS).map .str))) S) : biW .sorted [.v (.ref a)] S Q := by
  have z : biW .sorted [.n (.lst (xs.map .str))] S Q := b_sortS q
  obtain ⟨ys, e, r⟩ := z
  cases e
  exact ⟨_, lstOf_ref h, r⟩
/-! ### trees -/
def inLet (c : Nat) : Bool := inStr ⟨#[c]⟩ "abcdefghijklmnopqrstuvwxyz"
/-- a name -/
def Wd (x : Str) : Prop := Nm x ∧ x.cps.toList.all inLet = true
mutual
def isTr : D → Prop
  | .str x => Wd x
  | .tup ds => 2 ≤ ds.length ∧ isTrs ds
  | _ => False
def isTrs : List D → Prop
  | [] => True
  | d :: ds => isTr d ∧ isTrs ds
end
mutual
def ht : D → Nat
  | .tup ds => hts ds + 1
  | _ => 0
def hts : List D → Nat
  | [] => 0
  | d :: ds => max (ht d) (hts ds)
end
mutual
def sz : D → Nat
  | .tup ds => szs ds + 1
  | _ => 1
def szs : List D → Nat
  | [] => 0
  | d :: ds => sz d + szs ds
end
mutual
def nms : D → List Str
  | .str x => [x]
  | .tup ds => nmss ds
  | _ => []
def nmss : List D → List Str
  | [] => []
  | d :: ds => nms d ++ nmss ds
end
mutual
def lotsB : D → List (List Str)
  | .tup ds => sortS (nmss ds) :: lotsBs ds
  | _ => []
def lotsBs : List D → List (List Str)
  | [] => []
  | d :: ds => lotsB d ++ lotsBs ds
end
mutual
def two : D → Bool
  | .str _ => true
  | .tup ds => decide (ds.length = 2) && twos ds
  | _ => false
def twos : List D → Bool
  | [] => true
  | d :: ds => two d && twos ds
end
theorem isTrs_iff : ∀ {ds : List D}, isTrs ds ↔ ∀ d ∈ ds, isTr d
  | [] => by simp [isTrs]
  | d :: ds => by rw [isTrs, isTrs_iff (ds := ds)]; simp
theorem hts_le {d : D} : ∀ {ds : List D}, d ∈ ds → ht d ≤ hts ds
  | [], h => by cases h
  | x :: ds, h => by
    rw [hts]
    rcases List.mem_cons.mp h with e | e
    · subst e; exact Nat.le_max_left _ _
    · exact Nat.le_trans (hts_le e) (Nat.le_max_right _ _)
theorem nmss_flat : ∀ ds : List D, nmss ds = ds.flatMap nms
  | [] => rfl
  | d :: ds => by rw [nmss, nmss_flat ds]; rfl
theorem lotsBs_flat : ∀ ds : List D, lotsBs ds = ds.flatMap lotsB
  | [] => rfl
  | d :: ds => by rw [lotsBs, lotsBs_flat ds]; rfl
theorem twos_all : ∀ ds : List D, twos ds = ds.all two
  | [] => rfl
  | d :: ds => by rw [twos, twos_all ds]; rfl
theorem szs_sum : ∀ ds : List D, szs ds = (ds.map sz).sum
  | [] => rfl
  | d :: ds => by rw [szs, szs_sum ds, List.map_cons, List.sum_cons]
theorem sz_pos : ∀ d : D, 1 ≤ sz d
  | .tup ds => by rw [sz]; omega
  | .str _ => by simp [sz]
  | .non => by simp [sz]
  | .bl _ => by simp [sz]
  | .int _ => by simp [sz]
  | .fz _ => by simp [sz]
  | .ref _ => by simp [sz]
mutual
theorem ht_sz : ∀ d : D, ht d ≤ sz d
  | .tup ds => by rw [ht, sz]; have := hts_szs ds; omega
  | .str _ => by simp [ht, sz]
  | .non => by simp [ht, sz]
  | .bl _ => by simp [ht, sz]
  | .int _ => by simp [ht, sz]
  | .fz _ => by simp [ht, sz]
  | .ref _ => by simp [ht, sz]
theorem hts_szs : ∀ ds : List D, hts ds ≤ szs ds
  | [] => by simp [hts, szs]
  | d :: ds => by rw [hts, szs]; have := ht_sz d; have := hts_szs ds; omega
end
mutual
theorem sz_nms : ∀ d : D, isTr d → sz d + 1 ≤ 2 * (nms d).length
  | .str x, _ => by simp [sz, nms]
  | .tup ds, h => by
    rw [isTr] at h
    rw [sz, nms]
    have := szs_nmss ds h.2
    omega
  | .non, h => by simp [isTr] at h
  | .bl _, h => by simp [isTr] at h
  | .int _, h => by simp [isTr] at h
  | .fz _, h => by simp [isTr] at h
  | .ref _, h => by simp [isTr] at h
theorem szs_nmss : ∀ ds : List D, isTrs ds → szs ds + ds.length ≤ 2 * (nmss ds).length
  | [], _ => by simp [szs, nmss]
  | d :: ds, h => by
    rw [isTrs] at h
    rw [szs, nmss, List.length_append, List.length_cons]
    have := sz_nms d h.1
    have := szs_nmss ds h.2
    omega
end
mutual
theorem tr_pure : ∀ d : D, isTr d → pureD d = true
  | .str x, _ => rfl
  | .tup ds, h => by rw [isTr] at h; rw [pureD]; exact trs_pure ds h.2
  | .non, h => by simp [isTr] at h
  | .bl _, h => by simp [isTr] at h
  | .int _, h => by simp [isTr] at h
  | .fz _, h => by simp [isTr] at h
  | .ref _, h => by simp [isTr] at h
theorem trs_pure : ∀ ds : List D, isTrs ds → pureDs ds = true
  | [], _ => rfl
  | d :: ds, h => by rw [isTrs] at h; rw [pureDs, tr_pure d h.1, trs_pure ds h.2]; rfl
end
mutual
theorem tr_can : ∀ d : D, isTr d → (encD d).canLay0 = true
  | .str x, h => by rw [isTr] at h; rw [encD]; exact str_can h.1.sh
  | .tup ds, h => by rw [isTr] at h; rw [encD, PyData.canLay0]; exact trs_can ds h.2
  | .non, h => by simp [isTr] at h
  | .bl _, h => by simp [isTr] at h
  | .int _, h => by simp [isTr] at h
  | .fz _, h => by simp [isTr] at h
  | .ref _, h => by simp [isTr] at h
theorem trs_can : ∀ ds : List D, isTrs ds → PyData.canLayAll0 (encDs ds) = true
  | [], _ => by simp [encDs, PyData.canLayAll0]
  | d :: ds, h => by rw [isTrs] at h; rw [encDs, PyData.canLayAll0, tr_can d h.1, trs_can ds h.2]; rfl
end
mutual
theorem enc_dep : ∀ d : D, (encD d).depth ≤ ht d
  | .tup ds => by rw [encD, PyData.depth, ht]; exact Nat.succ_le_succ (encs_dep ds)
  | .str _ => by rw [encD, PyData.depth]; exact Nat.zero_le _
  | .non => by rw [encD, PyData.depth]; exact Nat.zero_le _
  | .bl _ => by rw [encD, PyData.depth]; exact Nat.zero_le _
  | .int _ => by rw [encD, PyData.depth]; exact Nat.zero_le _
  | .fz _ => by rw [encD, PyData.depth]; exact Nat.zero_le _
  | .ref _ => by rw [encD, PyData.depth]; exact Nat.zero_le _
theorem encs_dep : ∀ ds : List D, PyData.depthAll (encDs ds) ≤ hts ds
  | [] => by rw [encDs, PyData.depthAll]; exact Nat.zero_le _
  | d :: ds => by rw [encDs, PyData.depthAll, hts]; have := enc_dep d; have := encs_dep ds; omega
end
/-! ### what is shown -/
mutual
def wt : PyData → Nat
  | .none => 4
  | .bool _ => 5
  | .int i => ((toString i : String) : Str).length
  | .str x => 10 * x.length + 2
  | .list xs => wts xs + 3
  | .tuple xs => wts xs + 3
  | .dict _ => 0
def wts : List PyData → Nat
  | [] => 0
  | x :: xs => wt x + 2 + wts xs
end
theorem text_len2 : ∀ (ts : List Str) (k : Nat) (acc : Str), (textFrom k acc ts).length ≤ acc.length + piled ts
  | [], k, acc => by show acc.length ≤ _; omega
  | t :: r, k, acc => by
    have ih := text_len2 r (k + 1) (acc ++ (if k > 0 then ", " else "" : String) ++ t)
    have e : (acc ++ (if k > 0 then ", " else "" : String) ++ t).length ≤ acc.length + 2 + t.length := by
      rw [strLen_append, strLen_append]
      split
      · exact Nat.le_refl _
      · show acc.length + 0 + t.length ≤ _
        omega
    show (textFrom (k + 1) _ r).length ≤ _
    rw [piled_cons]
    omega
mutual
theorem shown_le : ∀ p : PyData, p.canLay0 = true → p.shown.length ≤ wt p
  | .none, _ => by rw [PyData.shown, wt]; exact Nat.le_of_ble_eq_true rfl
  | .bool b, _ => by rw [PyData.shown, wt]; cases b <;> exact Nat.le_of_ble_eq_true rfl
  | .int i, _ => by rw [PyData.shown, wt]; exact Nat.le_refl _
  | .str x, h => by
    rw [PyData.shown, wt]
    rw [PyData.canLay0] at h
    refine StrLaws.reprText_len x fun c hc => ?_
    have h : x.cps.all (fun c => decide (c < 0x110000)) = true := h
    rw [← Array.all_toList, List.all_eq_true] at h
    have := of_decide_eq_true (h c hc)
    omega
  | .list xs, h => by
    rw [PyData.canLay0] at h
    rw [PyData.shown, wt]
    have h1 := shownAll_wts xs h
    unfold listText
    have h2 := text_len2 (PyData.shownAll xs) 0 "["
    rw [strLen_append]
    have e1 : ((("[" : String) : Str)).length = 1 := rfl
    have e2 : ((("]" : String) : Str)).length = 1 := rfl
    omega
  | .tuple xs, h => by
    rw [PyData.canLay0] at h
    rw [PyData.shown, wt]
    have h1 := shownAll_wts xs h
    unfold tupleText
    have h2 : (Str.join ", " (PyData.shownAll xs)).length ≤ piled (PyData.shownAll xs) := by
      by_cases e : PyData.shownAll xs = []
      · rw [e]; exact Nat.zero_le _
      · have := join_length_add _ e
        omega
    rw [strLen_append, strLen_append]
    have e1 : ((("(" : String) : Str)).length = 1 := rfl
    have e2 : (((if (PyData.shownAll xs).length == 1 then ",)" else ")" : String) : Str)).length ≤ 2 := by split <;> exact Nat.le_of_ble_eq_true rfl
    omega
  | .dict _, h => by simp [PyData.canLay0] at h
theorem shownAll_wts : ∀ xs : List PyData, PyData.canLayAll0 xs = true → piled (PyData.shownAll xs) ≤ wts xs
  | [], _ => by rw [PyData.shownAll, wts]; exact Nat.le_refl _
  | x :: xs, h => by
    rw [PyData.canLayAll0, Bool.and_eq_true] at h
    rw [PyData.shownAll, wts, piled_cons]
    have := shown_le x h.1
    have := shownAll_wts xs h.2
    omega
end
/-- can be shown, and compared -/
structure Sp (p : PyData) : Prop where
  sh : p.showable = true
  dep : p.depth ≤ 60
  can : p.canLay0 = true
  len : wt p ≤ sizeLine
theorem Sp.all {S : Sto} {r : R} {p : PyData} {Q : PR} (h : Sp p) (rd : RdgR S r p) (q : Q (.v (.str p.shown)) S) : biW .repr [r] S Q :=
  ⟨p, rd, h.sh, h.dep, fun z => (by rw [PyData.hasDict_of_canLay p h.can] at z; cases z), Nat.le_trans (shown_le p h.can) h.len, q⟩
theorem b_reprV {S : Sto} {d : D} {Q : PR} (hp : pureD d = true) (h : Sp (encD d)) (q : Q (.v (.str (encD d).shown)) S) : biW .repr [.v d] S Q := h.all (show Rdg S d _ from rdg_pure S d hp) q
theorem b_reprN {S : Sto} {xs : List D} {Q : PR} (hp : pureDs xs = true) (h : Sp (.list (encDs xs))) (q : Q (.v (.str (PyData.list (encDs xs)).shown)) S) : biW .repr [.n (.lst xs)] S Q := h.all ⟨_, rfl, rdgL_pure S xs hp⟩ q
theorem b_reprR {S : Sto} {a : Addr} {xs : List D} {Q : PR} (ha : S a = some (.lst xs)) (hp : pureDs xs = true) (h : Sp (.list (encDs xs))) (q : Q (.v (.str (PyData.list (encDs xs)).shown)) S) : biW .repr [.v (.ref a)] S Q := h.all (show Rdg S (.ref a) _ from .lst ha (rdgL_pure S xs hp)) q
mutual
theorem tr_show : ∀ d : D, isTr d → (encD d).showable = true
  | .str x, _ => by simp [encD, PyData.showable]
  | .tup ds, h => by rw [isTr] at h; rw [encD, PyData.showable]; exact trs_show ds h.2
  | .non, h => by simp [isTr] at h
  | .bl _, h => by simp [isTr] at h
  | .int _, h => by simp [isTr] at h
  | .fz _, h => by simp [isTr] at h
  | .ref _, h => by simp [isTr] at h
theorem trs_show : ∀ ds : List D, isTrs ds → PyData.showableAll (encDs ds) = true
  | [], _ => by simp [encDs, PyData.showableAll]
  | d :: ds, h => by rw [isTrs] at h; rw [encDs, PyData.showableAll, tr_show d h.1, trs_show ds h.2]; rfl
end
mutual
theorem tr_wt : ∀ d : D, isTr d → wt (encD d) + 2 ≤ 90 * sz d
  | .str x, h => by rw [isTr] at h; rw [encD, wt, show sz (.str x) = 1 by simp [sz]]; have := h.1.2.1; omega
  | .tup ds, h => by
    rw [isTr] at h
    rw [encD, wt, sz]
    have := trs_wt ds h.2
    omega
  | .non, h => by simp [isTr] at h
  | .bl _, h => by simp [isTr] at h
  | .int _, h => by simp [isTr] at h
  | .fz _, h => by simp [isTr] at h
  | .ref _, h => by simp [isTr] at h
theorem trs_wt : ∀ ds : List D, isTrs ds → wts (encDs ds) ≤ 90 * szs ds
  | [], _ => by simp [encDs, wts]
  | d :: ds, h => by
    rw [isTrs] at h
    rw [encDs, wts, szs]
    have := tr_wt d h.1
    have := trs_wt ds h.2
    omega
end
/-- a tree of not too many names -/
structure Tree (d : D) : Prop where
  tr : isTr d
  few : (nms d).length ≤ 20
theorem Tree.sp {d : D} (h : Tree d) : Sp (encD d) := by
  have h1 := sz_nms d h.tr
  have h2 := h.few
  have h3 := ht_sz d
  have h4 := enc_dep d
  have h5 := tr_wt d h.tr
  exact ⟨tr_show d h.tr, by omega, tr_can d h.tr, by rw [sizeLine_eq]; omega⟩
theorem sp_bool (b : Bool) : Sp (.bool b) := ⟨by simp [PyData.showable], by simp [PyData.depth], by simp [PyData.canLay0], by rw [wt]; decide⟩
theorem strs_show : ∀ xs : List Str, PyData.showableAll (xs.map PyData.str) = true
  | [] => by simp [PyData.showableAll]
  | x :: xs => by rw [List.map_cons, PyData.showableAll, strs_show xs]; simp [PyData.showable]
theorem strs_wt : ∀ {xs : List Str}, (∀ x ∈ xs, Shrt x) → wts (xs.map PyData.str) ≤ 1510 * xs.length
  | [], _ => by simp [wts]
  | x :: xs, h => by
    rw [List.map_cons, wts, wt, List.length_cons]
    have := (h x List.mem_cons_self).1
    have := strs_wt fun y hy => h y (List.mem_cons_of_mem _ hy)
    omega
theorem sp_lot {l : List Str} (h : ∀ x ∈ l, Shrt x) (hl : l.length ≤ 100) : Sp (encD (tupS l)) := by
  rw [enc_tupS]
  refine ⟨by rw [PyData.showable]; exact strs_show l, by rw [PyData.depth, strs_dep]; decide, by rw [PyData.canLay0]; exact strs_can h, ?_⟩
  rw [wt, sizeLine_eq]
  have := strs_wt h
  omega
theorem sp_lots {ls : List (List Str)} (h : ∀ l ∈ ls, (∀ x ∈ l, Shrt x) ∧ l.length ≤ 100) (hl : ls.length ≤ 100) : Sp (.list (encDs (ls.map tupS))) := by
  have key : ∀ ls : List (List Str), (∀ l ∈ ls, (∀ x ∈ l, Shrt x) ∧ l.length ≤ 100) → PyData.showableAll (encDs (ls.map tupS)) = true ∧ PyData.depthAll (encDs (ls.map tupS)) ≤ 1 ∧ PyData.canLayAll0 (encDs (ls.map tupS)) = true ∧ wts (encDs (ls.map tupS)) ≤ 151005 * ls.length := by
    intro ls
    induction ls with
    | nil => intro _; simp [encDs, PyData.showableAll, PyData.depthAll, PyData.canLayAll0, wts]
    | cons l ls ih =>
      intro h
      obtain ⟨h1, h2, h3, h4⟩ := ih fun m hm => h m (List.mem_cons_of_mem _ hm)
      have hh := h l List.mem_cons_self
      rw [List.map_cons, encDs, enc_tupS, PyData.showableAll, PyData.depthAll, PyData.canLayAll0, wts, PyData.showable, PyData.depth, PyData.canLay0, wt, h1, h3, strs_show, strs_can hh.1, strs_dep, List.length_cons]
      have := strs_wt hh.1
      refine ⟨rfl, by omega, rfl, by omega⟩
  obtain ⟨h1, h2, h3, h4⟩ := key ls h
  exact ⟨by rw [PyData.showable]; exact h1, by rw [PyData.depth]; omega, by rw [PyData.canLay0]; exact h3, by rw [wt, sizeLine_eq]; omega⟩
/-! comparing with nothing -/
theorem c_neT {S : Sto} {a : Addr} {ds : List D} {Q : PR} (h : S a = some (.lst ds)) (ht : isTrs ds) (hh : hts ds ≤ 60) (q : Q (.v (.bl (!ds.isEmpty))) S) : cmpW .ne (.v (.ref a)) (.n (.lst [])) S Q := by
  refine ⟨.list (encDs ds), .list [], .lst h (rdgL_pure S ds (trs_pure ds ht)), ⟨[], rfl, .nil⟩, ?_, ints_shaped [], ?_⟩
  · unfold SeqAt.shaped
    rw [PyData.canLay0, trs_can ds ht, PyData.depth]
    have := encs_dep ds
    simp
    omega
  · have e : PyData.eqv (.list (encDs ds)) (.list []) = ds.isEmpty := by
      rw [PyData.eqv]
      cases ds <;> simp [encDs, PyData.eqvAll]
    rw [e]
    exact q
theorem c_eq00 {S : Sto} {Q : PR} (q : Q (.v (.bl true)) S) : cmpW .eq (.n (.lst [])) (.n (.lst [])) S Q := c_eq0S (xs := []) (fun _ z => by cases z) q
theorem c_ne00 {S : Sto} {Q : PR} (q : Q (.v (.bl false)) S) : cmpW .ne (.n (.lst [])) (.n (.lst [])) S Q := by
  refine ⟨.list [], .list [], ⟨[], rfl, .nil⟩, ⟨[], rfl, .nil⟩, ints_shaped [], ints_shaped [], ?_⟩
  have e : PyData.eqv (.list []) (.list []) = true := by simp [PyData.eqv, PyData.eqvAll]
  rw [e]
  exact q
/-! loops -/
theorem acc_flat {step : D → List D → Sto → (List D → Sto → Prop) → Prop} {hold : Sto → Prop} {S : Sto} (g : D → List D) (N : Nat) : ∀ {xs acc : List D} {Q : List D → Sto → Prop}, hold S → acc.length + (xs.flatMap g).length ≤ N →
    (∀ x ∈ xs, ∀ (acc : List D) (K : List D → Sto → Prop), acc.length + (g x).length ≤ N → K (acc ++ g x) S → step x acc S K) → Q (acc ++ xs.flatMap g) S → accL step hold xs acc S Q
  | [], acc, Q, hh, hN, turn, fin => ⟨hh, by simpa using fin⟩
  | x :: xs, acc, Q, hh, hN, turn, fin => by
    rw [List.flatMap_cons, List.length_append] at hN
    refine ⟨hh, turn x List.mem_cons_self acc _ (by omega) ?_⟩
    exact acc_flat g N hh (by rw [List.length_append]; omega) (fun y hy => turn y (List.mem_cons_of_mem _ hy)) (by rw [List.flatMap_cons] at fin; rw [List.append_assoc]; exact fin)
theorem acc_id {step : D → List D → Sto → (List D → Sto → Prop) → Prop} {hold : Sto → Prop} {S : Sto} {xs acc : List D} {Q : List D → Sto → Prop} (N : Nat) (hh : hold S) (hN : acc.length + xs.length ≤ N)
    (turn : ∀ x ∈ xs, ∀ (acc : List D) (K : List D → Sto → Prop), acc.length < N → K (acc ++ [x]) S → step x acc S K) (fin : Q (acc ++ xs) S) : accL step hold xs acc S Q := by
  have e : xs.flatMap (fun x => [x]) = xs := by simp
  refine acc_flat (fun x => [x]) N hh (by rw [e]; exact hN) (fun x hx acc K h => turn x hx acc K (by simp at h; omega)) (by rw [e]; exact fin)
/-! more of stores -/
theorem PenOk.sub {S T : Sto} {p c : Addr} {n : Nat} (hp : PenOk S p c n) (h : Sub S T) : PenOk T p c n := by
  obtain ⟨h1, ns, a', l, e1, e2, r⟩ := hp
  exact ⟨h1, ns, a', l, h _ _ e1, h _ _ e2, r⟩
theorem PenOk.upd {S0 S : Sto} {p c a : Addr} {n m : Nat} {o : Ob} (h0 : PenOk S0 p c m) (e : S0 a = none) (hp : PenOk S p c n) : PenOk (up S a o) p c n := by
  obtain ⟨_, _, _, _, f1, f2, _⟩ := h0
  obtain ⟨h1, ns, a', l, e1, e2, r⟩ := hp
  exact ⟨h1, ns, a', l, up_get (fun z => by subst z; rw [e] at f1; cases f1) e1, up_get (fun z => by subst z; rw [e] at f2; cases f2) e2, r⟩
theorem Sub.rfl {S : Sto} : Sub S S := fun _ _ h => h
theorem Sub.trans {S T U : Sto} (h : Sub S T) (h' : Sub T U) : Sub S U := fun a o e => h' a o (h a o e)
theorem Sub.then {S T : Sto} {a : Addr} {o : Ob} (x : Sub S T) (h : S a = none) : Sub S (up T a o) := fun b q e => (up_ne (fun z => by subst z; rw [h] at e; cases e)).trans (x b q e)
theorem Sub.ext {S T : Sto} {p : Addr} (x : Sub S T) : Ext p S T := fun b o _ e => x b o e
theorem Sub.none {S T : Sto} {a : Addr} (x : Sub S T) (h : T a = none) : S a = none := by
  cases e : S a with
  | none => exact _root_.rfl
  | some o => rw [x a o e] at h; cases h
theorem Ext.none {S T : Sto} {p a : Addr} (x : Ext p S T) (hn : a ≠ p) (h : T a = none) : S a = none := by
  cases e : S a with
  | none => exact _root_.rfl
  | some o => rw [x a o hn e] at h; cases h
/-- an item is taken out -/
theorem m_popD {S : Sto} {t : Addr} {xs : List D} {i : Int} {Q : PR} (h : S t = some (.lst xs)) (h0 : i = -1 ∨ (0 ≤ i ∧ i < xs.length)) (hx : 1 ≤ xs.length) (h2 : xs.length < 1000000)
    (q : ∀ x rest, (x :: rest).Perm xs → Q (.v x) (up S t (.lst rest))) : meW .pop (.v (.ref t)) [.int i] S Q := by
  rcases h0 with rfl | ⟨h0, h1⟩
  · have hi : xs.length - 1 < xs.length := by omega
    refine ⟨xs, xs.length - 1, xs[xs.length - 1], h, by decide, by decide, ?_, List.getElem?_eq_getElem hi, q _ _ (DP.erase_perm xs _ _ (List.getElem?_eq_getElem hi))⟩
    unfold ixN
    rw [if_neg (by decide), if_pos (by omega)]
    congr 1
    omega
  · have hi : i.toNat < xs.length := by omega
    refine ⟨xs, i.toNat, xs[i.toNat], h, by omega, by omega, ?_, List.getElem?_eq_getElem hi, q _ _ (DP.erase_perm xs _ _ (List.getElem?_eq_getElem hi))⟩
    unfold ixN
    rw [if_pos h0, if_pos h1]
theorem m_popL {S : Sto} {t : Addr} {xs : List D} {x : D} {Q : PR} (h : S t = some (.lst (xs ++ [x]))) (q : Q (.v x) (up S t (.lst xs))) : meW .pop (.v (.ref t)) [] S Q := by
  refine ⟨xs ++ [x], x, h, by simp, ?_⟩
  rw [List.dropLast_concat]
  exact q
theorem m_extend {S : Sto} {a b : Addr} {xs ys : List D} {Q : PR} (h1 : S a = some (.lst xs)) (h2 : S b = some (.lst ys)) (hl : xs.length + ys.length ≤ sizeLine) (q : Q (.v .non) (up S a (.lst (xs ++ ys)))) : meW .extend (.v (.ref a)) [.ref b] S Q := ⟨xs, ys, h1, h2, hl, q⟩
end DP

set_option maxRecDepth 100000
set_option maxHeartbeats 1000000
/-! DpU: the pen, names: what the defs do, whatever their numbers. -/
namespace DP
open PySem L2
def bIsName : List C := [.ret (.and (.isi (.var 0) .str) (.and (.chn .le .le (.cst (.int 1)) (.bi .len [(.var 0)]) (.glo "LONGEST" (.int 8))) (.bi .all [(.lc (.cmp .isin (.var 1) (.glo "LETTERS" (.str "abcdefghijklmnopqrstuvwxyz"))) (.name 1) (.seq (.var 0)) none [1])])))]
def bIsLot (fIsName : Nat) : List C := [.ife (.or (.not (.isi (.var 0) .tup)) (.or (.cmp .eq (.var 0) (.tup [])) (.not (.bi .all [(.lc (.call fIsName [(.var 1)]) (.name 1) (.seq (.var 0)) none [1])])))) [.ret (.cst (.bl false))] [], .ret (.bi .all [(.lc (.cmp .lt (.ix (.var 0) (.bin .sub (.var 2) (.cst (.int 1)))) (.ix (.var 0) (.var 2))) (.name 2) (.rng2 (.cst (.int 1)) (.bi .len [(.var 0)])) none [2])])]
def bStanding (fStanding : Nat) : List C := [.ife (.isi (.var 0) .str) [.ret (.lst [(.var 0)])] [], .ret (.lc2 (.var 2) (.name 1) (.seq (.var 0)) none (.name 2) (.seq (.call fStanding [(.var 1)])) none [1, 2] [2])]
def bNamesIn (fStanding : Nat) : List C := [.ret (.bi .tupl [(.bi .sorted [(.call fStanding [(.var 0)])])])]
def bIsTwo (fIsTwo : Nat) : List C := [.ret (.or (.isi (.var 0) .str) (.and (.cmp .eq (.bi .len [(.var 0)]) (.cst (.int 2))) (.bi .all [(.lc (.call fIsTwo [(.var 1)]) (.name 1) (.seq (.var 0)) none [1])])))]
def bLotsBelow (fNamesIn fLotsBelow : Nat) : List C := [.ife (.isi (.var 0) .str) [.ret (.lst [])] [], .ret (.bin .add (.lst [(.call fNamesIn [(.var 0)])]) (.lc2 (.var 2) (.name 1) (.seq (.var 0)) none (.name 2) (.seq (.call fLotsBelow [(.var 1)])) none [1, 2] [2]))]
def bLotsOf (fLotsBelow : Nat) : List C := [.ret (.bi .sorted [(.call fLotsBelow [(.var 0)])])]
def bPen : List C := [.ret (.dK [.inr "cells", .inr "at", .inr "left"] [(.bi .list [(.sl (.var 0) none (some (.cst (.int 63))))]), (.cst (.int 0)), (.cst (.int 0))])]
def bDraw : List C := [.ife (.cmp .gt (.ix (.var 0) (.cst (.str "left"))) (.cst (.int 0))) [.asg (.name 2) (.bin .mod (.ix (.var 0) (.cst (.str "left"))) (.var 1)), .asg (.sub (.var 0) (.cst (.str "left"))) (.bin .fdiv (.ix (.var 0) (.cst (.str "left"))) (.var 1)), .ret (.var 2)] [], .asg (.name 3) (.ix (.var 0) (.cst (.str "at"))), .asg (.sub (.var 0) (.cst (.str "at"))) (.bin .add (.var 3) (.cst (.int 1))), .asg (.name 4) (.bin .add (.bin .mul (.cst (.int 2113)) (.var 3)) (.cst (.int 601))), .ife (.cmp .ne (.ix (.var 0) (.cst (.str "cells"))) (.lst [])) [.asg (.name 4) (.ix (.ix (.var 0) (.cst (.str "cells"))) (.bin .mod (.var 3) (.bi .len [(.ix (.var 0) (.cst (.str "cells")))])))] [], .ife (.and (.cmp .lt (.var 3) (.bi .len [(.ix (.var 0) (.cst (.str "cells")))])) (.cmp .ge (.bi .abs [(.var 4)]) (.bin .pow (.cst (.int 10)) (.cst (.int 18))))) [.asg (.name 5) (.bin .add (.bin .mul (.cst (.int 2)) (.bi .abs [(.var 4)])) (.bi .int [(.cmp .lt (.var 4) (.cst (.int 0)))])), .asg (.sub (.var 0) (.cst (.str "left"))) (.bin .fdiv (.var 5) (.var 1)), .ret (.bin .mod (.var 5) (.var 1))] [], .asg (.name 6) (.bin .mod (.bin .pow (.bin .add (.bin .add (.bin .mod (.var 4) (.cst (.int 2147483549))) (.bin .mul (.cst (.int 73009)) (.var 3))) (.cst (.int 71))) (.cst (.int 5))) (.cst (.int 2147483647))), .asg (.name 7) (.bin .mod (.bin .pow (.bin .add (.bin .mul (.var 6) (.bin .add (.var 3) (.cst (.int 65557)))) (.bin .mul (.bin .mul (.cst (.int 84991)) (.var 3)) (.var 3))) (.cst (.int 3))) (.cst (.int 2147483423))), .ret (.bin .mod (.bin .fdiv (.var 7) (.cst (.int 32))) (.var 1))]
def bNames (fDraw : Nat) : List C := [.asg (.name 2) (.lst [(.cst (.str "a")), (.cst (.str "aa")), (.cst (.str "ab")), (.cst (.str "b")), (.cst (.str "ba")), (.cst (.str "c")), (.cst (.str "d")), (.cst (.str "e")), (.cst (.str "zz")), (.cst (.str "zzzzzzzz")), (.cst (.str "m")), (.cst (.str "ma")), (.cst (.str "n"))]), .ret (.bi .sorted [(.lc (.me .pop (.var 2) [(.call fDraw [(.var 0), (.bi .len [(.var 2)])])]) (.name 3) (.rng1 (.var 1)) none [3])])]
def bLeast : List C := [.whl (.not (.isi (.var 0) .str)) [.asg (.name 0) (.ix (.var 0) (.cst (.int 0)))], .ret (.var 0)]
def bFork (fLeast : Nat) : List C := [.ife (.cmp .eq (.bi .len [(.var 0)]) (.cst (.int 1))) [.ret (.ix (.var 0) (.cst (.int 0)))] [], .asg (.name 1) (.bi .sorted [(.lc (.tup [(.call fLeast [(.var 3)]), (.var 2)]) (.tup [2, 3]) (.enum (.var 0)) none [2, 3])]), .ret (.bi .tupl [(.lc (.ix (.var 0) (.var 2)) (.tup [4, 2]) (.seq (.var 1)) none [4, 2])])]
def bTree (fDraw fFork : Nat) : List C := [.asg (.name 3) (.bi .list [(.var 1)]), .whl (.cmp .gt (.bi .len [(.var 3)]) (.cst (.int 1))) [.asg (.name 4) (.bin .add (.cst (.int 2)) (.bin .mul (.var 2) (.ix (.lst [(.cst (.int 0)), (.cst (.int 0)), (.cst (.int 1)), (.call fDraw [(.var 0), (.cst (.int 3))])]) (.call fDraw [(.var 0), (.cst (.int 4))])))), .asg (.name 5) (.lst []), .for (.name 6) (.rng1 (.bi .min [(.var 4), (.bi .len [(.var 3)])])) [.exp (.me .append (.var 5) [(.me .pop (.var 3) [(.ix (.lst [(.call fDraw [(.var 0), (.bi .len [(.var 3)])]), (.neg (.cst (.int 1)))]) (.call fDraw [(.var 0), (.cst (.int 2))]))])])], .exp (.me .append (.var 3) [(.call fFork [(.var 5)])])], .ret (.ix (.var 3) (.cst (.int 0)))]
def bBelow : List C := [.asg (.name 1) (.lst []), .asg (.name 2) (.lst [(.var 0)]), .whl (.cmp .ne (.var 2) (.lst [])) [.asg (.name 3) (.me .pop (.var 2) []), .ife (.isi (.var 3) .str) [.exp (.me .append (.var 1) [(.var 3)])] [.exp (.me .extend (.var 2) [(.bi .list [(.var 3)])])]], .ret (.bi .tupl [(.bi .sorted [(.var 1)])])]
def bLots (fBelow : Nat) : List C := [.asg (.name 1) (.lst []), .asg (.name 2) (.lst [(.var 0)]), .whl (.cmp .ne (.var 2) (.lst [])) [.asg (.name 3) (.me .pop (.var 2) []), .ife (.not (.isi (.var 3) .str)) [.exp (.me .append (.var 1) [(.call fBelow [(.var 3)])]), .exp (.me .extend (.var 2) [(.bi .list [(.var 3)])])] []], .ret (.bi .sorted [(.var 1)])]
def bGreat (fNames fTree fDraw : Nat) : List C := [.asg (.name 1) (.call fNames [(.var 0), (.cst (.int 10))]), .asg (.name 2) (.ix (.var 1) (.cst (.int 0))), .for (.name 3) (.rng2 (.cst (.int 1)) (.cst (.int 10))) [.asg (.name 2) (.tup [(.var 2), (.ix (.var 1) (.var 3))])], .ret (.ix (.lst [(.var 2), (.bi .tupl [(.var 1)]), (.call fTree [(.var 0), (.var 1), (.cst (.int 1))])]) (.call fDraw [(.var 0), (.cst (.int 3))]))]
def bTwoWay : List C := [.asg (.name 1) (.lst [(.var 0)]), .whl (.cmp .ne (.var 1) (.lst [])) [.asg (.name 2) (.me .pop (.var 1) []), .ife (.not (.isi (.var 2) .str)) [.ife (.cmp .ne (.bi .len [(.var 2)]) (.cst (.int 2))) [.ret (.cst (.bl false))] [], .exp (.me .extend (.var 1) [(.bi .list [(.var 2)])])] []], .ret (.cst (.bl true))]
local macro_rules
  | `(tactic| get_elem_tactic_trivial) => `(tactic| first
    | with_reducible assumption
    | exact up_same
    | (refine up_keep (by with_reducible assumption) ?_; get_elem_tactic_trivial))
local macro_rules
  | `(tactic| decreasing_trivial) => `(tactic| first
    | with_reducible assumption
    | (with_unfolding_all exact Nat.le_of_ble_eq_true rfl)
    | omega
    | exact shrt_of (by with_unfolding_all rfl)
    | exact sh_cut (by with_reducible assumption) _ _
    | exact cmul_l (by omega) (by omega)
    | exact cmul_r (by omega) (by omega)
    | exact pow_lit (by decide) (by decide) (by decide))
local macro_rules
  | `(tactic| contradiction) => `(tactic| with_reducible first
    | assumption | (apply r_var; with_unfolding_all rfl)
    | apply r_cst | apply r_glo | apply r_tup | apply r_lst | apply r_dK | apply r_bin | apply r_neg | apply r_cmp | apply r_chn
    | apply r_not | apply r_and | apply r_or | apply r_ite | apply r_ix | apply r_sl | apply r_rev | apply r_isi | apply r_bi | apply r_me | apply r_call | apply r_lc
    | apply r_es0 | apply r_es1 | apply r_rs0 | apply r_rs1 | apply r_o0 | apply r_o1 | apply r_part | apply r_ot0 | apply r_ot1 | apply r_mv
    | apply t_not | apply t_and | apply t_or | apply t_cmp | apply t_chn | (apply t_var; with_unfolding_all rfl) | apply t_isi | apply t_bi | apply t_me | apply t_call | apply t_ix
    | (apply x_len; with_unfolding_all exact Nat.le_of_ble_eq_true rfl) | (apply x_ty; with_unfolding_all exact ⟨_, rfl⟩) | (apply x_tyL; get_elem_tactic_trivial; rfl)
    | apply x_bl | apply x_int | (apply x_tru; with_unfolding_all rfl) | (apply x_isi; with_unfolding_all rfl)
    | apply i_T | apply i_F | apply i_nT | apply i_nF
    | apply o_addI | (apply o_addS; decreasing_trivial) | (apply o_addSS; decreasing_trivial; decreasing_trivial) | (apply o_addT; decreasing_trivial) | (apply o_addTT; decreasing_trivial; decreasing_trivial) | apply o_sub
    | (apply o_mulI; decreasing_trivial) | (apply o_mulS; decreasing_trivial) | (apply o_fdiv; decreasing_trivial) | (apply o_mod; decreasing_trivial) | (apply o_pow; decreasing_trivial)
    | (apply o_addNN; decreasing_trivial) | (apply o_addRN; get_elem_tactic_trivial; decreasing_trivial) | (apply o_addNR; get_elem_tactic_trivial; decreasing_trivial) | (apply o_addRR; get_elem_tactic_trivial; get_elem_tactic_trivial; decreasing_trivial)
    | apply c_eqI | apply c_eqS | apply c_eqB | apply c_neI | apply c_neS | apply c_neB | apply c_ltI | apply c_ltS | apply c_gtI | apply c_leI | apply c_geI | apply c_inS | apply c_ninS
    | (apply p_str; decreasing_trivial; with_unfolding_all rfl) | (apply p_tup; with_unfolding_all rfl) | (apply p_lstN; with_unfolding_all rfl) | (apply p_lst; get_elem_tactic_trivial; with_unfolding_all rfl) | (apply p_dK; get_elem_tactic_trivial; with_unfolding_all rfl)
    | (apply l_strS; decreasing_trivial) | (apply l_str; decreasing_trivial) | apply l_tup | apply l_fz | apply l_lstN | (apply l_lst; get_elem_tactic_trivial) | apply v_tup | apply v_lstN | (apply v_lst; get_elem_tactic_trivial)
    | (apply b_lenS; decreasing_trivial) | apply b_lenT | apply b_lenN | (apply b_lenL; get_elem_tactic_trivial) | apply b_abs | apply b_intI | apply b_intB | apply b_tuplN | apply b_tuplT | (apply b_tuplL; get_elem_tactic_trivial) | apply b_listN | apply b_listT | (apply b_listL; get_elem_tactic_trivial)
    | apply z_nil | apply z_exp | apply z_set | apply z_ret | apply z_ife | apply z_for | apply z_brk | apply z_cnt | apply z_sub
    | apply bn_name | (apply q_str; decreasing_trivial) | apply q_tup | apply q_fz | apply q_n | (apply q_ref; get_elem_tactic_trivial) | apply w_seq | apply w_rng1 | apply w_rng2)
local macro_rules
  | `(tactic| contradiction) => `(tactic| with_reducible first
    | (apply p_cells; get_elem_tactic_trivial) | (apply p_at; get_elem_tactic_trivial) | (apply p_left; get_elem_tactic_trivial)
    | (apply y_at; get_elem_tactic_trivial) | (apply y_left; get_elem_tactic_trivial))
theorem draw_ok {B : List Fn} {f k n : Nat} (hT : B[f]? = some ⟨2, 8, bDraw⟩) {S : Sto} {p c : Addr} {m : Int} {Q : PR} (hp : PenOk S p c n) (hn : n < 60000) (h1 : 1 ≤ m) (h2 : m ≤ 1000000)
    (q : ∀ S' r, PenOk S' p c (n + 1) → (∀ b, b ≠ p → S' b = S b) → 0 ≤ r → r < m → Q (.v (.int r)) S') : W B (k + 1) f [.ref p, .int m] S Q := by
  obtain ⟨hne, ns, a, l, hP, hC, ha, hA, hl, hns⟩ := hp
  refine enter (b := ⟨2, 8, bDraw⟩) (ρ := [some (.ref p), some (.int m), none, none, none, none, none, none]) hT rfl rfl ?_
  show wSs (W B k) bDraw _ _ _
  delta bDraw
  have hm : m ≠ 0 := by omega
  have hm2 : m ≠ 0 ∧ m.natAbs < 1073741824 := ⟨hm, by omega⟩
  have fin : ∀ (T : Sto) (a' l' r : Int), (∀ b, b ≠ p → T b = S b) → T p = some (.dK (pen c a' l')) → 0 ≤ a' → a' ≤ (n + 1 : Nat) → 0 ≤ l' → 0 ≤ r → r < m → Q (.v (.int r)) T := by
    intro T a' l' r e e2 g1 g2 g3 g4 g5
    exact q T r ⟨hne, ns, a', l', e2, (e c hne.symm).trans hC, g1, g2, g3, hns⟩ e g4 g5
  have frame1 : ∀ (o : Ob) (b : Addr), b ≠ p → up S p o b = S b := fun o b h => up_ne h
  repeat' contradiction
  by_cases hL : 0 < l
  · refine i_D hL ?_
    repeat' contradiction
    exact fin _ _ _ _ (fun b h => up_ne h) up_same ha (by omega) (Int.fdiv_nonneg hl (by omega)) (Int.fmod_nonneg_of_pos l (by omega)) (Int.fmod_lt_of_pos l (by omega))
  · refine i_N hL ?_
    have hC1 : ∀ o, up S p o c = some (.lst (ns.map .int)) := fun o => (up_ne hne.symm).trans hC
    have end2 : ∀ (T : Sto) (w : Int), (∀ b, b ≠ p → T b = S b) → T p = some (.dK (pen c (a + 1) l)) → wSs (W B k) (bDraw.drop 5) [some (.ref p), some (.int m), none, some (.int a), some (.int w), none, none, none] T { nx := fun _ S' => Q (.v .non) S', rt := Q } := by
      intro T w e e2
      have hTc : T c = some (.lst (ns.map .int)) := (e c hne.symm).trans hC
      show wSs (W B k) [_, _, _, _] _ _ _
      have hl1 : ((ns.map D.int).length : Int) ≤ 63 := by rw [List.length_map]; omega
      have go : wSs (W B k) (bDraw.drop 6) [some (.ref p), some (.int m), none, some (.int a), some (.int w), none, none, none] T { nx := fun _ S' => Q (.v .non) S', rt := Q } := by
        show wSs (W B k) [_, _, _] _ _ _
        have b1 := fmod_nn (i := w) 2147483549 (by decide)
        have b2 := fmod_nn (i := (w.fmod 2147483549 + 73009 * a + 71) ^ (5 : Int).toNat) 2147483647 (by decide)
        have m1 : 73009 * a ≤ 73009 * 60000 := Int.mul_le_mul_of_nonneg_left (by omega) (by omega)
        have m2 : 84991 * a * a ≤ 84991 * 60000 * 60000 := Int.mul_le_mul (by omega) (by omega) ha (by omega)
        have m3 : ((w.fmod 2147483549 + 73009 * a + 71) ^ (5 : Int).toNat).fmod 2147483647 * (a + 65557) ≤ 2147483647 * 125557 := Int.mul_le_mul (by omega) (by omega) (by omega) (by omega)
        have m4 : 0 ≤ 84991 * a * a := Int.mul_nonneg (by omega) ha
        have m5 : 0 ≤ ((w.fmod 2147483549 + 73009 * a + 71) ^ (5 : Int).toNat).fmod 2147483647 * (a + 65557) := Int.mul_nonneg b2.1 (by omega)
        repeat' contradiction
        exact fin T (a + 1) l _ e e2 (by omega) (by omega) hl (Int.fmod_nonneg_of_pos _ (by omega)) (Int.fmod_lt_of_pos _ (by omega))
      repeat' contradiction
      by_cases hA : a < ((ns.map D.int).length : Int)
      · refine i_D hA ?_
        repeat' contradiction
        by_cases hB : 10 ^ (18 : Int).toNat ≤ (if w < 0 then -w else w)
        · refine i_D hB ?_
          repeat' contradiction
          refine fin _ (a + 1) _ _ (fun b h => (up_ne h).trans (e b h)) up_same (by omega) (by omega) (Int.fdiv_nonneg ?_ (by omega)) (Int.fmod_nonneg_of_pos _ (by omega)) (Int.fmod_lt_of_pos _ (by omega))
          repeat' split
          all_goals omega
        · refine i_N hB ?_
          contradiction
          exact go
      · refine i_N hA ?_
        contradiction
        contradiction
        exact go
    repeat' contradiction
    apply c_ne0 (hC1 _)
    contradiction
    cases ns with
    | nil =>
      refine i_neT rfl ?_
      contradiction
      exact end2 _ _ (fun b h => up_ne h) up_same
    | cons n0 ns =>
      refine i_neF rfl ?_
      have hx : ((List.map D.int (n0 :: ns)).length : Int) ≠ 0 := by rw [List.length_map, List.length_cons]; omega
      have hb := fmod_nn (i := a) ((List.map D.int (n0 :: ns)).length : Int) (by rw [List.length_map, List.length_cons]; omega)
      obtain ⟨w, hw⟩ := ints_at (ns := n0 :: ns) (i := a.fmod ((List.map D.int (n0 :: ns)).length : Int)) hb.1 (by simpa using hb.2)
      have hCc := hC1 (.dK (pen c (a + 1) l))
      repeat' contradiction
      refine p_lst hCc hw ?_
      contradiction
      contradiction
      exact end2 _ _ (fun b h => up_ne h) up_same
def pool : List Str := ["a", "aa", "ab", "b", "ba", "c", "d", "e", "zz", "zzzzzzzz", "m", "ma", "n"]
theorem names_ok {B : List Fn} {f fd k n m : Nat} (hT : B[f]? = some ⟨2, 4, bNames fd⟩) (hD : B[fd]? = some ⟨2, 8, bDraw⟩) {S : Sto} {p c : Addr} {Q : PR} (hp : PenOk S p c n) (hn : n + m < 60000) (hm : m ≤ 13)
    (q : ∀ S' (xs : List Str), PenOk S' p c (n + m) → Ext p S S' → xs.length = m → (∃ rest, (xs ++ rest).Perm pool) → Q (.n (.lst (xs.map .str))) S') : W B (k + 2) f [.ref p, .int m] S Q := by
  refine enter (b := ⟨2, 4, bNames fd⟩) (ρ := [some (.ref p), some (.int m), none, none]) hT rfl rfl ?_
  show wSs (W B (k + 1)) (bNames fd) _ _ _
  delta bNames
  repeat' contradiction
  refine r_mn fun t ht => ?_
  have hpt : p ≠ t := fun z => by subst z; obtain ⟨_, _, _, _, e, _⟩ := hp; rw [ht] at e; cases e
  have hp0 : PenOk (up S t (.lst (pool.map .str))) p c n := by
    obtain ⟨h1, ns, a, l, e1, e2, r⟩ := hp
    exact ⟨h1, ns, a, l, up_keep ht e1, up_keep ht e2, r⟩
  repeat' contradiction
  refine ⟨by omega, by omega, ?_⟩
  refine lc_ok (fun i acc S' => ∃ ys rest : List Str, acc = ys.map .str ∧ S' t = some (.lst (rest.map .str)) ∧ (ys ++ rest).Perm pool ∧ ys.length = i ∧ PenOk S' p c (n + i) ∧ Ext p S S') ?_ ?_ ⟨[], pool, rfl, up_same, List.Perm.refl _, rfl, hp0, Ext.new ht⟩
  · intro i x acc S' K hx ⟨ys, rest, ha, hS, hP, hi, hpn, hE⟩ next
    refine ⟨trivial, ?_⟩
    have hil : i < m := by
      have := (List.getElem?_eq_some_iff.mp hx).1
      simpa [rngD] using this
    have hrl : ys.length + rest.length = 13 := by rw [← List.length_append, hP.length_eq]; rfl
    subst ha
    have hl0 : ((rest.map D.str).length : Int) = rest.length := by rw [List.length_map]
    repeat' contradiction
    refine draw_ok hD hpn (by omega) (by rw [hl0]; omega) (by rw [hl0]; omega) ?_
    intro S2 r hp2 hf h0 h1
    have hSt : S2 t = some (.lst (rest.map .str)) := (hf t hpt.symm).trans hS
    repeat' contradiction
    refine m_popI hSt h0 (by omega) (by omega) fun x hx => ?_
    repeat' contradiction
    refine next _ _ ⟨ys ++ [x], rest.eraseIdx r.toNat, by simp, up_same, ?_, by simp [hi], ?_, ?_⟩
    · refine List.Perm.trans ?_ hP
      rw [List.append_assoc]
      exact List.Perm.append_left ys hx
    · obtain ⟨h1, ns, a, l, e1, e2, r⟩ := hp2
      have hct : c ≠ t := fun z => by subst z; obtain ⟨_, ns', _, _, _, e, _⟩ := hp; rw [ht] at e; cases e
      exact ⟨h1, ns, a, l, (up_ne hpt).trans e1, (up_ne hct).trans e2, r⟩
    · intro b o hb e
      have hbt : b ≠ t := fun z => by subst z; rw [ht] at e; cases e
      exact (up_ne hbt).trans ((hf b hb).trans (hE b o hb e))
  · intro acc S' ⟨ys, rest, ha, hS, hP, hi, hpn, hE⟩
    refine ⟨trivial, ?_⟩
    subst ha
    have hi : ys.length = m := by simpa [rngD] using hi
    rw [show (rngD 0 (m : Int).toNat).length = m by simp [rngD]] at hpn
    repeat' contradiction
    refine b_sortS ?_
    exact q S' _ hpn hE ((List.length_mergeSort ys).trans hi) ⟨rest, (List.Perm.append_right rest (List.mergeSort_perm ys leS)).trans hP⟩
end DP

set_option maxRecDepth 100000
set_option maxHeartbeats 1000000
/-! DpV: what the defs about trees do, whatever their numbers. -/
namespace DP
open PySem L2
section
variable {F : Fw} {ρ : DP.Env} {S : Sto} {Q : PR} {a : E}
theorem r_lc2 {elt : E} {tg : TN} {it : I} {ifs : Option E} {tg1 : TN} {it1 : I} {ifs1 : Option E} {own own1 : List Nat} (q : wI F it ρ S fun xs hold S1 => accL (fun x acc S2 k => bindN tg x (wipeE ρ own) fun ρ1 => wOT F ifs ρ1 S2 fun b S3 =>
      if b = true then wI F it1 ρ1 S3 fun ys hold1 S4 => accL (fun y acc S5 k1 => bindN tg1 y (wipeE ρ1 own1) fun ρ2 => wOT F ifs1 ρ2 S5 fun b S6 =>
        if b = true then wE F elt ρ2 S6 fun r S7 => mat r S7 fun d S8 => acc.length < sizeLine ∧ k1 (acc ++ [d]) S8 else k1 acc S6) hold1 ys acc S4 k else k acc S3) hold xs [] S1 fun ds S2 => Q (.n (.lst ds)) S2) : wE F (.lc2 elt tg it ifs tg1 it1 ifs1 own own1) ρ S Q := q
theorem w_enum {K : List D → (Sto → Prop) → Sto → Prop} (q : wE F a ρ S fun r S1 => enumW r S1 fun xs hold => K (numD xs) hold S1) : wI F (.enum a) ρ S K := q
theorem e_n {xs : List D} {K : List D → (Sto → Prop) → Prop} (h : xs.length ≤ sizeLine) (q : K xs fun _ => True) : enumW (.n (.lst xs)) S K := ⟨h, q⟩
theorem e_ref {a : Addr} {xs : List D} {K : List D → (Sto → Prop) → Prop} (e : S a = some (.lst xs)) (h : xs.length ≤ sizeLine) (q : K xs fun S' => S' a = some (.lst xs)) : enumW (.v (.ref a)) S K := ⟨xs, e, h, q⟩
theorem c_isnotB {i j : Bool} (q : Q (.v (.bl (!decide (i = j)))) S) : cmpW .isnot (.v (.bl i)) (.v (.bl j)) S Q := q
theorem b_min {i j : Int} (q : Q (.v (.int (if j < i then j else i))) S) : biW .min [.v (.int i), .v (.int j)] S Q := q
theorem bn_tup2 {i j : Nat} {x y : D} {Q : DP.Env → Prop} (q : Q ((ρ.set i (some x)).set j (some y))) : bindN (.tup [i, j]) (.tup [x, y]) ρ Q := ⟨rfl, q⟩
end
local macro_rules
  | `(tactic| get_elem_tactic_trivial) => `(tactic| first
    | with_reducible assumption
    | exact up_same
    | (refine up_keep (by with_reducible assumption) ?_; get_elem_tactic_trivial))
local macro_rules
  | `(tactic| decreasing_trivial) => `(tactic| first
    | with_reducible assumption
    | (with_unfolding_all exact Nat.le_of_ble_eq_true rfl)
    | omega
    | exact shrt_of (by with_unfolding_all rfl)
    | exact sh_cut (by with_reducible assumption) _ _
    | exact cmul_l (by omega) (by omega)
    | exact cmul_r (by omega) (by omega)
    | exact pow_lit (by decide) (by decide) (by decide))
local macro_rules
  | `(tactic| contradiction) => `(tactic| with_reducible first
    | assumption | (apply r_var; with_unfolding_all rfl)
    | apply r_cst | apply r_glo | apply r_tup | apply r_lst | apply r_dK | apply r_bin | apply r_neg | apply r_cmp | apply r_chn
    | apply r_not | apply r_and | apply r_or | apply r_ite | apply r_ix | apply r_sl | apply r_rev | apply r_isi | apply r_bi | apply r_me | apply r_call | apply r_lc
    | apply r_es0 | apply r_es1 | apply r_rs0 | apply r_rs1 | apply r_o0 | apply r_o1 | apply r_part | apply r_ot0 | apply r_ot1 | apply r_mv
    | apply t_not | apply t_and | apply t_or | apply t_cmp | apply t_chn | (apply t_var; with_unfolding_all rfl) | apply t_isi | apply t_bi | apply t_me | apply t_call | apply t_ix
    | (apply x_len; with_unfolding_all exact Nat.le_of_ble_eq_true rfl) | (apply x_ty; with_unfolding_all exact ⟨_, rfl⟩) | (apply x_tyL; get_elem_tactic_trivial; rfl)
    | apply x_bl | apply x_int | (apply x_tru; with_unfolding_all rfl) | (apply x_isi; with_unfolding_all rfl)
    | apply i_T | apply i_F | apply i_nT | apply i_nF
    | apply o_addI | (apply o_addS; decreasing_trivial) | (apply o_addSS; decreasing_trivial; decreasing_trivial) | (apply o_addT; decreasing_trivial) | (apply o_addTT; decreasing_trivial; decreasing_trivial) | apply o_sub
    | (apply o_mulI; decreasing_trivial) | (apply o_mulS; decreasing_trivial) | (apply o_fdiv; decreasing_trivial) | (apply o_mod; decreasing_trivial) | (apply o_pow; decreasing_trivial)
    | (apply o_addNN; decreasing_trivial) | (apply o_addRN; get_elem_tactic_trivial; decreasing_trivial) | (apply o_addNR; get_elem_tactic_trivial; decreasing_trivial) | (apply o_addRR; get_elem_tactic_trivial; get_elem_tactic_trivial; decreasing_trivial)
    | apply c_eqI | apply c_eqS | apply c_eqB | apply c_neI | apply c_neS | apply c_neB | apply c_ltI | apply c_ltS | apply c_gtI | apply c_leI | apply c_geI | apply c_inS | apply c_ninS
    | (apply p_str; decreasing_trivial; with_unfolding_all rfl) | (apply p_tup; with_unfolding_all rfl) | (apply p_lstN; with_unfolding_all rfl) | (apply p_lst; get_elem_tactic_trivial; with_unfolding_all rfl) | (apply p_dK; get_elem_tactic_trivial; with_unfolding_all rfl)
    | (apply l_strS; decreasing_trivial) | (apply l_str; decreasing_trivial) | apply l_tup | apply l_fz | apply l_lstN | (apply l_lst; get_elem_tactic_trivial) | apply v_tup | apply v_lstN | (apply v_lst; get_elem_tactic_trivial)
    | (apply b_lenS; decreasing_trivial) | apply b_lenT | apply b_lenN | (apply b_lenL; get_elem_tactic_trivial) | apply b_abs | apply b_intI | apply b_intB | apply b_tuplN | apply b_tuplT | (apply b_tuplL; get_elem_tactic_trivial) | apply b_listN | apply b_listT | (apply b_listL; get_elem_tactic_trivial)
    | apply z_nil | apply z_exp | apply z_set | apply z_ret | apply z_ife | apply z_for | apply z_brk | apply z_cnt | apply z_sub
    | apply bn_name | (apply q_str; decreasing_trivial) | apply q_tup | apply q_fz | apply q_n | (apply q_ref; get_elem_tactic_trivial) | apply w_seq | apply w_rng1 | apply w_rng2)
local macro_rules
  | `(tactic| contradiction) => `(tactic| with_reducible first
    | (apply p_cells; get_elem_tactic_trivial) | (apply p_at; get_elem_tactic_trivial) | (apply p_left; get_elem_tactic_trivial)
    | (apply y_at; get_elem_tactic_trivial) | (apply y_left; get_elem_tactic_trivial))
local macro_rules
  | `(tactic| contradiction) => `(tactic| with_reducible first
    | apply r_lc2 | apply w_enum | apply e_n | apply c_isnotB | apply b_min | apply bn_tup2)
section
variable {B : List Fn} {f fs n : Nat} {S : Sto} {Q : PR}
theorem standing_ok (hT : B[f]? = some ⟨1, 3, bStanding f⟩) : ∀ (n : Nat) (d : D), isTr d → ht d < n → (nms d).length ≤ 1000 → ∀ {S : Sto} {Q : PR}, Q (.n (.lst ((nms d).map .str))) S → W B n f [d] S Q
  | 0, _, _, h, _, _, _, _ => absurd h (Nat.not_lt_zero _)
  | n + 1, d, htr, hh, hl, S, Q, q => by
    refine enter (b := ⟨1, 3, bStanding f⟩) (ρ := [some d, none, none]) hT rfl rfl ?_
    show wSs (W B n) (bStanding f) _ _ _
    delta bStanding
    cases d with
    | str x =>
      repeat' contradiction
      exact q
    | tup ds =>
      rw [isTr] at htr
      rw [ht] at hh
      rw [nms, nmss_flat] at hl
      rw [nms, nmss_flat] at q
      have e0 : (ds.flatMap fun d => (nms d).map D.str) = (ds.flatMap nms).map .str := by rw [List.map_flatMap]
      repeat' contradiction
      refine acc_flat (fun d => (nms d).map .str) 1000 trivial (by rw [e0, List.length_map]; simpa using hl) (fun x hx acc K hz hK => ?_) ?_
      · repeat' contradiction
        have hx1 := hts_le hx
        refine standing_ok hT n x (isTrs_iff.mp htr.2 x hx) (by omega) (by rw [List.length_map] at hz; omega) ?_
        repeat' contradiction
        refine acc_id 1000 trivial hz (fun y hy acc K h hK => ?_) hK
        repeat' contradiction
        exact ⟨by rw [sizeLine_eq]; omega, hK⟩
      · rw [e0]
        exact q
    | non => simp [isTr] at htr
    | bl _ => simp [isTr] at htr
    | int _ => simp [isTr] at htr
    | fz _ => simp [isTr] at htr
    | ref _ => simp [isTr] at htr
theorem names_in_ok (hT : B[f]? = some ⟨1, 1, bNamesIn fs⟩) (hS : B[fs]? = some ⟨1, 3, bStanding fs⟩) {d : D} (htr : isTr d) (hh : ht d + 1 < n) (hl : (nms d).length ≤ 1000) (q : Q (.v (tupS (sortS (nms d)))) S) : W B n f [d] S Q := by
  obtain ⟨n, rfl⟩ : ∃ k, n = k + 1 := ⟨n - 1, by omega⟩
  refine enter (b := ⟨1, 1, bNamesIn fs⟩) (ρ := [some d]) hT rfl rfl ?_
  show wSs (W B n) (bNamesIn fs) _ _ _
  delta bNamesIn
  repeat' contradiction
  refine standing_ok hS n d htr (by omega) hl ?_
  repeat' contradiction
  refine b_sortS ?_
  repeat' contradiction
  exact q
theorem is_two_ok (hT : B[f]? = some ⟨1, 2, bIsTwo f⟩) : ∀ (n : Nat) (d : D), isTr d → ht d < n → ∀ {S : Sto} {Q : PR}, Q (.v (.bl (two d))) S → W B n f [d] S Q
  | 0, _, _, h, _, _, _ => absurd h (Nat.not_lt_zero _)
  | n + 1, d, htr, hh, S, Q, q => by
    refine enter (b := ⟨1, 2, bIsTwo f⟩) (ρ := [some d, none]) hT rfl rfl ?_
    show wSs (W B n) (bIsTwo f) _ _ _
    delta bIsTwo
    cases d with
    | str x =>
      repeat' contradiction
      exact q
    | tup ds =>
      rw [isTr] at htr
      rw [ht] at hh
      rw [two, twos_all] at q
      repeat' contradiction
      by_cases h2 : (ds.length : Int) = 2
      · refine i_D h2 ?_
        rw [decide_eq_true (show ds.length = 2 by omega), Bool.true_and] at q
        repeat' contradiction
        refine lc_allD (fun d => .bl (two d)) trivial (fun x hx K hK => ?_) ?_
        · repeat' contradiction
          have hx1 := hts_le hx
          refine is_two_ok hT n x (isTrs_iff.mp htr.2 x hx) (by omega) ?_
          repeat' contradiction
        · repeat' contradiction
          rw [map_blf]
          refine b_allB ?_
          rw [List.all_map]
          exact q
      · refine i_N h2 ?_
        rw [decide_eq_false (show ¬ ds.length = 2 by omega), Bool.false_and] at q
        rw [decide_eq_false h2]
        exact q
    | non => simp [isTr] at htr
    | bl _ => simp [isTr] at htr
    | int _ => simp [isTr] at htr
    | fz _ => simp [isTr] at htr
    | ref _ => simp [isTr] at htr
theorem len_flat {α β : Type} {g : α → List β} {x : α} : ∀ {ds : List α}, x ∈ ds → (g x).length ≤ (ds.flatMap g).length
  | [], h => by cases h
  | d :: ds, h => by
    rw [List.flatMap_cons, List.length_append]
    rcases List.mem_cons.mp h with e | e
    · subst e; omega
    · have := len_flat (g := g) e; omega
theorem lots_below_ok {fn : Nat} (hT : B[f]? = some ⟨1, 3, bLotsBelow fn f⟩) (hN : B[fn]? = some ⟨1, 1, bNamesIn fs⟩) (hS : B[fs]? = some ⟨1, 3, bStanding fs⟩) : ∀ (n : Nat) (d : D), isTr d → ht d + 2 < n → (nms d).length ≤ 1000 → (lotsB d).length ≤ 1000 →
    ∀ {S : Sto} {Q : PR}, Q (.n (.lst ((lotsB d).map tupS))) S → W B n f [d] S Q
  | 0, _, _, h, _, _, _, _, _ => absurd h (Nat.not_lt_zero _)
  | n + 1, d, htr, hh, hl, hl2, S, Q, q => by
    refine enter (b := ⟨1, 3, bLotsBelow fn f⟩) (ρ := [some d, none, none]) hT rfl rfl ?_
    show wSs (W B n) (bLotsBelow fn f) _ _ _
    delta bLotsBelow
    cases d with
    | str x =>
      repeat' contradiction
      exact q
    | tup ds =>
      have htr0 := htr
      have hh0 := hh
      rw [isTr] at htr
      rw [ht] at hh
      rw [lotsB, lotsBs_flat] at q hl2
      have e0 : (ds.flatMap fun d => (lotsB d).map tupS) = (ds.flatMap lotsB).map tupS := by rw [List.map_flatMap]
      repeat' contradiction
      refine names_in_ok hN hS htr0 (by rw [ht]; omega) hl ?_
      repeat' contradiction
      rw [List.length_cons] at hl2
      refine acc_flat (fun d => (lotsB d).map tupS) 1000 trivial (by rw [e0, List.length_map, List.length_nil]; omega) (fun x hx acc K hz hK => ?_) ?_
      · repeat' contradiction
        have hx1 := hts_le hx
        have hx2 : (nms x).length ≤ (nmss ds).length := by
          rw [nmss_flat]
          exact len_flat hx
        rw [nms] at hl
        refine lots_below_ok hT hN hS n x (isTrs_iff.mp htr.2 x hx) (by omega) (by omega) (by rw [List.length_map] at hz; omega) ?_
        repeat' contradiction
        refine acc_id 1000 trivial hz (fun y hy acc K h hK => ?_) hK
        repeat' contradiction
        exact ⟨by rw [sizeLine_eq]; omega, hK⟩
      · rw [e0]
        refine o_addNN (by rw [List.length_append, List.length_nil, List.length_map, List.length_singleton, sizeLine_eq]; omega) ?_
        exact q
    | non => simp [isTr] at htr
    | bl _ => simp [isTr] at htr
    | int _ => simp [isTr] at htr
    | fz _ => simp [isTr] at htr
    | ref _ => simp [isTr] at htr
end
mutual
theorem nms_ne : ∀ d : D, isTr d → 1 ≤ (nms d).length
  | .str x, _ => by simp [nms]
  | .tup ds, h => by
    rw [isTr] at h
    rw [nms]
    have := nmss_ne ds h.2
    omega
  | .non, h => by simp [isTr] at h
  | .bl _, h => by simp [isTr] at h
  | .int _, h => by simp [isTr] at h
  | .fz _, h => by simp [isTr] at h
  | .ref _, h => by simp [isTr] at h
theorem nmss_ne : ∀ ds : List D, isTrs ds → ds.length ≤ (nmss ds).length
  | [], _ => by simp [nmss]
  | d :: ds, h => by
    rw [isTrs] at h
    rw [nmss, List.length_append, List.length_cons]
    have := nms_ne d h.1
    have := nmss_ne ds h.2
    omega
end
/-- what is so of the names below each fork -/
theorem lots_sub : ∀ (d : D), isTr d → ∀ l ∈ lotsB d, ∃ e, isTr e ∧ l = sortS (nms e) ∧ (nms e).Sublist (nms d)
  | .tup ds, h, l, hl => by
    have h0 := h
    rw [isTr] at h
    rw [lotsB] at hl
    rcases List.mem_cons.mp hl with e | e
    · exact ⟨.tup ds, h0, by rw [nms]; exact e, List.Sublist.refl _⟩
    · obtain ⟨x, hx, r1, r2⟩ := go ds h.2 l e
      exact ⟨x, hx, r1, by rw [nms]; exact r2⟩
  | .str x, _, l, hl => by simp [lotsB] at hl
  | .non, h, _, _ => by simp [isTr] at h
  | .bl _, h, _, _ => by simp [isTr] at h
  | .int _, h, _, _ => by simp [isTr] at h
  | .fz _, h, _, _ => by simp [isTr] at h
  | .ref _, h, _, _ => by simp [isTr] at h
where
  go : ∀ ds : List D, isTrs ds → ∀ l ∈ lotsBs ds, ∃ e, isTr e ∧ l = sortS (nms e) ∧ (nms e).Sublist (nmss ds)
  | [], _, l, hl => by simp [lotsBs] at hl
  | d :: ds, h, l, hl => by
    rw [isTrs] at h
    rw [lotsBs, List.mem_append] at hl
    rw [nmss]
    rcases hl with e | e
    · obtain ⟨x, hx, r1, r2⟩ := lots_sub d h.1 l e
      exact ⟨x, hx, r1, r2.trans (List.sublist_append_left _ _)⟩
    · obtain ⟨x, hx, r1, r2⟩ := go ds h.2 l e
      exact ⟨x, hx, r1, r2.trans (List.sublist_append_right _ _)⟩
mutual
theorem lots_len : ∀ d : D, isTr d → (lotsB d).length + 1 ≤ (nms d).length
  | .str x, _ => by simp [lotsB, nms]
  | .tup ds, h => by
    rw [isTr] at h
    rw [lotsB, nms, List.length_cons]
    have := lotss_len ds h.2
    omega
  | .non, h => by simp [isTr] at h
  | .bl _, h => by simp [isTr] at h
  | .int _, h => by simp [isTr] at h
  | .fz _, h => by simp [isTr] at h
  | .ref _, h => by simp [isTr] at h
theorem lotss_len : ∀ ds : List D, isTrs ds → (lotsBs ds).length + ds.length ≤ (nmss ds).length
  | [], _ => by simp [lotsBs, nmss]
  | d :: ds, h => by
    rw [isTrs] at h
    rw [lotsBs, nmss, List.length_append, List.length_append, List.length_cons]
    have := lots_len d h.1
    have := lotss_len ds h.2
    omega
end
mutual
theorem nms_wd : ∀ d : D, isTr d → ∀ x ∈ nms d, Wd x
  | .str x, h, y, hy => by
    rw [isTr] at h
    rw [nms, List.mem_singleton] at hy
    subst hy
    exact h
  | .tup ds, h, y, hy => by
    rw [isTr] at h
    rw [nms] at hy
    exact nmss_wd ds h.2 y hy
  | .non, h, _, _ => by simp [isTr] at h
  | .bl _, h, _, _ => by simp [isTr] at h
  | .int _, h, _, _ => by simp [isTr] at h
  | .fz _, h, _, _ => by simp [isTr] at h
  | .ref _, h, _, _ => by simp [isTr] at h
theorem nmss_wd : ∀ ds : List D, isTrs ds → ∀ x ∈ nmss ds, Wd x
  | [], _, x, hx => by simp [nmss] at hx
  | d :: ds, h, x, hx => by
    rw [isTrs] at h
    rw [nmss, List.mem_append] at hx
    exact hx.elim (nms_wd d h.1 x) (nmss_wd ds h.2 x)
end
theorem lots_ne {d : D} (h : isTr d) : ∀ l ∈ lotsB d, l ≠ [] := fun l hl z => by
  obtain ⟨e, he, r, _⟩ := lots_sub d h l hl
  have h1 := nms_ne e he
  have h2 : (sortS (nms e)).length = (nms e).length := List.length_mergeSort _
  rw [← r, z] at h2
  simp at h2
  omega
section
variable {B : List Fn} {f fs n : Nat} {S : Sto} {Q : PR}
theorem lots_of_ok {fb fn : Nat} (hO : B[f]? = some ⟨1, 1, bLotsOf fb⟩) (hT : B[fb]? = some ⟨1, 3, bLotsBelow fn fb⟩) (hN : B[fn]? = some ⟨1, 1, bNamesIn fs⟩) (hS : B[fs]? = some ⟨1, 3, bStanding fs⟩) {d : D} (htr : isTr d) (hh : ht d + 3 < n) (hl : (nms d).length ≤ 1000)
    (q : Q (.n (.lst ((sortL (lotsB d)).map tupS))) S) : W B n f [d] S Q := by
  obtain ⟨n, rfl⟩ : ∃ k, n = k + 1 := ⟨n - 1, by omega⟩
  refine enter (b := ⟨1, 1, bLotsOf fb⟩) (ρ := [some d]) hO rfl rfl ?_
  show wSs (W B n) (bLotsOf fb) _ _ _
  delta bLotsOf
  have := lots_len d htr
  repeat' contradiction
  refine lots_below_ok hT hN hS n d htr (by omega) hl (by omega) ?_
  repeat' contradiction
  exact b_sortT (lots_ne htr) q
theorem is_word_ok {k : Nat} (hT : B[f]? = some ⟨1, 2, bIsName⟩) {x : Str} (h : Wd x) (q : Q (.v (.bl true)) S) : W B (k + 1) f [.str x] S Q := by
  refine enter (b := ⟨1, 2, bIsName⟩) (ρ := [some (.str x), none]) hT rfl rfl ?_
  show wSs (W B k) bIsName _ _ _
  delta bIsName
  have hl : x.length ≤ sizeLine := Nat.le_trans h.1.sh.1 (by decide)
  have h1 : (1 : Int) ≤ x.length := by have := h.1.1; omega
  have h2 : (x.length : Int) ≤ 8 := by have := h.1.2.1; omega
  repeat' contradiction
  refine i_D h1 ?_
  repeat' contradiction
  refine i_D h2 ?_
  repeat' contradiction
  refine lc_all (fun c => .bl (inLet c)) trivial (fun c hc K hK => ?_) ?_
  · repeat' contradiction
    exact hK
  · repeat' contradiction
    rw [map_blf]
    refine b_allB ?_
    rw [List.all_map]
    have e : (x.cps.toList.all (id ∘ inLet)) = true := h.2
    rw [e]
    exact q
theorem c_eqT0 {l : List Str} (h : ∀ x ∈ l, Shrt x) (q : Q (.v (.bl l.isEmpty)) S) : cmpW .eq (.v (tupS l)) (.v (.tup [])) S Q := by
  refine ⟨.tuple (l.map .str), .tuple [], .tup (rdg_strs S l), .tup .nil, strsT_shaped h, strsT_shaped (xs := []) (fun _ z => by cases z), ?_⟩
  have e : PyData.eqv (.tuple (l.map .str)) (.tuple []) = l.isEmpty := by
    rw [PyData.eqv]
    cases l <;> simp [PyData.eqvAll]
  rw [e]
  exact q
theorem atI_str {l : List Str} {i : Nat} {x : Str} (h : l[i]? = some x) : atI (l.map D.str) (i : Int) = some (.str x) := by
  unfold atI ixN
  have hi : i < l.length := (List.getElem?_eq_some_iff.mp h).1
  rw [List.length_map, if_pos (by omega), if_pos (by omega)]
  show (l.map D.str)[(i : Int).toNat]? = _
  rw [List.getElem?_map, Int.toNat_natCast, h]
  rfl
theorem is_lot_ok {k fw : Nat} (hT : B[f]? = some ⟨1, 3, bIsLot fw⟩) (hW : B[fw]? = some ⟨1, 2, bIsName⟩) {l : List Str} (hne : l ≠ []) (hw : ∀ x ∈ l, Wd x) (hl : l.length ≤ 1000) (hp : l.Pairwise fun x y => x.cps.toList < y.cps.toList) (q : Q (.v (.bl true)) S) : W B (k + 2) f [tupS l] S Q := by
  refine enter (b := ⟨1, 3, bIsLot fw⟩) (ρ := [some (tupS l), none, none]) hT rfl rfl ?_
  show wSs (W B (k + 1)) (bIsLot fw) _ _ _
  delta bIsLot
  have hb : ∀ xs : List Str, (∀ x ∈ xs, Wd x) → (xs.map fun _ => true).all id = true := fun xs _ => by simp
  repeat' contradiction
  refine c_eqT0 (fun x hx => (hw x hx).1.sh) ?_
  refine x_bl ?_
  have he : l.isEmpty = false := by cases l with
    | nil => exact absurd rfl hne
    | cons _ _ => rfl
  rw [he]
  repeat' contradiction
  refine lc_all (fun _ => .bl true) trivial (fun x hx K hK => ?_) ?_
  · repeat' contradiction
    refine is_word_ok hW (hw x hx) ?_
    repeat' contradiction
  · repeat' contradiction
    rw [map_blf]
    refine b_allB ?_
    refine x_tru rfl ?_
    rw [hb l hw]
    repeat' contradiction
    refine b_lenT (xs := l.map .str) ?_
    refine ⟨1, _, rfl, rfl, ⟨by omega, by omega, by omega, by rw [List.length_map]; omega⟩, by rw [List.length_map]; omega, ?_⟩
    refine lc_all (f := fun (i : Nat) => .int (1 + i)) (fun _ => .bl true) trivial (fun i hi K hK => ?_) ?_
    · have hi := List.mem_range.mp hi
      rw [List.length_map] at hi
      have hi : i + 1 < l.length := by omega
      have a1 : atI (l.map D.str) ((1 : Int) + i - 1) = some (.str l[i]) := by
        rw [show (1 : Int) + i - 1 = (i : Nat) by omega]
        exact atI_str (List.getElem?_eq_getElem (by omega))
      have a2 : atI (l.map D.str) ((1 : Int) + i) = some (.str l[i + 1]) := by
        rw [show (1 : Int) + i = ((i + 1 : Nat) : Int) by omega]
        exact atI_str (List.getElem?_eq_getElem hi)
      repeat' contradiction
      refine p_tup a1 ?_
      repeat' contradiction
      refine p_tup a2 ?_
      repeat' contradiction
      rw [decide_eq_true (List.pairwise_iff_getElem.mp hp i (i + 1) (by omega) hi (by omega))]
      repeat' contradiction
    · repeat' contradiction
      have e : ∀ m : Nat, ((List.range m).map fun _ => D.bl true) = ((List.range m).map fun _ => true).map .bl := fun m => by rw [List.map_map]; rfl
      rw [e]
      refine b_allB ?_
      have e2 : ∀ m : Nat, ((List.range m).map fun _ => true).all id = true := fun m => by simp
      rw [e2]
      exact q
end
end DP

set_option maxRecDepth 100000
set_option maxHeartbeats 1000000
/-! DpX: what the defs about trees do, whatever their numbers. -/
namespace DP
open PySem L2
local macro_rules
  | `(tactic| get_elem_tactic_trivial) => `(tactic| first
    | with_reducible assumption
    | exact up_same
    | (refine up_keep (by with_reducible assumption) ?_; get_elem_tactic_trivial))
local macro_rules
  | `(tactic| decreasing_trivial) => `(tactic| first
    | with_reducible assumption
    | (with_unfolding_all exact Nat.le_of_ble_eq_true rfl)
    | omega
    | exact shrt_of (by with_unfolding_all rfl)
    | exact sh_cut (by with_reducible assumption) _ _
    | exact cmul_l (by omega) (by omega)
    | exact cmul_r (by omega) (by omega)
    | exact pow_lit (by decide) (by decide) (by decide))
local macro_rules
  | `(tactic| contradiction) => `(tactic| with_reducible first
    | assumption | (apply r_var; with_unfolding_all rfl)
    | apply r_cst | apply r_glo | apply r_tup | apply r_lst | apply r_dK | apply r_bin | apply r_neg | apply r_cmp | apply r_chn
    | apply r_not | apply r_and | apply r_or | apply r_ite | apply r_ix | apply r_sl | apply r_rev | apply r_isi | apply r_bi | apply r_me | apply r_call | apply r_lc
    | apply r_es0 | apply r_es1 | apply r_rs0 | apply r_rs1 | apply r_o0 | apply r_o1 | apply r_part | apply r_ot0 | apply r_ot1 | apply r_mv
    | apply t_not | apply t_and | apply t_or | apply t_cmp | apply t_chn | (apply t_var; with_unfolding_all rfl) | apply t_isi | apply t_bi | apply t_me | apply t_call | apply t_ix
    | (apply x_len; with_unfolding_all exact Nat.le_of_ble_eq_true rfl) | (apply x_ty; with_unfolding_all exact ⟨_, rfl⟩) | (apply x_tyL; get_elem_tactic_trivial; rfl)
    | apply x_bl | apply x_int | (apply x_tru; with_unfolding_all rfl) | (apply x_isi; with_unfolding_all rfl)
    | apply i_T | apply i_F | apply i_nT | apply i_nF
    | apply o_addI | (apply o_addS; decreasing_trivial) | (apply o_addSS; decreasing_trivial; decreasing_trivial) | (apply o_addT; decreasing_trivial) | (apply o_addTT; decreasing_trivial; decreasing_trivial) | apply o_sub
    | (apply o_mulI; decreasing_trivial) | (apply o_mulS; decreasing_trivial) | (apply o_fdiv; decreasing_trivial) | (apply o_mod; decreasing_trivial) | (apply o_pow; decreasing_trivial)
    | (apply o_addNN; decreasing_trivial) | (apply o_addRN; get_elem_tactic_trivial; decreasing_trivial) | (apply o_addNR; get_elem_tactic_trivial; decreasing_trivial) | (apply o_addRR; get_elem_tactic_trivial; get_elem_tactic_trivial; decreasing_trivial)
    | apply c_eqI | apply c_eqS | apply c_eqB | apply c_neI | apply c_neS | apply c_neB | apply c_ltI | apply c_ltS | apply c_gtI | apply c_leI | apply c_geI | apply c_inS | apply c_ninS
    | (apply p_str; decreasing_trivial; with_unfolding_all rfl) | (apply p_tup; with_unfolding_all rfl) | (apply p_lstN; with_unfolding_all rfl) | (apply p_lst; get_elem_tactic_trivial; with_unfolding_all rfl) | (apply p_dK; get_elem_tactic_trivial; with_unfolding_all rfl)
    | (apply l_strS; decreasing_trivial) | (apply l_str; decreasing_trivial) | apply l_tup | apply l_fz | apply l_lstN | (apply l_lst; get_elem_tactic_trivial) | apply v_tup | apply v_lstN | (apply v_lst; get_elem_tactic_trivial)
    | (apply b_lenS; decreasing_trivial) | apply b_lenT | apply b_lenN | (apply b_lenL; get_elem_tactic_trivial) | apply b_abs | apply b_intI | apply b_intB | apply b_tuplN | apply b_tuplT | (apply b_tuplL; get_elem_tactic_trivial) | apply b_listN | apply b_listT | (apply b_listL; get_elem_tactic_trivial)
    | apply z_nil | apply z_exp | apply z_set | apply z_ret | apply z_ife | apply z_for | apply z_brk | apply z_cnt | apply z_sub
    | apply bn_name | (apply q_str; decreasing_trivial) | apply q_tup | apply q_fz | apply q_n | (apply q_ref; get_elem_tactic_trivial) | apply w_seq | apply w_rng1 | apply w_rng2)
local macro_rules
  | `(tactic| contradiction) => `(tactic| with_reducible first
    | (apply p_cells; get_elem_tactic_trivial) | (apply p_at; get_elem_tactic_trivial) | (apply p_left; get_elem_tactic_trivial)
    | (apply y_at; get_elem_tactic_trivial) | (apply y_left; get_elem_tactic_trivial))
local macro_rules
  | `(tactic| contradiction) => `(tactic| with_reducible first
    | apply r_lc2 | apply w_enum | apply e_n | apply c_isnotB | apply b_min | apply bn_tup2)
theorem atI_zero {α : Type} (x : α) (xs : List α) : atI (x :: xs) 0 = some x := by
  unfold atI ixN
  rw [if_pos (by decide), if_pos (by rw [List.length_cons]; omega)]
  rfl
/-- the name of the first leaf -/
def fst1 : D → Str
  | .str x => x
  | .tup (d :: _) => fst1 d
  | _ => ⟨#[]⟩
theorem tr_str {S : Sto} {d : D} (h : isTr d) : isTy S (.v d) .str = some (kStr d) := by
  cases d with
  | str x => rfl
  | tup ds => rfl
  | non => simp [isTr] at h
  | bl _ => simp [isTr] at h
  | int _ => simp [isTr] at h
  | fz _ => simp [isTr] at h
  | ref _ => simp [isTr] at h
theorem tr_fork {d : D} (h : isTr d) (hk : kStr d = false) : ∃ ds, d = .tup ds ∧ 2 ≤ ds.length ∧ isTrs ds := by
  cases d with
  | str x => cases hk
  | tup ds => rw [isTr] at h; exact ⟨ds, rfl, h.1, h.2⟩
  | non => simp [isTr] at h
  | bl _ => simp [isTr] at h
  | int _ => simp [isTr] at h
  | fz _ => simp [isTr] at h
  | ref _ => simp [isTr] at h
theorem tr_leaf {d : D} (hk : kStr d = true) : ∃ x, d = .str x := by
  cases d with
  | str x => exact ⟨x, rfl⟩
  | _ => cases hk
section
variable {B : List Fn} {f n : Nat} {S : Sto} {Q : PR}
theorem least_ok {k : Nat} (hT : B[f]? = some ⟨1, 1, bLeast⟩) {d : D} (htr : isTr d) (q : Wd (fst1 d) → Q (.v (.str (fst1 d))) S) : W B (k + 1) f [d] S Q := by
  refine enter (b := ⟨1, 1, bLeast⟩) (ρ := [some d]) hT rfl rfl ?_
  show wSs (W B k) bLeast _ _ _
  delta bLeast
  refine z_whl (fun m ρ S' => S' = S ∧ ∃ e, ρ = [some e] ∧ isTr e ∧ sz e = m ∧ fst1 e = fst1 d) ⟨_, rfl, d, rfl, htr, rfl, rfl⟩ ?_
  rintro m ρ S' ⟨rfl, e, rfl, he, hm, h1⟩
  repeat' contradiction
  refine x_isi (tr_str he) ?_
  refine x_tru rfl ?_
  cases hk : kStr e with
  | true =>
    obtain ⟨x, rfl⟩ := tr_leaf hk
    refine i_nT ?_
    repeat' contradiction
    rw [isTr] at he
    have h1 : x = fst1 d := by rw [← h1, fst1]
    subst h1
    exact q he
  | false =>
    obtain ⟨ds, rfl, h2, h3⟩ := tr_fork he hk
    cases ds with
    | nil => simp at h2
    | cons e1 es =>
      refine i_nF ?_
      repeat' contradiction
      refine p_tup (atI_zero e1 es) ?_
      repeat' contradiction
      rw [isTrs] at h3
      refine ⟨sz e1, ?_, rfl, e1, rfl, h3.1, rfl, ?_⟩
      · rw [sz, szs] at hm; omega
      · rw [← h1, fst1]
/-- numbered pairs, sorted -/
def pairD (p : Str × Nat) : D := .tup [.str p.1, .int (p.2 : Nat)]
theorem sortD_sub {xs : List D} : (sortD xs).Perm xs := List.mergeSort_perm _ _
theorem perm_pairs {xs : List (Str × Nat)} : ∃ ys : List (Str × Nat), sortD (xs.map pairD) = ys.map pairD ∧ ys.Perm xs :=
  ⟨xs.mergeSort (fun a b => PySem.W.dataLe false encD (pairD a) (pairD b)), (List.map_mergeSort (r := fun a b => PySem.W.dataLe false encD (pairD a) (pairD b)) (s := PySem.W.dataLe false encD) (f := pairD) (l := xs) fun _ _ _ _ => rfl).symm, List.mergeSort_perm _ _⟩
theorem enc_pair (p : Str × Nat) : encD (pairD p) = .tuple [.str p.1, .int (p.2 : Nat)] := by
  unfold pairD
  rw [encD, encDs, encDs, encDs, encD, encD]
theorem b_sortP {xs : List (Str × Nat)} (q : ∀ ys : List (Str × Nat), ys.Perm xs → Q (.n (.lst (ys.map pairD))) S) : biW .sorted [.n (.lst (xs.map pairD))] S Q := by
  obtain ⟨ys, e, hp⟩ := perm_pairs (xs := xs)
  have q := q ys hp
  rw [← e] at q
  refine ⟨_, rfl, ?_, ?_, .inl ?_, ?_, q⟩
  · rw [pureDs_all, List.all_map]
    exact List.all_eq_true.mpr fun p _ => rfl
  · intro d hd d' hd'
    simp only [List.map_map, List.mem_map] at hd hd'
    obtain ⟨x, _, rfl⟩ := hd
    obtain ⟨y, _, rfl⟩ := hd'
    show PySem.W.alike (encD (pairD x)) (encD (pairD y)) = true
    rw [enc_pair, enc_pair]
    simp [PySem.W.alike, PySem.W.alikeAll]
  · intro d hd
    simp only [List.map_map, List.mem_map] at hd
    obtain ⟨x, _, rfl⟩ := hd
    exact ⟨_, _, enc_pair x⟩
  · intro d hd
    obtain ⟨x, _, rfl⟩ := List.mem_map.mp hd
    rw [enc_pair]
    simp [PyData.depth, PyData.depthAll]
theorem fork_ok {k fl : Nat} (hT : B[f]? = some ⟨1, 5, bFork fl⟩) (hL : B[fl]? = some ⟨1, 1, bLeast⟩) {a : Addr} {ds : List D} (ha : S a = some (.lst ds)) (hn : 1 ≤ ds.length) (hl : ds.length ≤ 1000) (htr : isTrs ds)
    (q : ∀ d S', Sub S S' → isTr d → (nms d).Perm (nmss ds) → Q (.v d) S') : W B (k + 2) f [.ref a] S Q := by
  refine enter (b := ⟨1, 5, bFork fl⟩) (ρ := [some (.ref a), none, none, none, none]) hT rfl rfl ?_
  show wSs (W B (k + 1)) (bFork fl) _ _ _
  delta bFork
  repeat' contradiction
  by_cases h1 : (ds.length : Int) = 1
  · refine i_D h1 ?_
    match ds, hn, h1 with
    | [d], _, _ =>
      repeat' contradiction
      rw [isTrs] at htr
      exact q d S Sub.rfl htr.1 (by rw [nmss, nmss, List.append_nil])
    | _ :: _ :: _, _, h1 => simp at h1; omega
  · refine i_N h1 ?_
    repeat' contradiction
    refine e_ref ha (by rw [sizeLine_eq]; omega) ?_
    have e0 : numD ds = ((ds.zipIdx).map fun p => (D.tup [.int (p.2 : Nat), p.1])) := rfl
    rw [e0]
    refine lc_all (f := fun p : D × Nat => (D.tup [.int (p.2 : Nat), p.1])) (fun p => pairD (fst1 p.1, p.2)) ha (fun p hp K hK => ?_) ?_
    · have hm : p.1 ∈ ds := by
        obtain ⟨d, i⟩ := p
        exact (List.mem_zipIdx' hp).2 ▸ List.getElem_mem _
      repeat' contradiction
      refine least_ok hL (isTrs_iff.mp htr _ hm) fun _ => ?_
      repeat' contradiction
      exact hK
    · repeat' contradiction
      have e1 : (ds.zipIdx.map fun p => pairD (fst1 p.1, p.2)) = (ds.zipIdx.map fun p => (fst1 p.1, p.2)).map pairD := by rw [List.map_map]; rfl
      rw [e1]
      refine b_sortP fun ys hys => ?_
      refine r_mn fun t ht => ?_
      repeat' contradiction
      have hat : up S t (.lst (ys.map pairD)) a = some (.lst ds) := up_keep ht ha
      have hys2 : ∀ y ∈ ys, y.2 < ds.length := fun y hy => by
        obtain ⟨p, hp, e⟩ := List.mem_map.mp (hys.subset hy)
        subst e
        obtain ⟨d, i⟩ := p
        exact (List.mem_zipIdx' hp).1
      refine lc_all (f := pairD) (fun y => ds[y.2]?.getD .non) up_same (fun y hy K hK => ?_) ?_
      · have hy2 := hys2 y hy
        have e2 : atI ds (y.2 : Int) = some (ds[y.2]?.getD .non) := by
          unfold atI ixN
          rw [if_pos (by omega), if_pos (by omega)]
          show ds[((y.2 : Nat) : Int).toNat]? = _
          rw [Int.toNat_natCast, List.getElem?_eq_getElem hy2]
          rfl
        unfold pairD
        repeat' contradiction
        refine p_lst hat e2 ?_
        repeat' contradiction
        exact hK
      · repeat' contradiction
        have hp1 : (ys.map fun y => ds[y.2]?.getD .non).Perm ds := by
          have h3 : (ys.map fun y => ds[y.2]?.getD .non).Perm ((ds.zipIdx.map fun p => (fst1 p.1, p.2)).map fun y => ds[y.2]?.getD .non) := hys.map _
          have h4 : ((ds.zipIdx.map fun p => (fst1 p.1, p.2)).map fun y => ds[y.2]?.getD .non) = ds := by
            rw [List.map_map]
            refine List.ext_getElem? fun i => ?_
            rw [List.getElem?_map, List.getElem?_zipIdx]
            cases e : ds[i]? with
            | none => rfl
            | some d => simp [e]
          rw [h4] at h3
          exact h3
        refine q _ _ (Sub.rfl.then ht) ?_ ?_
        · rw [isTr]
          refine ⟨by rw [hp1.length_eq]; omega, isTrs_iff.mpr fun d hd => isTrs_iff.mp htr d (hp1.subset hd)⟩
        · rw [nms, nmss_flat, nmss_flat]
          exact hp1.flatMap_right _
end
theorem isTrs_app {xs ys : List D} : isTrs (xs ++ ys) ↔ isTrs xs ∧ isTrs ys := by
  rw [isTrs_iff, isTrs_iff, isTrs_iff]
  exact List.forall_mem_append
theorem isTrs_perm {xs ys : List D} (h : xs.Perm ys) (hy : isTrs ys) : isTrs xs := isTrs_iff.mpr fun d hd => isTrs_iff.mp hy d (h.subset hd)
theorem nmss_app (xs ys : List D) : nmss (xs ++ ys) = nmss xs ++ nmss ys := by rw [nmss_flat, nmss_flat, nmss_flat, List.flatMap_append]
theorem nmss_perm {xs ys : List D} (h : xs.Perm ys) : (nmss xs).Perm (nmss ys) := by
  rw [nmss_flat, nmss_flat]
  exact h.flatMap_right _
theorem nmss_strs (xs : List Str) : nmss (xs.map .str) = xs := by
  induction xs with
  | nil => rfl
  | cons x xs ih => rw [List.map_cons, nmss, ih, nms]; rfl
theorem isTrs_strs {xs : List Str} (h : ∀ x ∈ xs, Wd x) : isTrs (xs.map .str) := isTrs_iff.mpr fun d hd => by
  obtain ⟨x, hx, rfl⟩ := List.mem_map.mp hd
  rw [isTr]
  exact h x hx
theorem PenOk.lst {S : Sto} {p c a : Addr} {n : Nat} {xs : List D} (hp : PenOk S p c n) (h : S a = some (.lst xs)) : a ≠ p := fun z => by
  subst z
  obtain ⟨_, _, _, _, e, _⟩ := hp
  rw [h] at e
  cases e
section
variable {B : List Fn} {f n : Nat} {S : Sto} {Q : PR}
theorem tree_ok {k fd ff fl : Nat} (hT : B[f]? = some ⟨3, 7, bTree fd ff⟩) (hD : B[fd]? = some ⟨2, 8, bDraw⟩) (hF : B[ff]? = some ⟨1, 5, bFork fl⟩) (hL : B[fl]? = some ⟨1, 1, bLeast⟩) {p c a : Addr} {n : Nat} {w : Int} {xs : List Str}
    (hp : PenOk S p c n) (hn : n + 100 < 60000) (hw : w = 0 ∨ w = 1) (ha : S a = some (.lst (xs.map .str))) (hx : ∀ x ∈ xs, Wd x) (h1 : 1 ≤ xs.length) (h13 : xs.length ≤ 13)
    (q : ∀ S' d, PenOk S' p c (n + 100) → Ext p S S' → isTr d → (nms d).Perm xs → Q (.v d) S') : W B (k + 3) f [.ref p, .ref a, .int w] S Q := by
  refine enter (b := ⟨3, 7, bTree fd ff⟩) (ρ := [some (.ref p), some (.ref a), some (.int w), none, none, none, none]) hT rfl rfl ?_
  show wSs (W B (k + 2)) (bTree fd ff) _ _ _
  delta bTree
  repeat' contradiction
  refine r_mn fun t3 ht3 => ?_
  have hpt : t3 ≠ p := hp.ne ht3
  refine z_whl (fun m ρ S' => ∃ left o4 o5 o6, ρ = [some (.ref p), some (.ref a), some (.int w), some (.ref t3), o4, o5, o6] ∧ S' t3 = some (.lst left) ∧ isTrs left ∧ (nmss left).Perm xs ∧ 1 ≤ left.length ∧ left.length ≤ 13 ∧ m = left.length ∧ PenOk S' p c (n + 6 * (13 - left.length)) ∧ Ext p S S')
    ⟨xs.length, xs.map .str, none, none, none, rfl, up_same, isTrs_strs hx, by rw [nmss_strs], by rw [List.length_map]; exact h1, by rw [List.length_map]; exact h13, (List.length_map _).symm, (hp.new ht3).mono (by omega), Ext.new ht3⟩ ?_
  rintro m ρ S' ⟨left, o4, o5, o6, rfl, hS3, hTr, hPerm, hl1, hl13, rfl, hpn, hE⟩
  repeat' contradiction
  by_cases hlt : (1 : Int) < left.length
  · refine i_D hlt ?_
    repeat' contradiction
    refine draw_ok hD hpn (by omega) (by omega) (by omega) ?_
    intro S2 r2 hp2 hf2 g0 g1
    repeat' contradiction
    refine draw_ok hD hp2 (by omega) (by omega) (by omega) ?_
    intro S3 r3 hp3 hf3 j0 j1
    obtain ⟨j, hj, hjm⟩ := atI_lt (xs := [D.int 0, .int 0, .int 1, .int r2]) j0 j1
    obtain ⟨i, rfl, hi0, hi1⟩ : ∃ i, j = .int i ∧ 0 ≤ i ∧ i ≤ 2 := by
      have all : ∀ d ∈ [D.int 0, .int 0, .int 1, .int r2], ∃ i, d = .int i ∧ 0 ≤ i ∧ i ≤ 2 := by
        simp only [List.forall_mem_cons]
        exact ⟨⟨0, rfl, by decide, by decide⟩, ⟨0, rfl, by decide, by decide⟩, ⟨1, rfl, by decide, by decide⟩, ⟨r2, rfl, g0, by omega⟩, fun _ z => by cases z⟩
      exact all j hjm
    refine p_lstN hj ?_
    have hS3b : S3 t3 = some (.lst left) := (hf3 t3 hpt).trans ((hf2 t3 hpt).trans hS3)
    have hE3 : Ext p S S3 := fun b o hb e => (hf3 b hb).trans ((hf2 b hb).trans (hE b o hb e))
    clear hf2 hf3
    obtain ⟨mm, hmm, hm2, hm4⟩ : ∃ mm : Int, 2 + w * i = mm ∧ 2 ≤ mm ∧ mm ≤ 4 := by
      rcases hw with rfl | rfl
      · exact ⟨_, rfl, by omega, by omega⟩
      · exact ⟨_, rfl, by omega, by omega⟩
    repeat' contradiction
    rw [hmm]
    refine r_mn fun t5 ht5 => ?_
    have ht5p : t5 ≠ p := hp3.ne ht5
    have ht35 : t3 ≠ t5 := fun z => by subst z; rw [hS3b] at ht5; cases ht5
    have ht5S : S t5 = none := hE3.none ht5p ht5
    have hS3c : up S3 t5 (.lst []) t3 = some (.lst left) := up_keep ht5 hS3b
    repeat' contradiction
    obtain ⟨r, hr, hr2, hr4, hrl⟩ : ∃ r : Nat, (if (left.length : Int) < mm then (left.length : Int) else mm) = (r : Int) ∧ 2 ≤ r ∧ r ≤ 4 ∧ r ≤ left.length := by
      refine ⟨(if (left.length : Int) < mm then (left.length : Int) else mm).toNat, ?_, ?_, ?_, ?_⟩
      all_goals split <;> omega
    rw [hr]
    refine ⟨by omega, by omega, ?_⟩
    have hrn : (rngD 0 (r : Int).toNat).length = r := by simp [rngD]
    refine for_ok (fun i ρ S' => ∃ left' parts o6, ρ = [some (.ref p), some (.ref a), some (.int w), some (.ref t3), some (.int mm), some (.ref t5), o6] ∧ S' t3 = some (.lst left') ∧ S' t5 = some (.lst parts) ∧ isTrs left' ∧ isTrs parts ∧ (nmss left' ++ nmss parts).Perm xs ∧
      left'.length + i = left.length ∧ parts.length = i ∧ PenOk S' p c (n + 6 * (13 - left.length) + 2 + 2 * i) ∧ Ext p S S') (fun i x ρ S' K hx h hK => ⟨trivial, ?_⟩) (fun ρ S' h => ⟨trivial, ?_⟩)
      ⟨left, [], o6, rfl, hS3c, up_same, hTr, by simp [isTrs], by rw [nmss, List.append_nil]; exact hPerm, rfl, rfl, (hp3.new ht5).mono (by omega), hE3.then ht5S⟩
    · obtain ⟨left', parts, o6, rfl, e3, e5, tr3, tr5, hpm, hle, hpl, hpi, hEi⟩ := h
      have hir : i < r := by
        have := (List.getElem?_eq_some_iff.mp hx).1
        omega
      repeat' contradiction
      refine draw_ok hD hpi (by omega) (by omega) (by omega) ?_
      intro S4 r4 hp4 hf4 u0 u1
      have e3a : S4 t3 = some (.lst left') := (hf4 t3 hpt).trans e3
      have e5a : S4 t5 = some (.lst parts) := (hf4 t5 ht5p).trans e5
      have hE4 : Ext p S S4 := fun b o hb e => (hf4 b hb).trans (hEi b o hb e)
      clear hf4
      repeat' contradiction
      refine draw_ok hD hp4 (by omega) (by omega) (by omega) ?_
      intro S5 r5 hp5 hf5 v0 v1
      have e3b : S5 t3 = some (.lst left') := (hf5 t3 hpt).trans e3a
      have e5b : S5 t5 = some (.lst parts) := (hf5 t5 ht5p).trans e5a
      have hE5 : Ext p S S5 := fun b o hb e => (hf5 b hb).trans (hE4 b o hb e)
      clear hf5
      obtain ⟨y, hy, hym⟩ := atI_lt (xs := [D.int r4, .int (-1)]) v0 v1
      obtain ⟨z, rfl, hz⟩ : ∃ z, y = .int z ∧ (z = -1 ∨ (0 ≤ z ∧ z < left'.length)) := by
        rcases List.mem_cons.mp hym with e | e
        · exact ⟨r4, e, .inr ⟨u0, u1⟩⟩
        · exact ⟨-1, List.mem_singleton.mp e, .inl rfl⟩
      refine p_lstN hy ?_
      repeat' contradiction
      refine m_popD e3b hz (by omega) (by omega) fun x rest hxr => ?_
      repeat' contradiction
      refine m_append (xs := parts) (up_get (Ne.symm ht35) e5b) (by rw [sizeLine_eq]; omega) ?_
      refine z_nil (hK _ _ ?_)
      have tr' : isTrs (x :: rest) := isTrs_perm hxr tr3
      rw [isTrs] at tr'
      refine ⟨rest, parts ++ [x], _, rfl, up_get ht35 up_same, up_same, tr'.2, isTrs_app.mpr ⟨tr5, by simp [isTrs, tr'.1]⟩, ?_, ?_, ?_, ?_, ?_⟩
      · rw [nmss_app, nmss, nmss, List.append_nil]
        have h1 := nmss_perm hxr
        rw [nmss] at h1
        refine List.Perm.trans ?_ hpm
        refine List.Perm.trans ?_ (List.Perm.append_right (nmss parts) h1)
        refine List.Perm.trans (List.perm_append_comm) ?_
        rw [List.append_assoc]
        refine List.Perm.trans (List.perm_append_comm) ?_
        rw [List.append_assoc]
      · have := hxr.length_eq
        rw [List.length_cons] at this
        omega
      · rw [List.length_append, List.length_singleton, hpl]
      · exact (hp.upd ht5S (hp.upd ht3 hp5)).mono (by omega)
      · exact (hE5.then ht3).then ht5S
    · obtain ⟨left', parts, o6, rfl, e3, e5, tr3, tr5, hpm, hle, hpl, hpi, hEi⟩ := h
      rw [hrn] at hle hpl hpi
      repeat' contradiction
      refine fork_ok (k := k) hF hL e5 (by omega) (by omega) tr5 ?_
      intro d S6 hsub htd hnd
      have e3c := hsub _ _ e3
      repeat' contradiction
      refine m_append e3c (by rw [sizeLine_eq]; omega) ?_
      refine z_nil ⟨(left' ++ [d]).length, by rw [List.length_append, List.length_singleton]; omega, left' ++ [d], _, _, _, rfl, up_same, isTrs_app.mpr ⟨tr3, by simp [isTrs, htd]⟩, ?_, by rw [List.length_append, List.length_singleton]; omega, by rw [List.length_append, List.length_singleton]; omega, rfl, ?_, ?_⟩
      · rw [nmss_app, nmss, nmss, List.append_nil]
        exact (List.Perm.append_left _ hnd).trans hpm
      · refine (hp.upd ht3 (hpi.sub hsub)).mono ?_
        rw [List.length_append, List.length_singleton]
        omega
      · exact (hEi.trans hsub.ext).then ht3
  · refine i_N hlt ?_
    match left, hl1, hlt with
    | [d], _, _ =>
      repeat' contradiction
      rw [isTrs] at hTr
      rw [nmss, nmss, List.append_nil] at hPerm
      exact q S' d (hpn.mono (by omega)) hE hTr.1 hPerm
    | _ :: _ :: _, _, h => simp at h; omega
end
end DP

set_option maxRecDepth 100000
set_option maxHeartbeats 1000000
/-! DpY: what the defs about trees do, whatever their numbers. -/
namespace DP
open PySem L2
local macro_rules
  | `(tactic| get_elem_tactic_trivial) => `(tactic| first
    | with_reducible assumption
    | exact up_same
    | (refine up_keep (by with_reducible assumption) ?_; get_elem_tactic_trivial))
local macro_rules
  | `(tactic| decreasing_trivial) => `(tactic| first
    | with_reducible assumption
    | (with_unfolding_all exact Nat.le_of_ble_eq_true rfl)
    | omega
    | exact shrt_of (by with_unfolding_all rfl)
    | exact sh_cut (by with_reducible assumption) _ _
    | exact cmul_l (by omega) (by omega)
    | exact cmul_r (by omega) (by omega)
    | exact pow_lit (by decide) (by decide) (by decide))
local macro_rules
  | `(tactic| contradiction) => `(tactic| with_reducible first
    | assumption | (apply r_var; with_unfolding_all rfl)
    | apply r_cst | apply r_glo | apply r_tup | apply r_lst | apply r_dK | apply r_bin | apply r_neg | apply r_cmp | apply r_chn
    | apply r_not | apply r_and | apply r_or | apply r_ite | apply r_ix | apply r_sl | apply r_rev | apply r_isi | apply r_bi | apply r_me | apply r_call | apply r_lc
    | apply r_es0 | apply r_es1 | apply r_rs0 | apply r_rs1 | apply r_o0 | apply r_o1 | apply r_part | apply r_ot0 | apply r_ot1 | apply r_mv
    | apply t_not | apply t_and | apply t_or | apply t_cmp | apply t_chn | (apply t_var; with_unfolding_all rfl) | apply t_isi | apply t_bi | apply t_me | apply t_call | apply t_ix
    | (apply x_len; with_unfolding_all exact Nat.le_of_ble_eq_true rfl) | (apply x_ty; with_unfolding_all exact ⟨_, rfl⟩) | (apply x_tyL; get_elem_tactic_trivial; rfl)
    | apply x_bl | apply x_int | (apply x_tru; with_unfolding_all rfl) | (apply x_isi; with_unfolding_all rfl)
    | apply i_T | apply i_F | apply i_nT | apply i_nF
    | apply o_addI | (apply o_addS; decreasing_trivial) | (apply o_addSS; decreasing_trivial; decreasing_trivial) | (apply o_addT; decreasing_trivial) | (apply o_addTT; decreasing_trivial; decreasing_trivial) | apply o_sub
    | (apply o_mulI; decreasing_trivial) | (apply o_mulS; decreasing_trivial) | (apply o_fdiv; decreasing_trivial) | (apply o_mod; decreasing_trivial) | (apply o_pow; decreasing_trivial)
    | (apply o_addNN; decreasing_trivial) | (apply o_addRN; get_elem_tactic_trivial; decreasing_trivial) | (apply o_addNR; get_elem_tactic_trivial; decreasing_trivial) | (apply o_addRR; get_elem_tactic_trivial; get_elem_tactic_trivial; decreasing_trivial)
    | apply c_eqI | apply c_eqS | apply c_eqB | apply c_neI | apply c_neS | apply c_neB | apply c_ltI | apply c_ltS | apply c_gtI | apply c_leI | apply c_geI | apply c_inS | apply c_ninS
    | (apply p_str; decreasing_trivial; with_unfolding_all rfl) | (apply p_tup; with_unfolding_all rfl) | (apply p_lstN; with_unfolding_all rfl) | (apply p_lst; get_elem_tactic_trivial; with_unfolding_all rfl) | (apply p_dK; get_elem_tactic_trivial; with_unfolding_all rfl)
    | (apply l_strS; decreasing_trivial) | (apply l_str; decreasing_trivial) | apply l_tup | apply l_fz | apply l_lstN | (apply l_lst; get_elem_tactic_trivial) | apply v_tup | apply v_lstN | (apply v_lst; get_elem_tactic_trivial)
    | (apply b_lenS; decreasing_trivial) | apply b_lenT | apply b_lenN | (apply b_lenL; get_elem_tactic_trivial) | apply b_abs | apply b_intI | apply b_intB | apply b_tuplN | apply b_tuplT | (apply b_tuplL; get_elem_tactic_trivial) | apply b_listN | apply b_listT | (apply b_listL; get_elem_tactic_trivial)
    | apply z_nil | apply z_exp | apply z_set | apply z_ret | apply z_ife | apply z_for | apply z_brk | apply z_cnt | apply z_sub
    | apply bn_name | (apply q_str; decreasing_trivial) | apply q_tup | apply q_fz | apply q_n | (apply q_ref; get_elem_tactic_trivial) | apply w_seq | apply w_rng1 | apply w_rng2)
local macro_rules
  | `(tactic| contradiction) => `(tactic| with_reducible first
    | (apply p_cells; get_elem_tactic_trivial) | (apply p_at; get_elem_tactic_trivial) | (apply p_left; get_elem_tactic_trivial)
    | (apply y_at; get_elem_tactic_trivial) | (apply y_left; get_elem_tactic_trivial))
local macro_rules
  | `(tactic| contradiction) => `(tactic| with_reducible first
    | apply r_lc2 | apply w_enum | apply e_n | apply c_isnotB | apply b_min | apply bn_tup2)
theorem hts_app (xs : List D) (y : D) : hts (xs ++ [y]) = max (hts xs) (ht y) := by
  induction xs with
  | nil => rw [List.nil_append, hts, hts, hts]; omega
  | cons x xs ih => rw [List.cons_append, hts, hts, ih]; omega
theorem hts_app2 (xs ys : List D) : hts (xs ++ ys) = max (hts xs) (hts ys) := by
  induction xs with
  | nil => rw [List.nil_append, hts]; omega
  | cons x xs ih => rw [List.cons_append, hts, hts, ih]; omega
theorem szs_app (xs ys : List D) : szs (xs ++ ys) = szs xs + szs ys := by
  induction xs with
  | nil => rw [List.nil_append, szs]; omega
  | cons x xs ih => rw [List.cons_append, szs, szs, ih]; omega
theorem szs_len (xs : List D) : xs.length ≤ szs xs := by
  induction xs with
  | nil => exact Nat.zero_le _
  | cons x xs ih => rw [List.length_cons, szs]; have := sz_pos x; omega
theorem twos_app (xs ys : List D) : twos (xs ++ ys) = (twos xs && twos ys) := by rw [twos_all, twos_all, twos_all, List.all_append]
theorem lotsBs_app (xs ys : List D) : lotsBs (xs ++ ys) = lotsBs xs ++ lotsBs ys := by rw [lotsBs_flat, lotsBs_flat, lotsBs_flat, List.flatMap_append]
theorem last_of {xs : List D} (h : xs.isEmpty = false) : ∃ ys y, xs = ys ++ [y] := by
  rcases List.eq_nil_or_concat xs with e | ⟨ys, y, e⟩
  · subst e; cases h
  · exact ⟨ys, y, by rw [e, List.concat_eq_append]⟩
section
variable {B : List Fn} {f n : Nat} {S : Sto} {Q : PR}
theorem below_ok {k : Nat} (hT : B[f]? = some ⟨1, 4, bBelow⟩) {d : D} (htr : isTr d) (hz : sz d ≤ 60) (q : ∀ S', Sub S S' → Q (.v (tupS (sortS (nms d)))) S') : W B (k + 1) f [d] S Q := by
  refine enter (b := ⟨1, 4, bBelow⟩) (ρ := [some d, none, none, none]) hT rfl rfl ?_
  show wSs (W B k) bBelow _ _ _
  delta bBelow
  repeat' contradiction
  refine r_mn fun a1 ha1 => ?_
  repeat' contradiction
  refine r_mn fun a2 ha2 => ?_
  have hS2 : S a2 = none := (Sub.rfl.then ha1).none ha2
  have hne : a1 ≠ a2 := fun z => by subst z; rw [up_same] at ha2; cases ha2
  have hts1 := ht_sz d
  refine z_whl (fun m ρ S' => ∃ fnd left o3, ρ = [some d, some (.ref a1), some (.ref a2), o3] ∧ S' a1 = some (.lst (fnd.map .str)) ∧ S' a2 = some (.lst left) ∧ isTrs left ∧ hts left ≤ 60 ∧ (fnd ++ nmss left).Perm (nms d) ∧ m = szs left ∧ fnd.length + szs left ≤ 60 ∧ Sub S S')
    ⟨sz d, [], [d], none, rfl, up_keep ha2 up_same, up_same, by simp [isTrs, htr], by rw [hts, hts]; omega, by rw [nmss, nmss, List.append_nil, List.nil_append], by rw [szs, szs]; omega, by rw [szs, szs, List.length_nil]; omega, (Sub.rfl.then ha1).then hS2⟩ ?_
  rintro m ρ S' ⟨fnd, left, o3, rfl, e1, e2, tr, hh, hpm, rfl, hsz, hsub⟩
  repeat' contradiction
  refine c_neT e2 tr hh ?_
  refine x_bl ?_
  cases hemp : left.isEmpty with
  | true =>
    have : left = [] := List.isEmpty_iff.mp hemp
    subst this
    refine i_nT ?_
    repeat' contradiction
    refine b_sortSR e1 ?_
    repeat' contradiction
    rw [nmss, List.append_nil] at hpm
    have e : fnd.mergeSort leS = sortS (nms d) := sortS_eq hpm
    rw [e]
    exact q S' hsub
  | false =>
    refine i_nF ?_
    obtain ⟨left, x, rfl⟩ := last_of hemp
    have trx : isTr x := (isTrs_iff.mp tr) x (by simp)
    have trl : isTrs left := (isTrs_app.mp tr).1
    rw [hts_app] at hh
    rw [szs_app, szs, szs, Nat.add_zero] at hsz ⊢
    rw [nmss_app, nmss, nmss, List.append_nil] at hpm
    repeat' contradiction
    refine m_popL e2 ?_
    have e1' : up S' a2 (.lst left) a1 = some (.lst (fnd.map .str)) := up_get hne e1
    repeat' contradiction
    refine x_isi (tr_str trx) ?_
    refine x_tru rfl ?_
    cases hk : kStr x with
    | true =>
      obtain ⟨y, rfl⟩ := tr_leaf hk
      rw [nms] at hpm
      rw [show sz (.str y) = 1 by simp [sz]] at hsz ⊢
      refine i_T ?_
      repeat' contradiction
      refine m_append e1' (by rw [List.length_map, sizeLine_eq]; omega) ?_
      refine z_nil ?_
      refine z_nil ⟨szs left, by omega, fnd ++ [y], left, _, rfl, by rw [List.map_append]; exact up_same, up_get (Ne.symm hne) up_same, trl, by omega, ?_, rfl, by rw [List.length_append, List.length_singleton]; omega, (hsub.then hS2).then ha1⟩
      refine List.Perm.trans ?_ hpm
      rw [List.append_assoc]
      exact List.Perm.append_left _ List.perm_append_comm
    | false =>
      obtain ⟨ds, rfl, h2, h3⟩ := tr_fork trx hk
      rw [nms] at hpm
      rw [sz] at hsz ⊢
      rw [ht] at hh
      refine i_F ?_
      repeat' contradiction
      refine r_mn fun t ht' => ?_
      have eL : up (up S' a2 (.lst left)) t (.lst ds) a2 = some (.lst left) := up_keep ht' up_same
      have hl1 := szs_len left
      have hl2 := szs_len ds
      repeat' contradiction
      refine m_extend eL up_same (by rw [sizeLine_eq]; omega) ?_
      have htS : S t = none := (hsub.then hS2).none ht'
      have hta1 : a1 ≠ t := fun z => by subst z; rw [e1'] at ht'; cases ht'
      refine z_nil ?_
      refine z_nil ⟨szs (left ++ ds), by rw [szs_app]; omega, fnd, left ++ ds, _, rfl, up_get hne (up_get hta1 e1'), up_same, isTrs_app.mpr ⟨trl, h3⟩, by rw [hts_app2]; omega, ?_, rfl, by rw [szs_app]; omega, ((hsub.then hS2).then htS).then hS2⟩
      rw [nmss_app]
      exact hpm
theorem lots_ok {k fb : Nat} (hT : B[f]? = some ⟨1, 4, bLots fb⟩) (hB : B[fb]? = some ⟨1, 4, bBelow⟩) {d : D} (htr : isTr d) (hz : sz d ≤ 60) (q : ∀ S', Sub S S' → Q (.n (.lst ((sortL (lotsB d)).map tupS))) S') : W B (k + 2) f [d] S Q := by
  refine enter (b := ⟨1, 4, bLots fb⟩) (ρ := [some d, none, none, none]) hT rfl rfl ?_
  show wSs (W B (k + 1)) (bLots fb) _ _ _
  delta bLots
  repeat' contradiction
  refine r_mn fun a1 ha1 => ?_
  repeat' contradiction
  refine r_mn fun a2 ha2 => ?_
  have hS2 : S a2 = none := (Sub.rfl.then ha1).none ha2
  have hne : a1 ≠ a2 := fun z => by subst z; rw [up_same] at ha2; cases ha2
  have hts1 := ht_sz d
  refine z_whl (fun m ρ S' => ∃ fnd left o3, ρ = [some d, some (.ref a1), some (.ref a2), o3] ∧ S' a1 = some (.lst (fnd.map tupS)) ∧ S' a2 = some (.lst left) ∧ isTrs left ∧ hts left ≤ 60 ∧ (fnd ++ lotsBs left).Perm (lotsB d) ∧ m = szs left ∧ fnd.length + szs left ≤ 60 ∧ Sub S S')
    ⟨sz d, [], [d], none, rfl, up_keep ha2 up_same, up_same, by simp [isTrs, htr], by rw [hts, hts]; omega, by rw [lotsBs, lotsBs, List.append_nil, List.nil_append], by rw [szs, szs]; omega, by rw [szs, szs, List.length_nil]; omega, (Sub.rfl.then ha1).then hS2⟩ ?_
  rintro m ρ S' ⟨fnd, left, o3, rfl, e1, e2, tr, hh, hpm, rfl, hsz, hsub⟩
  repeat' contradiction
  refine c_neT e2 tr hh ?_
  refine x_bl ?_
  cases hemp : left.isEmpty with
  | true =>
    have : left = [] := List.isEmpty_iff.mp hemp
    subst this
    refine i_nT ?_
    repeat' contradiction
    rw [lotsBs, List.append_nil] at hpm
    refine b_sortTR e1 (fun l hl => lots_ne htr l (hpm.subset hl)) ?_
    rw [sortL_eq hpm]
    exact q S' hsub
  | false =>
    refine i_nF ?_
    obtain ⟨left, x, rfl⟩ := last_of hemp
    have trx : isTr x := (isTrs_iff.mp tr) x (by simp)
    have trl : isTrs left := (isTrs_app.mp tr).1
    rw [hts_app] at hh
    rw [szs_app, szs, szs, Nat.add_zero] at hsz ⊢
    rw [lotsBs_app, lotsBs, lotsBs, List.append_nil] at hpm
    repeat' contradiction
    refine m_popL e2 ?_
    have e1' : up S' a2 (.lst left) a1 = some (.lst (fnd.map tupS)) := up_get hne e1
    repeat' contradiction
    refine x_isi (tr_str trx) ?_
    refine x_tru rfl ?_
    cases hk : kStr x with
    | true =>
      obtain ⟨y, rfl⟩ := tr_leaf hk
      rw [show lotsB (.str y) = [] by simp [lotsB], List.append_nil] at hpm
      rw [show sz (.str y) = 1 by simp [sz]] at hsz ⊢
      refine i_nT ?_
      repeat' contradiction
      exact ⟨szs left, by omega, fnd, left, _, rfl, e1', up_same, trl, by omega, hpm, rfl, by omega, hsub.then hS2⟩
    | false =>
      obtain ⟨ds, rfl, h2, h3⟩ := tr_fork trx hk
      rw [lotsB] at hpm
      have hzx : sz (.tup ds) ≤ 60 := by omega
      rw [sz] at hsz ⊢
      rw [ht] at hh
      refine i_nF ?_
      repeat' contradiction
      refine below_ok hB trx hzx ?_
      intro S3 hs3
      have e1b := hs3 _ _ e1'
      have e2b : S3 a2 = some (.lst left) := hs3 _ _ up_same
      repeat' contradiction
      refine m_append e1b (by rw [List.length_map, sizeLine_eq]; omega) ?_
      have hsub3 : Sub S (up S3 a1 (.lst (fnd.map tupS ++ [tupS (sortS (nms (.tup ds)))]))) := ((hsub.then hS2).trans hs3).then ha1
      have e2c : up S3 a1 (.lst (fnd.map tupS ++ [tupS (sortS (nms (.tup ds)))])) a2 = some (.lst left) := up_get (Ne.symm hne) e2b
      repeat' contradiction
      refine r_mn fun t ht' => ?_
      have eL := up_keep (p := .lst ds) ht' e2c
      have hl1 := szs_len left
      have hl2 := szs_len ds
      repeat' contradiction
      refine m_extend eL up_same (by rw [sizeLine_eq]; omega) ?_
      have htS : S t = none := hsub3.none ht'
      have hta1 : a1 ≠ t := fun z => by subst z; rw [up_same] at ht'; cases ht'
      refine z_nil ?_
      refine z_nil ⟨szs (left ++ ds), by rw [szs_app]; omega, fnd ++ [sortS (nms (.tup ds))], left ++ ds, _, rfl, ?_, up_same, isTrs_app.mpr ⟨trl, h3⟩, by rw [hts_app2]; omega, ?_, rfl, by rw [szs_app, List.length_append, List.length_singleton]; omega, (hsub3.then htS).then hS2⟩
      · rw [List.map_append]
        exact up_get hne (up_get hta1 up_same)
      · rw [lotsBs_app, nms, List.append_assoc]
        refine List.Perm.trans (List.Perm.append_left _ ?_) hpm
        exact (List.perm_middle (a := sortS (nmss ds)) (l₁ := lotsBs left) (l₂ := lotsBs ds)).symm
theorem two_way_ok {k : Nat} (hT : B[f]? = some ⟨1, 3, bTwoWay⟩) {d : D} (htr : isTr d) (hz : sz d ≤ 60) (q : ∀ S', Sub S S' → Q (.v (.bl (two d))) S') : W B (k + 1) f [d] S Q := by
  refine enter (b := ⟨1, 3, bTwoWay⟩) (ρ := [some d, none, none]) hT rfl rfl ?_
  show wSs (W B k) bTwoWay _ _ _
  delta bTwoWay
  repeat' contradiction
  refine r_mn fun a2 ha2 => ?_
  have hts1 := ht_sz d
  refine z_whl (fun m ρ S' => ∃ left o3, ρ = [some d, some (.ref a2), o3] ∧ S' a2 = some (.lst left) ∧ isTrs left ∧ hts left ≤ 60 ∧ two d = twos left ∧ m = szs left ∧ szs left ≤ 60 ∧ Sub S S')
    ⟨sz d, [d], none, rfl, up_same, by simp [isTrs, htr], by rw [hts, hts]; omega, by rw [twos, twos, Bool.and_true], by rw [szs, szs]; omega, by rw [szs, szs]; omega, Sub.rfl.then ha2⟩ ?_
  rintro m ρ S' ⟨left, o3, rfl, e2, tr, hh, hpm, rfl, hsz, hsub⟩
  repeat' contradiction
  refine c_neT e2 tr hh ?_
  refine x_bl ?_
  cases hemp : left.isEmpty with
  | true =>
    have : left = [] := List.isEmpty_iff.mp hemp
    subst this
    refine i_nT ?_
    repeat' contradiction
    have q := q S' hsub
    rw [hpm, twos] at q
    exact q
  | false =>
    refine i_nF ?_
    obtain ⟨left, x, rfl⟩ := last_of hemp
    have trx : isTr x := (isTrs_iff.mp tr) x (by simp)
    have trl : isTrs left := (isTrs_app.mp tr).1
    rw [hts_app] at hh
    rw [szs_app, szs, szs, Nat.add_zero] at hsz ⊢
    rw [twos_app, twos, twos, Bool.and_true] at hpm
    repeat' contradiction
    refine m_popL e2 ?_
    repeat' contradiction
    refine x_isi (tr_str trx) ?_
    refine x_tru rfl ?_
    cases hk : kStr x with
    | true =>
      obtain ⟨y, rfl⟩ := tr_leaf hk
      rw [show two (.str y) = true by simp [two], Bool.and_true] at hpm
      rw [show sz (.str y) = 1 by simp [sz]] at hsz ⊢
      refine i_nT ?_
      repeat' contradiction
      exact ⟨szs left, by omega, left, _, rfl, up_same, trl, by omega, hpm, rfl, by omega, hsub.then ha2⟩
    | false =>
      obtain ⟨ds, rfl, h2, h3⟩ := tr_fork trx hk
      rw [two] at hpm
      rw [sz] at hsz ⊢
      rw [ht] at hh
      refine i_nF ?_
      repeat' contradiction
      by_cases hd : (ds.length : Int) = 2
      · refine i_nN hd ?_
        rw [decide_eq_true (show ds.length = 2 by omega), Bool.true_and] at hpm
        repeat' contradiction
        refine r_mn fun t ht' => ?_
        have eL : up (up S' a2 (.lst left)) t (.lst ds) a2 = some (.lst left) := up_keep ht' up_same
        have hl1 := szs_len left
        have hl2 := szs_len ds
        repeat' contradiction
        refine m_extend eL up_same (by rw [sizeLine_eq]; omega) ?_
        have htS : S t = none := (hsub.then ha2).none ht'
        refine z_nil ?_
        exact z_nil ⟨szs (left ++ ds), by rw [szs_app]; omega, left ++ ds, _, rfl, up_same, isTrs_app.mpr ⟨trl, h3⟩, by rw [hts_app2]; omega, by rw [twos_app]; exact hpm, rfl, by rw [szs_app]; omega, ((hsub.then ha2).then htS).then ha2⟩
      · refine i_nD hd ?_
        rw [decide_eq_false (show ¬ ds.length = 2 by omega), Bool.false_and, Bool.and_false] at hpm
        repeat' contradiction
        rw [hpm] at q
        exact q _ (hsub.then ha2)
end
theorem pool_wd : ∀ x ∈ pool, Wd x := by
  have key : ∀ x : Str, (nmB x && x.cps.toList.all inLet) = true → Wd x := fun x h => by
    rw [Bool.and_eq_true] at h
    exact ⟨nm_of h.1, h.2⟩
  have all : pool.all (fun x => nmB x && x.cps.toList.all inLet) = true := by decide +kernel
  exact fun x hx => key x (List.all_eq_true.mp all x hx)
theorem pool_nodup : pool.Nodup := by
  unfold pool
  decide +kernel
/-- names out of the pool -/
def Pooled (xs : List Str) : Prop := ∃ rest, (xs ++ rest).Perm pool
theorem Pooled.wd {xs : List Str} (h : Pooled xs) : ∀ x ∈ xs, Wd x := fun x hx => let ⟨_, hp⟩ := h; pool_wd x (hp.subset (List.mem_append_left _ hx))
theorem Pooled.nodup {xs : List Str} (h : Pooled xs) : xs.Nodup := let ⟨_, hp⟩ := h; (List.nodup_append.mp (hp.nodup_iff.mpr pool_nodup)).1
theorem Pooled.len {xs : List Str} (h : Pooled xs) : xs.length ≤ 13 := by
  obtain ⟨_, hp⟩ := h
  have := hp.length_eq
  rw [List.length_append] at this
  have e : pool.length = 13 := rfl
  omega
theorem Pooled.perm {xs ys : List Str} (h : Pooled xs) (hp : ys.Perm xs) : Pooled ys := let ⟨r, q⟩ := h; ⟨r, (List.Perm.append_right r hp).trans q⟩
section
variable {B : List Fn} {f n : Nat} {S : Sto} {Q : PR}
theorem great_ok {k fn ft fd ff fl : Nat} (hT : B[f]? = some ⟨1, 4, bGreat fn ft fd⟩) (hN : B[fn]? = some ⟨2, 4, bNames fd⟩) (hTr : B[ft]? = some ⟨3, 7, bTree fd ff⟩) (hD : B[fd]? = some ⟨2, 8, bDraw⟩) (hF : B[ff]? = some ⟨1, 5, bFork fl⟩) (hL : B[fl]? = some ⟨1, 1, bLeast⟩) {p c : Addr} {n : Nat}
    (hp : PenOk S p c n) (hn : n + 200 < 60000) (q : ∀ S' d, PenOk S' p c (n + 120) → Ext p S S' → isTr d → (nms d).length = 10 → Pooled (nms d) → Q (.v d) S') : W B (k + 4) f [.ref p] S Q := by
  refine enter (b := ⟨1, 4, bGreat fn ft fd⟩) (ρ := [some (.ref p), none, none, none]) hT rfl rfl ?_
  show wSs (W B (k + 3)) (bGreat fn ft fd) _ _ _
  delta bGreat
  repeat' contradiction
  refine names_ok (k := k + 1) (m := 10) hN hD hp (by omega) (by decide) ?_
  intro S1 xs hp1 hE1 hx hrest
  have hpool : Pooled xs := hrest
  refine r_mn fun t ht => ?_
  repeat' contradiction
  obtain ⟨x0, r0, rfl⟩ : ∃ x0 r0, xs = x0 :: r0 := by
    cases xs with
    | nil => simp at hx
    | cons x r => exact ⟨x, r, rfl⟩
  rw [List.map_cons]
  refine p_lst up_same (atI_zero _ _) ?_
  repeat' contradiction
  refine ⟨1, 10, rfl, rfl, ⟨by decide, by decide, by decide, by decide⟩, by decide, ?_⟩
  have hrn : (rngD 1 ((10 : Int) - 1).toNat).length = 9 := by simp [rngD]
  have hw := hpool.wd
  refine for_ok (fun i ρ S' => S' = up S1 t (.lst (.str x0 :: r0.map .str)) ∧ ∃ d o3, ρ = [some (.ref p), some (.ref t), some d, o3] ∧ isTr d ∧ nms d = (x0 :: r0).take (i + 1)) (fun i y ρ S' K hy h hK => ⟨trivial, ?_⟩) (fun ρ S' h => ⟨trivial, ?_⟩) ⟨rfl, .str x0, none, rfl, by rw [isTr]; exact hw x0 (by simp), by rw [nms]; rfl⟩
  · obtain ⟨rfl, d, o3, rfl, htr, hnm⟩ := h
    have hi : i < 9 := by
      have := (List.getElem?_eq_some_iff.mp hy).1
      omega
    have ey : y = .int (1 + i) := by
      unfold rngD at hy
      rw [List.getElem?_map, List.getElem?_range (by exact hi)] at hy
      exact (Option.some.inj hy).symm
    subst ey
    have hil : i + 1 < (x0 :: r0).length := by omega
    have e1 : atI (D.str x0 :: r0.map .str) ((1 : Int) + i) = some (.str (x0 :: r0)[i + 1]) := by
      rw [← List.map_cons, show (1 : Int) + i = ((i + 1 : Nat) : Int) by omega]
      exact atI_str (List.getElem?_eq_getElem hil)
    repeat' contradiction
    refine p_lst up_same e1 ?_
    repeat' contradiction
    refine hK _ _ ⟨rfl, _, _, rfl, ?_, ?_⟩
    · rw [isTr]
      refine ⟨by simp, ?_⟩
      rw [isTrs, isTrs, isTrs]
      refine ⟨htr, ?_, trivial⟩
      rw [isTr]
      exact hw _ (List.getElem_mem _)
    · rw [nms, nmss, nmss, nmss, List.append_nil, hnm, nms, List.take_add_one (i := i + 1), List.getElem?_eq_getElem hil]
      rfl
  · obtain ⟨rfl, d, o3, rfl, htr, hnm⟩ := h
    rw [hrn, List.take_of_length_le (by omega)] at hnm
    have ht2 : up S1 t (.lst (.str x0 :: r0.map .str)) t = some (.lst (.str x0 :: r0.map .str)) := up_same
    repeat' contradiction
    refine tree_ok (k := k) hTr hD hF hL (xs := x0 :: r0) (hp1.new ht) (by omega) (.inr rfl) ht2 hw (by simp) (by omega) ?_
    intro S2 d2 hp2 hE2 htr2 hpm2
    repeat' contradiction
    refine draw_ok hD hp2 (by omega) (by decide) (by decide) ?_
    intro S3 r hp3 hf3 g0 g1
    have hE3 : Ext p S S3 := fun b o hb e => (hf3 b hb).trans (hE2 b o hb (up_keep ht (hE1 b o hb e)))
    obtain ⟨y, hy, hym⟩ := atI_lt (xs := [d, .tup (.str x0 :: r0.map .str), d2]) g0 g1
    refine p_lstN hy ?_
    have hlast : isTr y ∧ (nms y).Perm (x0 :: r0) := by
      rcases List.mem_cons.mp hym with e | e
      · subst e
        exact ⟨htr, by rw [hnm]⟩
      · rcases List.mem_cons.mp e with e | e
        · subst e
          refine ⟨?_, by rw [nms, ← List.map_cons, nmss_strs]⟩
          rw [isTr, ← List.map_cons]
          exact ⟨by rw [List.length_map]; omega, isTrs_strs hw⟩
        · have e := List.mem_singleton.mp e
          subst e
          exact ⟨htr2, hpm2⟩
    exact q S3 y (hp3.mono (by omega)) hE3 hlast.1 (by rw [hlast.2.length_eq]; exact hx) (hpool.perm hlast.2)
end
mutual
def trB : D → Bool
  | .str x => nmB x && x.cps.toList.all inLet
  | .tup ds => decide (2 ≤ ds.length) && trsB ds
  | _ => false
def trsB : List D → Bool
  | [] => true
  | d :: ds => trB d && trsB ds
end
mutual
theorem tr_of : ∀ d : D, trB d = true → isTr d
  | .str x, h => by rw [trB, Bool.and_eq_true] at h; rw [isTr]; exact ⟨nm_of h.1, h.2⟩
  | .tup ds, h => by rw [trB, Bool.and_eq_true] at h; rw [isTr]; exact ⟨of_decide_eq_true h.1, trs_of ds h.2⟩
  | .non, h => by simp [trB] at h
  | .bl _, h => by simp [trB] at h
  | .int _, h => by simp [trB] at h
  | .fz _, h => by simp [trB] at h
  | .ref _, h => by simp [trB] at h
theorem trs_of : ∀ ds : List D, trsB ds = true → isTrs ds
  | [], _ => by simp [isTrs]
  | d :: ds, h => by rw [trsB, Bool.and_eq_true] at h; rw [isTrs]; exact ⟨tr_of d h.1, trs_of ds h.2⟩
end
/-- a tree of unlike names, not too many -/
structure Good (d : D) : Prop where
  tr : isTr d
  few : (nms d).length ≤ 13
  nd : (nms d).Nodup
theorem good_of {d : D} (h : (trB d && decide ((nms d).length ≤ 13) && decide (nms d).Nodup) = true) : Good d := by
  rw [Bool.and_eq_true, Bool.and_eq_true] at h
  exact ⟨tr_of d h.1.1, of_decide_eq_true h.1.2, of_decide_eq_true h.2⟩
theorem Good.tree {d : D} (h : Good d) : Tree d := ⟨h.tr, by have := h.few; omega⟩
theorem Good.sz {d : D} (h : Good d) : sz d ≤ 25 := by have := sz_nms d h.tr; have := h.few; omega
theorem Good.ht {d : D} (h : Good d) : ht d ≤ 25 := by have := ht_sz d; have := h.sz; omega
theorem cut_map {α β : Type} (f : α → β) (xs : List α) (lo hi : Option Int) : cut (xs.map f) lo hi = (cut xs lo hi).map f := by
  unfold cut
  rw [List.length_map, List.map_take, List.map_drop]
theorem pen_ok {B : List Fn} {f k : Nat} {S : Sto} {ns : List Int} {Q : PR} (hT : B[f]? = some ⟨1, 1, bPen⟩) (q : ∀ c (ms : List Int), S c = none → ms.length ≤ 63 → Q (.n (.dK (pen c 0 0))) (up S c (.lst (ms.map .int)))) : W B (k + 1) f [.fz (ns.map .int)] S Q := by
  refine enter (b := ⟨1, 1, bPen⟩) (ρ := [some (.fz (ns.map .int))]) hT rfl rfl ?_
  show wSs (W B k) bPen _ _ _
  delta bPen
  repeat' contradiction
  refine r_mn fun c hc => ?_
  repeat' contradiction
  rw [cut_map]
  refine q c _ hc ?_
  unfold cut
  rw [List.length_take, List.length_drop]
  have : HT.sIx ns.length ns.length (some 63) ≤ 63 := by
    show (if (63 : Int) < 0 then ((63 : Int) + (ns.length : Int)).toNat else min (63 : Int).toNat ns.length) ≤ 63
    rw [if_neg (by decide)]
    exact Nat.min_le_left _ _
  omega
theorem m_reverse {S : Sto} {a : Addr} {xs : List D} {Q : PR} (h : S a = some (.lst xs)) (q : Q (.v .non) (up S a (.lst xs.reverse))) : meW .reverse (.v (.ref a)) [] S Q := ⟨xs, h, q⟩
theorem lots_sp {d : D} (h : Good d) : Sp (.list (encDs ((sortL (lotsB d)).map tupS))) := by
  refine sp_lots (fun l hl => ?_) ?_
  · obtain ⟨e, he, r, hs⟩ := lots_sub d h.tr l ((sortL_perm _).subset hl)
    subst r
    refine ⟨fun x hx => (nms_wd e he x ((sortS_perm _).subset hx)).1.sh, ?_⟩
    have h1 : (sortS (nms e)).length = (nms e).length := List.length_mergeSort _
    have h2 := hs.length_le
    have := h.few
    omega
  · have h1 : (sortL (lotsB d)).length = (lotsB d).length := List.length_mergeSort _
    have := lots_len d h.tr
    have := h.few
    omega
theorem lot_facts {d : D} (h : Good d) {l : List Str} (hl : l ∈ sortL (lotsB d)) : l ≠ [] ∧ (∀ x ∈ l, Wd x) ∧ l.length ≤ 13 ∧ l.Pairwise fun x y => x.cps.toList < y.cps.toList := by
  have hl := (sortL_perm _).subset hl
  obtain ⟨e, he, r, hs⟩ := lots_sub d h.tr l hl
  refine ⟨lots_ne h.tr l hl, ?_, ?_, ?_⟩
  · subst r
    exact fun x hx => nms_wd e he x ((sortS_perm _).subset hx)
  · subst r
    have h1 : (sortS (nms e)).length = (nms e).length := List.length_mergeSort _
    have h2 := hs.length_le
    have := h.few
    omega
  · subst r
    exact sortS_lt (h.nd.sublist hs)
theorem pure_tupS (l : List Str) : pureD (tupS l) = true := by
  unfold tupS
  rw [pureD, pureDs_strs]
theorem names_sp {d : D} (h : Good d) : Sp (encD (tupS (sortS (nms d)))) := by
  refine sp_lot (fun x hx => (nms_wd d h.tr x ((sortS_perm _).subset hx)).1.sh) ?_
  have h1 : (sortS (nms d)).length = (nms d).length := List.length_mergeSort _
  have := h.few
  omega
theorem PenOk.upd2 {S : Sto} {p c a : Addr} {n : Nat} {xs : List D} {o : Ob} (hp : PenOk S p c n) (hap : a ≠ p) (e : S a = some (.lst xs)) (hac : a ≠ c) : PenOk (up S a o) p c n := by
  obtain ⟨h1, ns, a', l, e1, e2, r⟩ := hp
  exact ⟨h1, ns, a', l, up_get (Ne.symm hap) e1, up_get (Ne.symm hac) e2, r⟩
end DP

set_option maxRecDepth 100000
set_option maxHeartbeats 1000000
/-! DpZ: what the defs about trees do, whatever their numbers. -/
namespace DP
open PySem L2
local macro_rules
  | `(tactic| get_elem_tactic_trivial) => `(tactic| first
    | with_reducible assumption
    | exact up_same
    | (refine up_keep (by with_reducible assumption) ?_; get_elem_tactic_trivial))
local macro_rules
  | `(tactic| decreasing_trivial) => `(tactic| first
    | with_reducible assumption
    | (with_unfolding_all exact Nat.le_of_ble_eq_true rfl)
    | omega
    | exact shrt_of (by with_unfolding_all rfl)
    | exact sh_cut (by with_reducible assumption) _ _
    | exact cmul_l (by omega) (by omega)
    | exact cmul_r (by omega) (by omega)
    | exact pow_lit (by decide) (by decide) (by decide))
local macro_rules
  | `(tactic| contradiction) => `(tactic| with_reducible first
    | assumption | (apply r_var; with_unfolding_all rfl)
    | apply r_cst | apply r_glo | apply r_tup | apply r_lst | apply r_dK | apply r_bin | apply r_neg | apply r_cmp | apply r_chn
    | apply r_not | apply r_and | apply r_or | apply r_ite | apply r_ix | apply r_sl | apply r_rev | apply r_isi | apply r_bi | apply r_me | apply r_call | apply r_lc
    | apply r_es0 | apply r_es1 | apply r_rs0 | apply r_rs1 | apply r_o0 | apply r_o1 | apply r_part | apply r_ot0 | apply r_ot1 | apply r_mv
    | apply t_not | apply t_and | apply t_or | apply t_cmp | apply t_chn | (apply t_var; with_unfolding_all rfl) | apply t_isi | apply t_bi | apply t_me | apply t_call | apply t_ix
    | (apply x_len; with_unfolding_all exact Nat.le_of_ble_eq_true rfl) | (apply x_ty; with_unfolding_all exact ⟨_, rfl⟩) | (apply x_tyL; get_elem_tactic_trivial; rfl)
    | apply x_bl | apply x_int | (apply x_tru; with_unfolding_all rfl) | (apply x_isi; with_unfolding_all rfl)
    | apply i_T | apply i_F | apply i_nT | apply i_nF
    | apply o_addI | (apply o_addS; decreasing_trivial) | (apply o_addSS; decreasing_trivial; decreasing_trivial) | (apply o_addT; decreasing_trivial) | (apply o_addTT; decreasing_trivial; decreasing_trivial) | apply o_sub
    | (apply o_mulI; decreasing_trivial) | (apply o_mulS; decreasing_trivial) | (apply o_fdiv; decreasing_trivial) | (apply o_mod; decreasing_trivial) | (apply o_pow; decreasing_trivial)
    | (apply o_addNN; decreasing_trivial) | (apply o_addRN; get_elem_tactic_trivial; decreasing_trivial) | (apply o_addNR; get_elem_tactic_trivial; decreasing_trivial) | (apply o_addRR; get_elem_tactic_trivial; get_elem_tactic_trivial; decreasing_trivial)
    | apply c_eqI | apply c_eqS | apply c_eqB | apply c_neI | apply c_neS | apply c_neB | apply c_ltI | apply c_ltS | apply c_gtI | apply c_leI | apply c_geI | apply c_inS | apply c_ninS
    | (apply p_str; decreasing_trivial; with_unfolding_all rfl) | (apply p_tup; with_unfolding_all rfl) | (apply p_lstN; with_unfolding_all rfl) | (apply p_lst; get_elem_tactic_trivial; with_unfolding_all rfl) | (apply p_dK; get_elem_tactic_trivial; with_unfolding_all rfl)
    | (apply l_strS; decreasing_trivial) | (apply l_str; decreasing_trivial) | apply l_tup | apply l_fz | apply l_lstN | (apply l_lst; get_elem_tactic_trivial) | apply v_tup | apply v_lstN | (apply v_lst; get_elem_tactic_trivial)
    | (apply b_lenS; decreasing_trivial) | apply b_lenT | apply b_lenN | (apply b_lenL; get_elem_tactic_trivial) | apply b_abs | apply b_intI | apply b_intB | apply b_tuplN | apply b_tuplT | (apply b_tuplL; get_elem_tactic_trivial) | apply b_listN | apply b_listT | (apply b_listL; get_elem_tactic_trivial)
    | apply z_nil | apply z_exp | apply z_set | apply z_ret | apply z_ife | apply z_for | apply z_brk | apply z_cnt | apply z_sub
    | apply bn_name | (apply q_str; decreasing_trivial) | apply q_tup | apply q_fz | apply q_n | (apply q_ref; get_elem_tactic_trivial) | apply w_seq | apply w_rng1 | apply w_rng2)
local macro_rules
  | `(tactic| contradiction) => `(tactic| with_reducible first
    | (apply p_cells; get_elem_tactic_trivial) | (apply p_at; get_elem_tactic_trivial) | (apply p_left; get_elem_tactic_trivial)
    | (apply y_at; get_elem_tactic_trivial) | (apply y_left; get_elem_tactic_trivial))
local macro_rules
  | `(tactic| contradiction) => `(tactic| with_reducible first
    | apply r_lc2 | apply w_enum | apply e_n | apply c_isnotB | apply b_min | apply bn_tup2)
theorem any_strL (l m : List Str) : PyData.eqvAll (l.map PyData.str) (m.map PyData.str) = decide (l = m) := by
  induction l generalizing m with
  | nil => cases m with
    | nil => simp [PyData.eqvAll]
    | cons y m => simp [PyData.eqvAll]
  | cons x l ih => cases m with
    | nil => simp [PyData.eqvAll]
    | cons y m =>
      rw [List.map_cons, List.map_cons, PyData.eqvAll, ih, PyData.eqv]
      by_cases h : x = y
      · subst h
        simp
      · simp [h]
section
variable {S : Sto} {Q : PR}
theorem eqv_tupS (l m : List Str) : PyData.eqv (.tuple (l.map .str)) (.tuple (m.map .str)) = decide (l = m) := by rw [PyData.eqv, any_strL]
theorem rdg_tupS (S : Sto) (l : List Str) : Rdg S (tupS l) (.tuple (l.map .str)) := .tup (rdg_strs S l)
theorem c_neTT {l m : List Str} (hl : ∀ x ∈ l, Shrt x) (hm : ∀ x ∈ m, Shrt x) (q : Q (.v (.bl (!decide (l = m)))) S) : cmpW .ne (.v (tupS l)) (.v (tupS m)) S Q := by
  refine ⟨.tuple (l.map .str), .tuple (m.map .str), rdg_tupS S l, rdg_tupS S m, strsT_shaped hl, strsT_shaped hm, ?_⟩
  rw [eqv_tupS]
  exact q
theorem rdgL_lots (S : Sto) : ∀ ls : List (List Str), RdgL S (ls.map tupS) (ls.map fun l => .tuple (l.map .str))
  | [] => .nil
  | l :: ls => .cons (rdg_tupS S l) (rdgL_lots S ls)
theorem lots_can : ∀ {ls : List (List Str)}, (∀ l ∈ ls, ∀ x ∈ l, Shrt x) → PyData.canLayAll0 (ls.map fun l => PyData.tuple (l.map .str)) = true ∧ PyData.depthAll (ls.map fun l => PyData.tuple (l.map .str)) ≤ 1
  | [], _ => by simp [PyData.canLayAll0, PyData.depthAll]
  | l :: ls, h => by
    obtain ⟨h1, h2⟩ := lots_can fun m hm => h m (List.mem_cons_of_mem _ hm)
    rw [List.map_cons, PyData.canLayAll0, PyData.canLay0, PyData.depthAll, PyData.depth, strs_can (h l List.mem_cons_self), h1, strs_dep]
    exact ⟨rfl, by omega⟩
theorem lots_shaped {ls : List (List Str)} (h : ∀ l ∈ ls, ∀ x ∈ l, Shrt x) : SeqAt.shaped (.list (ls.map fun l => PyData.tuple (l.map .str))) = true := by
  obtain ⟨h1, h2⟩ := lots_can h
  unfold SeqAt.shaped
  rw [PyData.canLay0, PyData.depth, h1]
  simp
  omega
theorem any_lots (l : List Str) : ∀ ls : List (List Str), ((ls.map fun l => PyData.tuple (l.map .str)).any fun q => PyData.eqv q (.tuple (l.map .str))) = ls.any fun m => decide (m = l)
  | [] => rfl
  | m :: ls => by rw [List.map_cons, List.any_cons, List.any_cons, any_lots l ls, eqv_tupS]
theorem c_inTL {a : Addr} {l : List Str} {ls : List (List Str)} (ha : S a = some (.lst (ls.map tupS))) (hl : ∀ x ∈ l, Shrt x) (h : ∀ l ∈ ls, ∀ x ∈ l, Shrt x) (q : Q (.v (.bl (ls.any fun m => decide (m = l)))) S) : cmpW .isin (.v (tupS l)) (.v (.ref a)) S Q := by
  refine .inl ⟨_, _, rdg_tupS S l, .lst ha (rdgL_lots S ls), strsT_shaped hl, lots_shaped h, ?_⟩
  rw [any_lots]
  exact q
theorem c_ninTL {a : Addr} {l : List Str} {ls : List (List Str)} (ha : S a = some (.lst (ls.map tupS))) (hl : ∀ x ∈ l, Shrt x) (h : ∀ l ∈ ls, ∀ x ∈ l, Shrt x) (q : Q (.v (.bl (!(ls.any fun m => decide (m = l))))) S) : cmpW .notin (.v (tupS l)) (.v (.ref a)) S Q := by
  refine .inl ⟨_, _, rdg_tupS S l, .lst ha (rdgL_lots S ls), strsT_shaped hl, lots_shaped h, ?_⟩
  rw [any_lots]
  exact q
theorem c_eq0L {ls : List (List Str)} (h : ∀ l ∈ ls, ∀ x ∈ l, Shrt x) (q : Q (.v (.bl ls.isEmpty)) S) : cmpW .eq (.n (.lst (ls.map tupS))) (.n (.lst [])) S Q := by
  refine ⟨.list (ls.map fun l => PyData.tuple (l.map .str)), .list [], ⟨_, rfl, rdgL_lots S ls⟩, ⟨[], rfl, .nil⟩, lots_shaped h, ints_shaped [], ?_⟩
  have e : PyData.eqv (.list (ls.map fun l => PyData.tuple (l.map .str))) (.list []) = ls.isEmpty := by
    rw [PyData.eqv]
    cases ls <;> simp [PyData.eqvAll]
  rw [e]
  exact q
end
theorem sp_trees {ds : List D} (h : ∀ d ∈ ds, Tree d) (hl : ds.length ≤ 100) : Sp (.list (encDs ds)) := by
  have tr : isTrs ds := isTrs_iff.mpr fun d hd => (h d hd).tr
  have k1 : szs ds ≤ 40 * ds.length := by
    clear hl
    induction ds with
    | nil => exact Nat.zero_le _
    | cons d ds ih =>
      rw [szs, List.length_cons]
      have h1 := h d List.mem_cons_self
      have := sz_nms d h1.tr
      have := h1.few
      have := ih (fun e he => h e (List.mem_cons_of_mem _ he)) (by rw [isTrs] at tr; exact tr.2)
      omega
  have k2 : hts ds ≤ 40 := by
    clear hl k1
    induction ds with
    | nil => exact Nat.zero_le _
    | cons d ds ih =>
      rw [hts]
      have h1 := h d List.mem_cons_self
      have := sz_nms d h1.tr
      have := ht_sz d
      have := h1.few
      have := ih (fun e he => h e (List.mem_cons_of_mem _ he)) (by rw [isTrs] at tr; exact tr.2)
      omega
  have k3 := encs_dep ds
  have k4 := trs_wt ds tr
  exact ⟨by rw [PyData.showable]; exact trs_show ds tr, by rw [PyData.depth]; omega, by rw [PyData.canLay0]; exact trs_can ds tr, by rw [wt, sizeLine_eq]; omega⟩
theorem lots_sh {d : D} (htr : isTr d) : ∀ l ∈ sortL (lotsB d), ∀ x ∈ l, Shrt x := fun l hl x hx => by
  obtain ⟨e, he, r, _⟩ := lots_sub d htr l ((sortL_perm _).subset hl)
  subst r
  exact (nms_wd e he x ((sortS_perm _).subset hx)).1.sh
theorem names_sh {d : D} (htr : isTr d) : ∀ x ∈ sortS (nms d), Shrt x := fun x hx => (nms_wd d htr x ((sortS_perm _).subset hx)).1.sh
theorem Tree.sz {d : D} (h : Tree d) : sz d ≤ 39 := by have := sz_nms d h.tr; have := h.few; omega
theorem Tree.ht {d : D} (h : Tree d) : ht d ≤ 39 := by have := ht_sz d; have := h.sz; omega
theorem cut_tail {α : Type} (ys : List α) (h : 1 ≤ ys.length) : (cut ys (some 1) none).length = ys.length - 1 := by
  unfold cut
  have e1 : HT.sIx ys.length 0 (some 1) = 1 := by
    show (if (1 : Int) < 0 then ((1 : Int) + (ys.length : Int)).toNat else min (1 : Int).toNat ys.length) = 1
    rw [if_neg (by decide)]
    show min 1 ys.length = 1
    omega
  have e2 : HT.sIx ys.length ys.length none = ys.length := rfl
  rw [e1, e2, List.length_take, List.length_drop]
  omega
end DP

set_option maxRecDepth 100000
set_option maxHeartbeats 1000000
/-! DpC: what the defs about trees do, whatever their numbers. -/
namespace DP
open PySem L2
local macro_rules
  | `(tactic| get_elem_tactic_trivial) => `(tactic| first
    | with_reducible assumption
    | exact up_same
    | (refine up_keep (by with_reducible assumption) ?_; get_elem_tactic_trivial))
local macro_rules
  | `(tactic| decreasing_trivial) => `(tactic| first
    | with_reducible assumption
    | (with_unfolding_all exact Nat.le_of_ble_eq_true rfl)
    | omega
    | exact shrt_of (by with_unfolding_all rfl)
    | exact sh_cut (by with_reducible assumption) _ _
    | exact cmul_l (by omega) (by omega)
    | exact cmul_r (by omega) (by omega)
    | exact pow_lit (by decide) (by decide) (by decide))
local macro_rules
  | `(tactic| contradiction) => `(tactic| with_reducible first
    | assumption | (apply r_var; with_unfolding_all rfl)
    | apply r_cst | apply r_glo | apply r_tup | apply r_lst | apply r_dK | apply r_bin | apply r_neg | apply r_cmp | apply r_chn
    | apply r_not | apply r_and | apply r_or | apply r_ite | apply r_ix | apply r_sl | apply r_rev | apply r_isi | apply r_bi | apply r_me | apply r_call | apply r_lc
    | apply r_es0 | apply r_es1 | apply r_rs0 | apply r_rs1 | apply r_o0 | apply r_o1 | apply r_part | apply r_ot0 | apply r_ot1 | apply r_mv
    | apply t_not | apply t_and | apply t_or | apply t_cmp | apply t_chn | (apply t_var; with_unfolding_all rfl) | apply t_isi | apply t_bi | apply t_me | apply t_call | apply t_ix
    | (apply x_len; with_unfolding_all exact Nat.le_of_ble_eq_true rfl) | (apply x_ty; with_unfolding_all exact ⟨_, rfl⟩) | (apply x_tyL; get_elem_tactic_trivial; rfl)
    | apply x_bl | apply x_int | (apply x_tru; with_unfolding_all rfl) | (apply x_isi; with_unfolding_all rfl)
    | apply i_T | apply i_F | apply i_nT | apply i_nF
    | apply o_addI | (apply o_addS; decreasing_trivial) | (apply o_addSS; decreasing_trivial; decreasing_trivial) | (apply o_addT; decreasing_trivial) | (apply o_addTT; decreasing_trivial; decreasing_trivial) | apply o_sub
    | (apply o_mulI; decreasing_trivial) | (apply o_mulS; decreasing_trivial) | (apply o_fdiv; decreasing_trivial) | (apply o_mod; decreasing_trivial) | (apply o_pow; decreasing_trivial)
    | (apply o_addNN; decreasing_trivial) | (apply o_addRN; get_elem_tactic_trivial; decreasing_trivial) | (apply o_addNR; get_elem_tactic_trivial; decreasing_trivial) | (apply o_addRR; get_elem_tactic_trivial; get_elem_tactic_trivial; decreasing_trivial)
    | apply c_eqI | apply c_eqS | apply c_eqB | apply c_neI | apply c_neS | apply c_neB | apply c_ltI | apply c_ltS | apply c_gtI | apply c_leI | apply c_geI | apply c_inS | apply c_ninS
    | (apply p_str; decreasing_trivial; with_unfolding_all rfl) | (apply p_tup; with_unfolding_all rfl) | (apply p_lstN; with_unfolding_all rfl) | (apply p_lst; get_elem_tactic_trivial; with_unfolding_all rfl) | (apply p_dK; get_elem_tactic_trivial; with_unfolding_all rfl)
    | (apply l_strS; decreasing_trivial) | (apply l_str; decreasing_trivial) | apply l_tup | apply l_fz | apply l_lstN | (apply l_lst; get_elem_tactic_trivial) | apply v_tup | apply v_lstN | (apply v_lst; get_elem_tactic_trivial)
    | (apply b_lenS; decreasing_trivial) | apply b_lenT | apply b_lenN | (apply b_lenL; get_elem_tactic_trivial) | apply b_abs | apply b_intI | apply b_intB | apply b_tuplN | apply b_tuplT | (apply b_tuplL; get_elem_tactic_trivial) | apply b_listN | apply b_listT | (apply b_listL; get_elem_tactic_trivial)
    | apply z_nil | apply z_exp | apply z_set | apply z_ret | apply z_ife | apply z_for | apply z_brk | apply z_cnt | apply z_sub
    | apply bn_name | (apply q_str; decreasing_trivial) | apply q_tup | apply q_fz | apply q_n | (apply q_ref; get_elem_tactic_trivial) | apply w_seq | apply w_rng1 | apply w_rng2)
local macro_rules
  | `(tactic| contradiction) => `(tactic| with_reducible first
    | (apply p_cells; get_elem_tactic_trivial) | (apply p_at; get_elem_tactic_trivial) | (apply p_left; get_elem_tactic_trivial)
    | (apply y_at; get_elem_tactic_trivial) | (apply y_left; get_elem_tactic_trivial))
local macro_rules
  | `(tactic| contradiction) => `(tactic| with_reducible first
    | apply r_lc2 | apply w_enum | apply e_n | apply c_isnotB | apply b_min | apply bn_tup2)
/-! ### canonical forks -/
/-- d is the fork of ds -/
def Forked (ds : List D) (d : D) : Prop := ds = [d] ∨ ∃ es, d = .tup es ∧ es.Perm ds ∧ es.Pairwise fun a b => leS (fst1 a) (fst1 b) = true
theorem leS_lt (x y : Str) : leS x y = !PySem.W.dataLt (.str y) (.str x) := by
  have e : ∀ z : Str, encD (.str z) = .str z := fun z => by rw [encD]
  unfold leS
  rw [PySem.W.dataLe_eq]
  show (!PySem.W.dataLt (encD (.str y)) (encD (.str x))) = _
  rw [e, e]
theorem le_pair {a b : Str × Nat} (h : PySem.W.dataLe false encD (pairD a) (pairD b) = true) : leS a.1 b.1 = true := by
  rw [PySem.W.dataLe_eq] at h
  have h : (!PySem.W.dataLt (encD (pairD b)) (encD (pairD a))) = true := h
  rw [enc_pair, enc_pair, PySem.W.dataLt_pair (by simp [PySem.W.alike]) (by simp [PySem.W.alike])] at h
  by_cases e : b.1 = a.1
  · rw [e]
    have := leS_tot a.1 a.1
    simpa using this
  · have e2 : PyData.eqv (.str b.1) (.str a.1) = false := by rw [PyData.eqv]; simpa using e
    rw [e2] at h
    rw [leS_lt]
    simpa using h
theorem b_sortP2 {S : Sto} {Q : PR} {xs : List (Str × Nat)} (q : ∀ ys : List (Str × Nat), ys.Perm xs → ys.Pairwise (fun a b => leS a.1 b.1 = true) → Q (.n (.lst (ys.map pairD))) S) : biW .sorted [.n (.lst (xs.map pairD))] S Q := by
  let le : Str × Nat → Str × Nat → Bool := fun a b => PySem.W.dataLe false encD (pairD a) (pairD b)
  have e : sortD (xs.map pairD) = (xs.mergeSort le).map pairD := (List.map_mergeSort (r := le) (s := PySem.W.dataLe false encD) (f := pairD) (l := xs) fun _ _ _ _ => rfl).symm
  have tot : PySem.W.TotalLe le := PySem.W.sortLe_total (PyProof.Rows.listOrd PyProof.Rows.itemOrd) false (fun x : Str × Nat => PySem.W.keyToks (encD (pairD x)))
  have pw := List.pairwise_mergeSort tot.trans (fun a b => by rw [Bool.or_eq_true]; exact tot.total a b) xs
  have q := q _ (List.mergeSort_perm xs le) (pw.imp fun {a b} h => le_pair h)
  have z : biW .sorted [.n (.lst (xs.map pairD))] S (fun r S' => r = .n (.lst (sortD (xs.map pairD))) → S' = S → Q r S') := b_sortP fun ys hp h1 h2 => by
    rw [h1, e]
    exact q
  obtain ⟨zs, e1, r1, r2, r3, r4, r5⟩ := z
  cases e1
  exact ⟨_, rfl, r1, r2, r3, r4, r5 rfl rfl⟩
section
variable {B : List Fn} {f n : Nat} {S : Sto} {Q : PR}
theorem fork2_ok {k fl : Nat} (hT : B[f]? = some ⟨1, 5, bFork fl⟩) (hL : B[fl]? = some ⟨1, 1, bLeast⟩) {a : Addr} {ds : List D} (ha : S a = some (.lst ds)) (hn : 1 ≤ ds.length) (hl : ds.length ≤ 1000) (htr : isTrs ds)
    (q : ∀ d S', Sub S S' → isTr d → (nms d).Perm (nmss ds) → Forked ds d → Q (.v d) S') : W B (k + 2) f [.ref a] S Q := by
  refine enter (b := ⟨1, 5, bFork fl⟩) (ρ := [some (.ref a), none, none, none, none]) hT rfl rfl ?_
  show wSs (W B (k + 1)) (bFork fl) _ _ _
  delta bFork
  repeat' contradiction
  by_cases h1 : (ds.length : Int) = 1
  · refine i_D h1 ?_
    match ds, hn, h1 with
    | [d], _, _ =>
      repeat' contradiction
      rw [isTrs] at htr
      exact q d S Sub.rfl htr.1 (by rw [nmss, nmss, List.append_nil]) (.inl rfl)
    | _ :: _ :: _, _, h1 => simp at h1; omega
  · refine i_N h1 ?_
    repeat' contradiction
    refine e_ref ha (by rw [sizeLine_eq]; omega) ?_
    have e0 : numD ds = ((ds.zipIdx).map fun p => (D.tup [.int (p.2 : Nat), p.1])) := rfl
    rw [e0]
    refine lc_all (f := fun p : D × Nat => (D.tup [.int (p.2 : Nat), p.1])) (fun p => pairD (fst1 p.1, p.2)) ha (fun p hp K hK => ?_) ?_
    · have hm : p.1 ∈ ds := by
        obtain ⟨d, i⟩ := p
        exact (List.mem_zipIdx' hp).2 ▸ List.getElem_mem _
      repeat' contradiction
      refine least_ok hL (isTrs_iff.mp htr _ hm) fun _ => ?_
      repeat' contradiction
      exact hK
    · repeat' contradiction
      have e1 : (ds.zipIdx.map fun p => pairD (fst1 p.1, p.2)) = (ds.zipIdx.map fun p => (fst1 p.1, p.2)).map pairD := by rw [List.map_map]; rfl
      rw [e1]
      refine b_sortP2 fun ys hys hpw => ?_
      refine r_mn fun t ht => ?_
      repeat' contradiction
      have hat : up S t (.lst (ys.map pairD)) a = some (.lst ds) := up_keep ht ha
      have hys2 : ∀ y ∈ ys, y.2 < ds.length := fun y hy => by
        obtain ⟨p, hp, e⟩ := List.mem_map.mp (hys.subset hy)
        subst e
        obtain ⟨d, i⟩ := p
        exact (List.mem_zipIdx' hp).1
      refine lc_all (f := pairD) (fun y => ds[y.2]?.getD .non) up_same (fun y hy K hK => ?_) ?_
      · have hy2 := hys2 y hy
        have e2 : atI ds (y.2 : Int) = some (ds[y.2]?.getD .non) := by
          unfold atI ixN
          rw [if_pos (by omega), if_pos (by omega)]
          show ds[((y.2 : Nat) : Int).toNat]? = _
          rw [Int.toNat_natCast, List.getElem?_eq_getElem hy2]
          rfl
        unfold pairD
        repeat' contradiction
        refine p_lst hat e2 ?_
        repeat' contradiction
        exact hK
      · repeat' contradiction
        have hp1 : (ys.map fun y => ds[y.2]?.getD .non).Perm ds := by
          have h3 : (ys.map fun y => ds[y.2]?.getD .non).Perm ((ds.zipIdx.map fun p => (fst1 p.1, p.2)).map fun y => ds[y.2]?.getD .non) := hys.map _
          have h4 : ((ds.zipIdx.map fun p => (fst1 p.1, p.2)).map fun y => ds[y.2]?.getD .non) = ds := by
            rw [List.map_map]
            refine List.ext_getElem? fun i => ?_
            rw [List.getElem?_map, List.getElem?_zipIdx]
            cases e : ds[i]? with
            | none => rfl
            | some d => simp [e]
          rw [h4] at h3
          exact h3
        refine q _ _ (Sub.rfl.then ht) ?_ ?_ (.inr ⟨_, rfl, hp1, ?_⟩)
        · rw [isTr]
          refine ⟨by rw [hp1.length_eq]; omega, isTrs_iff.mpr fun d hd => isTrs_iff.mp htr d (hp1.subset hd)⟩
        · rw [nms, nmss_flat, nmss_flat]
          exact hp1.flatMap_right _
        · refine List.pairwise_map.mpr (hpw.imp_of_mem fun {a b} ha hb h => ?_)
          have key : ∀ y ∈ ys, fst1 (ds[y.2]?.getD .non) = y.1 := fun y hy => by
            obtain ⟨p, hp, e⟩ := List.mem_map.mp (hys.subset hy)
            subst e
            obtain ⟨d, i⟩ := p
            obtain ⟨hi, e⟩ := List.mem_zipIdx' hp
            show fst1 (ds[i]?.getD .non) = fst1 d
            rw [List.getElem?_eq_getElem hi, e]
            rfl
          rw [key a ha, key b hb]
          exact h
theorem tree2_ok {k fd ff fl : Nat} (hT : B[f]? = some ⟨3, 7, bTree fd ff⟩) (hD : B[fd]? = some ⟨2, 8, bDraw⟩) (hF : B[ff]? = some ⟨1, 5, bFork fl⟩) (hL : B[fl]? = some ⟨1, 1, bLeast⟩) {p c a : Addr} {n : Nat} {w : Int} {xs : List Str}
    (hp : PenOk S p c n) (hn : n + 100 < 60000) (hw : w = 0 ∨ w = 1) (ha : S a = some (.lst (xs.map .str))) (hx : ∀ x ∈ xs, Wd x) (h1 : 1 ≤ xs.length) (h13 : xs.length ≤ 13) (hnd : xs.Nodup) (P : D → Prop) (hleaf : ∀ x ∈ xs, P (.str x)) (hforked : ∀ ds d, (∀ e ∈ ds, P e) → isTrs ds → (nmss ds).Nodup → 1 ≤ ds.length → Forked ds d → P d)
    (q : ∀ S' d, PenOk S' p c (n + 100) → Ext p S S' → isTr d → (nms d).Perm xs → P d → Q (.v d) S') : W B (k + 3) f [.ref p, .ref a, .int w] S Q := by
  refine enter (b := ⟨3, 7, bTree fd ff⟩) (ρ := [some (.ref p), some (.ref a), some (.int w), none, none, none, none]) hT rfl rfl ?_
  show wSs (W B (k + 2)) (bTree fd ff) _ _ _
  delta bTree
  repeat' contradiction
  refine r_mn fun t3 ht3 => ?_
  have hpt : t3 ≠ p := hp.ne ht3
  refine z_whl (fun m ρ S' => ∃ left o4 o5 o6, ρ = [some (.ref p), some (.ref a), some (.int w), some (.ref t3), o4, o5, o6] ∧ S' t3 = some (.lst left) ∧ (isTrs left ∧ ∀ e ∈ left, P e) ∧ (nmss left).Perm xs ∧ 1 ≤ left.length ∧ left.length ≤ 13 ∧ m = left.length ∧ PenOk S' p c (n + 6 * (13 - left.length)) ∧ Ext p S S')
    ⟨xs.length, xs.map .str, none, none, none, rfl, up_same, ⟨isTrs_strs hx, fun e he => by obtain ⟨x, hx, rfl⟩ := List.mem_map.mp he; exact hleaf x hx⟩, by rw [nmss_strs], by rw [List.length_map]; exact h1, by rw [List.length_map]; exact h13, (List.length_map _).symm, (hp.new ht3).mono (by omega), Ext.new ht3⟩ ?_
  rintro m ρ S' ⟨left, o4, o5, o6, rfl, hS3, ⟨hTr, hPl⟩, hPerm, hl1, hl13, rfl, hpn, hE⟩
  repeat' contradiction
  by_cases hlt : (1 : Int) < left.length
  · refine i_D hlt ?_
    repeat' contradiction
    refine draw_ok hD hpn (by omega) (by omega) (by omega) ?_
    intro S2 r2 hp2 hf2 g0 g1
    repeat' contradiction
    refine draw_ok hD hp2 (by omega) (by omega) (by omega) ?_
    intro S3 r3 hp3 hf3 j0 j1
    obtain ⟨j, hj, hjm⟩ := atI_lt (xs := [D.int 0, .int 0, .int 1, .int r2]) j0 j1
    obtain ⟨i, rfl, hi0, hi1⟩ : ∃ i, j = .int i ∧ 0 ≤ i ∧ i ≤ 2 := by
      have all : ∀ d ∈ [D.int 0, .int 0, .int 1, .int r2], ∃ i, d = .int i ∧ 0 ≤ i ∧ i ≤ 2 := by
        simp only [List.forall_mem_cons]
        exact ⟨⟨0, rfl, by decide, by decide⟩, ⟨0, rfl, by decide, by decide⟩, ⟨1, rfl, by decide, by decide⟩, ⟨r2, rfl, g0, by omega⟩, fun _ z => by cases z⟩
      exact all j hjm
    refine p_lstN hj ?_
    have hS3b : S3 t3 = some (.lst left) := (hf3 t3 hpt).trans ((hf2 t3 hpt).trans hS3)
    have hE3 : Ext p S S3 := fun b o hb e => (hf3 b hb).trans ((hf2 b hb).trans (hE b o hb e))
    clear hf2 hf3
    obtain ⟨mm, hmm, hm2, hm4⟩ : ∃ mm : Int, 2 + w * i = mm ∧ 2 ≤ mm ∧ mm ≤ 4 := by
      rcases hw with rfl | rfl
      · exact ⟨_, rfl, by omega, by omega⟩
      · exact ⟨_, rfl, by omega, by omega⟩
    repeat' contradiction
    rw [hmm]
    refine r_mn fun t5 ht5 => ?_
    have ht5p : t5 ≠ p := hp3.ne ht5
    have ht35 : t3 ≠ t5 := fun z => by subst z; rw [hS3b] at ht5; cases ht5
    have ht5S : S t5 = none := hE3.none ht5p ht5
    have hS3c : up S3 t5 (.lst []) t3 = some (.lst left) := up_keep ht5 hS3b
    repeat' contradiction
    obtain ⟨r, hr, hr2, hr4, hrl⟩ : ∃ r : Nat, (if (left.length : Int) < mm then (left.length : Int) else mm) = (r : Int) ∧ 2 ≤ r ∧ r ≤ 4 ∧ r ≤ left.length := by
      refine ⟨(if (left.length : Int) < mm then (left.length : Int) else mm).toNat, ?_, ?_, ?_, ?_⟩
      all_goals split <;> omega
    rw [hr]
    refine ⟨by omega, by omega, ?_⟩
    have hrn : (rngD 0 (r : Int).toNat).length = r := by simp [rngD]
    refine for_ok (fun i ρ S' => ∃ left' parts o6, ρ = [some (.ref p), some (.ref a), some (.int w), some (.ref t3), some (.int mm), some (.ref t5), o6] ∧ S' t3 = some (.lst left') ∧ S' t5 = some (.lst parts) ∧ (isTrs left' ∧ ∀ e ∈ left', P e) ∧ (isTrs parts ∧ ∀ e ∈ parts, P e) ∧ (nmss left' ++ nmss parts).Perm xs ∧
      left'.length + i = left.length ∧ parts.length = i ∧ PenOk S' p c (n + 6 * (13 - left.length) + 2 + 2 * i) ∧ Ext p S S') (fun i x ρ S' K hx h hK => ⟨trivial, ?_⟩) (fun ρ S' h => ⟨trivial, ?_⟩)
      ⟨left, [], o6, rfl, hS3c, up_same, ⟨hTr, hPl⟩, ⟨by simp [isTrs], fun _ z => by cases z⟩, by rw [nmss, List.append_nil]; exact hPerm, rfl, rfl, (hp3.new ht5).mono (by omega), hE3.then ht5S⟩
    · obtain ⟨left', parts, o6, rfl, e3, e5, ⟨tr3, pl3⟩, ⟨tr5, pl5⟩, hpm, hle, hpl, hpi, hEi⟩ := h
      have hir : i < r := by
        have := (List.getElem?_eq_some_iff.mp hx).1
        omega
      repeat' contradiction
      refine draw_ok hD hpi (by omega) (by omega) (by omega) ?_
      intro S4 r4 hp4 hf4 u0 u1
      have e3a : S4 t3 = some (.lst left') := (hf4 t3 hpt).trans e3
      have e5a : S4 t5 = some (.lst parts) := (hf4 t5 ht5p).trans e5
      have hE4 : Ext p S S4 := fun b o hb e => (hf4 b hb).trans (hEi b o hb e)
      clear hf4
      repeat' contradiction
      refine draw_ok hD hp4 (by omega) (by omega) (by omega) ?_
      intro S5 r5 hp5 hf5 v0 v1
      have e3b : S5 t3 = some (.lst left') := (hf5 t3 hpt).trans e3a
      have e5b : S5 t5 = some (.lst parts) := (hf5 t5 ht5p).trans e5a
      have hE5 : Ext p S S5 := fun b o hb e => (hf5 b hb).trans (hE4 b o hb e)
      clear hf5
      obtain ⟨y, hy, hym⟩ := atI_lt (xs := [D.int r4, .int (-1)]) v0 v1
      obtain ⟨z, rfl, hz⟩ : ∃ z, y = .int z ∧ (z = -1 ∨ (0 ≤ z ∧ z < left'.length)) := by
        rcases List.mem_cons.mp hym with e | e
        · exact ⟨r4, e, .inr ⟨u0, u1⟩⟩
        · exact ⟨-1, List.mem_singleton.mp e, .inl rfl⟩
      refine p_lstN hy ?_
      repeat' contradiction
      refine m_popD e3b hz (by omega) (by omega) fun x rest hxr => ?_
      repeat' contradiction
      refine m_append (xs := parts) (up_get (Ne.symm ht35) e5b) (by rw [sizeLine_eq]; omega) ?_
      refine z_nil (hK _ _ ?_)
      have tr' : isTrs (x :: rest) := isTrs_perm hxr tr3
      rw [isTrs] at tr'
      refine ⟨rest, parts ++ [x], _, rfl, up_get ht35 up_same, up_same, ⟨tr'.2, fun e he => pl3 e (hxr.subset (List.mem_cons_of_mem _ he))⟩, ⟨isTrs_app.mpr ⟨tr5, by simp [isTrs, tr'.1]⟩, fun e he => (List.mem_append.mp he).elim (pl5 e) fun z => by rw [List.mem_singleton.mp z]; exact pl3 x (hxr.subset List.mem_cons_self)⟩, ?_, ?_, ?_, ?_, ?_⟩
      · rw [nmss_app, nmss, nmss, List.append_nil]
        have h1 := nmss_perm hxr
        rw [nmss] at h1
        refine List.Perm.trans ?_ hpm
        refine List.Perm.trans ?_ (List.Perm.append_right (nmss parts) h1)
        refine List.Perm.trans (List.perm_append_comm) ?_
        rw [List.append_assoc]
        refine List.Perm.trans (List.perm_append_comm) ?_
        rw [List.append_assoc]
      · have := hxr.length_eq
        rw [List.length_cons] at this
        omega
      · rw [List.length_append, List.length_singleton, hpl]
      · exact (hp.upd ht5S (hp.upd ht3 hp5)).mono (by omega)
      · exact (hE5.then ht3).then ht5S
    · obtain ⟨left', parts, o6, rfl, e3, e5, ⟨tr3, pl3⟩, ⟨tr5, pl5⟩, hpm, hle, hpl, hpi, hEi⟩ := h
      rw [hrn] at hle hpl hpi
      repeat' contradiction
      refine fork2_ok (k := k) hF hL e5 (by omega) (by omega) tr5 ?_
      intro d S6 hsub htd hnd2 hfk
      have hPd : P d := hforked parts d pl5 tr5 ((List.nodup_append.mp (hpm.nodup_iff.mpr hnd)).2.1) (by omega) hfk
      have e3c := hsub _ _ e3
      repeat' contradiction
      refine m_append e3c (by rw [sizeLine_eq]; omega) ?_
      refine z_nil ⟨(left' ++ [d]).length, by rw [List.length_append, List.length_singleton]; omega, left' ++ [d], _, _, _, rfl, up_same, ⟨isTrs_app.mpr ⟨tr3, by simp [isTrs, htd]⟩, fun e he => (List.mem_append.mp he).elim (pl3 e) fun z => by rw [List.mem_singleton.mp z]; exact hPd⟩, ?_, by rw [List.length_append, List.length_singleton]; omega, by rw [List.length_append, List.length_singleton]; omega, rfl, ?_, ?_⟩
      · rw [nmss_app, nmss, nmss, List.append_nil]
        exact (List.Perm.append_left _ hnd2).trans hpm
      · refine (hp.upd ht3 (hpi.sub hsub)).mono ?_
        rw [List.length_append, List.length_singleton]
        omega
      · exact (hEi.trans hsub.ext).then ht3
  · refine i_N hlt ?_
    match left, hl1, hlt with
    | [d], _, _ =>
      repeat' contradiction
      rw [isTrs] at hTr
      rw [nmss, nmss, List.append_nil] at hPerm
      exact q S' d (hpn.mono (by omega)) hE hTr.1 hPerm (hPl d List.mem_cons_self)
    | _ :: _ :: _, _, h => simp at h; omega
end
theorem names2_ok {B : List Fn} {f fd k n m : Nat} (hT : B[f]? = some ⟨2, 4, bNames fd⟩) (hD : B[fd]? = some ⟨2, 8, bDraw⟩) {S : Sto} {p c : Addr} {Q : PR} (hp : PenOk S p c n) (hn : n + m < 60000) (hm : m ≤ 13)
    (q : ∀ S' (xs : List Str), PenOk S' p c (n + m) → Ext p S S' → xs.length = m → (∃ rest, (xs ++ rest).Perm pool) → xs.Pairwise (fun x y => leS x y = true) → Q (.n (.lst (xs.map .str))) S') : W B (k + 2) f [.ref p, .int m] S Q := by
  refine enter (b := ⟨2, 4, bNames fd⟩) (ρ := [some (.ref p), some (.int m), none, none]) hT rfl rfl ?_
  show wSs (W B (k + 1)) (bNames fd) _ _ _
  delta bNames
  repeat' contradiction
  refine r_mn fun t ht => ?_
  have hpt : p ≠ t := fun z => by subst z; obtain ⟨_, _, _, _, e, _⟩ := hp; rw [ht] at e; cases e
  have hp0 : PenOk (up S t (.lst (pool.map .str))) p c n := by
    obtain ⟨h1, ns, a, l, e1, e2, r⟩ := hp
    exact ⟨h1, ns, a, l, up_keep ht e1, up_keep ht e2, r⟩
  repeat' contradiction
  refine ⟨by omega, by omega, ?_⟩
  refine lc_ok (fun i acc S' => ∃ ys rest : List Str, acc = ys.map .str ∧ S' t = some (.lst (rest.map .str)) ∧ (ys ++ rest).Perm pool ∧ ys.length = i ∧ PenOk S' p c (n + i) ∧ Ext p S S') ?_ ?_ ⟨[], pool, rfl, up_same, List.Perm.refl _, rfl, hp0, Ext.new ht⟩
  · intro i x acc S' K hx ⟨ys, rest, ha, hS, hP, hi, hpn, hE⟩ next
    refine ⟨trivial, ?_⟩
    have hil : i < m := by
      have := (List.getElem?_eq_some_iff.mp hx).1
      simpa [rngD] using this
    have hrl : ys.length + rest.length = 13 := by rw [← List.length_append, hP.length_eq]; rfl
    subst ha
    have hl0 : ((rest.map D.str).length : Int) = rest.length := by rw [List.length_map]
    repeat' contradiction
    refine draw_ok hD hpn (by omega) (by rw [hl0]; omega) (by rw [hl0]; omega) ?_
    intro S2 r hp2 hf h0 h1
    have hSt : S2 t = some (.lst (rest.map .str)) := (hf t hpt.symm).trans hS
    repeat' contradiction
    refine m_popI hSt h0 (by omega) (by omega) fun x hx => ?_
    repeat' contradiction
    refine next _ _ ⟨ys ++ [x], rest.eraseIdx r.toNat, by simp, up_same, ?_, by simp [hi], ?_, ?_⟩
    · refine List.Perm.trans ?_ hP
      rw [List.append_assoc]
      exact List.Perm.append_left ys hx
    · obtain ⟨h1, ns, a, l, e1, e2, r⟩ := hp2
      have hct : c ≠ t := fun z => by subst z; obtain ⟨_, ns', _, _, _, e, _⟩ := hp; rw [ht] at e; cases e
      exact ⟨h1, ns, a, l, (up_ne hpt).trans e1, (up_ne hct).trans e2, r⟩
    · intro b o hb e
      have hbt : b ≠ t := fun z => by subst z; rw [ht] at e; cases e
      exact (up_ne hbt).trans ((hf b hb).trans (hE b o hb e))
  · intro acc S' ⟨ys, rest, ha, hS, hP, hi, hpn, hE⟩
    refine ⟨trivial, ?_⟩
    subst ha
    have hi : ys.length = m := by simpa [rngD] using hi
    rw [show (rngD 0 (m : Int).toNat).length = m by simp [rngD]] at hpn
    repeat' contradiction
    refine b_sortS ?_
    exact q S' _ hpn hE ((List.length_mergeSort ys).trans hi) ⟨rest, (List.Perm.append_right rest (List.mergeSort_perm ys leS)).trans hP⟩ (sortS_pw ys)
end DP

set_option maxRecDepth 100000
set_option maxHeartbeats 1000000
/-! DpC2: what the defs about trees do, whatever their numbers. -/
namespace DP
open PySem L2
local macro_rules
  | `(tactic| get_elem_tactic_trivial) => `(tactic| first
    | with_reducible assumption
    | exact up_same
    | (refine up_keep (by with_reducible assumption) ?_; get_elem_tactic_trivial))
local macro_rules
  | `(tactic| decreasing_trivial) => `(tactic| first
    | with_reducible assumption
    | (with_unfolding_all exact Nat.le_of_ble_eq_true rfl)
    | omega
    | exact shrt_of (by with_unfolding_all rfl)
    | exact sh_cut (by with_reducible assumption) _ _
    | exact cmul_l (by omega) (by omega)
    | exact cmul_r (by omega) (by omega)
    | exact pow_lit (by decide) (by decide) (by decide))
local macro_rules
  | `(tactic| contradiction) => `(tactic| with_reducible first
    | assumption | (apply r_var; with_unfolding_all rfl)
    | apply r_cst | apply r_glo | apply r_tup | apply r_lst | apply r_dK | apply r_bin | apply r_neg | apply r_cmp | apply r_chn
    | apply r_not | apply r_and | apply r_or | apply r_ite | apply r_ix | apply r_sl | apply r_rev | apply r_isi | apply r_bi | apply r_me | apply r_call | apply r_lc
    | apply r_es0 | apply r_es1 | apply r_rs0 | apply r_rs1 | apply r_o0 | apply r_o1 | apply r_part | apply r_ot0 | apply r_ot1 | apply r_mv
    | apply t_not | apply t_and | apply t_or | apply t_cmp | apply t_chn | (apply t_var; with_unfolding_all rfl) | apply t_isi | apply t_bi | apply t_me | apply t_call | apply t_ix
    | (apply x_len; with_unfolding_all exact Nat.le_of_ble_eq_true rfl) | (apply x_ty; with_unfolding_all exact ⟨_, rfl⟩) | (apply x_tyL; get_elem_tactic_trivial; rfl)
    | apply x_bl | apply x_int | (apply x_tru; with_unfolding_all rfl) | (apply x_isi; with_unfolding_all rfl)
    | apply i_T | apply i_F | apply i_nT | apply i_nF
    | apply o_addI | (apply o_addS; decreasing_trivial) | (apply o_addSS; decreasing_trivial; decreasing_trivial) | (apply o_addT; decreasing_trivial) | (apply o_addTT; decreasing_trivial; decreasing_trivial) | apply o_sub
    | (apply o_mulI; decreasing_trivial) | (apply o_mulS; decreasing_trivial) | (apply o_fdiv; decreasing_trivial) | (apply o_mod; decreasing_trivial) | (apply o_pow; decreasing_trivial)
    | (apply o_addNN; decreasing_trivial) | (apply o_addRN; get_elem_tactic_trivial; decreasing_trivial) | (apply o_addNR; get_elem_tactic_trivial; decreasing_trivial) | (apply o_addRR; get_elem_tactic_trivial; get_elem_tactic_trivial; decreasing_trivial)
    | apply c_eqI | apply c_eqS | apply c_eqB | apply c_neI | apply c_neS | apply c_neB | apply c_ltI | apply c_ltS | apply c_gtI | apply c_leI | apply c_geI | apply c_inS | apply c_ninS
    | (apply p_str; decreasing_trivial; with_unfolding_all rfl) | (apply p_tup; with_unfolding_all rfl) | (apply p_lstN; with_unfolding_all rfl) | (apply p_lst; get_elem_tactic_trivial; with_unfolding_all rfl) | (apply p_dK; get_elem_tactic_trivial; with_unfolding_all rfl)
    | (apply l_strS; decreasing_trivial) | (apply l_str; decreasing_trivial) | apply l_tup | apply l_fz | apply l_lstN | (apply l_lst; get_elem_tactic_trivial) | apply v_tup | apply v_lstN | (apply v_lst; get_elem_tactic_trivial)
    | (apply b_lenS; decreasing_trivial) | apply b_lenT | apply b_lenN | (apply b_lenL; get_elem_tactic_trivial) | apply b_abs | apply b_intI | apply b_intB | apply b_tuplN | apply b_tuplT | (apply b_tuplL; get_elem_tactic_trivial) | apply b_listN | apply b_listT | (apply b_listL; get_elem_tactic_trivial)
    | apply z_nil | apply z_exp | apply z_set | apply z_ret | apply z_ife | apply z_for | apply z_brk | apply z_cnt | apply z_sub
    | apply bn_name | (apply q_str; decreasing_trivial) | apply q_tup | apply q_fz | apply q_n | (apply q_ref; get_elem_tactic_trivial) | apply w_seq | apply w_rng1 | apply w_rng2)
local macro_rules
  | `(tactic| contradiction) => `(tactic| with_reducible first
    | (apply p_cells; get_elem_tactic_trivial) | (apply p_at; get_elem_tactic_trivial) | (apply p_left; get_elem_tactic_trivial)
    | (apply y_at; get_elem_tactic_trivial) | (apply y_left; get_elem_tactic_trivial))
local macro_rules
  | `(tactic| contradiction) => `(tactic| with_reducible first
    | apply r_lc2 | apply w_enum | apply e_n | apply c_isnotB | apply b_min | apply bn_tup2)
mutual
def isCan : D → Prop
  | .str _ => True
  | .tup ds => (ds.Pairwise fun a b => (fst1 a).cps.toList < (fst1 b).cps.toList) ∧ isCans ds
  | _ => False
def isCans : List D → Prop
  | [] => True
  | d :: ds => isCan d ∧ isCans ds
end
theorem isCans_iff : ∀ {ds : List D}, isCans ds ↔ ∀ d ∈ ds, isCan d
  | [] => by simp [isCans]
  | d :: ds => by rw [isCans, isCans_iff (ds := ds)]; simp
theorem fst1_mem : ∀ d : D, isTr d → fst1 d ∈ nms d
  | .str x, _ => by simp [fst1, nms]
  | .tup (d :: ds), h => by
    rw [isTr, isTrs] at h
    rw [fst1, nms, nmss, List.mem_append]
    exact .inl (fst1_mem d h.2.1)
  | .tup [], h => by rw [isTr] at h; simp at h
  | .non, h => by simp [isTr] at h
  | .bl _, h => by simp [isTr] at h
  | .int _, h => by simp [isTr] at h
  | .fz _, h => by simp [isTr] at h
  | .ref _, h => by simp [isTr] at h
theorem fst_ne : ∀ {ds : List D}, isTrs ds → (nmss ds).Nodup → ds.Pairwise fun a b => fst1 a ≠ fst1 b
  | [], _, _ => .nil
  | d :: ds, h, hn => by
    rw [isTrs] at h
    rw [nmss] at hn
    obtain ⟨h1, h2, h3⟩ := List.nodup_append.mp hn
    refine .cons (fun e he z => ?_) (fst_ne h.2 h2)
    have m2 : fst1 e ∈ nmss ds := by
      rw [nmss_flat]
      exact List.mem_flatMap.mpr ⟨e, he, fst1_mem e (isTrs_iff.mp h.2 e he)⟩
    exact h3 _ (fst1_mem d h.1) _ m2 z
theorem le_lt {x y : Str} (h : leS x y = true) (hn : x ≠ y) : x.cps.toList < y.cps.toList := by
  rw [leS_eq, decide_eq_true_eq] at h
  by_cases q : x.cps.toList < y.cps.toList
  · exact q
  · exact absurd (str_ext (List.le_antisymm h (List.not_lt.mp q))) hn
theorem lt_le {x y : Str} (h : x.cps.toList < y.cps.toList) : leS x y = true := by
  rw [leS_eq, decide_eq_true_eq]
  exact List.le_of_lt h
theorem nodup_perm {ds es : List D} (h : es.Perm ds) (hn : (nmss ds).Nodup) : (nmss es).Nodup := (nmss_perm h).nodup_iff.mpr hn
theorem forked_can {ds : List D} {d : D} (hc : ∀ e ∈ ds, isCan e) (htr : isTrs ds) (hn : (nmss ds).Nodup) (h : Forked ds d) : isCan d := by
  rcases h with rfl | ⟨es, rfl, hp, hw⟩
  · exact hc d List.mem_cons_self
  · rw [isCan]
    refine ⟨(hw.and (fst_ne (isTrs_perm hp htr) (nodup_perm hp hn))).imp fun ⟨a, b⟩ => le_lt a b, isCans_iff.mpr fun e he => hc e (hp.subset he)⟩
def leF (a b : D) : Bool := leS (fst1 a) (fst1 b)
theorem leF_trans (a b c : D) (h1 : leF a b = true) (h2 : leF b c = true) : leF a c = true := leS_total.trans _ _ _ h1 h2
theorem leF_tot (a b : D) : (leF a b || leF b a) = true := leS_tot _ _
def forkC : List D → Option D
  | [] => none
  | [d] => some d
  | ds => some (.tup (ds.mergeSort leF))
theorem forkC_many {ds : List D} (h : 2 ≤ ds.length) : forkC ds = some (.tup (ds.mergeSort leF)) := by
  match ds, h with
  | _ :: _ :: _, _ => rfl
theorem fst_inj : ∀ {ds : List D}, (ds.Pairwise fun a b => fst1 a ≠ fst1 b) → ∀ a ∈ ds, ∀ b ∈ ds, fst1 a = fst1 b → a = b
  | [], _, a, ha, _, _, _ => by cases ha
  | d :: ds, h, a, ha, b, hb, e => by
    obtain ⟨h1, h2⟩ := List.pairwise_cons.mp h
    rcases List.mem_cons.mp ha with ea | ha'
    · rcases List.mem_cons.mp hb with eb | hb'
      · rw [ea, eb]
      · rw [ea] at e
        exact absurd e (h1 b hb')
    · rcases List.mem_cons.mp hb with eb | hb'
      · rw [eb] at e
        exact absurd e.symm (h1 a ha')
      · exact fst_inj h2 a ha' b hb' e
theorem forked_eq {ds : List D} {d : D} (htr : isTrs ds) (hn : (nmss ds).Nodup) (hd : isTr d) (hl : 1 ≤ ds.length) (h : Forked ds d) : forkC ds = some d := by
  rcases h with rfl | ⟨es, rfl, hp, hw⟩
  · rfl
  · rw [isTr] at hd
    have hl2 : 2 ≤ ds.length := by rw [← hp.length_eq]; exact hd.1
    rw [forkC_many hl2]
    have ne := fst_ne htr hn
    have e : ds.mergeSort leF = es := by
      refine List.Perm.eq_of_pairwise (le := fun a b => leF a b = true) (fun a b ha hb h1 h2 => ?_) (List.pairwise_mergeSort leF_trans leF_tot ds) hw ((List.mergeSort_perm ds leF).trans hp.symm)
      exact fst_inj ne a ((List.mergeSort_perm ds leF).subset ha) b (hp.subset hb) (leS_anti h1 h2)
    rw [e]
mutual
/-- a tree to some names -/
def toF (l : List Str) : D → Option D
  | .str x => if x ∈ l then some (.str x) else none
  | .tup ds => forkC (toFs l ds)
  | _ => none
def toFs (l : List Str) : List D → List D
  | [] => []
  | d :: ds => (toF l d).toList ++ toFs l ds
end
/-- what comes of a fork of parts -/
theorem forkC_ok {ds : List D} (htr : isTrs ds) (hc : ∀ e ∈ ds, isCan e) (hn : (nmss ds).Nodup) : (forkC ds = none ∧ ds = []) ∨ ∃ e, forkC ds = some e ∧ isTr e ∧ isCan e ∧ (nms e).Perm (nmss ds) := by
  match ds, htr, hc, hn with
  | [], _, _, _ => exact .inl ⟨rfl, rfl⟩
  | [d], htr, hc, hn =>
    rw [isTrs] at htr
    exact .inr ⟨d, rfl, htr.1, hc d List.mem_cons_self, by rw [nmss, nmss, List.append_nil]⟩
  | a :: b :: r, htr, hc, hn =>
    have hp := List.mergeSort_perm (a :: b :: r) leF
    refine .inr ⟨_, rfl, ?_, ?_, ?_⟩
    · rw [isTr]
      exact ⟨by rw [hp.length_eq]; simp, isTrs_perm hp htr⟩
    · exact forked_can hc htr hn (.inr ⟨_, rfl, hp, List.pairwise_mergeSort leF_trans leF_tot _⟩)
    · rw [nms]
      exact nmss_perm hp
mutual
theorem toF_ok (l : List Str) : ∀ d : D, isTr d → (nms d).Nodup → (toF l d = none ∧ (nms d).filter (fun x => decide (x ∈ l)) = []) ∨ ∃ e, toF l d = some e ∧ isTr e ∧ isCan e ∧ (nms e).Perm ((nms d).filter fun x => decide (x ∈ l))
  | .str x, h, _ => by
    rw [toF, nms]
    by_cases hx : x ∈ l
    · exact .inr ⟨.str x, if_pos hx, h, by simp [isCan], by simp [nms, hx]⟩
    · exact .inl ⟨if_neg hx, by simp [hx]⟩
  | .tup ds, h, hn => by
    rw [isTr] at h
    rw [nms] at hn
    rw [toF, nms]
    obtain ⟨h1, h2, h3⟩ := toFs_ok l ds h.2 hn
    have hn2 : (nmss (toFs l ds)).Nodup := h3.nodup_iff.mpr (hn.filter _)
    rcases forkC_ok h1 h2 hn2 with ⟨e1, e2⟩ | ⟨e, e1, e2, e3, e4⟩
    · refine .inl ⟨e1, ?_⟩
      rw [e2, nmss] at h3
      exact h3.symm.eq_nil
    · exact .inr ⟨e, e1, e2, e3, e4.trans h3⟩
  | .non, h, _ => by simp [isTr] at h
  | .bl _, h, _ => by simp [isTr] at h
  | .int _, h, _ => by simp [isTr] at h
  | .fz _, h, _ => by simp [isTr] at h
  | .ref _, h, _ => by simp [isTr] at h
theorem toFs_ok (l : List Str) : ∀ ds : List D, isTrs ds → (nmss ds).Nodup → isTrs (toFs l ds) ∧ (∀ e ∈ toFs l ds, isCan e) ∧ (nmss (toFs l ds)).Perm ((nmss ds).filter fun x => decide (x ∈ l))
  | [], _, _ => by simp [toFs, isTrs, nmss]
  | d :: ds, h, hn => by
    rw [isTrs] at h
    rw [nmss] at hn
    obtain ⟨n1, n2, _⟩ := List.nodup_append.mp hn
    obtain ⟨h1, h2, h3⟩ := toFs_ok l ds h.2 n2
    rw [toFs, nmss, List.filter_append]
    rcases toF_ok l d h.1 n1 with ⟨e1, e2⟩ | ⟨e, e1, e2, e3, e4⟩
    · rw [e1, e2, Option.toList_none, List.nil_append, List.nil_append]
      exact ⟨h1, h2, h3⟩
    · rw [e1, Option.toList_some, List.singleton_append, isTrs, nmss]
      exact ⟨⟨e2, h1⟩, fun x hx => by
        rcases List.mem_cons.mp hx with rfl | hx
        · exact e3
        · exact h2 x hx, e4.append h3⟩
end
mutual
theorem toF_all (l : List Str) : ∀ d : D, isTr d → isCan d → (∀ x ∈ nms d, x ∈ l) → toF l d = some d
  | .str x, _, _, hl => by rw [toF]; exact if_pos (hl x (by simp [nms]))
  | .tup ds, h, hc, hl => by
    rw [isTr] at h
    rw [isCan] at hc
    rw [nms] at hl
    rw [toF, toFs_all l ds h.2 hc.2 hl, forkC_many h.1, List.mergeSort_of_pairwise (le := leF) (hc.1.imp fun {a b} q => lt_le q)]
  | .non, h, _, _ => by simp [isTr] at h
  | .bl _, h, _, _ => by simp [isTr] at h
  | .int _, h, _, _ => by simp [isTr] at h
  | .fz _, h, _, _ => by simp [isTr] at h
  | .ref _, h, _, _ => by simp [isTr] at h
theorem toFs_all (l : List Str) : ∀ ds : List D, isTrs ds → isCans ds → (∀ x ∈ nmss ds, x ∈ l) → toFs l ds = ds
  | [], _, _, _ => by simp [toFs]
  | d :: ds, h, hc, hl => by
    rw [isTrs] at h
    rw [isCans] at hc
    rw [nmss] at hl
    rw [toFs, toF_all l d h.1 hc.1 fun x hx => hl x (List.mem_append_left _ hx), toFs_all l ds h.2 hc.2 fun x hx => hl x (List.mem_append_right _ hx)]
    rfl
end
mutual
theorem ht_nms : ∀ d : D, isTr d → ht d + 1 ≤ (nms d).length
  | .str x, _ => by simp [ht, nms]
  | .tup ds, h => by
    rw [isTr] at h
    rw [ht, nms]
    have := hts_nmss ds h.2 (by omega)
    omega
  | .non, h => by simp [isTr] at h
  | .bl _, h => by simp [isTr] at h
  | .int _, h => by simp [isTr] at h
  | .fz _, h => by simp [isTr] at h
  | .ref _, h => by simp [isTr] at h
theorem hts_nmss : ∀ ds : List D, isTrs ds → 1 ≤ ds.length → hts ds + ds.length ≤ (nmss ds).length
  | [], _, h => by simp at h
  | [d], h, _ => by
    rw [isTrs] at h
    rw [hts, hts, nmss, nmss, List.append_nil]
    have := ht_nms d h.1
    simp
    omega
  | d :: e :: ds, h, _ => by
    rw [isTrs] at h
    rw [hts, nmss, List.length_append, List.length_cons]
    have h1 := ht_nms d h.1
    have h2 := hts_nmss (e :: ds) h.2 (by simp)
    have h3 := nmss_ne (e :: ds) h.2
    have h4 := nms_ne d h.1
    omega
end
theorem met_take {xs : List Str} (hn : xs.Nodup) : ∀ i, i ≤ xs.length → met (fun i => xs.getD i ⟨#[]⟩) i = xs.take i
  | 0, _ => by rw [met, List.take_zero]
  | i + 1, hi => by
    rw [met, met_take hn i (by omega)]
    have hlt : i < xs.length := by omega
    have e : xs.getD i ⟨#[]⟩ = xs[i] := by rw [List.getD_eq_getElem?_getD, List.getElem?_eq_getElem hlt]; rfl
    have ne : ((xs.take i).any (· == xs[i])) = false := by
      rw [List.any_eq_false]
      intro y hy z
      have z : y = xs[i] := by simpa using z
      obtain ⟨j, hj, e2⟩ := List.getElem_of_mem hy
      rw [List.length_take] at hj
      have hji : j < i := by omega
      have e3 : xs[j]'(by omega) = xs[i] := by rw [← z, ← e2, List.getElem_take]
      exact absurd e3 (List.pairwise_iff_getElem.mp hn j i (by omega) hlt hji)
    show put1 (xs.take i) (xs.getD i ⟨#[]⟩) = _
    rw [e]
    unfold put1
    rw [ne, if_neg (by simp), List.take_add_one, List.getElem?_eq_getElem hlt]
    rfl
theorem metS_nodup {xs : List Str} (hn : xs.Nodup) : (metS xs).length = xs.length := by
  unfold metS
  rw [met_take hn xs.length (Nat.le_refl _), List.take_length]
theorem sortK_fst (ds : List D) : sortK ds (ds.map fst1) = ds.mergeSort leF := by
  have e1 : ds.zip (ds.map fst1) = ds.map fun d => (d, fst1 d) := by
    induction ds with
    | nil => rfl
    | cons d ds ih => rw [List.map_cons, List.zip_cons_cons, ih, List.map_cons]
  unfold sortK
  rw [e1, ← List.map_mergeSort (r := leF) (s := PySem.W.dataLe false fun p : D × Str => PyData.str p.2) (f := fun d => (d, fst1 d)) (l := ds) (fun a _ b _ => ?_), List.map_map]
  · exact List.map_id _
  · unfold leF
    rw [leS_lt, PySem.W.dataLe_eq]
    rfl
theorem keys_fst {B : List Fn} {k f : Nat} (hT : B[f]? = some ⟨1, 1, bLeast⟩) {S : Sto} {Q : Sto → Prop} : ∀ {ds : List D}, isTrs ds → Q S → keysW (W B (k + 1)) f ds (ds.map fst1) S Q
  | [], _, q => q
  | d :: ds, h, q => by
    rw [isTrs] at h
    exact least_ok hT h.1 fun _ => ⟨rfl, keys_fst hT h.2 q⟩
def optD : Option D → D
  | none => .non
  | some d => d
section
variable {F : Fw} {ρ : DP.Env} {S : Sto} {Q : PR} {a : E}
theorem r_sortkR {f : Nat} {t : Addr} {ds : List D} {ys : List Str} (h : S t = some (.lst ds)) (hl : ys.length = ds.length) (q : keysW F f ds ys S fun S2 => Q (.n (.lst (sortK ds ys))) S2) {i : Nat} (e : ρ[i]? = some (some (.ref t))) : wE F (.sortk f (.var i)) ρ S Q := ⟨_, e, ds, ys, lstOf_ref h, hl, q⟩
theorem r_lsetR {t : Addr} {xs : List Str} (h : S t = some (.lst (xs.map .str))) (hl : xs.length < 1000) (q : Q (.v (.int (metS xs).length)) S) {i : Nat} (e : ρ[i]? = some (some (.ref t))) : wE F (.lset (.var i)) ρ S Q := ⟨_, e, xs, lstOf_ref h, hl, q⟩
theorem c_inST {x : Str} {ys : List Str} (hx : Shrt x) (h : ∀ y ∈ ys, Shrt y) (q : Q (.v (.bl (decide (x ∈ ys)))) S) : cmpW .isin (.v (.str x)) (.v (tupS ys)) S Q := by
  refine .inr (.inl ⟨.str x, ys.map .str, .str x, .tup (rdg_strs S ys), str_shaped hx, strsT_shaped h, ?_⟩)
  rw [any_strs]
  have e : (ys.any fun y => y == x) = decide (x ∈ ys) := by
    rw [Bool.eq_iff_iff, List.any_eq_true, decide_eq_true_eq]
    exact ⟨fun ⟨y, hy, z⟩ => by rw [← beq_iff_eq.mp z]; exact hy, fun hx => ⟨x, hx, by simp⟩⟩
  rw [e]
  exact q
theorem c_neT0 {l : List Str} (h : ∀ x ∈ l, Shrt x) (q : Q (.v (.bl (!l.isEmpty))) S) : cmpW .ne (.v (tupS l)) (.v (.tup [])) S Q := by
  refine ⟨.tuple (l.map .str), .tuple [], rdg_tupS S l, .tup .nil, strsT_shaped h, strsT_shaped (xs := []) (fun _ z => by cases z), ?_⟩
  have e : PyData.eqv (.tuple (l.map .str)) (.tuple []) = l.isEmpty := by
    rw [PyData.eqv]
    cases l <;> simp [PyData.eqvAll]
  rw [e]
  exact q
theorem c_neDD {d : D} (hd : Tree d) (q : Q (.v (.bl false)) S) : cmpW .ne (.v d) (.v d) S Q := by
  have hs : SeqAt.shaped (encD d) = true := by
    unfold SeqAt.shaped
    have h1 := hd.ht
    have h2 := enc_dep d
    rw [tr_can d hd.tr]
    simp
    omega
  have key : (∃ p q', RdgR S (.v d) p ∧ RdgR S (.v d) q' ∧ SeqAt.shaped p = true ∧ SeqAt.shaped q' = true ∧ (fun b : Bool => Q (.v (.bl (!b))) S) (PyData.eqv p q')) := by
    refine ⟨encD d, encD d, rdg_pure S d (tr_pure d hd.tr), rdg_pure S d (tr_pure d hd.tr), hs, hs, ?_⟩
    show Q (.v (.bl (!(PyData.eqv (encD d) (encD d))))) S
    rw [SeqAt.eqv_refl (encD d) (tr_can d hd.tr)]
    exact q
  cases d with
  | str x =>
    show Q (.v (.bl (!decide (x = x)))) S
    rw [decide_eq_true rfl]
    exact q
  | tup ds => exact key
  | non => have := hd.tr; simp [isTr] at this
  | bl _ => have := hd.tr; simp [isTr] at this
  | int _ => have := hd.tr; simp [isTr] at this
  | fz _ => have := hd.tr; simp [isTr] at this
  | ref _ => have := hd.tr; simp [isTr] at this
end
end DP

set_option maxRecDepth 100000
set_option maxHeartbeats 1000000
/-! DpC3: what the defs about trees do, whatever their numbers. -/
namespace DP
open PySem L2
local macro_rules
  | `(tactic| get_elem_tactic_trivial) => `(tactic| first
    | with_reducible assumption
    | exact up_same
    | (refine up_keep (by with_reducible assumption) ?_; get_elem_tactic_trivial))
local macro_rules
  | `(tactic| decreasing_trivial) => `(tactic| first
    | with_reducible assumption
    | (with_unfolding_all exact Nat.le_of_ble_eq_true rfl)
    | omega
    | exact shrt_of (by with_unfolding_all rfl)
    | exact sh_cut (by with_reducible assumption) _ _
    | exact cmul_l (by omega) (by omega)
    | exact cmul_r (by omega) (by omega)
    | exact pow_lit (by decide) (by decide) (by decide))
local macro_rules
  | `(tactic| contradiction) => `(tactic| with_reducible first
    | assumption | (apply r_var; with_unfolding_all rfl)
    | apply r_cst | apply r_glo | apply r_tup | apply r_lst | apply r_dK | apply r_bin | apply r_neg | apply r_cmp | apply r_chn
    | apply r_not | apply r_and | apply r_or | apply r_ite | apply r_ix | apply r_sl | apply r_rev | apply r_isi | apply r_bi | apply r_me | apply r_call | apply r_lc
    | apply r_es0 | apply r_es1 | apply r_rs0 | apply r_rs1 | apply r_o0 | apply r_o1 | apply r_part | apply r_ot0 | apply r_ot1 | apply r_mv
    | apply t_not | apply t_and | apply t_or | apply t_cmp | apply t_chn | (apply t_var; with_unfolding_all rfl) | apply t_isi | apply t_bi | apply t_me | apply t_call | apply t_ix
    | (apply x_len; with_unfolding_all exact Nat.le_of_ble_eq_true rfl) | (apply x_ty; with_unfolding_all exact ⟨_, rfl⟩) | (apply x_tyL; get_elem_tactic_trivial; rfl)
    | apply x_bl | apply x_int | (apply x_tru; with_unfolding_all rfl) | (apply x_isi; with_unfolding_all rfl)
    | apply i_T | apply i_F | apply i_nT | apply i_nF
    | apply o_addI | (apply o_addS; decreasing_trivial) | (apply o_addSS; decreasing_trivial; decreasing_trivial) | (apply o_addT; decreasing_trivial) | (apply o_addTT; decreasing_trivial; decreasing_trivial) | apply o_sub
    | (apply o_mulI; decreasing_trivial) | (apply o_mulS; decreasing_trivial) | (apply o_fdiv; decreasing_trivial) | (apply o_mod; decreasing_trivial) | (apply o_pow; decreasing_trivial)
    | (apply o_addNN; decreasing_trivial) | (apply o_addRN; get_elem_tactic_trivial; decreasing_trivial) | (apply o_addNR; get_elem_tactic_trivial; decreasing_trivial) | (apply o_addRR; get_elem_tactic_trivial; get_elem_tactic_trivial; decreasing_trivial)
    | apply c_eqI | apply c_eqS | apply c_eqB | apply c_neI | apply c_neS | apply c_neB | apply c_ltI | apply c_ltS | apply c_gtI | apply c_leI | apply c_geI | apply c_inS | apply c_ninS
    | (apply p_str; decreasing_trivial; with_unfolding_all rfl) | (apply p_tup; with_unfolding_all rfl) | (apply p_lstN; with_unfolding_all rfl) | (apply p_lst; get_elem_tactic_trivial; with_unfolding_all rfl) | (apply p_dK; get_elem_tactic_trivial; with_unfolding_all rfl)
    | (apply l_strS; decreasing_trivial) | (apply l_str; decreasing_trivial) | apply l_tup | apply l_fz | apply l_lstN | (apply l_lst; get_elem_tactic_trivial) | apply v_tup | apply v_lstN | (apply v_lst; get_elem_tactic_trivial)
    | (apply b_lenS; decreasing_trivial) | apply b_lenT | apply b_lenN | (apply b_lenL; get_elem_tactic_trivial) | apply b_abs | apply b_intI | apply b_intB | apply b_tuplN | apply b_tuplT | (apply b_tuplL; get_elem_tactic_trivial) | apply b_listN | apply b_listT | (apply b_listL; get_elem_tactic_trivial)
    | apply z_nil | apply z_exp | apply z_set | apply z_ret | apply z_ife | apply z_for | apply z_brk | apply z_cnt | apply z_sub
    | apply bn_name | (apply q_str; decreasing_trivial) | apply q_tup | apply q_fz | apply q_n | (apply q_ref; get_elem_tactic_trivial) | apply w_seq | apply w_rng1 | apply w_rng2)
local macro_rules
  | `(tactic| contradiction) => `(tactic| with_reducible first
    | (apply p_cells; get_elem_tactic_trivial) | (apply p_at; get_elem_tactic_trivial) | (apply p_left; get_elem_tactic_trivial)
    | (apply y_at; get_elem_tactic_trivial) | (apply y_left; get_elem_tactic_trivial))
local macro_rules
  | `(tactic| contradiction) => `(tactic| with_reducible first
    | apply r_lc2 | apply w_enum | apply e_n | apply c_isnotB | apply b_min | apply bn_tup2)
def bFirst : List C := bLeast
def bIsFork (fIsName fSelf fFirst : Nat) : List C := [.ife (.not (.isi (.var 0) .tup)) [.ret (.call fIsName [(.var 0)])] [], .ife (.or (.cmp .eq (.var 1) (.cst (.int 0))) (.or (.cmp .lt (.bi .len [(.var 0)]) (.cst (.int 2))) (.not (.bi .all [(.lc (.call fSelf [(.var 3), (.bin .sub (.var 1) (.cst (.int 1)))]) (.name 3) (.seq (.var 0)) none [3])])))) [.ret (.cst (.bl false))] [], .asg (.name 2) (.lc (.call fFirst [(.var 3)]) (.name 3) (.seq (.var 0)) none [3]), .ret (.bi .all [(.lc (.cmp .lt (.ix (.var 2) (.bin .sub (.var 4) (.cst (.int 1)))) (.ix (.var 2) (.var 4))) (.name 4) (.rng2 (.cst (.int 1)) (.bi .len [(.var 2)])) none [4])])]
def bIsTree (fIsFork fStanding : Nat) : List C := [.ife (.not (.call fIsFork [(.var 0), (.glo "MOST_DEEP" (.int 9))])) [.ret (.cst (.bl false))] [], .asg (.name 1) (.call fStanding [(.var 0)]), .ret (.and (.cmp .le (.bi .len [(.var 1)]) (.glo "MOST_NAMES" (.int 10))) (.cmp .eq (.lset (.var 1)) (.bi .len [(.var 1)])))]
def bForkOf (fFirst : Nat) : List C := [.ife (.cmp .eq (.bi .len [(.var 0)]) (.cst (.int 1))) [.ret (.ix (.var 0) (.cst (.int 0)))] [], .ret (.bi .tupl [(.sortk fFirst (.var 0))])]
def bPartTo (fSelf fForkOf : Nat) : List C := [.ife (.isi (.var 0) .str) [.ret (.ite (.cmp .isin (.var 0) (.var 1)) (.var 0) (.cst .non))] [], .asg (.name 2) (.lc (.call fSelf [(.var 4), (.var 1)]) (.name 4) (.seq (.var 0)) none [4]), .asg (.name 3) (.lc (.var 4) (.name 4) (.seq (.var 2)) (some (.cmp .isnot (.var 4) (.cst .non))) [4]), .ret (.ite (.cmp .ne (.var 3) (.lst [])) (.call fForkOf [(.var 3)]) (.cst .non))]
def bLawTo (fSelf fFork : Nat) : List C := [.ife (.isi (.var 0) .str) [.ret (.ite (.cmp .isin (.var 0) (.var 1)) (.var 0) (.cst .non))] [], .asg (.name 2) (.lc (.call fSelf [(.var 3), (.var 1)]) (.name 3) (.seq (.var 0)) none [3]), .asg (.name 2) (.lc (.var 3) (.name 3) (.seq (.var 2)) (some (.cmp .isnot (.var 3) (.cst .non))) [3]), .ret (.ite (.cmp .ne (.var 2) (.lst [])) (.call fFork [(.var 2)]) (.cst .non))]
section
variable {B : List Fn} {f n : Nat} {S : Sto} {Q : PR}
theorem great2_ok {k fn ft fd ff fl : Nat} (hT : B[f]? = some ⟨1, 4, bGreat fn ft fd⟩) (hN : B[fn]? = some ⟨2, 4, bNames fd⟩) (hTr : B[ft]? = some ⟨3, 7, bTree fd ff⟩) (hD : B[fd]? = some ⟨2, 8, bDraw⟩) (hF : B[ff]? = some ⟨1, 5, bFork fl⟩) (hL : B[fl]? = some ⟨1, 1, bLeast⟩) {p c : Addr} {n : Nat}
    (hp : PenOk S p c n) (hn : n + 200 < 60000) (q : ∀ S' d, PenOk S' p c (n + 120) → Ext p S S' → isTr d → (nms d).length = 10 → Pooled (nms d) → isCan d → Q (.v d) S') : W B (k + 4) f [.ref p] S Q := by
  refine enter (b := ⟨1, 4, bGreat fn ft fd⟩) (ρ := [some (.ref p), none, none, none]) hT rfl rfl ?_
  show wSs (W B (k + 3)) (bGreat fn ft fd) _ _ _
  delta bGreat
  repeat' contradiction
  refine names2_ok (k := k + 1) (m := 10) hN hD hp (by omega) (by decide) ?_
  intro S1 xs hp1 hE1 hx hrest hpw
  have hpool : Pooled xs := hrest
  have hlt : xs.Pairwise fun x y => x.cps.toList < y.cps.toList := (hpw.and hpool.nodup).imp fun ⟨a, b⟩ => le_lt a b
  refine r_mn fun t ht => ?_
  repeat' contradiction
  obtain ⟨x0, r0, rfl⟩ : ∃ x0 r0, xs = x0 :: r0 := by
    cases xs with
    | nil => simp at hx
    | cons x r => exact ⟨x, r, rfl⟩
  rw [List.map_cons]
  refine p_lst up_same (atI_zero _ _) ?_
  repeat' contradiction
  refine ⟨1, 10, rfl, rfl, ⟨by decide, by decide, by decide, by decide⟩, by decide, ?_⟩
  have hrn : (rngD 1 ((10 : Int) - 1).toNat).length = 9 := by simp [rngD]
  have hw := hpool.wd
  refine for_ok (fun i ρ S' => S' = up S1 t (.lst (.str x0 :: r0.map .str)) ∧ ∃ d o3, ρ = [some (.ref p), some (.ref t), some d, o3] ∧ isTr d ∧ nms d = (x0 :: r0).take (i + 1) ∧ isCan d ∧ fst1 d = x0) (fun i y ρ S' K hy h hK => ⟨trivial, ?_⟩) (fun ρ S' h => ⟨trivial, ?_⟩) ⟨rfl, .str x0, none, rfl, by rw [isTr]; exact hw x0 (by simp), by rw [nms]; rfl, by rw [isCan]; trivial, rfl⟩
  · obtain ⟨rfl, d, o3, rfl, htr, hnm, hcan, hfst⟩ := h
    have hi : i < 9 := by
      have := (List.getElem?_eq_some_iff.mp hy).1
      omega
    have ey : y = .int (1 + i) := by
      unfold rngD at hy
      rw [List.getElem?_map, List.getElem?_range (by exact hi)] at hy
      exact (Option.some.inj hy).symm
    subst ey
    have hil : i + 1 < (x0 :: r0).length := by omega
    have e1 : atI (D.str x0 :: r0.map .str) ((1 : Int) + i) = some (.str (x0 :: r0)[i + 1]) := by
      rw [← List.map_cons, show (1 : Int) + i = ((i + 1 : Nat) : Int) by omega]
      exact atI_str (List.getElem?_eq_getElem hil)
    repeat' contradiction
    refine p_lst up_same e1 ?_
    repeat' contradiction
    refine hK _ _ ⟨rfl, _, _, rfl, ?_, ?_, ?_, by rw [fst1]; exact hfst⟩
    · rw [isTr]
      refine ⟨by simp, ?_⟩
      rw [isTrs, isTrs, isTrs]
      refine ⟨htr, ?_, trivial⟩
      rw [isTr]
      exact hw _ (List.getElem_mem _)
    · rw [nms, nmss, nmss, nmss, List.append_nil, hnm, nms, List.take_add_one (i := i + 1), List.getElem?_eq_getElem hil]
      rfl
    · rw [isCan, isCans, isCans, isCans]
      refine ⟨.cons (fun b hb => ?_) (.cons (fun _ z => by cases z) .nil), hcan, by simp [isCan], trivial⟩
      rw [List.mem_singleton.mp hb, hfst]
      show x0.cps.toList < ((x0 :: r0)[i + 1]).cps.toList
      exact (List.pairwise_cons.mp hlt).1 _ (by rw [List.getElem_cons_succ]; exact List.getElem_mem _)
  · obtain ⟨rfl, d, o3, rfl, htr, hnm, hcan, hfst⟩ := h
    rw [hrn, List.take_of_length_le (by omega)] at hnm
    have ht2 : up S1 t (.lst (.str x0 :: r0.map .str)) t = some (.lst (.str x0 :: r0.map .str)) := up_same
    repeat' contradiction
    refine tree2_ok (k := k) hTr hD hF hL (xs := x0 :: r0) (hp1.new ht) (by omega) (.inr rfl) ht2 hw (by simp) (by omega) hpool.nodup isCan (fun x _ => by simp [isCan]) (fun ds e hc htr hn _ hf => forked_can hc htr hn hf) ?_
    intro S2 d2 hp2 hE2 htr2 hpm2 hcan2
    repeat' contradiction
    refine draw_ok hD hp2 (by omega) (by decide) (by decide) ?_
    intro S3 r hp3 hf3 g0 g1
    have hE3 : Ext p S S3 := fun b o hb e => (hf3 b hb).trans (hE2 b o hb (up_keep ht (hE1 b o hb e)))
    obtain ⟨y, hy, hym⟩ := atI_lt (xs := [d, .tup (.str x0 :: r0.map .str), d2]) g0 g1
    refine p_lstN hy ?_
    have hlast : (isTr y ∧ isCan y) ∧ (nms y).Perm (x0 :: r0) := by
      rcases List.mem_cons.mp hym with e | e
      · subst e
        exact ⟨⟨htr, hcan⟩, by rw [hnm]⟩
      · rcases List.mem_cons.mp e with e | e
        · subst e
          refine ⟨⟨?_, ?_⟩, by rw [nms, ← List.map_cons, nmss_strs]⟩
          · rw [isTr, ← List.map_cons]
            exact ⟨by rw [List.length_map]; omega, isTrs_strs hw⟩
          · rw [isCan, ← List.map_cons]
            refine ⟨List.pairwise_map.mpr hlt, isCans_iff.mpr fun e he => ?_⟩
            obtain ⟨z, _, rfl⟩ := List.mem_map.mp he
            simp [isCan]
        · have e := List.mem_singleton.mp e
          subst e
          exact ⟨⟨htr2, hcan2⟩, hpm2⟩
    exact q S3 y (hp3.mono (by omega)) hE3 hlast.1.1 (by rw [hlast.2.length_eq]; exact hx) (hpool.perm hlast.2) hlast.1.2
theorem fork_of_ok {k fp : Nat} (hT : B[f]? = some ⟨1, 1, bForkOf fp⟩) (hL : B[fp]? = some ⟨1, 1, bLeast⟩) {a : Addr} {ds : List D} (ha : S a = some (.lst ds)) (hn : 1 ≤ ds.length) (htr : isTrs ds) (q : ∀ e, forkC ds = some e → Q (.v e) S) : W B (k + 2) f [.ref a] S Q := by
  refine enter (b := ⟨1, 1, bForkOf fp⟩) (ρ := [some (.ref a)]) hT rfl rfl ?_
  show wSs (W B (k + 1)) (bForkOf fp) _ _ _
  delta bForkOf
  repeat' contradiction
  by_cases h1 : (ds.length : Int) = 1
  · refine i_D h1 ?_
    match ds, hn, h1 with
    | [d], _, _ =>
      repeat' contradiction
      exact q d rfl
    | _ :: _ :: _, _, h1 => simp at h1; omega
  · refine i_N h1 ?_
    repeat' contradiction
    refine r_sortkR ha (ys := ds.map fst1) (List.length_map _) (keys_fst hL htr ?_) rfl
    repeat' contradiction
    rw [sortK_fst]
    exact q _ (forkC_many (by omega))
theorem is_fork_ok {fw fl : Nat} (hT : B[f]? = some ⟨2, 5, bIsFork fw f fl⟩) (hW : B[fw]? = some ⟨1, 2, bIsName⟩) (hL : B[fl]? = some ⟨1, 1, bLeast⟩) : ∀ (n0 : Nat) (d : D) (m : Nat), isTr d → isCan d → ht d ≤ n0 → ht d ≤ m → (nms d).length ≤ 1000 → ∀ {S : Sto} {Q : PR}, (∀ S', Sub S S' → Q (.v (.bl true)) S') → W B (n0 + 2) f [d, .int (m : Nat)] S Q
  | n0, .str x, m, htr, hc, hh, hm, hl, S, Q, q => by
    refine enter (b := ⟨2, 5, bIsFork fw f fl⟩) (ρ := [some (.str x), some (.int (m : Nat)), none, none, none]) hT rfl rfl ?_
    show wSs (W B (n0 + 1)) (bIsFork fw f fl) _ _ _
    delta bIsFork
    rw [isTr] at htr
    repeat' contradiction
    exact is_word_ok hW htr (q S Sub.rfl)
  | 0, .tup ds, m, htr, hc, hh, hm, hl, S, Q, q => by rw [ht] at hh; omega
  | n0 + 1, .tup ds, m, htr, hc, hh, hm, hl, S, Q, q => by
    refine enter (b := ⟨2, 5, bIsFork fw f fl⟩) (ρ := [some (.tup ds), some (.int (m : Nat)), none, none, none]) hT rfl rfl ?_
    show wSs (W B (n0 + 2)) (bIsFork fw f fl) _ _ _
    delta bIsFork
    rw [isTr] at htr
    rw [isCan] at hc
    rw [ht] at hh hm
    rw [nms] at hl
    have hll := nmss_ne ds htr.2
    obtain ⟨m', rfl⟩ : ∃ j, m = j + 1 := ⟨m - 1, by omega⟩
    have em : ((m' + 1 : Nat) : Int) - 1 = (m' : Nat) := by omega
    repeat' contradiction
    refine i_N (by omega) ?_
    repeat' contradiction
    refine i_N (by omega) ?_
    repeat' contradiction
    refine lc_ok (fun i acc S' => acc = (List.replicate i true).map .bl ∧ Sub S S') (fun i x acc S' K hx hI hK => ⟨trivial, ?_⟩) (fun acc S' hI => ⟨trivial, ?_⟩) ⟨rfl, Sub.rfl⟩
    · obtain ⟨rfl, hsub⟩ := hI
      have hxm := List.mem_of_getElem? hx
      have hx1 := hts_le hxm
      have hx2 : (nms x).length ≤ (nmss ds).length := by rw [nmss_flat]; exact len_flat hxm
      repeat' contradiction
      rw [em]
      refine is_fork_ok hT hW hL n0 x m' (isTrs_iff.mp htr.2 x hxm) (isCans_iff.mp hc.2 x hxm) (by omega) (by omega) (by omega) ?_
      intro S2 hs2
      repeat' contradiction
      refine hK _ _ ⟨?_, hsub.trans hs2⟩
      rw [Option.toList_some, List.replicate_succ', List.map_append]
      rfl
    · obtain ⟨rfl, hsub⟩ := hI
      repeat' contradiction
      refine b_allB ?_
      refine x_tru rfl ?_
      rw [show (List.replicate ds.length true).all id = true by simp]
      repeat' contradiction
      refine lc_allD (fun d => .str (fst1 d)) trivial (fun x hx K hK => ?_) ?_
      · repeat' contradiction
        refine least_ok hL (isTrs_iff.mp htr.2 x hx) fun _ => ?_
        repeat' contradiction
      · refine r_mn fun t ht' => ?_
        have em2 : (ds.map fun d => D.str (fst1 d)) = (ds.map fst1).map .str := by rw [List.map_map]; rfl
        rw [em2]
        have et : up S' t (.lst ((ds.map fst1).map .str)) t = some (.lst ((ds.map fst1).map .str)) := up_same
        have hlen : ((ds.map fst1).map D.str).length = ds.length := by rw [List.length_map, List.length_map]
        repeat' contradiction
        refine ⟨1, _, rfl, rfl, ⟨by omega, by omega, by omega, by omega⟩, by omega, ?_⟩
        refine lc_all (f := fun (i : Nat) => .int (1 + i)) (fun _ => .bl true) trivial (fun i hi K hK => ?_) ?_
        · have hi := List.mem_range.mp hi
          have hi : i + 1 < ds.length := by omega
          have a1 : atI ((ds.map fst1).map D.str) ((1 : Int) + i - 1) = some (.str (fst1 ds[i])) := by
            rw [show (1 : Int) + i - 1 = (i : Nat) by omega]
            exact atI_str (by rw [List.getElem?_map, List.getElem?_eq_getElem (by omega)]; rfl)
          have a2 : atI ((ds.map fst1).map D.str) ((1 : Int) + i) = some (.str (fst1 ds[i + 1])) := by
            rw [show (1 : Int) + i = ((i + 1 : Nat) : Int) by omega]
            exact atI_str (by rw [List.getElem?_map, List.getElem?_eq_getElem hi]; rfl)
          repeat' contradiction
          refine p_lst et a1 ?_
          repeat' contradiction
          refine p_lst et a2 ?_
          repeat' contradiction
          rw [decide_eq_true (List.pairwise_iff_getElem.mp hc.1 i (i + 1) (by omega) hi (by omega))]
          repeat' contradiction
        · repeat' contradiction
          have e : ∀ m : Nat, ((List.range m).map fun _ => D.bl true) = ((List.range m).map fun _ => true).map .bl := fun m => by rw [List.map_map]; rfl
          rw [e]
          refine b_allB ?_
          have e2 : ∀ m : Nat, ((List.range m).map fun _ => true).all id = true := fun m => by simp
          rw [e2]
          exact q _ (hsub.then (hsub.none ht'))
theorem is_tree_ok {k ff fs fw fl : Nat} (hT : B[f]? = some ⟨1, 2, bIsTree ff fs⟩) (hF : B[ff]? = some ⟨2, 5, bIsFork fw ff fl⟩) (hW : B[fw]? = some ⟨1, 2, bIsName⟩) (hL : B[fl]? = some ⟨1, 1, bLeast⟩) (hS : B[fs]? = some ⟨1, 3, bStanding fs⟩) {d : D} (htr : isTr d) (hc : isCan d) (h10 : (nms d).length ≤ 10) (hn : (nms d).Nodup)
    (q : ∀ S', Sub S S' → Q (.v (.bl true)) S') : W B (k + 20) f [d] S Q := by
  refine enter (b := ⟨1, 2, bIsTree ff fs⟩) (ρ := [some d, none]) hT rfl rfl ?_
  show wSs (W B (k + 19)) (bIsTree ff fs) _ _ _
  delta bIsTree
  have hh := ht_nms d htr
  repeat' contradiction
  refine is_fork_ok hF hW hL (k + 17) d 9 htr hc (by omega) (by omega) (by omega) ?_
  intro S1 hs1
  repeat' contradiction
  refine standing_ok hS _ d htr (by omega) (by omega) ?_
  refine r_mn fun t ht' => ?_
  have et : up S1 t (.lst ((nms d).map .str)) t = some (.lst ((nms d).map .str)) := up_same
  repeat' contradiction
  refine i_D (by rw [List.length_map]; omega) ?_
  repeat' contradiction
  refine r_lsetR et (by omega) ?_ rfl
  repeat' contradiction
  rw [metS_nodup hn, List.length_map, decide_eq_true rfl]
  exact q _ (hs1.then (hs1.none ht'))
end
end DP

set_option maxRecDepth 100000
set_option maxHeartbeats 1000000
/-! DpO: what the defs about trees do, whatever their numbers. -/
namespace DP
open PySem L2
local macro_rules
  | `(tactic| get_elem_tactic_trivial) => `(tactic| first
    | with_reducible assumption
    | exact up_same
    | (refine up_keep (by with_reducible assumption) ?_; get_elem_tactic_trivial))
local macro_rules
  | `(tactic| decreasing_trivial) => `(tactic| first
    | with_reducible assumption
    | (with_unfolding_all exact Nat.le_of_ble_eq_true rfl)
    | omega
    | exact shrt_of (by with_unfolding_all rfl)
    | exact sh_cut (by with_reducible assumption) _ _
    | exact cmul_l (by omega) (by omega)
    | exact cmul_r (by omega) (by omega)
    | exact pow_lit (by decide) (by decide) (by decide))
local macro_rules
  | `(tactic| contradiction) => `(tactic| with_reducible first
    | assumption | (apply r_var; with_unfolding_all rfl)
    | apply r_cst | apply r_glo | apply r_tup | apply r_lst | apply r_dK | apply r_bin | apply r_neg | apply r_cmp | apply r_chn
    | apply r_not | apply r_and | apply r_or | apply r_ite | apply r_ix | apply r_sl | apply r_rev | apply r_isi | apply r_bi | apply r_me | apply r_call | apply r_lc
    | apply r_es0 | apply r_es1 | apply r_rs0 | apply r_rs1 | apply r_o0 | apply r_o1 | apply r_part | apply r_ot0 | apply r_ot1 | apply r_mv
    | apply t_not | apply t_and | apply t_or | apply t_cmp | apply t_chn | (apply t_var; with_unfolding_all rfl) | apply t_isi | apply t_bi | apply t_me | apply t_call | apply t_ix
    | (apply x_len; with_unfolding_all exact Nat.le_of_ble_eq_true rfl) | (apply x_ty; with_unfolding_all exact ⟨_, rfl⟩) | (apply x_tyL; get_elem_tactic_trivial; rfl)
    | apply x_bl | apply x_int | (apply x_tru; with_unfolding_all rfl) | (apply x_isi; with_unfolding_all rfl)
    | apply i_T | apply i_F | apply i_nT | apply i_nF
    | apply o_addI | (apply o_addS; decreasing_trivial) | (apply o_addSS; decreasing_trivial; decreasing_trivial) | (apply o_addT; decreasing_trivial) | (apply o_addTT; decreasing_trivial; decreasing_trivial) | apply o_sub
    | (apply o_mulI; decreasing_trivial) | (apply o_mulS; decreasing_trivial) | (apply o_fdiv; decreasing_trivial) | (apply o_mod; decreasing_trivial) | (apply o_pow; decreasing_trivial)
    | (apply o_addNN; decreasing_trivial) | (apply o_addRN; get_elem_tactic_trivial; decreasing_trivial) | (apply o_addNR; get_elem_tactic_trivial; decreasing_trivial) | (apply o_addRR; get_elem_tactic_trivial; get_elem_tactic_trivial; decreasing_trivial)
    | apply c_eqI | apply c_eqS | apply c_eqB | apply c_neI | apply c_neS | apply c_neB | apply c_ltI | apply c_ltS | apply c_gtI | apply c_leI | apply c_geI | apply c_inS | apply c_ninS
    | (apply p_str; decreasing_trivial; with_unfolding_all rfl) | (apply p_tup; with_unfolding_all rfl) | (apply p_lstN; with_unfolding_all rfl) | (apply p_lst; get_elem_tactic_trivial; with_unfolding_all rfl) | (apply p_dK; get_elem_tactic_trivial; with_unfolding_all rfl)
    | (apply l_strS; decreasing_trivial) | (apply l_str; decreasing_trivial) | apply l_tup | apply l_fz | apply l_lstN | (apply l_lst; get_elem_tactic_trivial) | apply v_tup | apply v_lstN | (apply v_lst; get_elem_tactic_trivial)
    | (apply b_lenS; decreasing_trivial) | apply b_lenT | apply b_lenN | (apply b_lenL; get_elem_tactic_trivial) | apply b_abs | apply b_intI | apply b_intB | apply b_tuplN | apply b_tuplT | (apply b_tuplL; get_elem_tactic_trivial) | apply b_listN | apply b_listT | (apply b_listL; get_elem_tactic_trivial)
    | apply z_nil | apply z_exp | apply z_set | apply z_ret | apply z_ife | apply z_for | apply z_brk | apply z_cnt | apply z_sub
    | apply bn_name | (apply q_str; decreasing_trivial) | apply q_tup | apply q_fz | apply q_n | (apply q_ref; get_elem_tactic_trivial) | apply w_seq | apply w_rng1 | apply w_rng2)
local macro_rules
  | `(tactic| contradiction) => `(tactic| with_reducible first
    | (apply p_cells; get_elem_tactic_trivial) | (apply p_at; get_elem_tactic_trivial) | (apply p_left; get_elem_tactic_trivial)
    | (apply y_at; get_elem_tactic_trivial) | (apply y_left; get_elem_tactic_trivial))
local macro_rules
  | `(tactic| contradiction) => `(tactic| with_reducible first
    | apply r_lc2 | apply w_enum | apply e_n | apply c_isnotB | apply b_min | apply bn_tup2)
/-! ### what is a name, a fork, a tree: what the program looks at, what the law looks at -/
def wdB : D → Bool
  | .str x => (decide (1 ≤ x.length) && decide (x.length ≤ 8)) && x.cps.toList.all inLet
  | _ => false
def upB : List Str → Bool
  | x :: y :: r => decide (x.cps.toList < y.cps.toList) && upB (y :: r)
  | _ => true
mutual
def forkB : D → Nat → Bool
  | .str x, _ => wdB (.str x)
  | .tup ds, k => (decide (k ≠ 0) && decide (2 ≤ ds.length) && forkBs ds (k - 1)) && upB (ds.map fst1)
  | _, _ => false
def forkBs : List D → Nat → Bool
  | [], _ => true
  | d :: ds, k => forkB d k && forkBs ds k
end
mutual
def allN : D → Option (List Str)
  | .str x => if wdB (.str x) = true then some [x] else none
  | .tup ds => if ds.isEmpty = true then none else allNs ds
  | _ => none
def allNs : List D → Option (List Str)
  | [] => some []
  | d :: ds => match allN d, allNs ds with
    | some a, some b => some (a ++ b)
    | _, _ => none
end
def mn (d : D) : Str := (sortS (nms d)).headD ⟨#[]⟩
mutual
def frB : D → Bool
  | .tup ds => (decide (2 ≤ ds.length) && decide (sortS (ds.map mn) = ds.map mn)) && frBs ds
  | _ => true
def frBs : List D → Bool
  | [] => true
  | d :: ds => frB d && frBs ds
end
def oneB (ns : List Str) : Bool := decide ((metS ns).length = ns.length)
def treeP (d : D) : Bool := forkB d 9 && (decide ((nms d).length ≤ 10) && oneB (nms d))
def treeL (d : D) : Bool := match allN d with
  | none => false
  | some ns => (decide (ns.length ≤ 10) && oneB ns) && frB d
mutual
/-- the texts within are short -/
def shD : D → Prop
  | .str x => Shrt x
  | .tup ds => shDs ds
  | _ => True
def shDs : List D → Prop
  | [] => True
  | d :: ds => shD d ∧ shDs ds
end
theorem wdB_wd {x : Str} (hs : Shrt x) (h : wdB (.str x) = true) : Wd x := by
  unfold wdB at h
  simp only [Bool.and_eq_true, decide_eq_true_eq] at h
  exact ⟨⟨h.1.1, h.1.2, hs.2⟩, h.2⟩
theorem wd_wdB {x : Str} (h : Wd x) : wdB (.str x) = true := by
  unfold wdB
  simp only [Bool.and_eq_true, decide_eq_true_eq]
  exact ⟨⟨h.1.1, h.1.2.1⟩, h.2⟩
theorem upB_pw : ∀ {l : List Str}, upB l = true → l.Pairwise fun x y => x.cps.toList < y.cps.toList
  | [], _ => .nil
  | [_], _ => List.pairwise_singleton _ _
  | x :: y :: r, h => by
    rw [upB, Bool.and_eq_true, decide_eq_true_eq] at h
    have ih := upB_pw h.2
    refine .cons (fun z hz => ?_) ih
    rcases List.mem_cons.mp hz with e | e
    · subst e; exact h.1
    · exact List.lt_trans h.1 ((List.pairwise_cons.mp ih).1 z e)
theorem pw_upB : ∀ {l : List Str}, l.Pairwise (fun x y => x.cps.toList < y.cps.toList) → upB l = true
  | [], _ => rfl
  | [_], _ => rfl
  | x :: y :: r, h => by
    obtain ⟨h1, h2⟩ := List.pairwise_cons.mp h
    rw [upB, Bool.and_eq_true, decide_eq_true_eq]
    exact ⟨h1 y List.mem_cons_self, pw_upB h2⟩
theorem forkBs_all : ∀ {ds : List D} {k : Nat}, forkBs ds k = true ↔ ∀ d ∈ ds, forkB d k = true
  | [], k => by simp [forkBs]
  | d :: ds, k => by rw [forkBs, Bool.and_eq_true, forkBs_all (ds := ds)]; simp
theorem frBs_all : ∀ {ds : List D}, frBs ds = true ↔ ∀ d ∈ ds, frB d = true
  | [] => by simp [frBs]
  | d :: ds => by rw [frBs, Bool.and_eq_true, frBs_all (ds := ds)]; simp
theorem shDs_all : ∀ {ds : List D}, shDs ds ↔ ∀ d ∈ ds, shD d
  | [] => by simp [shDs]
  | d :: ds => by rw [shDs, shDs_all (ds := ds)]; simp
mutual
theorem fork_tr : ∀ (d : D) (k : Nat), forkB d k = true → shD d → isTr d ∧ isCan d ∧ ht d ≤ k
  | .str x, k, h, hs => by
    rw [forkB] at h
    exact ⟨by rw [isTr]; exact wdB_wd hs h, by rw [isCan]; trivial, by simp [ht]⟩
  | .tup ds, k, h, hs => by
    rw [forkB] at h
    simp only [Bool.and_eq_true, decide_eq_true_eq] at h
    obtain ⟨⟨⟨h0, h1⟩, h2⟩, h3⟩ := h
    rw [shD] at hs
    obtain ⟨a, b, c⟩ := forks_tr ds (k - 1) h2 hs
    have pw := upB_pw h3
    rw [List.pairwise_map] at pw
    exact ⟨by rw [isTr]; exact ⟨h1, a⟩, by rw [isCan]; exact ⟨pw, b⟩, by rw [ht]; omega⟩
  | .non, _, h, _ => by simp [forkB] at h
  | .bl _, _, h, _ => by simp [forkB] at h
  | .int _, _, h, _ => by simp [forkB] at h
  | .fz _, _, h, _ => by simp [forkB] at h
  | .ref _, _, h, _ => by simp [forkB] at h
theorem forks_tr : ∀ (ds : List D) (k : Nat), forkBs ds k = true → shDs ds → isTrs ds ∧ isCans ds ∧ hts ds ≤ k
  | [], _, _, _ => ⟨by simp [isTrs], by simp [isCans], by simp [hts]⟩
  | d :: ds, k, h, hs => by
    rw [forkBs, Bool.and_eq_true] at h
    rw [shDs] at hs
    obtain ⟨a, b, c⟩ := fork_tr d k h.1 hs.1
    obtain ⟨a2, b2, c2⟩ := forks_tr ds k h.2 hs.2
    exact ⟨by rw [isTrs]; exact ⟨a, a2⟩, by rw [isCans]; exact ⟨b, b2⟩, by rw [hts]; omega⟩
end
mutual
theorem fst_least : ∀ (d : D), isTr d → isCan d → ∀ x ∈ nms d, leS (fst1 d) x = true
  | .str y, _, _, x, hx => by
    rw [nms, List.mem_singleton] at hx
    subst hx
    rw [leS_eq]; simp [fst1]
  | .tup (d :: ds), h, hc, x, hx => by
    rw [isTr, isTrs] at h
    rw [isCan, isCans] at hc
    rw [nms, nmss, List.mem_append] at hx
    rw [fst1]
    rcases hx with hx | hx
    · exact fst_least d h.2.1 hc.2.1 x hx
    · obtain ⟨e, he, h1, h2⟩ := fsts_least ds h.2.2 hc.2.2 x hx
      exact leS_total.trans _ _ _ (lt_le ((List.pairwise_cons.mp hc.1).1 e he)) h2
  | .tup [], h, _, _, _ => by rw [isTr] at h; simp at h
  | .non, h, _, _, _ => by simp [isTr] at h
  | .bl _, h, _, _, _ => by simp [isTr] at h
  | .int _, h, _, _, _ => by simp [isTr] at h
  | .fz _, h, _, _, _ => by simp [isTr] at h
  | .ref _, h, _, _, _ => by simp [isTr] at h
theorem fsts_least : ∀ (ds : List D), isTrs ds → isCans ds → ∀ x ∈ nmss ds, ∃ e ∈ ds, x ∈ nms e ∧ leS (fst1 e) x = true
  | [], _, _, x, hx => by simp [nmss] at hx
  | d :: ds, h, hc, x, hx => by
    rw [isTrs] at h
    rw [isCans] at hc
    rw [nmss, List.mem_append] at hx
    rcases hx with hx | hx
    · exact ⟨d, List.mem_cons_self, hx, fst_least d h.1 hc.1 x hx⟩
    · obtain ⟨e, he, h1, h2⟩ := fsts_least ds h.2 hc.2 x hx
      exact ⟨e, List.mem_cons_of_mem _ he, h1, h2⟩
end
theorem head_least {xs : List Str} {m : Str} (hm : m ∈ xs) (hl : ∀ x ∈ xs, leS m x = true) : (sortS xs).headD ⟨#[]⟩ = m := by
  have hp := sortS_perm xs
  have pw := sortS_pw xs
  cases e : sortS xs with
  | nil => have := hp.mem_iff.mpr hm; rw [e] at this; cases this
  | cons y r =>
    have hy : y ∈ xs := hp.mem_iff.mp (by rw [e]; exact List.mem_cons_self)
    have hms : m ∈ sortS xs := hp.mem_iff.mpr hm
    rw [e] at hms pw
    rcases List.mem_cons.mp hms with z | z
    · exact z.symm
    · exact leS_anti ((List.pairwise_cons.mp pw).1 m z) (hl y hy)
theorem mn_fst {d : D} (h : isTr d) (hc : isCan d) : mn d = fst1 d := head_least (fst1_mem d h) (fst_least d h hc)
mutual
theorem tr_allN : ∀ (d : D), isTr d → allN d = some (nms d)
  | .str x, h => by rw [isTr] at h; rw [allN, if_pos (wd_wdB h), nms]
  | .tup ds, h => by
    rw [isTr] at h
    have hne : ds.isEmpty = false := by cases ds with
      | nil => simp at h
      | cons _ _ => rfl
    rw [allN, if_neg (by simp [hne]), nms]
    exact trs_allN ds h.2
  | .non, h => by simp [isTr] at h
  | .bl _, h => by simp [isTr] at h
  | .int _, h => by simp [isTr] at h
  | .fz _, h => by simp [isTr] at h
  | .ref _, h => by simp [isTr] at h
theorem trs_allN : ∀ (ds : List D), isTrs ds → allNs ds = some (nmss ds)
  | [], _ => by rw [allNs, nmss]
  | d :: ds, h => by
    rw [isTrs] at h
    rw [allNs, tr_allN d h.1, trs_allN ds h.2, nmss]
end
mutual
theorem allN_nms : ∀ (d : D) (ns : List Str), allN d = some ns → ns = nms d
  | .str x, ns, h => by
    rw [allN] at h
    split at h
    · cases h; rw [nms]
    · cases h
  | .tup ds, ns, h => by
    rw [allN] at h
    split at h
    · cases h
    · rw [nms]; exact allNs_nms ds ns h
  | .non, _, h => by simp [allN] at h
  | .bl _, _, h => by simp [allN] at h
  | .int _, _, h => by simp [allN] at h
  | .fz _, _, h => by simp [allN] at h
  | .ref _, _, h => by simp [allN] at h
theorem allNs_nms : ∀ (ds : List D) (ns : List Str), allNs ds = some ns → ns = nmss ds
  | [], ns, h => by rw [allNs] at h; cases h; rw [nmss]
  | d :: ds, ns, h => by
    rw [allNs] at h
    split at h
    · rename_i a b h1 h2
      cases h
      rw [nmss, ← allN_nms d a h1, ← allNs_nms ds b h2]
    · cases h
end
theorem allNs_mem : ∀ {ds : List D} {ns : List Str}, allNs ds = some ns → ∀ d ∈ ds, ∃ a, allN d = some a
  | [], _, _, d, hd => by cases hd
  | e :: ds, ns, h, d, hd => by
    rw [allNs] at h
    split at h
    · rename_i a b h1 h2
      rcases List.mem_cons.mp hd with z | z
      · subst z; exact ⟨a, h1⟩
      · exact allNs_mem h2 d z
    · cases h
mutual
theorem fr_tr : ∀ (d : D) (ns : List Str), allN d = some ns → frB d = true → shD d → isTr d
  | .str x, ns, h, _, hs => by
    rw [allN] at h
    split at h
    · rename_i q
      rw [isTr]; exact wdB_wd hs q
    · cases h
  | .tup ds, ns, h, hf, hs => by
    rw [allN] at h
    rw [frB] at hf
    simp only [Bool.and_eq_true, decide_eq_true_eq] at hf
    rw [shD] at hs
    split at h
    · cases h
    · rw [isTr]; exact ⟨hf.1.1, frs_tr ds ns h hf.2 hs⟩
  | .non, _, h, _, _ => by simp [allN] at h
  | .bl _, _, h, _, _ => by simp [allN] at h
  | .int _, _, h, _, _ => by simp [allN] at h
  | .fz _, _, h, _, _ => by simp [allN] at h
  | .ref _, _, h, _, _ => by simp [allN] at h
theorem frs_tr : ∀ (ds : List D) (ns : List Str), allNs ds = some ns → frBs ds = true → shDs ds → isTrs ds
  | [], _, _, _, _ => by simp [isTrs]
  | d :: ds, ns, h, hf, hs => by
    rw [allNs] at h
    rw [frBs, Bool.and_eq_true] at hf
    rw [shDs] at hs
    split at h
    · rename_i a b h1 h2
      rw [isTrs]; exact ⟨fr_tr d a h1 hf.1 hs.1, frs_tr ds b h2 hf.2 hs.2⟩
    · cases h
end
mutual
theorem tr_forkB : ∀ (d : D) (k : Nat), isTr d → frB d = true → shD d → (nms d).Nodup → ht d ≤ k → forkB d k = true
  | .str x, k, h, _, _, _, _ => by rw [isTr] at h; rw [forkB]; exact wd_wdB h
  | .tup ds, k, h, hf, hs, hn, hk => by
    rw [isTr] at h
    rw [frB] at hf
    rw [shD] at hs
    rw [nms] at hn
    rw [ht] at hk
    simp only [Bool.and_eq_true, decide_eq_true_eq] at hf
    have fk := trs_forkB ds (k - 1) h.2 hf.2 hs hn (by omega)
    obtain ⟨_, hc, _⟩ := forks_tr ds (k - 1) fk hs
    have em : ds.map mn = ds.map fst1 := List.map_congr_left fun d hd => mn_fst (isTrs_iff.mp h.2 d hd) (isCans_iff.mp hc d hd)
    have pw := sortS_pw (ds.map mn)
    rw [hf.1.2, em, List.pairwise_map] at pw
    rw [forkB]
    simp only [Bool.and_eq_true, decide_eq_true_eq]
    refine ⟨⟨⟨by omega, h.1⟩, fk⟩, pw_upB ?_⟩
    rw [List.pairwise_map]
    exact (pw.and (fst_ne h.2 hn)).imp fun ⟨a, b⟩ => le_lt a b
  | .non, _, h, _, _, _, _ => by simp [isTr] at h
  | .bl _, _, h, _, _, _, _ => by simp [isTr] at h
  | .int _, _, h, _, _, _, _ => by simp [isTr] at h
  | .fz _, _, h, _, _, _, _ => by simp [isTr] at h
  | .ref _, _, h, _, _, _, _ => by simp [isTr] at h
theorem trs_forkB : ∀ (ds : List D) (k : Nat), isTrs ds → frBs ds = true → shDs ds → (nmss ds).Nodup → hts ds ≤ k → forkBs ds k = true
  | [], _, _, _, _, _, _ => by simp [forkBs]
  | d :: ds, k, h, hf, hs, hn, hk => by
    rw [isTrs] at h
    rw [frBs, Bool.and_eq_true] at hf
    rw [shDs] at hs
    rw [nmss] at hn
    rw [hts] at hk
    obtain ⟨n1, n2, _⟩ := List.nodup_append.mp hn
    rw [forkBs, Bool.and_eq_true]
    exact ⟨tr_forkB d k h.1 hf.1 hs.1 n1 (by omega), trs_forkB ds k h.2 hf.2 hs.2 n2 (by omega)⟩
end
mutual
theorem can_fr : ∀ (d : D), isTr d → isCan d → frB d = true
  | .str x, _, _ => by simp [frB]
  | .tup ds, h, hc => by
    rw [isTr] at h
    rw [isCan] at hc
    have em : ds.map mn = ds.map fst1 := List.map_congr_left fun d hd => mn_fst (isTrs_iff.mp h.2 d hd) (isCans_iff.mp hc.2 d hd)
    rw [frB]
    simp only [Bool.and_eq_true, decide_eq_true_eq]
    refine ⟨⟨h.1, ?_⟩, cans_fr ds h.2 hc.2⟩
    rw [em]
    refine List.mergeSort_of_pairwise (le := leS) ?_
    rw [List.pairwise_map]
    exact hc.1.imp fun q => lt_le q
  | .non, h, _ => by simp [isTr] at h
  | .bl _, h, _ => by simp [isTr] at h
  | .int _, h, _ => by simp [isTr] at h
  | .fz _, h, _ => by simp [isTr] at h
  | .ref _, h, _ => by simp [isTr] at h
theorem cans_fr : ∀ (ds : List D), isTrs ds → isCans ds → frBs ds = true
  | [], _, _ => by simp [frBs]
  | d :: ds, h, hc => by
    rw [isTrs] at h
    rw [isCans] at hc
    rw [frBs, can_fr d h.1 hc.1, cans_fr ds h.2 hc.2]
    rfl
end
/-! names one by one -/
theorem put1_mem {l : List Str} {k x : Str} : x ∈ put1 l k ↔ x ∈ l ∨ x = k := by
  unfold put1
  split
  · rename_i h
    rw [List.any_eq_true] at h
    obtain ⟨y, hy, e⟩ := h
    have e : y = k := by simpa using e
    subst e
    exact ⟨.inl, fun z => z.elim id fun e => e ▸ hy⟩
  · rw [List.mem_append, List.mem_singleton]
theorem put1_len2 (l : List Str) (k : Str) : (put1 l k).length ≤ l.length + 1 ∧ ((put1 l k).length = l.length + 1 → k ∉ l) := by
  unfold put1
  split
  · exact ⟨by omega, fun z => by omega⟩
  · rename_i h
    refine ⟨by simp, fun _ hk => h ?_⟩
    rw [List.any_eq_true]
    exact ⟨k, hk, by simp⟩
theorem met_len2 (val : Nat → Str) : ∀ n, (met val n).length ≤ n
  | 0 => Nat.le_refl _
  | n + 1 => by
    have := met_len2 val n
    have := (put1_len2 (met val n) (val n)).1
    show (put1 (met val n) (val n)).length ≤ _
    omega
theorem met_mem2 (val : Nat → Str) : ∀ {n i : Nat}, i < n → val i ∈ met val n
  | n + 1, i, h => by
    show val i ∈ put1 (met val n) (val n)
    rw [put1_mem]
    by_cases z : i = n
    · subst z; exact .inr rfl
    · exact .inl (met_mem2 val (by omega))
theorem met_inj (val : Nat → Str) : ∀ {n : Nat}, (met val n).length = n → ∀ i j, i < j → j < n → val i ≠ val j
  | n + 1, h, i, j, hij, hj => by
    have h : (put1 (met val n) (val n)).length = n + 1 := h
    have h1 := met_len2 val n
    have h2 := put1_len2 (met val n) (val n)
    have h3 : (met val n).length = n := by omega
    by_cases z : j = n
    · subst z
      intro e
      exact h2.2 (by omega) (e ▸ met_mem2 val hij)
    · exact met_inj val h3 i j hij (by omega)
theorem oneB_iff {ns : List Str} : oneB ns = true ↔ ns.Nodup := by
  unfold oneB
  rw [decide_eq_true_eq]
  constructor
  · intro h
    refine List.pairwise_iff_getElem.mpr fun i j hi hj hij => ?_
    have := met_inj _ h i j hij hj
    rw [List.getD_eq_getElem?_getD, List.getD_eq_getElem?_getD, List.getElem?_eq_getElem hi, List.getElem?_eq_getElem hj] at this
    exact this
  · exact metS_nodup
/-- what the program tells and what the law tells are the same -/
theorem tree_both {d : D} (hs : shD d) : treeP d = treeL d := by
  rw [Bool.eq_iff_iff]
  constructor
  · intro h
    unfold treeP at h
    simp only [Bool.and_eq_true] at h
    obtain ⟨h1, h2, h3⟩ := h
    obtain ⟨tr, cn, _⟩ := fork_tr d 9 h1 hs
    unfold treeL
    rw [tr_allN d tr]
    simp only [Bool.and_eq_true]
    exact ⟨⟨h2, h3⟩, can_fr d tr cn⟩
  · intro h
    unfold treeL at h
    split at h
    · cases h
    · rename_i ns e
      have en := allN_nms d ns e
      subst en
      simp only [Bool.and_eq_true] at h
      obtain ⟨⟨h2, h3⟩, h4⟩ := h
      have tr := fr_tr d _ e h4 hs
      have := ht_nms d tr
      have h2' := of_decide_eq_true h2
      unfold treeP
      simp only [Bool.and_eq_true]
      exact ⟨tr_forkB d 9 tr h4 hs (oneB_iff.mp h3) (by omega), h2, h3⟩
/-! lots -/
def lotB : D → Bool
  | .tup ds => (!ds.isEmpty && ds.all wdB) && upB (ds.map fst1)
  | _ => false
theorem all_words : ∀ {ds : List D}, ds.all wdB = true → shDs ds → ∃ xs : List Str, ds = xs.map .str ∧ ∀ x ∈ xs, Wd x
  | [], _, _ => ⟨[], rfl, fun _ z => by cases z⟩
  | d :: ds, h, hs => by
    rw [List.all_cons, Bool.and_eq_true] at h
    rw [shDs] at hs
    obtain ⟨xs, e, hx⟩ := all_words h.2 hs.2
    cases d with
    | str x =>
      refine ⟨x :: xs, by rw [e]; rfl, fun y hy => ?_⟩
      rcases List.mem_cons.mp hy with z | z
      · subst z; exact wdB_wd hs.1 h.1
      · exact hx y z
    | _ => simp [wdB] at h
theorem fst_strs (xs : List Str) : (xs.map D.str).map fst1 = xs := by
  rw [List.map_map]
  exact List.map_id'' (fun _ => rfl) xs
/-- sorted(set(xs)) == xs just where xs rises -/
theorem up_set {xs ys : List Str} (hn : ys.Nodup) (hm : ∀ x, x ∈ ys ↔ x ∈ xs) : decide (sortS ys = xs) = upB xs := by
  rw [Bool.eq_iff_iff, decide_eq_true_eq]
  constructor
  · intro e
    rw [← e]
    exact pw_upB (sortS_lt hn)
  · intro h
    have pw := upB_pw h
    have hx : xs.Nodup := pw.imp fun q e => by subst e; exact List.lt_irrefl _ q
    have pm : ys.Perm xs := (List.perm_ext_iff_of_nodup hn hx).mpr hm
    rw [sortS_eq pm]
    exact List.mergeSort_of_pairwise (le := leS) (pw.imp fun q => lt_le q)
/-! ### things: nested tuples of texts, numbers and the like, with a list or a dict somewhere -/
mutual
/-- names in tuples, of one too -/
def isTb : D → Prop
  | .str x => Wd x
  | .tup ds => 1 ≤ ds.length ∧ isTbs ds
  | _ => False
def isTbs : List D → Prop
  | [] => True
  | d :: ds => isTb d ∧ isTbs ds
end
theorem isTbs_iff : ∀ {ds : List D}, isTbs ds ↔ ∀ d ∈ ds, isTb d
  | [] => by simp [isTbs]
  | d :: ds => by rw [isTbs, isTbs_iff (ds := ds)]; simp
mutual
theorem tr_tb : ∀ d : D, isTr d → isTb d
  | .str x, h => by rw [isTr] at h; rw [isTb]; exact h
  | .tup ds, h => by rw [isTr] at h; rw [isTb]; exact ⟨by omega, trs_tbs ds h.2⟩
  | .non, h => by simp [isTr] at h
  | .bl _, h => by simp [isTr] at h
  | .int _, h => by simp [isTr] at h
  | .fz _, h => by simp [isTr] at h
  | .ref _, h => by simp [isTr] at h
theorem trs_tbs : ∀ ds : List D, isTrs ds → isTbs ds
  | [], _ => by simp [isTbs]
  | d :: ds, h => by rw [isTrs] at h; rw [isTbs]; exact ⟨tr_tb d h.1, trs_tbs ds h.2⟩
end
mutual
theorem tb_pure : ∀ d : D, isTb d → pureD d = true
  | .str x, _ => rfl
  | .tup ds, h => by rw [isTb] at h; rw [pureD]; exact tbs_pure ds h.2
  | .non, h => by simp [isTb] at h
  | .bl _, h => by simp [isTb] at h
  | .int _, h => by simp [isTb] at h
  | .fz _, h => by simp [isTb] at h
  | .ref _, h => by simp [isTb] at h
theorem tbs_pure : ∀ ds : List D, isTbs ds → pureDs ds = true
  | [], _ => rfl
  | d :: ds, h => by rw [isTbs] at h; rw [pureDs, tb_pure d h.1, tbs_pure ds h.2]; rfl
end
mutual
theorem tb_can : ∀ d : D, isTb d → (encD d).canLay0 = true
  | .str x, h => by rw [isTb] at h; rw [encD]; exact str_can h.1.sh
  | .tup ds, h => by rw [isTb] at h; rw [encD, PyData.canLay0]; exact tbs_can ds h.2
  | .non, h => by simp [isTb] at h
  | .bl _, h => by simp [isTb] at h
  | .int _, h => by simp [isTb] at h
  | .fz _, h => by simp [isTb] at h
  | .ref _, h => by simp [isTb] at h
theorem tbs_can : ∀ ds : List D, isTbs ds → PyData.canLayAll0 (encDs ds) = true
  | [], _ => by simp [encDs, PyData.canLayAll0]
  | d :: ds, h => by rw [isTbs] at h; rw [encDs, PyData.canLayAll0, tb_can d h.1, tbs_can ds h.2]; rfl
end
mutual
theorem tb_show : ∀ d : D, isTb d → (encD d).showable = true
  | .str x, _ => by simp [encD, PyData.showable]
  | .tup ds, h => by rw [isTb] at h; rw [encD, PyData.showable]; exact tbs_show ds h.2
  | .non, h => by simp [isTb] at h
  | .bl _, h => by simp [isTb] at h
  | .int _, h => by simp [isTb] at h
  | .fz _, h => by simp [isTb] at h
  | .ref _, h => by simp [isTb] at h
theorem tbs_show : ∀ ds : List D, isTbs ds → PyData.showableAll (encDs ds) = true
  | [], _ => by simp [encDs, PyData.showableAll]
  | d :: ds, h => by rw [isTbs] at h; rw [encDs, PyData.showableAll, tb_show d h.1, tbs_show ds h.2]; rfl
end
mutual
theorem tb_wt : ∀ d : D, isTb d → wt (encD d) + 2 ≤ 90 * sz d
  | .str x, h => by rw [isTb] at h; rw [encD, wt, show sz (.str x) = 1 by simp [sz]]; have := h.1.2.1; omega
  | .tup ds, h => by
    rw [isTb] at h
    rw [encD, wt, sz]
    have := tbs_wt ds h.2
    omega
  | .non, h => by simp [isTb] at h
  | .bl _, h => by simp [isTb] at h
  | .int _, h => by simp [isTb] at h
  | .fz _, h => by simp [isTb] at h
  | .ref _, h => by simp [isTb] at h
theorem tbs_wt : ∀ ds : List D, isTbs ds → wts (encDs ds) ≤ 90 * szs ds
  | [], _ => by simp [encDs, wts]
  | d :: ds, h => by
    rw [isTbs] at h
    rw [encDs, wts, szs]
    have := tb_wt d h.1
    have := tbs_wt ds h.2
    omega
end
mutual
def Tg (S : Sto) (dc ls : Bool) : D → Prop
  | .str x => Shrt x
  | .int i => i.natAbs.log2 < 1920 ∧ ((toString i : String) : Str).length ≤ 1510
  | .tup ds => Tgs S dc ls ds
  | .ref a => (ls = true ∧ ∃ xs, S a = some (.lst xs) ∧ isTbs xs ∧ szs xs ≤ 60 ∧ hts xs ≤ 20) ∨ (dc = true ∧ (S a = some (.dK []) ∨ S a = some (.dK [(.inr "a", .str "b")])))
  | .fz _ => False
  | _ => True
def Tgs (S : Sto) (dc ls : Bool) : List D → Prop
  | [] => True
  | d :: ds => Tg S dc ls d ∧ Tgs S dc ls ds
end
section
variable {S T : Sto} {dc ls : Bool}
theorem Tgs_iff : ∀ {ds : List D}, Tgs S dc ls ds ↔ ∀ d ∈ ds, Tg S dc ls d
  | [] => by simp [Tgs]
  | d :: ds => by rw [Tgs, Tgs_iff (ds := ds)]; simp
mutual
theorem Tg.sub (h : Sub S T) : ∀ {d : D}, Tg S dc ls d → Tg T dc ls d
  | .str _, z => by rw [Tg] at z ⊢; exact z
  | .int _, z => by rw [Tg] at z ⊢; exact z
  | .tup ds, z => by rw [Tg] at z ⊢; exact Tgs.sub h z
  | .ref a, z => by
    rw [Tg] at z ⊢
    rcases z with ⟨e, xs, e1, r⟩ | ⟨e, z | z⟩
    · exact .inl ⟨e, xs, h _ _ e1, r⟩
    · exact .inr ⟨e, .inl (h _ _ z)⟩
    · exact .inr ⟨e, .inr (h _ _ z)⟩
  | .fz _, z => by simp [Tg] at z
  | .non, _ => by simp [Tg]
  | .bl _, _ => by simp [Tg]
theorem Tgs.sub (h : Sub S T) : ∀ {ds : List D}, Tgs S dc ls ds → Tgs T dc ls ds
  | [], _ => by simp [Tgs]
  | d :: ds, z => by rw [Tgs] at z ⊢; exact ⟨Tg.sub h z.1, Tgs.sub h z.2⟩
end
mutual
theorem Tg.up {dc' ls' : Bool} (h1 : dc = true → dc' = true) (h2 : ls = true → ls' = true) : ∀ {d : D}, Tg S dc ls d → Tg S dc' ls' d
  | .str _, z => by rw [Tg] at z ⊢; exact z
  | .int _, z => by rw [Tg] at z ⊢; exact z
  | .tup ds, z => by rw [Tg] at z ⊢; exact Tgs.up h1 h2 z
  | .ref a, z => by
    rw [Tg] at z ⊢
    rcases z with ⟨e, r⟩ | ⟨e, r⟩
    · exact .inl ⟨h2 e, r⟩
    · exact .inr ⟨h1 e, r⟩
  | .fz _, z => by simp [Tg] at z
  | .non, _ => by simp [Tg]
  | .bl _, _ => by simp [Tg]
theorem Tgs.up {dc' ls' : Bool} (h1 : dc = true → dc' = true) (h2 : ls = true → ls' = true) : ∀ {ds : List D}, Tgs S dc ls ds → Tgs S dc' ls' ds
  | [], _ => by simp [Tgs]
  | d :: ds, z => by rw [Tgs] at z ⊢; exact ⟨Tg.up h1 h2 z.1, Tgs.up h1 h2 z.2⟩
end
theorem Tg.kd {d : D} (h : Tg S dc ls d) : Kd S d := by
  cases d with
  | str x => rw [Tg] at h; exact h
  | ref a =>
    rw [Tg] at h
    rcases h with ⟨_, xs, e, _⟩ | ⟨_, e | e⟩
    · exact .inl ⟨xs, e⟩
    · exact .inr ⟨_, e⟩
    · exact .inr ⟨_, e⟩
  | fz _ => simp [Tg] at h
  | non => exact trivial
  | bl _ => exact trivial
  | int _ => exact trivial
  | tup _ => exact trivial
mutual
theorem Tg.sh : ∀ {d : D}, Tg S dc ls d → shD d
  | .str _, z => by rw [Tg] at z; rw [shD]; exact z
  | .tup ds, z => by rw [Tg] at z; rw [shD]; exact Tgs.sh z
  | .int _, _ => by simp [shD]
  | .ref _, _ => by simp [shD]
  | .fz _, _ => by simp [shD]
  | .non, _ => by simp [shD]
  | .bl _, _ => by simp [shD]
theorem Tgs.sh : ∀ {ds : List D}, Tgs S dc ls ds → shDs ds
  | [], _ => by simp [shDs]
  | d :: ds, z => by rw [Tgs] at z; rw [shDs]; exact ⟨Tg.sh z.1, Tgs.sh z.2⟩
end
mutual
theorem tb_tg : ∀ d : D, isTb d → Tg S dc ls d
  | .str x, h => by rw [isTb] at h; rw [Tg]; exact h.1.sh
  | .tup ds, h => by rw [isTb] at h; rw [Tg]; exact tbs_tgs ds h.2
  | .non, h => by simp [isTb] at h
  | .bl _, h => by simp [isTb] at h
  | .int _, h => by simp [isTb] at h
  | .fz _, h => by simp [isTb] at h
  | .ref _, h => by simp [isTb] at h
theorem tbs_tgs : ∀ ds : List D, isTbs ds → Tgs S dc ls ds
  | [], _ => by simp [Tgs]
  | d :: ds, h => by rw [isTbs] at h; rw [Tgs]; exact ⟨tb_tg d h.1, tbs_tgs ds h.2⟩
end
theorem tup_len (ps : List PyData) : (PyData.tuple ps).shown.length ≤ piled (PyData.shownAll ps) + 3 := by
  rw [PyData.shown]
  unfold tupleText
  have h2 : (Str.join ", " (PyData.shownAll ps)).length ≤ piled (PyData.shownAll ps) := by
    by_cases e : PyData.shownAll ps = []
    · rw [e]; exact Nat.zero_le _
    · have := join_length_add _ e
      omega
  rw [strLen_append, strLen_append]
  have e1 : ((("(" : String) : Str)).length = 1 := rfl
  have e2 : (((if (PyData.shownAll ps).length == 1 then ",)" else ")" : String) : Str)).length ≤ 2 := by split <;> exact Nat.le_of_ble_eq_true rfl
  omega
structure Rp (S : Sto) (dc ls : Bool) (d : D) (p : PyData) : Prop where
  rd : Rdg S d p
  sh : p.showable = true
  dep : p.depth ≤ ht d + 25
  hd : p.hasDict = true → dc = true
  hl : hasLst p = true → ls = true
  len : p.shown.length + 2 ≤ 8000 * sz d
mutual
theorem pure_nl : ∀ d : D, isTb d → hasLst (encD d) = false
  | .str _, _ => by simp [encD, hasLst]
  | .tup ds, h => by rw [isTb] at h; rw [encD, hasLst]; exact pures_nl ds h.2
  | .non, h => by simp [isTb] at h
  | .bl _, h => by simp [isTb] at h
  | .int _, h => by simp [isTb] at h
  | .fz _, h => by simp [isTb] at h
  | .ref _, h => by simp [isTb] at h
theorem pures_nl : ∀ ds : List D, isTbs ds → hasLsts (encDs ds) = false
  | [], _ => by simp [encDs, hasLsts]
  | d :: ds, h => by rw [isTbs] at h; rw [encDs, hasLsts, pure_nl d h.1, pures_nl ds h.2]; rfl
end
mutual
theorem tg_rd : ∀ {d : D}, Tg S dc ls d → ∃ p, Rp S dc ls d p
  | .str x, h => by
    rw [Tg] at h
    refine ⟨.str x, .str x, by simp [PyData.showable], by simp [PyData.depth], by simp [PyData.hasDict], by simp [hasLst], ?_⟩
    have := StrLaws.reprText_len x (fun c hc => by have := h.2 c hc; omega)
    have h1 := h.1
    rw [show sz (.str x) = 1 by simp [sz]]
    show (reprText x).length + 2 ≤ _
    omega
  | .int i, h => by
    rw [Tg] at h
    refine ⟨.int i, .int i, by simp [PyData.showable, h.1], by simp [PyData.depth], by simp [PyData.hasDict], by simp [hasLst], ?_⟩
    rw [PyData.shown, show sz (.int i) = 1 by simp [sz]]
    have := h.2
    omega
  | .non, _ => ⟨.none, .non, by simp [PyData.showable], by simp [PyData.depth], by simp [PyData.hasDict], by simp [hasLst], by rw [PyData.shown, show sz .non = 1 by simp [sz]]; exact Nat.le_of_ble_eq_true rfl⟩
  | .bl b, _ => ⟨.bool b, .bl b, by simp [PyData.showable], by simp [PyData.depth], by simp [PyData.hasDict], by simp [hasLst], by rw [PyData.shown, show sz (.bl b) = 1 by simp [sz]]; cases b <;> exact Nat.le_of_ble_eq_true rfl⟩
  | .fz _, h => by simp [Tg] at h
  | .ref a, h => by
    rw [Tg] at h
    rcases h with ⟨hl, xs, e, hb, hz, hh⟩ | ⟨hd, e | e⟩
    · have hcan : (PyData.list (encDs xs)).canLay0 = true := by rw [PyData.canLay0]; exact tbs_can xs hb
      refine ⟨.list (encDs xs), .lst e (rdgL_pure S xs (tbs_pure xs hb)), by rw [PyData.showable]; exact tbs_show xs hb, ?_, fun z => ?_, fun _ => hl, ?_⟩
      · rw [PyData.depth, show ht (.ref a) = 0 by simp [ht]]
        have := encs_dep xs
        omega
      · rw [PyData.hasDict_of_canLay _ hcan] at z
        cases z
      · have h1 := shown_le _ hcan
        have h2 := tbs_wt xs hb
        rw [wt] at h1
        rw [show sz (.ref a) = 1 by simp [sz]]
        omega
    · refine ⟨.dict [], .dK e .nil, by simp [PyData.showable, PyData.showableKv], by simp [PyData.depth, PyData.depthKv], fun _ => hd, fun z => by simp [hasLst, hasLstK] at z, ?_⟩
      rw [PyData.shown, PyData.shownKv, show sz (.ref a) = 1 by simp [sz]]
      exact Nat.le_of_ble_eq_true rfl
    · refine ⟨.dict [(.str "a", .str "b")], .dK e (.cons (.str _) .nil), by simp [PyData.showable, PyData.showableKv], by simp [PyData.depth, PyData.depthKv], fun _ => hd, fun z => by simp [hasLst, hasLstK] at z, ?_⟩
      rw [show sz (.ref a) = 1 by simp [sz]]
      exact Nat.le_of_ble_eq_true (by with_unfolding_all rfl)
  | .tup ds, h => by
    rw [Tg] at h
    obtain ⟨ps, r, a, b, c, d, e⟩ := tgs_rd h
    refine ⟨.tuple ps, .tup r, by rw [PyData.showable]; exact a, by rw [PyData.depth, ht]; omega, fun z => c (by rw [PyData.hasDict] at z; exact z), fun z => d (by rw [hasLst] at z; exact z), ?_⟩
    have := tup_len ps
    rw [sz]
    omega
theorem tgs_rd : ∀ {ds : List D}, Tgs S dc ls ds → ∃ ps, RdgL S ds ps ∧ PyData.showableAll ps = true ∧ PyData.depthAll ps ≤ hts ds + 25 ∧ (PyData.hasDictAll ps = true → dc = true) ∧ (hasLsts ps = true → ls = true) ∧ piled (PyData.shownAll ps) ≤ 8000 * szs ds
  | [], _ => ⟨[], .nil, by simp [PyData.showableAll], by simp [PyData.depthAll], by simp [PyData.hasDictAll], by simp [hasLsts], by rw [PyData.shownAll]; exact Nat.zero_le _⟩
  | d :: ds, h => by
    rw [Tgs] at h
    obtain ⟨p, q⟩ := tg_rd h.1
    obtain ⟨ps, r, a, b, c, e, f⟩ := tgs_rd h.2
    refine ⟨p :: ps, .cons q.rd r, by rw [PyData.showableAll, q.sh, a]; rfl, ?_, fun z => ?_, fun z => ?_, ?_⟩
    · rw [PyData.depthAll, hts]
      have := q.dep
      omega
    · rw [PyData.hasDictAll, Bool.or_eq_true] at z
      exact z.elim q.hd c
    · rw [hasLsts, Bool.or_eq_true] at z
      exact z.elim q.hl e
    · rw [PyData.shownAll, piled_cons, szs]
      have := q.len
      omega
end
end
/-- a thing -/
def Th (S : Sto) (d : D) : Prop := ∃ dc ls, (dc && ls) = false ∧ Tg S dc ls d ∧ ht d ≤ 33 ∧ sz d ≤ 1000
theorem Th.sub {S T : Sto} {d : D} (h : Th S d) (s : Sub S T) : Th T d := let ⟨dc, ls, e, g, r⟩ := h; ⟨dc, ls, e, g.sub s, r⟩
theorem Th.kd {S : Sto} {d : D} (h : Th S d) : Kd S d := let ⟨_, _, _, g, _⟩ := h; g.kd
theorem Th.sh {S : Sto} {d : D} (h : Th S d) : shD d := let ⟨_, _, _, g, _⟩ := h; g.sh
theorem Th.repr {S : Sto} {d : D} (h : Th S d) : ∃ x : Str, ∀ T, Sub S T → ∀ Q : PR, Q (.v (.str x)) T → biW .repr [.v d] T Q := by
  obtain ⟨dc, ls, e, g, h1, h2⟩ := h
  obtain ⟨p, q⟩ := tg_rd g
  refine ⟨p.shown, fun T s Q hq => ⟨p, rdg_sub s q.rd, q.sh, by have := q.dep; omega, fun hd => ?_, by have := q.len; rw [sizeLine_eq]; omega, hq⟩⟩
  have := q.hd hd
  subst this
  cases hl : hasLst p with
  | false => rfl
  | true => have := q.hl hl; subst this; cases e
theorem tb_th {S : Sto} {d : D} (h : isTb d) (h1 : ht d ≤ 33) (h2 : sz d ≤ 1000) : Th S d := ⟨false, false, rfl, tb_tg d h, h1, h2⟩
end DP

set_option maxRecDepth 100000
set_option maxHeartbeats 1000000
/-! DpO2: what the defs about trees do, whatever their numbers. -/
namespace DP
open PySem L2
local macro_rules
  | `(tactic| get_elem_tactic_trivial) => `(tactic| first
    | with_reducible assumption
    | exact up_same
    | (refine up_keep (by with_reducible assumption) ?_; get_elem_tactic_trivial))
local macro_rules
  | `(tactic| decreasing_trivial) => `(tactic| first
    | with_reducible assumption
    | (with_unfolding_all exact Nat.le_of_ble_eq_true rfl)
    | omega
    | exact shrt_of (by with_unfolding_all rfl)
    | exact sh_cut (by with_reducible assumption) _ _
    | exact cmul_l (by omega) (by omega)
    | exact cmul_r (by omega) (by omega)
    | exact pow_lit (by decide) (by decide) (by decide))
local macro_rules
  | `(tactic| contradiction) => `(tactic| with_reducible first
    | assumption | (apply r_var; with_unfolding_all rfl)
    | apply r_cst | apply r_glo | apply r_tup | apply r_lst | apply r_dK | apply r_bin | apply r_neg | apply r_cmp | apply r_chn
    | apply r_not | apply r_and | apply r_or | apply r_ite | apply r_ix | apply r_sl | apply r_rev | apply r_isi | apply r_bi | apply r_me | apply r_call | apply r_lc
    | apply r_es0 | apply r_es1 | apply r_rs0 | apply r_rs1 | apply r_o0 | apply r_o1 | apply r_part | apply r_ot0 | apply r_ot1 | apply r_mv
    | apply t_not | apply t_and | apply t_or | apply t_cmp | apply t_chn | (apply t_var; with_unfolding_all rfl) | apply t_isi | apply t_bi | apply t_me | apply t_call | apply t_ix
    | (apply x_len; with_unfolding_all exact Nat.le_of_ble_eq_true rfl) | (apply x_ty; with_unfolding_all exact ⟨_, rfl⟩) | (apply x_tyL; get_elem_tactic_trivial; rfl)
    | apply x_bl | apply x_int | (apply x_tru; with_unfolding_all rfl) | (apply x_isi; with_unfolding_all rfl)
    | apply i_T | apply i_F | apply i_nT | apply i_nF
    | apply o_addI | (apply o_addS; decreasing_trivial) | (apply o_addSS; decreasing_trivial; decreasing_trivial) | (apply o_addT; decreasing_trivial) | (apply o_addTT; decreasing_trivial; decreasing_trivial) | apply o_sub
    | (apply o_mulI; decreasing_trivial) | (apply o_mulS; decreasing_trivial) | (apply o_fdiv; decreasing_trivial) | (apply o_mod; decreasing_trivial) | (apply o_pow; decreasing_trivial)
    | (apply o_addNN; decreasing_trivial) | (apply o_addRN; get_elem_tactic_trivial; decreasing_trivial) | (apply o_addNR; get_elem_tactic_trivial; decreasing_trivial) | (apply o_addRR; get_elem_tactic_trivial; get_elem_tactic_trivial; decreasing_trivial)
    | apply c_eqI | apply c_eqS | apply c_eqB | apply c_neI | apply c_neS | apply c_neB | apply c_ltI | apply c_ltS | apply c_gtI | apply c_leI | apply c_geI | apply c_inS | apply c_ninS
    | (apply p_str; decreasing_trivial; with_unfolding_all rfl) | (apply p_tup; with_unfolding_all rfl) | (apply p_lstN; with_unfolding_all rfl) | (apply p_lst; get_elem_tactic_trivial; with_unfolding_all rfl) | (apply p_dK; get_elem_tactic_trivial; with_unfolding_all rfl)
    | (apply l_strS; decreasing_trivial) | (apply l_str; decreasing_trivial) | apply l_tup | apply l_fz | apply l_lstN | (apply l_lst; get_elem_tactic_trivial) | apply v_tup | apply v_lstN | (apply v_lst; get_elem_tactic_trivial)
    | (apply b_lenS; decreasing_trivial) | apply b_lenT | apply b_lenN | (apply b_lenL; get_elem_tactic_trivial) | apply b_abs | apply b_intI | apply b_intB | apply b_tuplN | apply b_tuplT | (apply b_tuplL; get_elem_tactic_trivial) | apply b_listN | apply b_listT | (apply b_listL; get_elem_tactic_trivial)
    | apply z_nil | apply z_exp | apply z_set | apply z_ret | apply z_ife | apply z_for | apply z_brk | apply z_cnt | apply z_sub
    | apply bn_name | (apply q_str; decreasing_trivial) | apply q_tup | apply q_fz | apply q_n | (apply q_ref; get_elem_tactic_trivial) | apply w_seq | apply w_rng1 | apply w_rng2)
local macro_rules
  | `(tactic| contradiction) => `(tactic| with_reducible first
    | (apply p_cells; get_elem_tactic_trivial) | (apply p_at; get_elem_tactic_trivial) | (apply p_left; get_elem_tactic_trivial)
    | (apply y_at; get_elem_tactic_trivial) | (apply y_left; get_elem_tactic_trivial))
local macro_rules
  | `(tactic| contradiction) => `(tactic| with_reducible first
    | apply r_lc2 | apply w_enum | apply e_n | apply c_isnotB | apply b_min | apply bn_tup2)
section
variable {F : Fw} {ρ : DP.Env} {S : Sto} {a : E} {Q : Bool → Sto → Prop} {xs : List D} {x : Addr}
theorem t_emp {neg tp : Bool} (q : wE F a ρ S fun x S1 => ([] : List D).length ≤ sizeLine ∧ empW tp x S1 fun b => ∃ k, (R.v (.bl (negB neg b))) = .v (.bl k) ∧ Q k S1) : wT F (.emp neg tp a) ρ S Q := q
theorem e_tT (q : Q xs.isEmpty S) : ([] : List D).length ≤ sizeLine ∧ empW true (.v (.tup xs)) S (fun b => ∃ k, (R.v (.bl (negB false b))) = .v (.bl k) ∧ Q k S) := ⟨Nat.zero_le _, xs, rfl, _, rfl, q⟩
theorem e_nT (q : Q (!xs.isEmpty) S) : ([] : List D).length ≤ sizeLine ∧ empW true (.v (.tup xs)) S (fun b => ∃ k, (R.v (.bl (negB true b))) = .v (.bl k) ∧ Q k S) := ⟨Nat.zero_le _, xs, rfl, _, rfl, q⟩
theorem e_nL (h : S x = some (.lst xs)) (q : Q (!xs.isEmpty) S) : ([] : List D).length ≤ sizeLine ∧ empW false (.v (.ref x)) S (fun b => ∃ k, (R.v (.bl (negB true b))) = .v (.bl k) ∧ Q k S) := ⟨Nat.zero_le _, xs, lstOf_ref h, _, rfl, q⟩
theorem e_nN (q : Q (!xs.isEmpty) S) : ([] : List D).length ≤ sizeLine ∧ empW false (.n (.lst xs)) S (fun b => ∃ k, (R.v (.bl (negB true b))) = .v (.bl k) ∧ Q k S) := ⟨Nat.zero_le _, xs, rfl, _, rfl, q⟩
end
local macro_rules
  | `(tactic| contradiction) => `(tactic| with_reducible first
    | apply t_emp | apply e_tT | apply e_nT | apply e_nN | (apply e_nL; get_elem_tactic_trivial))
def bIsLot2 (fIsName : Nat) : List C := [.ife (.or (.not (.isi (.var 0) .tup)) (.or (.emp false true (.var 0)) (.not (.bi .all [(.lc (.call fIsName [(.var 1)]) (.name 1) (.seq (.var 0)) none [1])])))) [.ret (.cst (.bl false))] [], .ret (.bi .all [(.lc (.cmp .lt (.ix (.var 0) (.bin .sub (.var 2) (.cst (.int 1)))) (.ix (.var 0) (.var 2))) (.name 2) (.rng2 (.cst (.int 1)) (.bi .len [(.var 0)])) none [2])])]
theorem kT_tup {d : D} (h : kTup d = true) : ∃ ds, d = .tup ds := by cases d <;> first | exact ⟨_, rfl⟩ | cases h
theorem wd_no {d : D} (h : kStr d = false) : wdB d = false := by cases d <;> first | rfl | cases h
theorem fork_no {d : D} (m : Nat) (h : kTup d = false) : forkB d m = wdB d := by cases d <;> first | (cases h; done) | rfl | simp [forkB, wdB]
theorem lot_no {d : D} (h : kTup d = false) : lotB d = false := by cases d <;> first | rfl | cases h
theorem upB_iff : ∀ {xs : List Str}, upB xs = true ↔ ∀ (i : Nat) (h : i + 1 < xs.length), xs[i].cps.toList < xs[i + 1].cps.toList := fun {xs} => by
  constructor
  · intro h i hi
    exact List.pairwise_iff_getElem.mp (upB_pw h) i (i + 1) (by omega) hi (by omega)
  · intro h
    induction xs with
    | nil => rfl
    | cons x r ih =>
      cases r with
      | nil => rfl
      | cons y r =>
        rw [upB, Bool.and_eq_true, decide_eq_true_eq]
        refine ⟨h 0 (by simp), ih fun i hi => ?_⟩
        have := h (i + 1) (by simpa using hi)
        simpa using this
theorem upB_range {xs : List Str} {n : Nat} (hn : n = xs.length - 1) (g : Nat → Bool) (hg : ∀ (i : Nat) (h : i + 1 < xs.length), g i = decide (xs[i].cps.toList < xs[i + 1].cps.toList)) : (List.range n).all g = upB xs := by
  rw [Bool.eq_iff_iff, List.all_eq_true, upB_iff]
  constructor
  · intro h i hi
    have := h i (List.mem_range.mpr (by omega))
    rw [hg i hi, decide_eq_true_eq] at this
    exact this
  · intro h i hi
    have hi := List.mem_range.mp hi
    rw [hg i (by omega), decide_eq_true_eq]
    exact h i (by omega)
def ltAt (xs : List Str) (i : Nat) : Bool := decide ((xs.getD i ⟨#[]⟩).cps.toList < (xs.getD (i + 1) ⟨#[]⟩).cps.toList)
theorem ltAt_ok {xs : List Str} (i : Nat) (h : i + 1 < xs.length) : ltAt xs i = decide (xs[i].cps.toList < xs[i + 1].cps.toList) := by
  unfold ltAt
  rw [List.getD_eq_getElem?_getD, List.getD_eq_getElem?_getD, List.getElem?_eq_getElem h, List.getElem?_eq_getElem (by omega : i < xs.length)]
  rfl
mutual
theorem nms_sz : ∀ d : D, (nms d).length ≤ sz d
  | .str _ => by simp [nms, sz]
  | .tup ds => by rw [nms, sz]; have := nmss_sz ds; omega
  | .non => by simp [nms]
  | .bl _ => by simp [nms]
  | .int _ => by simp [nms]
  | .fz _ => by simp [nms]
  | .ref _ => by simp [nms]
theorem nmss_sz : ∀ ds : List D, (nmss ds).length ≤ szs ds
  | [] => by simp [nmss]
  | d :: ds => by rw [nmss, szs, List.length_append]; have := nms_sz d; have := nmss_sz ds; omega
end
theorem sz_mem {d : D} : ∀ {ds : List D}, d ∈ ds → sz d ≤ szs ds
  | [], h => by cases h
  | x :: ds, h => by
    rw [szs]
    rcases List.mem_cons.mp h with e | e
    · subst e; omega
    · have := sz_mem e; omega
section
variable {B : List Fn} {f n : Nat} {S : Sto} {Q : PR}
theorem is_name_all {k : Nat} (hT : B[f]? = some ⟨1, 2, bIsName⟩) {d : D} (hd : Kd S d) (q : Q (.v (.bl (wdB d))) S) : W B (k + 1) f [d] S Q := by
  refine enter (b := ⟨1, 2, bIsName⟩) (ρ := [some d, none]) hT rfl rfl ?_
  show wSs (W B k) bIsName _ _ _
  delta bIsName
  have hi := is_str hd
  cases hk : kStr d with
  | false =>
    rw [hk] at hi
    rw [wd_no hk] at q
    repeat' contradiction
    refine x_isi hi ?_
    repeat' contradiction
  | true =>
    obtain ⟨x, rfl⟩ := tr_leaf hk
    have hd : Shrt x := hd
    have hl : x.length ≤ sizeLine := Nat.le_trans hd.1 (by decide)
    replace q : Q (.v (.bl ((decide (1 ≤ x.length) && decide (x.length ≤ 8)) && x.cps.toList.all inLet))) S := q
    repeat' contradiction
    by_cases h1 : (1 : Int) ≤ x.length
    · refine i_D h1 ?_
      rw [decide_eq_true (show 1 ≤ x.length by omega), Bool.true_and] at q
      repeat' contradiction
      by_cases h2 : (x.length : Int) ≤ 8
      · refine i_D h2 ?_
        rw [decide_eq_true (show x.length ≤ 8 by omega), Bool.true_and] at q
        repeat' contradiction
        refine lc_all (fun c => .bl (inLet c)) trivial (fun c hc K hK => ?_) ?_
        · repeat' contradiction
          exact hK
        · repeat' contradiction
          rw [map_blf]
          refine b_allB ?_
          rw [List.all_map]
          exact q
      · refine i_N h2 ?_
        rw [decide_eq_false (show ¬ x.length ≤ 8 by omega), Bool.false_and] at q
        rw [← decide_eq_false h2] at q
        repeat' contradiction
    · refine i_N h1 ?_
      rw [decide_eq_false (show ¬ 1 ≤ x.length by omega), Bool.false_and, Bool.false_and] at q
      repeat' contradiction
/-- a comprehension of truths over items -/
theorem all_bls (ds : List D) (g : D → Bool) : (ds.map fun d => D.bl (g d)) = (ds.map g).map .bl := by rw [List.map_map]; rfl
theorem is_lot_all {k fw : Nat} (hT : B[f]? = some ⟨1, 3, bIsLot2 fw⟩) (hW : B[fw]? = some ⟨1, 2, bIsName⟩) {d : D} (hd : Th S d) (q : Q (.v (.bl (lotB d))) S) : W B (k + 2) f [d] S Q := by
  refine enter (b := ⟨1, 3, bIsLot2 fw⟩) (ρ := [some d, none, none]) hT rfl rfl ?_
  show wSs (W B (k + 1)) (bIsLot2 fw) _ _ _
  delta bIsLot2
  have hi := is_tup hd.kd
  cases hk : kTup d with
  | false =>
    rw [hk] at hi
    rw [lot_no hk] at q
    repeat' contradiction
    refine x_isi hi ?_
    repeat' contradiction
  | true =>
    obtain ⟨ds, rfl⟩ := kT_tup hk
    obtain ⟨dc, ls, _, g, _, hz⟩ := hd
    have hsh := g.sh
    rw [shD] at hsh
    rw [Tg] at g
    rw [sz] at hz
    have hlen := szs_len ds
    replace q : Q (.v (.bl ((!ds.isEmpty && ds.all wdB) && upB (ds.map fst1)))) S := q
    repeat' contradiction
    cases he : ds.isEmpty with
    | true =>
      rw [he] at q
      simp only [Bool.not_true, Bool.not_false, Bool.true_and, Bool.false_and] at q
      repeat' contradiction
    | false =>
      rw [he] at q
      simp only [Bool.not_true, Bool.not_false, Bool.true_and, Bool.false_and] at q
      repeat' contradiction
      refine lc_allD (fun d => .bl (wdB d)) trivial (fun x hx K hK => ?_) ?_
      · repeat' contradiction
        refine is_name_all hW ((Tgs_iff.mp g x hx).kd) ?_
        repeat' contradiction
      · repeat' contradiction
        rw [all_bls]
        refine b_allB ?_
        refine x_tru rfl ?_
        rw [List.all_map]
        cases ha : ds.all wdB with
        | false =>
          rw [show ds.all (id ∘ wdB) = false from ha]
          rw [ha] at q
          simp only [Bool.true_and, Bool.false_and] at q
          repeat' contradiction
        | true =>
          rw [show ds.all (id ∘ wdB) = true from ha]
          rw [ha] at q
          simp only [Bool.true_and, Bool.false_and] at q
          obtain ⟨xs, rfl, hw⟩ := all_words ha hsh
          rw [fst_strs] at q
          repeat' contradiction
          have hl : xs.length ≤ 1000 := by rw [List.length_map] at hlen; omega
          refine ⟨1, _, rfl, rfl, ⟨by omega, by omega, by omega, by rw [List.length_map]; omega⟩, by rw [List.length_map]; omega, ?_⟩
          refine lc_all (f := fun (i : Nat) => .int (1 + i)) (fun i => .bl (ltAt xs i)) trivial (fun i hi K hK => ?_) ?_
          · have hi := List.mem_range.mp hi
            rw [List.length_map] at hi
            have hi : i + 1 < xs.length := by omega
            have a1 : atI (xs.map D.str) ((1 : Int) + i - 1) = some (.str xs[i]) := by
              rw [show (1 : Int) + i - 1 = (i : Nat) by omega]
              exact atI_str (List.getElem?_eq_getElem (by omega))
            have a2 : atI (xs.map D.str) ((1 : Int) + i) = some (.str xs[i + 1]) := by
              rw [show (1 : Int) + i = ((i + 1 : Nat) : Int) by omega]
              exact atI_str (List.getElem?_eq_getElem hi)
            rw [ltAt_ok i hi] at hK
            repeat' contradiction
            refine p_tup a1 ?_
            repeat' contradiction
            refine p_tup a2 ?_
            repeat' contradiction
          · repeat' contradiction
            rw [map_blf]
            refine b_allB ?_
            rw [List.all_map]
            rw [show (List.range _).all (id ∘ ltAt xs) = upB xs from upB_range (by rw [List.length_map]; omega) _ ltAt_ok]
            exact q
end
end DP

set_option maxRecDepth 100000
set_option maxHeartbeats 1000000
/-! DpO3: what the defs about trees do, whatever their numbers. -/
namespace DP
open PySem L2
local macro_rules
  | `(tactic| get_elem_tactic_trivial) => `(tactic| first
    | with_reducible assumption
    | exact up_same
    | (refine up_keep (by with_reducible assumption) ?_; get_elem_tactic_trivial))
local macro_rules
  | `(tactic| decreasing_trivial) => `(tactic| first
    | with_reducible assumption
    | (with_unfolding_all exact Nat.le_of_ble_eq_true rfl)
    | omega
    | exact shrt_of (by with_unfolding_all rfl)
    | exact sh_cut (by with_reducible assumption) _ _
    | exact cmul_l (by omega) (by omega)
    | exact cmul_r (by omega) (by omega)
    | exact pow_lit (by decide) (by decide) (by decide))
local macro_rules
  | `(tactic| contradiction) => `(tactic| with_reducible first
    | assumption | (apply r_var; with_unfolding_all rfl)
    | apply r_cst | apply r_glo | apply r_tup | apply r_lst | apply r_dK | apply r_bin | apply r_neg | apply r_cmp | apply r_chn
    | apply r_not | apply r_and | apply r_or | apply r_ite | apply r_ix | apply r_sl | apply r_rev | apply r_isi | apply r_bi | apply r_me | apply r_call | apply r_lc
    | apply r_es0 | apply r_es1 | apply r_rs0 | apply r_rs1 | apply r_o0 | apply r_o1 | apply r_part | apply r_ot0 | apply r_ot1 | apply r_mv
    | apply t_not | apply t_and | apply t_or | apply t_cmp | apply t_chn | (apply t_var; with_unfolding_all rfl) | apply t_isi | apply t_bi | apply t_me | apply t_call | apply t_ix
    | (apply x_len; with_unfolding_all exact Nat.le_of_ble_eq_true rfl) | (apply x_ty; with_unfolding_all exact ⟨_, rfl⟩) | (apply x_tyL; get_elem_tactic_trivial; rfl)
    | apply x_bl | apply x_int | (apply x_tru; with_unfolding_all rfl) | (apply x_isi; with_unfolding_all rfl)
    | apply i_T | apply i_F | apply i_nT | apply i_nF
    | apply o_addI | (apply o_addS; decreasing_trivial) | (apply o_addSS; decreasing_trivial; decreasing_trivial) | (apply o_addT; decreasing_trivial) | (apply o_addTT; decreasing_trivial; decreasing_trivial) | apply o_sub
    | (apply o_mulI; decreasing_trivial) | (apply o_mulS; decreasing_trivial) | (apply o_fdiv; decreasing_trivial) | (apply o_mod; decreasing_trivial) | (apply o_pow; decreasing_trivial)
    | (apply o_addNN; decreasing_trivial) | (apply o_addRN; get_elem_tactic_trivial; decreasing_trivial) | (apply o_addNR; get_elem_tactic_trivial; decreasing_trivial) | (apply o_addRR; get_elem_tactic_trivial; get_elem_tactic_trivial; decreasing_trivial)
    | apply c_eqI | apply c_eqS | apply c_eqB | apply c_neI | apply c_neS | apply c_neB | apply c_ltI | apply c_ltS | apply c_gtI | apply c_leI | apply c_geI | apply c_inS | apply c_ninS
    | (apply p_str; decreasing_trivial; with_unfolding_all rfl) | (apply p_tup; with_unfolding_all rfl) | (apply p_lstN; with_unfolding_all rfl) | (apply p_lst; get_elem_tactic_trivial; with_unfolding_all rfl) | (apply p_dK; get_elem_tactic_trivial; with_unfolding_all rfl)
    | (apply l_strS; decreasing_trivial) | (apply l_str; decreasing_trivial) | apply l_tup | apply l_fz | apply l_lstN | (apply l_lst; get_elem_tactic_trivial) | apply v_tup | apply v_lstN | (apply v_lst; get_elem_tactic_trivial)
    | (apply b_lenS; decreasing_trivial) | apply b_lenT | apply b_lenN | (apply b_lenL; get_elem_tactic_trivial) | apply b_abs | apply b_intI | apply b_intB | apply b_tuplN | apply b_tuplT | (apply b_tuplL; get_elem_tactic_trivial) | apply b_listN | apply b_listT | (apply b_listL; get_elem_tactic_trivial)
    | apply z_nil | apply z_exp | apply z_set | apply z_ret | apply z_ife | apply z_for | apply z_brk | apply z_cnt | apply z_sub
    | apply bn_name | (apply q_str; decreasing_trivial) | apply q_tup | apply q_fz | apply q_n | (apply q_ref; get_elem_tactic_trivial) | apply w_seq | apply w_rng1 | apply w_rng2)
local macro_rules
  | `(tactic| contradiction) => `(tactic| with_reducible first
    | (apply p_cells; get_elem_tactic_trivial) | (apply p_at; get_elem_tactic_trivial) | (apply p_left; get_elem_tactic_trivial)
    | (apply y_at; get_elem_tactic_trivial) | (apply y_left; get_elem_tactic_trivial))
local macro_rules
  | `(tactic| contradiction) => `(tactic| with_reducible first
    | apply r_lc2 | apply w_enum | apply e_n | apply c_isnotB | apply b_min | apply bn_tup2)
local macro_rules
  | `(tactic| contradiction) => `(tactic| with_reducible first
    | apply t_emp | apply e_tT | apply e_nT | apply e_nN | (apply e_nL; get_elem_tactic_trivial))
section
variable {B : List Fn} {f n : Nat} {S : Sto} {Q : PR}
theorem replicate_map (ds : List D) (g : D → Bool) : (ds.map g).map D.bl = ds.map fun d => D.bl (g d) := by rw [List.map_map]; rfl
theorem is_fork_all {fw fl : Nat} (hT : B[f]? = some ⟨2, 5, bIsFork fw f fl⟩) (hW : B[fw]? = some ⟨1, 2, bIsName⟩) (hL : B[fl]? = some ⟨1, 1, bLeast⟩) {k : Nat} : ∀ (m : Nat) (d : D) {S : Sto} {dc ls : Bool}, Tg S dc ls d → sz d ≤ 1000 → ∀ {Q : PR}, (∀ S', Sub S S' → Q (.v (.bl (forkB d m))) S') → W B (k + m + 2) f [d, .int (m : Nat)] S Q := by
  intro m
  induction m with
  | zero =>
    intro d S dc ls g hz Q q
    refine enter (b := ⟨2, 5, bIsFork fw f fl⟩) (ρ := [some d, some (.int ((0 : Nat) : Int)), none, none, none]) hT rfl rfl ?_
    show wSs (W B (k + 1)) (bIsFork fw f fl) _ _ _
    delta bIsFork
    have hi := is_tup g.kd
    cases hk : kTup d with
    | false =>
      rw [hk] at hi
      rw [fork_no 0 hk] at q
      repeat' contradiction
      refine x_isi hi ?_
      repeat' contradiction
      exact is_name_all hW g.kd (q S Sub.rfl)
    | true =>
      obtain ⟨ds, rfl⟩ := kT_tup hk
      have e : forkB (.tup ds) 0 = false := by rw [forkB]; rfl
      rw [e] at q
      repeat' contradiction
      refine i_D rfl ?_
      repeat' contradiction
      exact q S Sub.rfl
  | succ m ih =>
    intro d S dc ls g hz Q q
    refine enter (b := ⟨2, 5, bIsFork fw f fl⟩) (ρ := [some d, some (.int ((m + 1 : Nat) : Int)), none, none, none]) hT rfl rfl ?_
    show wSs (W B (k + m + 2)) (bIsFork fw f fl) _ _ _
    delta bIsFork
    have hi := is_tup g.kd
    cases hk : kTup d with
    | false =>
      rw [hk] at hi
      rw [fork_no (m + 1) hk] at q
      repeat' contradiction
      refine x_isi hi ?_
      repeat' contradiction
      exact is_name_all hW g.kd (q S Sub.rfl)
    | true =>
      obtain ⟨ds, rfl⟩ := kT_tup hk
      have hsh := g.sh
      rw [shD] at hsh
      rw [Tg] at g
      rw [sz] at hz
      have hlen := szs_len ds
      have ef : forkB (.tup ds) (m + 1) = ((decide (2 ≤ ds.length) && forkBs ds m) && upB (ds.map fst1)) := by
        rw [forkB]
        rw [decide_eq_true (show m + 1 ≠ 0 by omega), Bool.true_and, Nat.add_sub_cancel]
      rw [ef] at q
      have em : ((m + 1 : Nat) : Int) - 1 = (m : Nat) := by omega
      repeat' contradiction
      refine i_N (by omega) ?_
      repeat' contradiction
      by_cases h2 : 2 ≤ ds.length
      · refine i_N (by omega) ?_
        rw [decide_eq_true h2, Bool.true_and] at q
        repeat' contradiction
        refine lc_ok (fun i acc S' => acc = ((ds.take i).map fun d => D.bl (forkB d m)) ∧ Sub S S') (fun i x acc S' K hx hI hK => ⟨trivial, ?_⟩) (fun acc S' hI => ⟨trivial, ?_⟩) ⟨rfl, Sub.rfl⟩
        · obtain ⟨rfl, hsub⟩ := hI
          have hxm := List.mem_of_getElem? hx
          have hx1 := sz_mem hxm
          repeat' contradiction
          rw [em]
          refine ih x ((Tgs_iff.mp g x hxm).sub hsub) (by omega) ?_
          intro S2 hs2
          repeat' contradiction
          refine hK _ _ ⟨?_, hsub.trans hs2⟩
          rw [Option.toList_some, List.take_add_one, hx, List.map_append]
          rfl
        · obtain ⟨rfl, hsub⟩ := hI
          rw [List.take_length]
          repeat' contradiction
          rw [all_bls]
          refine b_allB ?_
          refine x_tru rfl ?_
          have e1 : (ds.map fun d => forkB d m).all id = forkBs ds m := by
            rw [List.all_map, Bool.eq_iff_iff, forkBs_all, List.all_eq_true]
            rfl
          rw [e1]
          cases ha : forkBs ds m with
          | false =>
            rw [ha, Bool.false_and] at q
            repeat' contradiction
            exact q S' hsub
          | true =>
            rw [ha, Bool.true_and] at q
            obtain ⟨htr, hc, _⟩ := forks_tr ds m ha hsh
            repeat' contradiction
            refine lc_allD (fun d => .str (fst1 d)) trivial (fun x hx K hK => ?_) ?_
            · repeat' contradiction
              refine least_ok hL (isTrs_iff.mp htr x hx) fun _ => ?_
              repeat' contradiction
            · refine r_mn fun t ht' => ?_
              have em2 : (ds.map fun d => D.str (fst1 d)) = (ds.map fst1).map .str := by rw [List.map_map]; rfl
              rw [em2]
              have et : up S' t (.lst ((ds.map fst1).map .str)) t = some (.lst ((ds.map fst1).map .str)) := up_same
              have hlen2 : ((ds.map fst1).map D.str).length = ds.length := by rw [List.length_map, List.length_map]
              have hlen3 : (ds.map fst1).length = ds.length := List.length_map _
              repeat' contradiction
              refine ⟨1, _, rfl, rfl, ⟨by omega, by omega, by omega, by omega⟩, by omega, ?_⟩
              refine lc_all (f := fun (i : Nat) => .int (1 + i)) (fun i => .bl (ltAt (ds.map fst1) i)) trivial (fun i hi K hK => ?_) ?_
              · have hi := List.mem_range.mp hi
                have hi : i + 1 < (ds.map fst1).length := by omega
                have a1 : atI ((ds.map fst1).map D.str) ((1 : Int) + i - 1) = some (.str (ds.map fst1)[i]) := by
                  rw [show (1 : Int) + i - 1 = (i : Nat) by omega]
                  exact atI_str (List.getElem?_eq_getElem (by omega))
                have a2 : atI ((ds.map fst1).map D.str) ((1 : Int) + i) = some (.str (ds.map fst1)[i + 1]) := by
                  rw [show (1 : Int) + i = ((i + 1 : Nat) : Int) by omega]
                  exact atI_str (List.getElem?_eq_getElem hi)
                rw [ltAt_ok i hi] at hK
                generalize (ds.map fst1)[i] = u at a1 hK
                generalize (ds.map fst1)[i + 1] = v at a2 hK
                repeat' contradiction
                refine p_lst et a1 ?_
                repeat' contradiction
                refine p_lst et a2 ?_
                repeat' contradiction
              · repeat' contradiction
                rw [map_blf]
                refine b_allB ?_
                rw [List.all_map]
                rw [show (List.range _).all (id ∘ ltAt (ds.map fst1)) = upB (ds.map fst1) from upB_range (by omega) _ ltAt_ok]
                exact q _ (hsub.then (hsub.none ht'))
      · refine i_D (by omega) ?_
        rw [decide_eq_false h2, Bool.false_and, Bool.false_and] at q
        repeat' contradiction
        exact q S Sub.rfl
theorem is_tree_all {k ff fs fw fl : Nat} (hT : B[f]? = some ⟨1, 2, bIsTree ff fs⟩) (hF : B[ff]? = some ⟨2, 5, bIsFork fw ff fl⟩) (hW : B[fw]? = some ⟨1, 2, bIsName⟩) (hL : B[fl]? = some ⟨1, 1, bLeast⟩) (hS : B[fs]? = some ⟨1, 3, bStanding fs⟩) {d : D} (hd : Th S d)
    (q : ∀ S', Sub S S' → Q (.v (.bl (treeP d))) S') : W B (k + 12) f [d] S Q := by
  refine enter (b := ⟨1, 2, bIsTree ff fs⟩) (ρ := [some d, none]) hT rfl rfl ?_
  show wSs (W B (k + 11)) (bIsTree ff fs) _ _ _
  delta bIsTree
  obtain ⟨dc, ls, _, g, _, hz⟩ := hd
  repeat' contradiction
  refine is_fork_all (k := k) hF hW hL 9 d g hz ?_
  intro S1 hs1
  refine x_tru rfl ?_
  cases hf : forkB d 9 with
  | false =>
    have e : treeP d = false := by unfold treeP; rw [hf]; rfl
    rw [e] at q
    repeat' contradiction
    exact q S1 hs1
  | true =>
    have e : treeP d = (decide ((nms d).length ≤ 10) && oneB (nms d)) := by unfold treeP; rw [hf]; rfl
    rw [e] at q
    obtain ⟨htr, hc, hh⟩ := fork_tr d 9 hf g.sh
    have hn := nms_sz d
    repeat' contradiction
    refine standing_ok hS _ d htr (by omega) (by omega) ?_
    refine r_mn fun t ht' => ?_
    have et : up S1 t (.lst ((nms d).map .str)) t = some (.lst ((nms d).map .str)) := up_same
    have qq := q (up S1 t (.lst ((nms d).map .str))) (hs1.then (hs1.none ht'))
    have hl : ((nms d).map D.str).length = (nms d).length := List.length_map _
    repeat' contradiction
    by_cases h10 : (nms d).length ≤ 10
    · refine i_D (by omega) ?_
      rw [decide_eq_true h10, Bool.true_and] at qq
      repeat' contradiction
      refine r_lsetR et (by omega) ?_ rfl
      repeat' contradiction
      have e2 : decide (((metS (nms d)).length : Int) = (((nms d).map D.str).length : Nat)) = oneB (nms d) := by
        unfold oneB
        rw [hl]
        rw [Bool.eq_iff_iff, decide_eq_true_eq, decide_eq_true_eq]
        omega
      rw [e2]
      exact qq
    · refine i_N (by omega) ?_
      rw [decide_eq_false h10, Bool.false_and] at qq
      rw [← decide_eq_false (show ¬ ((((nms d).map D.str).length : Nat) : Int) ≤ 10 by omega)] at qq
      repeat' contradiction
end
end DP

set_option maxRecDepth 100000
set_option maxHeartbeats 1000000
/-! DpO4: what the defs about trees do, whatever their numbers. -/
namespace DP
open PySem L2
local macro_rules
  | `(tactic| get_elem_tactic_trivial) => `(tactic| first
    | with_reducible assumption
    | exact up_same
    | (refine up_keep (by with_reducible assumption) ?_; get_elem_tactic_trivial))
local macro_rules
  | `(tactic| decreasing_trivial) => `(tactic| first
    | with_reducible assumption
    | (with_unfolding_all exact Nat.le_of_ble_eq_true rfl)
    | omega
    | exact shrt_of (by with_unfolding_all rfl)
    | exact sh_cut (by with_reducible assumption) _ _
    | exact cmul_l (by omega) (by omega)
    | exact cmul_r (by omega) (by omega)
    | exact pow_lit (by decide) (by decide) (by decide))
local macro_rules
  | `(tactic| contradiction) => `(tactic| with_reducible first
    | assumption | (apply r_var; with_unfolding_all rfl)
    | apply r_cst | apply r_glo | apply r_tup | apply r_lst | apply r_dK | apply r_bin | apply r_neg | apply r_cmp | apply r_chn
    | apply r_not | apply r_and | apply r_or | apply r_ite | apply r_ix | apply r_sl | apply r_rev | apply r_isi | apply r_bi | apply r_me | apply r_call | apply r_lc
    | apply r_es0 | apply r_es1 | apply r_rs0 | apply r_rs1 | apply r_o0 | apply r_o1 | apply r_part | apply r_ot0 | apply r_ot1 | apply r_mv
    | apply t_not | apply t_and | apply t_or | apply t_cmp | apply t_chn | (apply t_var; with_unfolding_all rfl) | apply t_isi | apply t_bi | apply t_me | apply t_call | apply t_ix
    | (apply x_len; with_unfolding_all exact Nat.le_of_ble_eq_true rfl) | (apply x_ty; with_unfolding_all exact ⟨_, rfl⟩) | (apply x_tyL; get_elem_tactic_trivial; rfl)
    | apply x_bl | apply x_int | (apply x_tru; with_unfolding_all rfl) | (apply x_isi; with_unfolding_all rfl)
    | apply i_T | apply i_F | apply i_nT | apply i_nF
    | apply o_addI | (apply o_addS; decreasing_trivial) | (apply o_addSS; decreasing_trivial; decreasing_trivial) | (apply o_addT; decreasing_trivial) | (apply o_addTT; decreasing_trivial; decreasing_trivial) | apply o_sub
    | (apply o_mulI; decreasing_trivial) | (apply o_mulS; decreasing_trivial) | (apply o_fdiv; decreasing_trivial) | (apply o_mod; decreasing_trivial) | (apply o_pow; decreasing_trivial)
    | (apply o_addNN; decreasing_trivial) | (apply o_addRN; get_elem_tactic_trivial; decreasing_trivial) | (apply o_addNR; get_elem_tactic_trivial; decreasing_trivial) | (apply o_addRR; get_elem_tactic_trivial; get_elem_tactic_trivial; decreasing_trivial)
    | apply c_eqI | apply c_eqS | apply c_eqB | apply c_neI | apply c_neS | apply c_neB | apply c_ltI | apply c_ltS | apply c_gtI | apply c_leI | apply c_geI | apply c_inS | apply c_ninS
    | (apply p_str; decreasing_trivial; with_unfolding_all rfl) | (apply p_tup; with_unfolding_all rfl) | (apply p_lstN; with_unfolding_all rfl) | (apply p_lst; get_elem_tactic_trivial; with_unfolding_all rfl) | (apply p_dK; get_elem_tactic_trivial; with_unfolding_all rfl)
    | (apply l_strS; decreasing_trivial) | (apply l_str; decreasing_trivial) | apply l_tup | apply l_fz | apply l_lstN | (apply l_lst; get_elem_tactic_trivial) | apply v_tup | apply v_lstN | (apply v_lst; get_elem_tactic_trivial)
    | (apply b_lenS; decreasing_trivial) | apply b_lenT | apply b_lenN | (apply b_lenL; get_elem_tactic_trivial) | apply b_abs | apply b_intI | apply b_intB | apply b_tuplN | apply b_tuplT | (apply b_tuplL; get_elem_tactic_trivial) | apply b_listN | apply b_listT | (apply b_listL; get_elem_tactic_trivial)
    | apply z_nil | apply z_exp | apply z_set | apply z_ret | apply z_ife | apply z_for | apply z_brk | apply z_cnt | apply z_sub
    | apply bn_name | (apply q_str; decreasing_trivial) | apply q_tup | apply q_fz | apply q_n | (apply q_ref; get_elem_tactic_trivial) | apply w_seq | apply w_rng1 | apply w_rng2)
local macro_rules
  | `(tactic| contradiction) => `(tactic| with_reducible first
    | (apply p_cells; get_elem_tactic_trivial) | (apply p_at; get_elem_tactic_trivial) | (apply p_left; get_elem_tactic_trivial)
    | (apply y_at; get_elem_tactic_trivial) | (apply y_left; get_elem_tactic_trivial))
local macro_rules
  | `(tactic| contradiction) => `(tactic| with_reducible first
    | apply r_lc2 | apply w_enum | apply e_n | apply c_isnotB | apply b_min | apply bn_tup2)
local macro_rules
  | `(tactic| contradiction) => `(tactic| with_reducible first
    | apply t_emp | apply e_tT | apply e_nT | apply e_nN | (apply e_nL; get_elem_tactic_trivial))
def bLIsName : List C := [.asg (.name 1) (.cst (.str "abcdefghijklmnopqrstuvwxyz")), .ret (.and (.isi (.var 0) .str) (.and (.chn .lt .lt (.cst (.int 0)) (.bi .len [(.var 0)]) (.cst (.int 9))) (.cmp .eq (.lc (.var 2) (.name 2) (.seq (.var 0)) (some (.cmp .notin (.var 2) (.var 1))) [2]) (.lst []))))]
def bLAllNames (fw : Nat) : List C := [.asg (.name 1) (.lst []), .asg (.name 2) (.lst [(.var 0)]), .whl (.emp true false (.var 2)) [.asg (.name 3) (.me .pop (.var 2) [(.cst (.int 0))]), .ife (.and (.isi (.var 3) .tup) (.emp true true (.var 3))) [.asg (.name 2) (.bin .add (.bi .list [(.var 3)]) (.var 2))] [.ife (.call fw [(.var 3)]) [.exp (.me .append (.var 1) [(.var 3)])] [.ret (.cst .non)]]], .ret (.var 1)]
theorem allNs_app : ∀ (xs ys : List D), allNs (xs ++ ys) = match allNs xs, allNs ys with
    | some a, some b => some (a ++ b)
    | _, _ => none
  | [], ys => by rw [List.nil_append, allNs]; cases allNs ys <;> rfl
  | x :: xs, ys => by
    rw [List.cons_append, allNs, allNs, allNs_app xs ys]
    cases allN x <;> cases allNs xs <;> cases allNs ys <;> simp
theorem Tgs_app {S : Sto} {dc ls : Bool} {xs ys : List D} : Tgs S dc ls (xs ++ ys) ↔ Tgs S dc ls xs ∧ Tgs S dc ls ys := by
  rw [Tgs_iff, Tgs_iff, Tgs_iff]
  exact List.forall_mem_append
theorem m_pop0 {S : Sto} {t : Addr} {x : D} {r : List D} {Q : PR} (h : S t = some (.lst (x :: r))) (q : Q (.v x) (up S t (.lst r))) : meW .pop (.v (.ref t)) [.int 0] S Q :=
  ⟨x :: r, 0, x, h, by decide, by decide, by unfold ixN; rw [if_pos (by decide), if_pos (by rw [List.length_cons]; omega)]; rfl, rfl, q⟩
section
variable {B : List Fn} {f n : Nat} {S : Sto} {Q : PR}
theorem law_is_name_all {k : Nat} (hT : B[f]? = some ⟨1, 3, bLIsName⟩) {d : D} (hd : Kd S d) (q : Q (.v (.bl (wdB d))) S) : W B (k + 1) f [d] S Q := by
  refine enter (b := ⟨1, 3, bLIsName⟩) (ρ := [some d, none, none]) hT rfl rfl ?_
  show wSs (W B k) bLIsName _ _ _
  delta bLIsName
  have hi := is_str hd
  cases hk : kStr d with
  | false =>
    rw [hk] at hi
    rw [wd_no hk] at q
    repeat' contradiction
    refine x_isi hi ?_
    repeat' contradiction
  | true =>
    obtain ⟨x, rfl⟩ := tr_leaf hk
    have hd : Shrt x := hd
    have hl : x.length ≤ sizeLine := Nat.le_trans hd.1 (by decide)
    replace q : Q (.v (.bl ((decide (1 ≤ x.length) && decide (x.length ≤ 8)) && x.cps.toList.all inLet))) S := q
    repeat' contradiction
    by_cases h1 : (0 : Int) < x.length
    · refine i_D h1 ?_
      rw [decide_eq_true (show 1 ≤ x.length by omega), Bool.true_and] at q
      repeat' contradiction
      by_cases h2 : (x.length : Int) < 9
      · refine i_D h2 ?_
        rw [decide_eq_true (show x.length ≤ 8 by omega), Bool.true_and] at q
        repeat' contradiction
        refine lc_if (fun c => .str ⟨#[c]⟩) (fun c => !inLet c) trivial (fun c hc K hK => ?_) ?_
        · repeat' contradiction
          show if (!inLet c) = true then _ else _
          cases hc2 : inLet c with
          | true =>
            rw [hc2] at hK
            repeat' contradiction
            exact hK
          | false =>
            rw [hc2] at hK
            repeat' contradiction
            exact hK
        · repeat' contradiction
          have em : ((x.cps.toList.filter fun c => !inLet c).map fun c => D.str ⟨#[c]⟩) = (((x.cps.toList.filter fun c => !inLet c).map fun c => (⟨#[c]⟩ : Str))).map .str := by rw [List.map_map]; rfl
          rw [em]
          refine c_eq0S (fun y hy => ?_) ?_
          · obtain ⟨c, hc, rfl⟩ := List.mem_map.mp hy
            exact sg_shrt (hd.2 c (List.mem_filter.mp hc).1)
          · have e : (((x.cps.toList.filter fun c => !inLet c).map fun c => (⟨#[c]⟩ : Str))).isEmpty = x.cps.toList.all inLet := by
              rw [Bool.eq_iff_iff, List.isEmpty_iff, List.map_eq_nil_iff, List.filter_eq_nil_iff, List.all_eq_true]
              simp
            rw [e]
            exact q
      · refine i_N h2 ?_
        rw [decide_eq_false (show ¬ x.length ≤ 8 by omega), Bool.false_and] at q
        rw [← decide_eq_false h2] at q
        repeat' contradiction
    · refine i_N h1 ?_
      rw [decide_eq_false (show ¬ 1 ≤ x.length by omega), Bool.false_and, Bool.false_and] at q
      repeat' contradiction
theorem wd_str {x : D} (h : wdB x = true) : ∃ y, x = .str y := by cases x <;> first | exact ⟨_, rfl⟩ | cases h
theorem wd_allN {y : Str} (h : wdB (.str y) = true) : allN (.str y) = some [y] := by rw [allN, if_pos h]
theorem allN_bad {x : D} (h : wdB x = false) (h2 : ∀ ds, x = .tup ds → ds = []) : allN x = none := by
  cases x with
  | str y => rw [allN, if_neg (by rw [h]; simp)]
  | tup ds => rw [h2 ds rfl, allN]; rfl
  | non => simp [allN]
  | bl _ => simp [allN]
  | int _ => simp [allN]
  | fz _ => simp [allN]
  | ref _ => simp [allN]
theorem law_all_names {k fw : Nat} (hT : B[f]? = some ⟨1, 4, bLAllNames fw⟩) (hW : B[fw]? = some ⟨1, 3, bLIsName⟩) {d : D} {dc ls : Bool} (g : Tg S dc ls d) (hz : sz d ≤ 1000)
    (qn : allN d = none → ∀ S', Sub S S' → Q (.v .non) S') (qs : ∀ ns, allN d = some ns → ∀ S' t, Sub S S' → S t = none → S' t = some (.lst (ns.map .str)) → Q (.v (.ref t)) S') : W B (k + 2) f [d] S Q := by
  refine enter (b := ⟨1, 4, bLAllNames fw⟩) (ρ := [some d, none, none, none]) hT rfl rfl ?_
  show wSs (W B (k + 1)) (bLAllNames fw) _ _ _
  delta bLAllNames
  repeat' contradiction
  refine r_mn fun a1 ha1 => ?_
  repeat' contradiction
  refine r_mn fun a2 ha2 => ?_
  have hS2 : S a2 = none := (Sub.rfl.then ha1).none ha2
  have hne : a1 ≠ a2 := fun z => by subst z; rw [up_same] at ha2; cases ha2
  refine z_whl (fun m ρ S' => ∃ acc left t o3, ρ = [some d, some (.ref a1), some (.ref t), o3] ∧ a1 ≠ t ∧ S t = none ∧ S' a1 = some (.lst (acc.map .str)) ∧ S' t = some (.lst left) ∧ Tgs S dc ls left ∧ Sub S S' ∧ m = szs left ∧ acc.length + szs left ≤ 1000 ∧
      allN d = (match allNs left with | some b => some (acc ++ b) | none => none))
    ⟨sz d, [], [d], a2, none, rfl, hne, hS2, up_keep ha2 up_same, up_same, ?_, (Sub.rfl.then ha1).then hS2, by rw [szs, szs]; omega, by rw [szs, szs, List.length_nil]; omega, ?_⟩ ?_
  · rw [Tgs, Tgs]
    exact ⟨g, trivial⟩
  · rw [allNs, allNs]
    cases allN d <;> simp
  rintro m ρ S' ⟨acc, left, t, o3, rfl, hat, hSt, e1, e2, tg, hsub, rfl, hsz, hall⟩
  have hll := szs_len left
  repeat' contradiction
  cases left with
  | nil =>
    refine i_F ?_
    repeat' contradiction
    rw [allNs] at hall
    refine qs acc ?_ S' a1 hsub ha1 e1
    rw [hall]
    simp
  | cons x r =>
    refine i_T ?_
    rw [szs] at hsz ⊢
    rw [List.length_cons, szs] at hll
    rw [Tgs] at tg
    have hsx := sz_pos x
    repeat' contradiction
    refine m_pop0 e2 ?_
    have hsub2 : Sub S (up S' t (.lst r)) := hsub.then hSt
    have e1' : up S' t (.lst r) a1 = some (.lst (acc.map .str)) := up_get hat e1
    have e2' : up S' t (.lst r) t = some (.lst r) := up_same
    generalize up S' t (.lst r) = S2 at hsub2 e1' e2'
    have kd := (tg.1.sub hsub2).kd
    have hi := is_tup kd
    have other : wdB x = false → (∀ ds, x = .tup ds → ds = []) → allN d = none := fun h1 h2 => by
      rw [hall, allNs, allN_bad h1 h2]
    have word : ∀ K : DP.Env → Sto → Prop, wdB x = true → True := fun _ _ => trivial
    repeat' contradiction
    refine x_isi hi ?_
    cases hk : kTup x with
    | true =>
      obtain ⟨es, rfl⟩ := kT_tup hk
      repeat' contradiction
      cases he : es.isEmpty with
      | true =>
        have : es = [] := List.isEmpty_iff.mp he
        subst this
        repeat' contradiction
        refine law_is_name_all hW kd ?_
        repeat' contradiction
        exact qn (other rfl fun ds e => by cases e; rfl) S2 hsub2
      | false =>
        have hl1 := szs_len es
        rw [sz] at hsz hsx ⊢
        have hl2 := szs_len r
        have tge := tg.1
        rw [Tg] at tge
        repeat' contradiction
        refine o_addNR e2' (by rw [sizeLine_eq]; omega) ?_
        refine r_mn fun t2 ht2 => ?_
        have hS3 : S t2 = none := hsub2.none ht2
        have hat2 : a1 ≠ t2 := fun z => by subst z; rw [e1'] at ht2; cases ht2
        refine z_nil ?_
        refine z_nil ⟨szs (es ++ r), by rw [szs_app]; omega, acc, es ++ r, t2, _, rfl, hat2, hS3, up_keep ht2 e1', up_same, Tgs_app.mpr ⟨tge, tg.2⟩, hsub2.then hS3, rfl, by rw [szs_app]; omega, ?_⟩
        rw [hall, allNs, allNs_app, allN, if_neg (by rw [he]; simp)]
        all_goals (cases allNs es <;> cases allNs r <;> rfl)
    | false =>
      repeat' contradiction
      refine law_is_name_all hW kd ?_
      refine x_tru rfl ?_
      cases hw : wdB x with
      | true =>
        obtain ⟨y, rfl⟩ := wd_str hw
        rw [show sz (.str y) = 1 by simp [sz]] at hsz ⊢
        repeat' contradiction
        refine m_append e1' (by rw [List.length_map, sizeLine_eq]; omega) ?_
        refine z_nil ?_
        refine z_nil ?_
        refine z_nil ⟨szs r, by omega, acc ++ [y], r, t, _, rfl, hat, hSt, by rw [List.map_append]; exact up_same, up_get (Ne.symm hat) e2', tg.2, hsub2.then ha1, rfl, by rw [List.length_append, List.length_singleton]; omega, ?_⟩
        rw [hall, allNs, wd_allN hw]
        cases allNs r <;> simp
      | false =>
        repeat' contradiction
        exact qn (other hw fun ds e => by subst e; cases hk) S2 hsub2
end
end DP

set_option maxRecDepth 100000
set_option maxHeartbeats 1000000
/-! DpO5: what the defs about trees do, whatever their numbers. -/
namespace DP
open PySem L2
local macro_rules
  | `(tactic| get_elem_tactic_trivial) => `(tactic| first
    | with_reducible assumption
    | exact up_same
    | (refine up_keep (by with_reducible assumption) ?_; get_elem_tactic_trivial))
local macro_rules
  | `(tactic| decreasing_trivial) => `(tactic| first
    | with_reducible assumption
    | (with_unfolding_all exact Nat.le_of_ble_eq_true rfl)
    | omega
    | exact shrt_of (by with_unfolding_all rfl)
    | exact sh_cut (by with_reducible assumption) _ _
    | exact cmul_l (by omega) (by omega)
    | exact cmul_r (by omega) (by omega)
    | exact pow_lit (by decide) (by decide) (by decide))
local macro_rules
  | `(tactic| contradiction) => `(tactic| with_reducible first
    | assumption | (apply r_var; with_unfolding_all rfl)
    | apply r_cst | apply r_glo | apply r_tup | apply r_lst | apply r_dK | apply r_bin | apply r_neg | apply r_cmp | apply r_chn
    | apply r_not | apply r_and | apply r_or | apply r_ite | apply r_ix | apply r_sl | apply r_rev | apply r_isi | apply r_bi | apply r_me | apply r_call | apply r_lc
    | apply r_es0 | apply r_es1 | apply r_rs0 | apply r_rs1 | apply r_o0 | apply r_o1 | apply r_part | apply r_ot0 | apply r_ot1 | apply r_mv
    | apply t_not | apply t_and | apply t_or | apply t_cmp | apply t_chn | (apply t_var; with_unfolding_all rfl) | apply t_isi | apply t_bi | apply t_me | apply t_call | apply t_ix
    | (apply x_len; with_unfolding_all exact Nat.le_of_ble_eq_true rfl) | (apply x_ty; with_unfolding_all exact ⟨_, rfl⟩) | (apply x_tyL; get_elem_tactic_trivial; rfl)
    | apply x_bl | apply x_int | (apply x_tru; with_unfolding_all rfl) | (apply x_isi; with_unfolding_all rfl)
    | apply i_T | apply i_F | apply i_nT | apply i_nF
    | apply o_addI | (apply o_addS; decreasing_trivial) | (apply o_addSS; decreasing_trivial; decreasing_trivial) | (apply o_addT; decreasing_trivial) | (apply o_addTT; decreasing_trivial; decreasing_trivial) | apply o_sub
    | (apply o_mulI; decreasing_trivial) | (apply o_mulS; decreasing_trivial) | (apply o_fdiv; decreasing_trivial) | (apply o_mod; decreasing_trivial) | (apply o_pow; decreasing_trivial)
    | (apply o_addNN; decreasing_trivial) | (apply o_addRN; get_elem_tactic_trivial; decreasing_trivial) | (apply o_addNR; get_elem_tactic_trivial; decreasing_trivial) | (apply o_addRR; get_elem_tactic_trivial; get_elem_tactic_trivial; decreasing_trivial)
    | apply c_eqI | apply c_eqS | apply c_eqB | apply c_neI | apply c_neS | apply c_neB | apply c_ltI | apply c_ltS | apply c_gtI | apply c_leI | apply c_geI | apply c_inS | apply c_ninS
    | (apply p_str; decreasing_trivial; with_unfolding_all rfl) | (apply p_tup; with_unfolding_all rfl) | (apply p_lstN; with_unfolding_all rfl) | (apply p_lst; get_elem_tactic_trivial; with_unfolding_all rfl) | (apply p_dK; get_elem_tactic_trivial; with_unfolding_all rfl)
    | (apply l_strS; decreasing_trivial) | (apply l_str; decreasing_trivial) | apply l_tup | apply l_fz | apply l_lstN | (apply l_lst; get_elem_tactic_trivial) | apply v_tup | apply v_lstN | (apply v_lst; get_elem_tactic_trivial)
    | (apply b_lenS; decreasing_trivial) | apply b_lenT | apply b_lenN | (apply b_lenL; get_elem_tactic_trivial) | apply b_abs | apply b_intI | apply b_intB | apply b_tuplN | apply b_tuplT | (apply b_tuplL; get_elem_tactic_trivial) | apply b_listN | apply b_listT | (apply b_listL; get_elem_tactic_trivial)
    | apply z_nil | apply z_exp | apply z_set | apply z_ret | apply z_ife | apply z_for | apply z_brk | apply z_cnt | apply z_sub
    | apply bn_name | (apply q_str; decreasing_trivial) | apply q_tup | apply q_fz | apply q_n | (apply q_ref; get_elem_tactic_trivial) | apply w_seq | apply w_rng1 | apply w_rng2)
local macro_rules
  | `(tactic| contradiction) => `(tactic| with_reducible first
    | (apply p_cells; get_elem_tactic_trivial) | (apply p_at; get_elem_tactic_trivial) | (apply p_left; get_elem_tactic_trivial)
    | (apply y_at; get_elem_tactic_trivial) | (apply y_left; get_elem_tactic_trivial))
local macro_rules
  | `(tactic| contradiction) => `(tactic| with_reducible first
    | apply r_lc2 | apply w_enum | apply e_n | apply c_isnotB | apply b_min | apply bn_tup2)
local macro_rules
  | `(tactic| contradiction) => `(tactic| with_reducible first
    | apply t_emp | apply e_tT | apply e_nT | apply e_nN | (apply e_nL; get_elem_tactic_trivial))
def bLForksRight (fn : Nat) : List C := [.asg (.name 1) (.lst [(.var 0)]), .whl (.emp true false (.var 1)) [.asg (.name 2) (.me .pop (.var 1) []), .ife (.isi (.var 2) .tup) [.asg (.name 3) (.lc (.ix (.bi .sorted [(.call fn [(.var 4)])]) (.cst (.int 0))) (.name 4) (.seq (.var 2)) none [4]), .ife (.or (.cmp .lt (.bi .len [(.var 2)]) (.cst (.int 2))) (.cmp .ne (.bi .sorted [(.var 3)]) (.var 3))) [.ret (.cst (.bl false))] [], .exp (.me .extend (.var 1) [(.bi .list [(.var 2)])])] []], .ret (.cst (.bl true))]
def bLIsTree (fn fr : Nat) : List C := [.asg (.name 1) (.call fn [(.var 0)]), .ife (.or (.cmp .is (.var 1) (.cst .non)) (.or (.cmp .gt (.bi .len [(.var 1)]) (.cst (.int 10))) (.cmp .lt (.lset (.var 1)) (.bi .len [(.var 1)])))) [.ret (.cst (.bl false))] [], .ret (.call fr [(.var 0)])]
def bLIsLot (fw : Nat) : List C := [.ife (.or (.not (.isi (.var 0) .tup)) (.or (.emp false true (.var 0)) (.emp true false (.lc (.var 1) (.name 1) (.seq (.var 0)) (some (.not (.call fw [(.var 1)]))) [1])))) [.ret (.cst (.bl false))] [], .ret (.cmp .eq (.sset (.var 0)) (.bi .list [(.var 0)]))]
theorem eqv_strs (l m : List Str) : PyData.eqv (.list (l.map .str)) (.list (m.map .str)) = decide (l = m) := by rw [PyData.eqv, any_strL]
section
variable {S : Sto} {Q : PR}
theorem c_neSL {a : Addr} {l m : List Str} (ha : S a = some (.lst (m.map .str))) (hl : ∀ x ∈ l, Shrt x) (hm : ∀ x ∈ m, Shrt x) (q : Q (.v (.bl (!decide (l = m)))) S) : cmpW .ne (.n (.lst (l.map .str))) (.v (.ref a)) S Q :=
  ⟨.list (l.map .str), .list (m.map .str), ⟨_, rfl, rdg_strs S l⟩, (show Rdg S (.ref a) _ from .lst ha (rdg_strs S m)), strsL_shaped hl, strsL_shaped hm, by rw [eqv_strs]; exact q⟩
theorem c_eqSS {l m : List Str} (hl : ∀ x ∈ l, Shrt x) (hm : ∀ x ∈ m, Shrt x) (q : Q (.v (.bl (decide (l = m)))) S) : cmpW .eq (.n (.lst (l.map .str))) (.n (.lst (m.map .str))) S Q :=
  ⟨.list (l.map .str), .list (m.map .str), ⟨_, rfl, rdg_strs S l⟩, ⟨_, rfl, rdg_strs S m⟩, strsL_shaped hl, strsL_shaped hm, by rw [eqv_strs]; exact q⟩
theorem r_sset {F : Fw} {ρ : DP.Env} {a : E} (q : wE F a ρ S fun r S1 => ∃ xs : List Key, seqOf S1 r = some (xs.map keyD) ∧ xs.length < 1000 ∧ PySem.W.AllAlike (xs.map keyP) ∧ ∀ ys : List Key, ys.Nodup → (∀ k, k ∈ ys ↔ k ∈ xs) → Q (.n (.lst (sortD (ys.map keyD)))) S1) : wE F (.sset a) ρ S Q := q
/-- sorted(set(texts)) -/
theorem x_ssetS {xs : List Str} {r : R} (hr : seqOf S r = some (xs.map .str)) (hl : xs.length < 1000) (q : ∀ ys : List Str, ys.Nodup → (∀ x, x ∈ ys ↔ x ∈ xs) → Q (.n (.lst ((sortS ys).map .str))) S) :
    ∃ xs : List Key, seqOf S r = some (xs.map keyD) ∧ xs.length < 1000 ∧ PySem.W.AllAlike (xs.map keyP) ∧ ∀ ys : List Key, ys.Nodup → (∀ k, k ∈ ys ↔ k ∈ xs) → Q (.n (.lst (sortD (ys.map keyD)))) S := by
  refine ⟨xs.map .inr, by rw [hr, List.map_map]; rfl, by rw [List.length_map]; exact hl, fun d hd d' hd' => ?_, fun ys hn hm => ?_⟩
  · rw [List.map_map] at hd hd'
    obtain ⟨x, _, rfl⟩ := List.mem_map.mp hd
    obtain ⟨y, _, rfl⟩ := List.mem_map.mp hd'
    rfl
  · have ey : ∀ ys : List Key, (∀ k ∈ ys, k ∈ xs.map Sum.inr) → ∃ zs : List Str, ys = zs.map .inr := by
      intro ys
      induction ys with
      | nil => intro _; exact ⟨[], rfl⟩
      | cons y r ih =>
        intro h
        obtain ⟨zs, e⟩ := ih fun k hk => h k (List.mem_cons_of_mem _ hk)
        obtain ⟨z, _, ez⟩ := List.mem_map.mp (h y List.mem_cons_self)
        exact ⟨z :: zs, by rw [e, ← ez]; rfl⟩
    obtain ⟨zs, rfl⟩ := ey ys fun k hk => (hm k).mp hk
    have e : (zs.map Sum.inr : List Key).map keyD = zs.map .str := by rw [List.map_map]; rfl
    rw [e, sortD_strs]
    refine q zs ?_ fun x => ?_
    · exact List.Pairwise.of_map (S := fun a b : Key => a ≠ b) Sum.inr (fun a b h z => h (by rw [z])) hn
    · have := hm (.inr x)
      simp only [List.mem_map, Sum.inr.injEq, exists_eq_right] at this
      exact this
end
mutual
theorem allN_ne : ∀ (d : D) (ns : List Str), allN d = some ns → ns ≠ []
  | .str x, ns, h => by
    rw [allN] at h
    split at h
    · cases h; simp
    · cases h
  | .tup ds, ns, h => by
    rw [allN] at h
    split at h
    · cases h
    · rename_i he
      exact allNs_ne ds ns h (by simpa using he)
  | .non, _, h => by simp [allN] at h
  | .bl _, _, h => by simp [allN] at h
  | .int _, _, h => by simp [allN] at h
  | .fz _, _, h => by simp [allN] at h
  | .ref _, _, h => by simp [allN] at h
theorem allNs_ne : ∀ (ds : List D) (ns : List Str), allNs ds = some ns → ds ≠ [] → ns ≠ []
  | [], _, _, h => absurd rfl h
  | d :: ds, ns, h, _ => by
    rw [allNs] at h
    split at h
    · rename_i a b h1 h2
      cases h
      have := allN_ne d a h1
      simp [this]
    · cases h
end
mutual
theorem allN_wd : ∀ (d : D) (ns : List Str), allN d = some ns → shD d → ∀ x ∈ ns, Wd x
  | .str x, ns, h, hs, y, hy => by
    rw [allN] at h
    split at h
    · rename_i q
      cases h
      rw [List.mem_singleton] at hy
      subst hy
      exact wdB_wd hs q
    · cases h
  | .tup ds, ns, h, hs, y, hy => by
    rw [allN] at h
    split at h
    · cases h
    · rw [shD] at hs
      exact allNs_wd ds ns h hs y hy
  | .non, _, h, _, _, _ => by simp [allN] at h
  | .bl _, _, h, _, _, _ => by simp [allN] at h
  | .int _, _, h, _, _, _ => by simp [allN] at h
  | .fz _, _, h, _, _, _ => by simp [allN] at h
  | .ref _, _, h, _, _, _ => by simp [allN] at h
theorem allNs_wd : ∀ (ds : List D) (ns : List Str), allNs ds = some ns → shDs ds → ∀ x ∈ ns, Wd x
  | [], ns, h, _, y, hy => by rw [allNs] at h; cases h; cases hy
  | d :: ds, ns, h, hs, y, hy => by
    rw [allNs] at h
    rw [shDs] at hs
    split at h
    · rename_i a b h1 h2
      cases h
      rcases List.mem_append.mp hy with hy | hy
      · exact allN_wd d a h1 hs.1 y hy
      · exact allNs_wd ds b h2 hs.2 y hy
    · cases h
end
theorem frBs_app (xs ys : List D) : frBs (xs ++ ys) = (frBs xs && frBs ys) := by
  induction xs with
  | nil => rw [List.nil_append, frBs, Bool.true_and]
  | cons x xs ih => rw [List.cons_append, frBs, frBs, ih, Bool.and_assoc]
theorem allNs_some : ∀ {ds : List D}, (∀ d ∈ ds, ∃ a, allN d = some a) → ∃ ns, allNs ds = some ns
  | [], _ => ⟨[], by rw [allNs]⟩
  | d :: ds, h => by
    obtain ⟨a, e1⟩ := h d List.mem_cons_self
    obtain ⟨b, e2⟩ := allNs_some fun x hx => h x (List.mem_cons_of_mem _ hx)
    exact ⟨a ++ b, by rw [allNs, e1, e2]⟩
section
variable {B : List Fn} {f n : Nat} {S : Sto} {Q : PR}
theorem law_forks_right {k fw fn : Nat} (hT : B[f]? = some ⟨1, 5, bLForksRight fn⟩) (hN : B[fn]? = some ⟨1, 4, bLAllNames fw⟩) (hW : B[fw]? = some ⟨1, 3, bLIsName⟩) {d : D} {dc ls : Bool} (g : Tg S dc ls d) (hz : sz d ≤ 1000) (hall : ∃ a, allN d = some a)
    (q : ∀ S', Sub S S' → Q (.v (.bl (frB d))) S') : W B (k + 3) f [d] S Q := by
  refine enter (b := ⟨1, 5, bLForksRight fn⟩) (ρ := [some d, none, none, none, none]) hT rfl rfl ?_
  show wSs (W B (k + 2)) (bLForksRight fn) _ _ _
  delta bLForksRight
  repeat' contradiction
  refine r_mn fun t ht => ?_
  refine z_whl (fun m ρ S' => ∃ left o2 o3 o4, ρ = [some d, some (.ref t), o2, o3, o4] ∧ S' t = some (.lst left) ∧ Tgs S dc ls left ∧ Sub S S' ∧ m = szs left ∧ szs left ≤ 1000 ∧ (∀ x ∈ left, ∃ a, allN x = some a) ∧ frB d = frBs left)
    ⟨sz d, [d], none, none, none, rfl, up_same, by rw [Tgs, Tgs]; exact ⟨g, trivial⟩, Sub.rfl.then ht, by rw [szs, szs]; omega, by rw [szs, szs]; omega, fun x hx => by rw [List.mem_singleton] at hx; subst hx; exact hall, by rw [frBs, frBs, Bool.and_true]⟩ ?_
  rintro m ρ S' ⟨left, o2, o3, o4, rfl, e1, tg, hsub, rfl, hsz, hal, hfr⟩
  repeat' contradiction
  cases hemp : left.isEmpty with
  | true =>
    have : left = [] := List.isEmpty_iff.mp hemp
    subst this
    refine i_nT ?_
    repeat' contradiction
    have := q S' hsub
    rw [hfr, frBs] at this
    exact this
  | false =>
    refine i_nF ?_
    obtain ⟨left, x, rfl⟩ := last_of hemp
    have tgx := (Tgs_app.mp tg).2
    rw [Tgs] at tgx
    have tgl := (Tgs_app.mp tg).1
    rw [szs_app, szs, szs, Nat.add_zero] at hsz ⊢
    obtain ⟨ax, hax⟩ := hal x (by simp)
    have hall : ∀ y ∈ left, ∃ a, allN y = some a := fun y hy => hal y (by simp [hy])
    rw [frBs_app, frBs, frBs, Bool.and_true] at hfr
    have hsx := sz_pos x
    repeat' contradiction
    refine m_popL e1 ?_
    have hsub2 : Sub S (up S' t (.lst left)) := hsub.then ht
    have e2 : up S' t (.lst left) t = some (.lst left) := up_same
    generalize up S' t (.lst left) = S2 at hsub2 e2
    have hi := is_tup (tgx.1.sub hsub2).kd
    repeat' contradiction
    refine x_isi hi ?_
    refine x_tru rfl ?_
    cases hk : kTup x with
    | false =>
      have efr : frB x = true := by cases x <;> first | (cases hk; done) | simp [frB]
      rw [efr, Bool.and_true] at hfr
      refine i_F ?_
      refine z_nil ?_
      refine z_nil ⟨szs left, by omega, left, _, _, _, rfl, e2, tgl, hsub2, rfl, by omega, hall, hfr⟩
    | true =>
      obtain ⟨es, rfl⟩ := kT_tup hk
      have tge := tgx.1
      rw [Tg] at tge
      rw [sz] at hsz hsx ⊢
      have hse : es.isEmpty = false ∧ allNs es = some ax := by
        rw [allN] at hax
        split at hax
        · cases hax
        · rename_i he
          exact ⟨by simpa using he, hax⟩
      have hpart := allNs_mem hse.2
      have hshe : shDs es := tge.sh
      have hl1 := szs_len es
      have hl2 := szs_len left
      refine i_T ?_
      repeat' contradiction
      refine lc_ok (fun i acc S' => acc = ((es.take i).map fun d => D.str (mn d)) ∧ Sub S S' ∧ S' t = some (.lst left)) (fun i y acc S' K hx hI hK => ⟨trivial, ?_⟩) (fun acc S' hI => ⟨trivial, ?_⟩) ⟨rfl, hsub2, e2⟩
      · obtain ⟨rfl, hsub3, e3⟩ := hI
        have hym := List.mem_of_getElem? hx
        have hy1 := sz_mem hym
        obtain ⟨ay, hay⟩ := hpart y hym
        repeat' contradiction
        refine law_all_names (k := k) hN hW ((Tgs_iff.mp tge y hym).sub hsub3) (by omega) (fun z => by rw [hay] at z; cases z) ?_
        intro ns hns S4 t4 hs4 ht4 e4
        rw [hay] at hns
        cases hns
        have een : ay = nms y := allN_nms y ay hay
        repeat' contradiction
        refine b_sortSR e4 ?_
        repeat' contradiction
        have hne := allN_ne y ay hay
        have hmn : ∃ r, sortS ay = mn y :: r := by
          unfold mn
          rw [← een]
          cases e : sortS ay with
          | nil =>
            have := (sortS_perm ay).length_eq
            rw [e] at this
            exact absurd (List.length_eq_zero_iff.mp this.symm) hne
          | cons z r => exact ⟨r, rfl⟩
        obtain ⟨r, er⟩ := hmn
        have a0 : atI ((ay.mergeSort leS).map D.str) 0 = some (.str (mn y)) := by
          show atI ((sortS ay).map D.str) 0 = _
          rw [er]
          exact atI_zero _ _
        refine p_lstN a0 ?_
        repeat' contradiction
        refine hK _ _ ⟨?_, hsub3.trans hs4, hs4 _ _ e3⟩
        rw [Option.toList_some, List.take_add_one, hx, List.map_append]
        rfl
      · obtain ⟨rfl, hsub3, e3⟩ := hI
        rw [List.take_length]
        repeat' contradiction
        have em2 : (es.map fun d => D.str (mn d)) = (es.map mn).map .str := by rw [List.map_map]; rfl
        rw [em2]
        refine r_mn fun t3 ht3 => ?_
        have hS3 : S t3 = none := hsub3.none ht3
        have et3 : up S' t3 (.lst ((es.map mn).map .str)) t3 = some (.lst ((es.map mn).map .str)) := up_same
        have ett : up S' t3 (.lst ((es.map mn).map .str)) t = some (.lst left) := up_keep ht3 e3
        have hsub4 : Sub S (up S' t3 (.lst ((es.map mn).map .str))) := hsub3.then hS3
        generalize up S' t3 (.lst ((es.map mn).map .str)) = S4 at et3 ett hsub4
        have efr : frB (.tup es) = ((decide (2 ≤ es.length) && decide (sortS (es.map mn) = es.map mn)) && frBs es) := by rw [frB]
        rw [efr] at hfr
        repeat' contradiction
        by_cases h2 : 2 ≤ es.length
        · refine i_N (by omega) ?_
          rw [decide_eq_true h2, Bool.true_and] at hfr
          repeat' contradiction
          have hsm : ∀ x ∈ es.map mn, Shrt x := fun x hx => by
            obtain ⟨y, hy, rfl⟩ := List.mem_map.mp hx
            obtain ⟨ay, hay⟩ := hpart y hy
            have een : ay = nms y := allN_nms y ay hay
            have hne := allN_ne y ay hay
            have hm : mn y ∈ ay := by
              unfold mn
              rw [← een]
              cases e : sortS ay with
              | nil =>
                have := (sortS_perm ay).length_eq
                rw [e] at this
                exact absurd (List.length_eq_zero_iff.mp this.symm) hne
              | cons z r => exact (sortS_perm ay).mem_iff.mp (by rw [e]; exact List.mem_cons_self)
            exact (allN_wd y ay hay (shDs_all.mp hshe y hy) _ hm).1.sh
          refine b_sortSR et3 ?_
          repeat' contradiction
          refine c_neSL et3 (fun x hx => hsm x ((sortS_perm _).mem_iff.mp hx)) hsm ?_
          refine x_bl ?_
          by_cases h3 : sortS (es.map mn) = es.map mn
          · rw [show (es.map mn).mergeSort leS = es.map mn from h3, decide_eq_true rfl]
            rw [decide_eq_true h3, Bool.true_and] at hfr
            repeat' contradiction
            refine r_mn fun t5 ht5 => ?_
            have eL : up S4 t5 (.lst es) t = some (.lst left) := up_keep ht5 ett
            have hS5 : S t5 = none := hsub4.none ht5
            repeat' contradiction
            refine m_extend eL up_same (by rw [sizeLine_eq]; omega) ?_
            refine z_nil ?_
            refine z_nil ⟨szs (left ++ es), by rw [szs_app]; omega, left ++ es, _, _, _, rfl, up_same, Tgs_app.mpr ⟨tgl, tge⟩, (hsub4.then hS5).then ht, rfl, by rw [szs_app]; omega, ?_, by rw [frBs_app]; exact hfr⟩
            intro y hy
            rcases List.mem_append.mp hy with hy | hy
            · exact hall y hy
            · exact hpart y hy
          · rw [show decide ((es.map mn).mergeSort leS = es.map mn) = false from decide_eq_false h3]
            rw [decide_eq_false h3, Bool.false_and, Bool.and_false] at hfr
            repeat' contradiction
            have := q S4 hsub4
            rw [hfr] at this
            exact this
        · refine i_D (by omega) ?_
          rw [decide_eq_false h2, Bool.false_and, Bool.false_and, Bool.and_false] at hfr
          repeat' contradiction
          have := q S4 hsub4
          rw [hfr] at this
          exact this
end
end DP

set_option maxRecDepth 100000
set_option maxHeartbeats 1000000
/-! DpO6: what the defs about trees do, whatever their numbers. -/
namespace DP
open PySem L2
local macro_rules
  | `(tactic| get_elem_tactic_trivial) => `(tactic| first
    | with_reducible assumption
    | exact up_same
    | (refine up_keep (by with_reducible assumption) ?_; get_elem_tactic_trivial))
local macro_rules
  | `(tactic| decreasing_trivial) => `(tactic| first
    | with_reducible assumption
    | (with_unfolding_all exact Nat.le_of_ble_eq_true rfl)
    | omega
    | exact shrt_of (by with_unfolding_all rfl)
    | exact sh_cut (by with_reducible assumption) _ _
    | exact cmul_l (by omega) (by omega)
    | exact cmul_r (by omega) (by omega)
    | exact pow_lit (by decide) (by decide) (by decide))
local macro_rules
  | `(tactic| contradiction) => `(tactic| with_reducible first
    | assumption | (apply r_var; with_unfolding_all rfl)
    | apply r_cst | apply r_glo | apply r_tup | apply r_lst | apply r_dK | apply r_bin | apply r_neg | apply r_cmp | apply r_chn
    | apply r_not | apply r_and | apply r_or | apply r_ite | apply r_ix | apply r_sl | apply r_rev | apply r_isi | apply r_bi | apply r_me | apply r_call | apply r_lc
    | apply r_es0 | apply r_es1 | apply r_rs0 | apply r_rs1 | apply r_o0 | apply r_o1 | apply r_part | apply r_ot0 | apply r_ot1 | apply r_mv
    | apply t_not | apply t_and | apply t_or | apply t_cmp | apply t_chn | (apply t_var; with_unfolding_all rfl) | apply t_isi | apply t_bi | apply t_me | apply t_call | apply t_ix
    | (apply x_len; with_unfolding_all exact Nat.le_of_ble_eq_true rfl) | (apply x_ty; with_unfolding_all exact ⟨_, rfl⟩) | (apply x_tyL; get_elem_tactic_trivial; rfl)
    | apply x_bl | apply x_int | (apply x_tru; with_unfolding_all rfl) | (apply x_isi; with_unfolding_all rfl)
    | apply i_T | apply i_F | apply i_nT | apply i_nF
    | apply o_addI | (apply o_addS; decreasing_trivial) | (apply o_addSS; decreasing_trivial; decreasing_trivial) | (apply o_addT; decreasing_trivial) | (apply o_addTT; decreasing_trivial; decreasing_trivial) | apply o_sub
    | (apply o_mulI; decreasing_trivial) | (apply o_mulS; decreasing_trivial) | (apply o_fdiv; decreasing_trivial) | (apply o_mod; decreasing_trivial) | (apply o_pow; decreasing_trivial)
    | (apply o_addNN; decreasing_trivial) | (apply o_addRN; get_elem_tactic_trivial; decreasing_trivial) | (apply o_addNR; get_elem_tactic_trivial; decreasing_trivial) | (apply o_addRR; get_elem_tactic_trivial; get_elem_tactic_trivial; decreasing_trivial)
    | apply c_eqI | apply c_eqS | apply c_eqB | apply c_neI | apply c_neS | apply c_neB | apply c_ltI | apply c_ltS | apply c_gtI | apply c_leI | apply c_geI | apply c_inS | apply c_ninS
    | (apply p_str; decreasing_trivial; with_unfolding_all rfl) | (apply p_tup; with_unfolding_all rfl) | (apply p_lstN; with_unfolding_all rfl) | (apply p_lst; get_elem_tactic_trivial; with_unfolding_all rfl) | (apply p_dK; get_elem_tactic_trivial; with_unfolding_all rfl)
    | (apply l_strS; decreasing_trivial) | (apply l_str; decreasing_trivial) | apply l_tup | apply l_fz | apply l_lstN | (apply l_lst; get_elem_tactic_trivial) | apply v_tup | apply v_lstN | (apply v_lst; get_elem_tactic_trivial)
    | (apply b_lenS; decreasing_trivial) | apply b_lenT | apply b_lenN | (apply b_lenL; get_elem_tactic_trivial) | apply b_abs | apply b_intI | apply b_intB | apply b_tuplN | apply b_tuplT | (apply b_tuplL; get_elem_tactic_trivial) | apply b_listN | apply b_listT | (apply b_listL; get_elem_tactic_trivial)
    | apply z_nil | apply z_exp | apply z_set | apply z_ret | apply z_ife | apply z_for | apply z_brk | apply z_cnt | apply z_sub
    | apply bn_name | (apply q_str; decreasing_trivial) | apply q_tup | apply q_fz | apply q_n | (apply q_ref; get_elem_tactic_trivial) | apply w_seq | apply w_rng1 | apply w_rng2)
local macro_rules
  | `(tactic| contradiction) => `(tactic| with_reducible first
    | (apply p_cells; get_elem_tactic_trivial) | (apply p_at; get_elem_tactic_trivial) | (apply p_left; get_elem_tactic_trivial)
    | (apply y_at; get_elem_tactic_trivial) | (apply y_left; get_elem_tactic_trivial))
local macro_rules
  | `(tactic| contradiction) => `(tactic| with_reducible first
    | apply r_lc2 | apply w_enum | apply e_n | apply c_isnotB | apply b_min | apply bn_tup2)
local macro_rules
  | `(tactic| contradiction) => `(tactic| with_reducible first
    | apply t_emp | apply e_tT | apply e_nT | apply e_nN | (apply e_nL; get_elem_tactic_trivial))
def bLRight (lw ll lt pw pl pt : Nat) : List C := [.asg (.name 1) (.bi .repr [(.var 0)]), .asg (.name 2) (.lst [(.call lw [(.var 0)]), (.call ll [(.var 0)]), (.call lt [(.var 0)])]), .for (.name 3) (.rng1 (.cst (.int 2))) [.ife (.or (.cmp .ne (.bi .repr [(.lst [(.call pw [(.var 0)]), (.call pl [(.var 0)]), (.call pt [(.var 0)])])]) (.bi .repr [(.var 2)])) (.cmp .ne (.bi .repr [(.var 0)]) (.var 1))) [.ret (.cst (.bl false))] []], .ret (.cst (.bl true))]
theorem sp_bls (a b c : Bool) : Sp (.list (encDs [.bl a, .bl b, .bl c])) :=
  ⟨by simp [encDs, encD, PyData.showable, PyData.showableAll], by simp [encDs, encD, PyData.depth, PyData.depthAll], by simp [encDs, encD, PyData.canLay0, PyData.canLayAll0], by simp [encDs, encD, wt, wts]; decide⟩
section
variable {B : List Fn} {f n : Nat} {S : Sto} {Q : PR}
theorem law_is_tree_all {k fn fr fw : Nat} (hT : B[f]? = some ⟨1, 2, bLIsTree fn fr⟩) (hN : B[fn]? = some ⟨1, 4, bLAllNames fw⟩) (hR : B[fr]? = some ⟨1, 5, bLForksRight fn⟩) (hW : B[fw]? = some ⟨1, 3, bLIsName⟩) {d : D} (hd : Th S d)
    (q : ∀ S', Sub S S' → Q (.v (.bl (treeL d))) S') : W B (k + 4) f [d] S Q := by
  refine enter (b := ⟨1, 2, bLIsTree fn fr⟩) (ρ := [some d, none]) hT rfl rfl ?_
  show wSs (W B (k + 3)) (bLIsTree fn fr) _ _ _
  delta bLIsTree
  obtain ⟨dc, ls, _, g, _, hz⟩ := hd
  repeat' contradiction
  refine law_all_names (k := k + 1) hN hW g hz (fun hn S1 hs1 => ?_) ?_
  · have e : treeL d = false := by unfold treeL; rw [hn]
    rw [e] at q
    repeat' contradiction
    refine c_isN ?_
    refine x_bl (k := true) ?_
    repeat' contradiction
    exact q S1 hs1
  · intro ns hns S1 t hs1 ht et
    have e : treeL d = ((decide (ns.length ≤ 10) && oneB ns) && frB d) := by unfold treeL; rw [hns]
    rw [e] at q
    have hl : (ns.map D.str).length = ns.length := List.length_map _
    have hn2 : ns.length ≤ sz d := by rw [allN_nms d ns hns]; exact nms_sz d
    repeat' contradiction
    refine c_isN ?_
    refine x_bl (k := false) ?_
    repeat' contradiction
    by_cases h10 : ns.length ≤ 10
    · refine i_N (by omega) ?_
      rw [decide_eq_true h10, Bool.true_and] at q
      repeat' contradiction
      refine r_lsetR et (by omega) ?_ rfl
      repeat' contradiction
      have hm := met_len2 (fun i => ns.getD i ⟨#[]⟩) ns.length
      have hm : (metS ns).length ≤ ns.length := hm
      by_cases h1 : (metS ns).length = ns.length
      · have e1 : oneB ns = true := decide_eq_true h1
        rw [e1, Bool.true_and] at q
        refine i_N (by omega) ?_
        repeat' contradiction
        exact law_forks_right (k := k) hR hN hW (g.sub hs1) hz ⟨ns, hns⟩ fun S2 hs2 => q S2 (hs1.trans hs2)
      · have e1 : oneB ns = false := decide_eq_false h1
        rw [e1, Bool.false_and] at q
        refine i_D (by omega) ?_
        repeat' contradiction
        exact q S1 hs1
    · refine i_D (by omega) ?_
      rw [decide_eq_false h10, Bool.false_and, Bool.false_and] at q
      repeat' contradiction
      exact q S1 hs1
theorem law_is_lot_all {k fw : Nat} (hT : B[f]? = some ⟨1, 2, bLIsLot fw⟩) (hW : B[fw]? = some ⟨1, 3, bLIsName⟩) {d : D} (hd : Th S d) (q : Q (.v (.bl (lotB d))) S) : W B (k + 2) f [d] S Q := by
  refine enter (b := ⟨1, 2, bLIsLot fw⟩) (ρ := [some d, none]) hT rfl rfl ?_
  show wSs (W B (k + 1)) (bLIsLot fw) _ _ _
  delta bLIsLot
  have hi := is_tup hd.kd
  cases hk : kTup d with
  | false =>
    rw [hk] at hi
    rw [lot_no hk] at q
    repeat' contradiction
    refine x_isi hi ?_
    repeat' contradiction
  | true =>
    obtain ⟨ds, rfl⟩ := kT_tup hk
    obtain ⟨dc, ls, _, g, _, hz⟩ := hd
    have hsh := g.sh
    rw [shD] at hsh
    rw [Tg] at g
    rw [sz] at hz
    have hlen := szs_len ds
    replace q : Q (.v (.bl ((!ds.isEmpty && ds.all wdB) && upB (ds.map fst1)))) S := q
    repeat' contradiction
    cases he : ds.isEmpty with
    | true =>
      rw [he] at q
      simp only [Bool.not_true, Bool.not_false, Bool.true_and, Bool.false_and] at q
      repeat' contradiction
    | false =>
      rw [he] at q
      simp only [Bool.not_true, Bool.not_false, Bool.true_and, Bool.false_and] at q
      repeat' contradiction
      refine lc_ifD (fun d => d) (fun d => !wdB d) trivial (fun x hx K hK => ?_) ?_
      · repeat' contradiction
        refine law_is_name_all hW ((Tgs_iff.mp g x hx).kd) ?_
        refine x_tru rfl ?_
        cases hw : wdB x with
        | true =>
          rw [hw] at hK
          repeat' contradiction
          exact hK
        | false =>
          rw [hw] at hK
          repeat' contradiction
          exact hK
      · repeat' contradiction
        have e : ((ds.filter fun d => !wdB d).map fun d => d).isEmpty = ds.all wdB := by
          rw [Bool.eq_iff_iff, List.isEmpty_iff, List.map_eq_nil_iff, List.filter_eq_nil_iff, List.all_eq_true]
          simp
        rw [e]
        cases ha : ds.all wdB with
        | false =>
          rw [ha] at q
          simp only [Bool.true_and, Bool.false_and] at q
          repeat' contradiction
        | true =>
          rw [ha] at q
          simp only [Bool.true_and, Bool.false_and] at q
          obtain ⟨xs, rfl, hw⟩ := all_words ha hsh
          rw [fst_strs] at q
          rw [List.length_map] at hlen
          repeat' contradiction
          refine r_sset ?_
          repeat' contradiction
          refine x_ssetS (xs := xs) (r := .v (.tup (xs.map .str))) (Q := fun r S1 => wE (W B (k + 1)) (.bi .list [.var 0]) [some (.tup (xs.map .str)), none] S1 fun y S2 => cmpW .eq r y S2 Q) rfl (by omega) fun ys hn hm => ?_
          show wE (W B (k + 1)) (.bi .list [.var 0]) [some (.tup (xs.map .str)), none] S fun y S2 => cmpW .eq (.n (.lst ((sortS ys).map .str))) y S2 Q
          repeat' contradiction
          refine c_eqSS (fun x hx => (hw x ((hm x).mp ((sortS_perm _).mem_iff.mp hx))).1.sh) (fun x hx => (hw x hx).1.sh) ?_
          rw [up_set hn hm]
          exact q
theorem law_right_ok {k lw ll lt pw pl pt fn fr ff fs fl : Nat} (hT : B[f]? = some ⟨1, 4, bLRight lw ll lt pw pl pt⟩) (h1 : B[lw]? = some ⟨1, 3, bLIsName⟩) (h2 : B[ll]? = some ⟨1, 2, bLIsLot lw⟩) (h3 : B[lt]? = some ⟨1, 2, bLIsTree fn fr⟩) (h4 : B[fn]? = some ⟨1, 4, bLAllNames lw⟩) (h5 : B[fr]? = some ⟨1, 5, bLForksRight fn⟩)
    (p1 : B[pw]? = some ⟨1, 2, bIsName⟩) (p2 : B[pl]? = some ⟨1, 3, bIsLot2 pw⟩) (p3 : B[pt]? = some ⟨1, 2, bIsTree ff fs⟩) (p4 : B[ff]? = some ⟨2, 5, bIsFork pw ff fl⟩) (p5 : B[fl]? = some ⟨1, 1, bLeast⟩) (p6 : B[fs]? = some ⟨1, 3, bStanding fs⟩)
    {d : D} (hd : Th S d) (q : ∀ S', Sub S S' → Q (.v (.bl true)) S') : W B (k + 13) f [d] S Q := by
  refine enter (b := ⟨1, 4, bLRight lw ll lt pw pl pt⟩) (ρ := [some d, none, none, none]) hT rfl rfl ?_
  show wSs (W B (k + 12)) (bLRight lw ll lt pw pl pt) _ _ _
  delta bLRight
  obtain ⟨x, hx⟩ := hd.repr
  repeat' contradiction
  refine hx S Sub.rfl _ ?_
  repeat' contradiction
  refine law_is_name_all (k := k + 11) h1 hd.kd ?_
  repeat' contradiction
  refine law_is_lot_all (k := k + 10) h2 h1 hd ?_
  repeat' contradiction
  refine law_is_tree_all (k := k + 8) h3 h4 h5 h1 hd fun S1 hs1 => ?_
  repeat' contradiction
  refine r_mn fun t ht => ?_
  have hSt : S t = none := hs1.none ht
  have hsub : Sub S (up S1 t (.lst [.bl (wdB d), .bl (lotB d), .bl (treeL d)])) := hs1.then hSt
  have et : up S1 t (.lst [.bl (wdB d), .bl (lotB d), .bl (treeL d)]) t = some (.lst [.bl (wdB d), .bl (lotB d), .bl (treeL d)]) := up_same
  generalize up S1 t (.lst [.bl (wdB d), .bl (lotB d), .bl (treeL d)]) = S2 at hsub et
  repeat' contradiction
  refine ⟨by decide, by decide, ?_⟩
  refine for_ok (fun i ρ S' => ∃ o3, ρ = [some d, some (.str x), some (.ref t), o3] ∧ Sub S S' ∧ S' t = some (.lst [.bl (wdB d), .bl (lotB d), .bl (treeL d)])) ?_ ?_ ⟨none, rfl, hsub, et⟩
  · rintro i y ρ S' K hy ⟨o3, rfl, hs, e⟩ hK
    refine ⟨trivial, ?_⟩
    repeat' contradiction
    refine is_name_all (k := k + 11) p1 ((hd.sub hs).kd) ?_
    repeat' contradiction
    refine is_lot_all (k := k + 10) p2 p1 (hd.sub hs) ?_
    repeat' contradiction
    refine is_tree_all (k := k) p3 p4 p1 p5 p6 (hd.sub hs) fun S3 hs3 => ?_
    repeat' contradiction
    refine b_reprN rfl (sp_bls _ _ _) ?_
    repeat' contradiction
    refine b_reprR (hs3 _ _ e) rfl (sp_bls _ _ _) ?_
    rw [tree_both hd.sh]
    repeat' contradiction
    rw [decide_eq_true rfl]
    repeat' contradiction
    refine hx S3 (hs.trans hs3) _ ?_
    repeat' contradiction
    rw [decide_eq_true rfl]
    repeat' contradiction
    exact hK _ _ ⟨_, rfl, hs.trans hs3, hs3 _ _ e⟩
  · rintro ρ S' ⟨o3, rfl, hs, e⟩
    refine ⟨trivial, ?_⟩
    repeat' contradiction
    exact q S' hs
end
end DP

set_option maxRecDepth 100000
set_option maxHeartbeats 1000000
/-! DpO7: what the defs about trees do, whatever their numbers. -/
namespace DP
open PySem L2
local macro_rules
  | `(tactic| get_elem_tactic_trivial) => `(tactic| first
    | with_reducible assumption
    | exact up_same
    | (refine up_keep (by with_reducible assumption) ?_; get_elem_tactic_trivial))
local macro_rules
  | `(tactic| decreasing_trivial) => `(tactic| first
    | with_reducible assumption
    | (with_unfolding_all exact Nat.le_of_ble_eq_true rfl)
    | omega
    | exact shrt_of (by with_unfolding_all rfl)
    | exact sh_cut (by with_reducible assumption) _ _
    | exact cmul_l (by omega) (by omega)
    | exact cmul_r (by omega) (by omega)
    | exact pow_lit (by decide) (by decide) (by decide))
local macro_rules
  | `(tactic| contradiction) => `(tactic| with_reducible first
    | assumption | (apply r_var; with_unfolding_all rfl)
    | apply r_cst | apply r_glo | apply r_tup | apply r_lst | apply r_dK | apply r_bin | apply r_neg | apply r_cmp | apply r_chn
    | apply r_not | apply r_and | apply r_or | apply r_ite | apply r_ix | apply r_sl | apply r_rev | apply r_isi | apply r_bi | apply r_me | apply r_call | apply r_lc
    | apply r_es0 | apply r_es1 | apply r_rs0 | apply r_rs1 | apply r_o0 | apply r_o1 | apply r_part | apply r_ot0 | apply r_ot1 | apply r_mv
    | apply t_not | apply t_and | apply t_or | apply t_cmp | apply t_chn | (apply t_var; with_unfolding_all rfl) | apply t_isi | apply t_bi | apply t_me | apply t_call | apply t_ix
    | (apply x_len; with_unfolding_all exact Nat.le_of_ble_eq_true rfl) | (apply x_ty; with_unfolding_all exact ⟨_, rfl⟩) | (apply x_tyL; get_elem_tactic_trivial; rfl)
    | apply x_bl | apply x_int | (apply x_tru; with_unfolding_all rfl) | (apply x_isi; with_unfolding_all rfl)
    | apply i_T | apply i_F | apply i_nT | apply i_nF
    | apply o_addI | (apply o_addS; decreasing_trivial) | (apply o_addSS; decreasing_trivial; decreasing_trivial) | (apply o_addT; decreasing_trivial) | (apply o_addTT; decreasing_trivial; decreasing_trivial) | apply o_sub
    | (apply o_mulI; decreasing_trivial) | (apply o_mulS; decreasing_trivial) | (apply o_fdiv; decreasing_trivial) | (apply o_mod; decreasing_trivial) | (apply o_pow; decreasing_trivial)
    | (apply o_addNN; decreasing_trivial) | (apply o_addRN; get_elem_tactic_trivial; decreasing_trivial) | (apply o_addNR; get_elem_tactic_trivial; decreasing_trivial) | (apply o_addRR; get_elem_tactic_trivial; get_elem_tactic_trivial; decreasing_trivial)
    | apply c_eqI | apply c_eqS | apply c_eqB | apply c_neI | apply c_neS | apply c_neB | apply c_ltI | apply c_ltS | apply c_gtI | apply c_leI | apply c_geI | apply c_inS | apply c_ninS
    | (apply p_str; decreasing_trivial; with_unfolding_all rfl) | (apply p_tup; with_unfolding_all rfl) | (apply p_lstN; with_unfolding_all rfl) | (apply p_lst; get_elem_tactic_trivial; with_unfolding_all rfl) | (apply p_dK; get_elem_tactic_trivial; with_unfolding_all rfl)
    | (apply l_strS; decreasing_trivial) | (apply l_str; decreasing_trivial) | apply l_tup | apply l_fz | apply l_lstN | (apply l_lst; get_elem_tactic_trivial) | apply v_tup | apply v_lstN | (apply v_lst; get_elem_tactic_trivial)
    | (apply b_lenS; decreasing_trivial) | apply b_lenT | apply b_lenN | (apply b_lenL; get_elem_tactic_trivial) | apply b_abs | apply b_intI | apply b_intB | apply b_tuplN | apply b_tuplT | (apply b_tuplL; get_elem_tactic_trivial) | apply b_listN | apply b_listT | (apply b_listL; get_elem_tactic_trivial)
    | apply z_nil | apply z_exp | apply z_set | apply z_ret | apply z_ife | apply z_for | apply z_brk | apply z_cnt | apply z_sub
    | apply bn_name | (apply q_str; decreasing_trivial) | apply q_tup | apply q_fz | apply q_n | (apply q_ref; get_elem_tactic_trivial) | apply w_seq | apply w_rng1 | apply w_rng2)
local macro_rules
  | `(tactic| contradiction) => `(tactic| with_reducible first
    | (apply p_cells; get_elem_tactic_trivial) | (apply p_at; get_elem_tactic_trivial) | (apply p_left; get_elem_tactic_trivial)
    | (apply y_at; get_elem_tactic_trivial) | (apply y_left; get_elem_tactic_trivial))
local macro_rules
  | `(tactic| contradiction) => `(tactic| with_reducible first
    | apply r_lc2 | apply w_enum | apply e_n | apply c_isnotB | apply b_min | apply bn_tup2)
local macro_rules
  | `(tactic| contradiction) => `(tactic| with_reducible first
    | apply t_emp | apply e_tT | apply e_nT | apply e_nN | (apply e_nL; get_elem_tactic_trivial))
def bLOdd (fd : Nat) : List C := [.asg (.name 1) (.lst [(.cst .non), (.cst (.bl true)), (.cst (.bl false)), (.cst (.int 0)), (.cst (.int 7)), (.bin .pow (.cst (.int 10)) (.cst (.int 40))), (.cst (.str "")), (.cst (.str "A")), (.cst (.str "a1")), (.cst (.str "aaaaaaaaa")), (.cst (.str "a b")), (.cst (.str "a\n")), (.cst (.str "~")), (.lst []), (.tup []), (.dK [] []), (.lst [(.cst (.str "a"))]), (.tup [(.cst (.str "a"))])]), .ret (.ix (.bin .add (.var 1) (.lst [(.cst (.str "aaaaaaaa")), (.cst (.str "z")), (.tup [(.cst (.str "a")), (.cst (.str "b"))]), (.dK [.inr "a"] [(.cst (.str "b"))])])) (.call fd [(.var 0), (.cst (.int 22))]))]
/-- a thing of a height and a size -/
def Bt (S : Sto) (h z : Nat) (d : D) : Prop := ∃ dc ls, (dc && ls) = false ∧ Tg S dc ls d ∧ ht d ≤ h ∧ sz d ≤ z
theorem Bt.sub {S T : Sto} {h z : Nat} {d : D} (b : Bt S h z d) (s : Sub S T) : Bt T h z d := let ⟨dc, ls, e, g, r⟩ := b; ⟨dc, ls, e, g.sub s, r⟩
theorem Bt.up {S : Sto} {h z h' z' : Nat} {d : D} (b : Bt S h z d) (h1 : h ≤ h') (h2 : z ≤ z') : Bt S h' z' d := let ⟨dc, ls, e, g, r1, r2⟩ := b; ⟨dc, ls, e, g, Nat.le_trans r1 h1, Nat.le_trans r2 h2⟩
theorem Bt.th {S : Sto} {h z : Nat} {d : D} (b : Bt S h z d) (h1 : h ≤ 33) (h2 : z ≤ 1000) : Th S d := b.up h1 h2
theorem bt_tb {S : Sto} {d : D} (h : isTb d) : Bt S (ht d) (sz d) d := ⟨false, false, rfl, tb_tg d h, Nat.le_refl _, Nat.le_refl _⟩
section
variable {S : Sto}
theorem bt_str {x : Str} (h : Shrt x) : Bt S 0 1 (.str x) := ⟨false, false, rfl, by rw [Tg]; exact h, by simp [ht], by simp [sz]⟩
theorem bt_non : Bt S 0 1 .non := ⟨false, false, rfl, by simp [Tg], by simp [ht], by simp [sz]⟩
theorem bt_bl {b : Bool} : Bt S 0 1 (.bl b) := ⟨false, false, rfl, by simp [Tg], by simp [ht], by simp [sz]⟩
theorem bt_int {i : Int} (h1 : i.natAbs.log2 < 1920) (h2 : ((toString i : String) : Str).length ≤ 1510) : Bt S 0 1 (.int i) := ⟨false, false, rfl, by rw [Tg]; exact ⟨h1, h2⟩, by simp [ht], by simp [sz]⟩
theorem bt_lst {a : Addr} {xs : List D} (ha : S a = some (.lst xs)) (hb : isTbs xs) (h1 : szs xs ≤ 60) (h2 : hts xs ≤ 20) : Bt S 0 1 (.ref a) := ⟨false, true, rfl, by rw [Tg]; exact .inl ⟨rfl, xs, ha, hb, h1, h2⟩, by simp [ht], by simp [sz]⟩
theorem bt_d0 {a : Addr} (ha : S a = some (.dK [])) : Bt S 0 1 (.ref a) := ⟨true, false, rfl, by rw [Tg]; exact .inr ⟨rfl, .inl ha⟩, by simp [ht], by simp [sz]⟩
theorem bt_d1 {a : Addr} (ha : S a = some (.dK [(.inr "a", .str "b")])) : Bt S 0 1 (.ref a) := ⟨true, false, rfl, by rw [Tg]; exact .inr ⟨rfl, .inr ha⟩, by simp [ht], by simp [sz]⟩
theorem bt_tup0 : Bt S 1 1 (.tup []) := ⟨false, false, rfl, by simp [Tg, Tgs], by simp [ht, hts], by simp [sz, szs]⟩
/-- one thing among names -/
theorem bt_one {xs ys : List D} {o : D} {h z : Nat} (hx : isTbs xs) (hy : isTbs ys) (ho : Bt S h z o) {h' z' : Nat} (h1 : hts xs + 1 ≤ h') (h2 : hts ys + 1 ≤ h') (h3 : h + 1 ≤ h') (h4 : szs xs + z + szs ys + 1 ≤ z') : Bt S h' z' (.tup (xs ++ [o] ++ ys)) := by
  obtain ⟨dc, ls, e, g, r1, r2⟩ := ho
  refine ⟨dc, ls, e, ?_, ?_, ?_⟩
  · rw [Tg, Tgs_app, Tgs_app, Tgs, Tgs]
    exact ⟨⟨tbs_tgs xs hx, g, trivial⟩, tbs_tgs ys hy⟩
  · have e1 : hts (xs ++ [o] ++ ys) = max (max (hts xs) (ht o)) (hts ys) := by rw [hts_app2, hts_app2, hts, hts, Nat.max_zero]
    rw [ht, e1]
    omega
  · have e1 : szs (xs ++ [o] ++ ys) = szs xs + sz o + szs ys := by rw [szs_app, szs_app, szs, szs, Nat.add_zero]
    rw [sz, e1]
    omega
theorem bt_tbs {xs : List D} (hx : isTbs xs) {h' z' : Nat} (h1 : hts xs + 1 ≤ h') (h4 : szs xs + 1 ≤ z') : Bt S h' z' (.tup xs) := ⟨false, false, rfl, by rw [Tg]; exact tbs_tgs xs hx, by rw [ht]; exact h1, by rw [sz]; exact h4⟩
end
theorem p_pick {S : Sto} {Q : PR} {xs : List D} {r : Int} (h0 : 0 ≤ r) (h1 : r < xs.length) (q : ∀ o ∈ xs, Q (.v o) S) : ixW (.n (.lst xs)) (.v (.int r)) S Q :=
  let ⟨o, e, m⟩ := atI_lt h0 h1
  p_lstN e (q o m)
theorem p_pickR {S : Sto} {Q : PR} {a : Addr} {xs : List D} {r : Int} (ha : S a = some (.lst xs)) (h0 : 0 ≤ r) (h1 : r < xs.length) (q : ∀ o ∈ xs, Q (.v o) S) : ixW (.v (.ref a)) (.v (.int r)) S Q :=
  let ⟨o, e, m⟩ := atI_lt h0 h1
  p_lst ha e (q o m)
section
variable {B : List Fn} {f n : Nat} {S : Sto} {Q : PR}
theorem odd_ok {k fd : Nat} (hT : B[f]? = some ⟨1, 2, bLOdd fd⟩) (hD : B[fd]? = some ⟨2, 8, bDraw⟩) {p c : Addr} (hp : PenOk S p c n) (hn : n + 1 < 60000)
    (q : ∀ S' o, PenOk S' p c (n + 1) → Ext p S S' → Bt (rm S' p) 1 3 o → Q (.v o) S') : W B (k + 2) f [.ref p] S Q := by
  refine enter (b := ⟨1, 2, bLOdd fd⟩) (ρ := [some (.ref p), none]) hT rfl rfl ?_
  show wSs (W B (k + 1)) (bLOdd fd) _ _ _
  delta bLOdd
  repeat' contradiction
  refine r_mn fun a1 ha1 => ?_
  repeat' contradiction
  refine r_mn fun a2 ha2 => ?_
  repeat' contradiction
  refine r_mn fun a3 ha3 => ?_
  repeat' contradiction
  refine r_mn fun a4 ha4 => ?_
  repeat' contradiction
  refine r_mn fun a5 ha5 => ?_
  repeat' contradiction
  refine draw_ok hD (((((hp.new ha1).new ha2).new ha3).new ha4).new ha5) (by omega) (by omega) (by omega) ?_
  intro S2 r hp2 hf2 g0 g1
  have n1 : a1 ≠ p := hp.ne ha1
  have n2 : a2 ≠ p := (hp.new ha1).ne ha2
  have n3 : a3 ≠ p := ((hp.new ha1).new ha2).ne ha3
  have n5 : a5 ≠ p := ((((hp.new ha1).new ha2).new ha3).new ha4).ne ha5
  have e1 : rm S2 p a1 = some (.lst []) := rm_get n1 ((hf2 a1 n1).trans (by get_elem_tactic_trivial))
  have e2 : rm S2 p a2 = some (.dK []) := rm_get n2 ((hf2 a2 n2).trans (by get_elem_tactic_trivial))
  have e3 : rm S2 p a3 = some (.lst [.str "a"]) := rm_get n3 ((hf2 a3 n3).trans (by get_elem_tactic_trivial))
  have e5 : rm S2 p a5 = some (.dK [(.inr "a", .str "b")]) := rm_get n5 ((hf2 a5 n5).trans up_same)
  have hE2 : Ext p S S2 := fun b o hb e => (hf2 b hb).trans (up_keep ha5 (up_keep ha4 (up_keep ha3 (up_keep ha2 (up_keep ha1 e)))))
  have wa : isTbs [.str "a"] := by rw [isTbs_iff]; intro d hd; rw [List.mem_singleton] at hd; subst hd; rw [isTb]; exact pool_wd _ List.mem_cons_self
  have wab : isTbs [.str "a", .str "b"] := by
    rw [isTbs_iff]
    intro d hd
    rcases List.mem_cons.mp hd with e | e
    · subst e; rw [isTb]; exact pool_wd _ List.mem_cons_self
    · rw [List.mem_singleton] at e; subst e; rw [isTb]; exact pool_wd _ (by simp [pool])
  clear hf2 ha1 ha2 ha3 ha4 ha5
  refine p_pick g0 (by exact g1) ?_
  refine fun o ho => q S2 o hp2 hE2 ?_
  revert o
  have st : ∀ {x : Str}, Shrt x → Bt (rm S2 p) 1 3 (.str x) := fun h => (bt_str h).up (by decide) (by decide)
  refine List.forall_mem_append.mpr ⟨?_, ?_⟩
  · refine List.forall_mem_cons.mpr ⟨bt_non.up (by decide) (by decide), ?_⟩
    refine List.forall_mem_cons.mpr ⟨bt_bl.up (by decide) (by decide), ?_⟩
    refine List.forall_mem_cons.mpr ⟨bt_bl.up (by decide) (by decide), ?_⟩
    refine List.forall_mem_cons.mpr ⟨(bt_int (by decide) (Nat.le_of_ble_eq_true rfl)).up (by decide) (by decide), ?_⟩
    refine List.forall_mem_cons.mpr ⟨(bt_int (by decide) (Nat.le_of_ble_eq_true rfl)).up (by decide) (by decide), ?_⟩
    refine List.forall_mem_cons.mpr ⟨(bt_int (by decide +kernel) (Nat.le_of_ble_eq_true (by decide +kernel))).up (by decide) (by decide), ?_⟩
    refine List.forall_mem_cons.mpr ⟨st (shrt_of rfl), ?_⟩
    refine List.forall_mem_cons.mpr ⟨st (shrt_of rfl), ?_⟩
    refine List.forall_mem_cons.mpr ⟨st (shrt_of rfl), ?_⟩
    refine List.forall_mem_cons.mpr ⟨st (shrt_of rfl), ?_⟩
    refine List.forall_mem_cons.mpr ⟨st (shrt_of rfl), ?_⟩
    refine List.forall_mem_cons.mpr ⟨st (shrt_of rfl), ?_⟩
    refine List.forall_mem_cons.mpr ⟨st (shrt_of rfl), ?_⟩
    refine List.forall_mem_cons.mpr ⟨(bt_lst e1 (by simp [isTbs]) (by simp [szs]) (by simp [hts])).up (by decide) (by decide), ?_⟩
    refine List.forall_mem_cons.mpr ⟨bt_tup0.up (by decide) (by decide), ?_⟩
    refine List.forall_mem_cons.mpr ⟨(bt_d0 e2).up (by decide) (by decide), ?_⟩
    refine List.forall_mem_cons.mpr ⟨(bt_lst e3 wa (by simp [szs, sz]) (by simp [hts, ht])).up (by decide) (by decide), ?_⟩
    exact List.forall_mem_cons.mpr ⟨bt_tbs wa (by simp [hts, ht]) (by simp [szs, sz]), fun _ z => by cases z⟩
  · refine List.forall_mem_cons.mpr ⟨st (shrt_of rfl), ?_⟩
    refine List.forall_mem_cons.mpr ⟨st (shrt_of rfl), ?_⟩
    refine List.forall_mem_cons.mpr ⟨bt_tbs wab (by simp [hts, ht]) (by simp [szs, sz]), ?_⟩
    exact List.forall_mem_cons.mpr ⟨(bt_d1 e5).up (by decide) (by decide), fun _ z => by cases z⟩
end
end DP

set_option maxRecDepth 100000
set_option maxHeartbeats 1000000
/-! DpO8: what the defs about trees do, whatever their numbers. -/
namespace DP
open PySem L2
local macro_rules
  | `(tactic| get_elem_tactic_trivial) => `(tactic| first
    | with_reducible assumption
    | exact up_same
    | (refine up_keep (by with_reducible assumption) ?_; get_elem_tactic_trivial))
local macro_rules
  | `(tactic| decreasing_trivial) => `(tactic| first
    | with_reducible assumption
    | (with_unfolding_all exact Nat.le_of_ble_eq_true rfl)
    | omega
    | exact shrt_of (by with_unfolding_all rfl)
    | exact sh_cut (by with_reducible assumption) _ _
    | exact cmul_l (by omega) (by omega)
    | exact cmul_r (by omega) (by omega)
    | exact pow_lit (by decide) (by decide) (by decide))
local macro_rules
  | `(tactic| contradiction) => `(tactic| with_reducible first
    | assumption | (apply r_var; with_unfolding_all rfl)
    | apply r_cst | apply r_glo | apply r_tup | apply r_lst | apply r_dK | apply r_bin | apply r_neg | apply r_cmp | apply r_chn
    | apply r_not | apply r_and | apply r_or | apply r_ite | apply r_ix | apply r_sl | apply r_rev | apply r_isi | apply r_bi | apply r_me | apply r_call | apply r_lc
    | apply r_es0 | apply r_es1 | apply r_rs0 | apply r_rs1 | apply r_o0 | apply r_o1 | apply r_part | apply r_ot0 | apply r_ot1 | apply r_mv
    | apply t_not | apply t_and | apply t_or | apply t_cmp | apply t_chn | (apply t_var; with_unfolding_all rfl) | apply t_isi | apply t_bi | apply t_me | apply t_call | apply t_ix
    | (apply x_len; with_unfolding_all exact Nat.le_of_ble_eq_true rfl) | (apply x_ty; with_unfolding_all exact ⟨_, rfl⟩) | (apply x_tyL; get_elem_tactic_trivial; rfl)
    | apply x_bl | apply x_int | (apply x_tru; with_unfolding_all rfl) | (apply x_isi; with_unfolding_all rfl)
    | apply i_T | apply i_F | apply i_nT | apply i_nF
    | apply o_addI | (apply o_addS; decreasing_trivial) | (apply o_addSS; decreasing_trivial; decreasing_trivial) | (apply o_addT; decreasing_trivial) | (apply o_addTT; decreasing_trivial; decreasing_trivial) | apply o_sub
    | (apply o_mulI; decreasing_trivial) | (apply o_mulS; decreasing_trivial) | (apply o_fdiv; decreasing_trivial) | (apply o_mod; decreasing_trivial) | (apply o_pow; decreasing_trivial)
    | (apply o_addNN; decreasing_trivial) | (apply o_addRN; get_elem_tactic_trivial; decreasing_trivial) | (apply o_addNR; get_elem_tactic_trivial; decreasing_trivial) | (apply o_addRR; get_elem_tactic_trivial; get_elem_tactic_trivial; decreasing_trivial)
    | apply c_eqI | apply c_eqS | apply c_eqB | apply c_neI | apply c_neS | apply c_neB | apply c_ltI | apply c_ltS | apply c_gtI | apply c_leI | apply c_geI | apply c_inS | apply c_ninS
    | (apply p_str; decreasing_trivial; with_unfolding_all rfl) | (apply p_tup; with_unfolding_all rfl) | (apply p_lstN; with_unfolding_all rfl) | (apply p_lst; get_elem_tactic_trivial; with_unfolding_all rfl) | (apply p_dK; get_elem_tactic_trivial; with_unfolding_all rfl)
    | (apply l_strS; decreasing_trivial) | (apply l_str; decreasing_trivial) | apply l_tup | apply l_fz | apply l_lstN | (apply l_lst; get_elem_tactic_trivial) | apply v_tup | apply v_lstN | (apply v_lst; get_elem_tactic_trivial)
    | (apply b_lenS; decreasing_trivial) | apply b_lenT | apply b_lenN | (apply b_lenL; get_elem_tactic_trivial) | apply b_abs | apply b_intI | apply b_intB | apply b_tuplN | apply b_tuplT | (apply b_tuplL; get_elem_tactic_trivial) | apply b_listN | apply b_listT | (apply b_listL; get_elem_tactic_trivial)
    | apply z_nil | apply z_exp | apply z_set | apply z_ret | apply z_ife | apply z_for | apply z_brk | apply z_cnt | apply z_sub
    | apply bn_name | (apply q_str; decreasing_trivial) | apply q_tup | apply q_fz | apply q_n | (apply q_ref; get_elem_tactic_trivial) | apply w_seq | apply w_rng1 | apply w_rng2)
local macro_rules
  | `(tactic| contradiction) => `(tactic| with_reducible first
    | (apply p_cells; get_elem_tactic_trivial) | (apply p_at; get_elem_tactic_trivial) | (apply p_left; get_elem_tactic_trivial)
    | (apply y_at; get_elem_tactic_trivial) | (apply y_left; get_elem_tactic_trivial))
local macro_rules
  | `(tactic| contradiction) => `(tactic| with_reducible first
    | apply r_lc2 | apply w_enum | apply e_n | apply c_isnotB | apply b_min | apply bn_tup2)
local macro_rules
  | `(tactic| contradiction) => `(tactic| with_reducible first
    | apply t_emp | apply e_tT | apply e_nT | apply e_nN | (apply e_nL; get_elem_tactic_trivial))
def bLBent (fd fo f : Nat) : List C := [.ife (.and (.isi (.var 1) .tup) (.and (.emp true true (.var 1)) (.cmp .gt (.call fd [(.var 0), (.cst (.int 6))]) (.cst (.int 0))))) [.asg (.name 2) (.call fd [(.var 0), (.bi .len [(.var 1)])]), .asg (.name 3) (.ix (.var 1) (.var 2)), .asg (.name 4) (.lst [(.bin .add (.sl (.var 1) none (some (.var 2))) (.sl (.var 1) (some (.bin .add (.var 2) (.cst (.int 1)))) none)), (.bin .add (.bin .add (.sl (.var 1) none (some (.var 2))) (.tup [(.var 3)])) (.sl (.var 1) (some (.var 2)) none)), (.rev (.var 1)), (.bi .list [(.var 1)]), (.tup [(.var 1)])]), .asg (.name 4) (.bin .add (.var 4) (.lst [(.bin .add (.var 1) (.tup [(.call fo [(.var 0)])])), (.bin .add (.sl (.var 1) (some (.var 2)) none) (.sl (.var 1) none (some (.var 2)))), (.bin .add (.bin .add (.sl (.var 1) none (some (.var 2))) (.tup [(.tup [(.var 3)])])) (.sl (.var 1) (some (.bin .add (.var 2) (.cst (.int 1)))) none))])), .asg (.name 4) (.bin .add (.var 4) (.bin .mul (.lst [(.bin .add (.bin .add (.sl (.var 1) none (some (.var 2))) (.tup [(.call f [(.var 0), (.var 3)])])) (.sl (.var 1) (some (.bin .add (.var 2) (.cst (.int 1)))) none))]) (.cst (.int 4)))), .ret (.ix (.var 4) (.call fd [(.var 0), (.cst (.int 12))]))] [], .ife (.and (.isi (.var 1) .str) (.cmp .gt (.call fd [(.var 0), (.cst (.int 3))]) (.cst (.int 0)))) [.ret (.ix (.lst [(.bin .add (.var 1) (.cst (.str "a"))), (.sl (.var 1) (some (.cst (.int 1))) none), (.me .upper (.var 1) []), (.bin .add (.var 1) (.cst (.str " "))), (.tup [(.var 1)]), (.cst (.str "zzz")), (.bin .mul (.var 1) (.cst (.int 2)))]) (.call fd [(.var 0), (.cst (.int 7))]))] [], .ret (.call fo [(.var 0)])]
theorem cut_take {α : Type} {xs : List α} {i : Int} (h0 : 0 ≤ i) : cut xs none (some i) = xs.take i.toNat := by
  unfold cut HT.sIx
  simp only [if_neg (show ¬ i < 0 by omega), List.drop_zero, Nat.sub_zero]
  rw [Nat.min_comm, ← List.take_take]
  exact List.take_of_length_le (by rw [List.length_take]; omega)
theorem cut_drop {α : Type} {xs : List α} {i : Int} (h0 : 0 ≤ i) (h1 : i.toNat ≤ xs.length) : cut xs (some i) none = xs.drop i.toNat := by
  unfold cut HT.sIx
  simp only [if_neg (show ¬ i < 0 by omega)]
  rw [Nat.min_eq_left h1]
  exact List.take_of_length_le (by rw [List.length_drop]; omega)
theorem inLet_mem {c : Nat} (h : inLet c = true) : c ∈ ("abcdefghijklmnopqrstuvwxyz" : Str).cps.toList := by
  unfold inLet inStr at h
  rw [PySem.StrLaws.found_one] at h
  exact of_decide_eq_true h
theorem upper_letters : ∀ c ∈ ("abcdefghijklmnopqrstuvwxyz" : Str).cps.toList, ∀ e ∈ Unicode.upperOf c, e < 0x110000 := by decide +kernel
theorem sh_upper {x : Str} (h : Wd x) : Shrt (Txt.upper x) := by
  refine ⟨?_, fun e he => ?_⟩
  · have := PyProof.Rows.len_upper x
    have := h.1.2.1
    omega
  · have he : e ∈ ((x.cps.mapIdx fun i c => (Unicode.upperOf c).toArray).flatten).toList := he
    rw [Array.mem_toList_iff, Array.mem_flatten] at he
    obtain ⟨l, hl, hel⟩ := he
    obtain ⟨i, hi, rfl⟩ := Array.mem_mapIdx.mp hl
    have hc : x.cps[i] ∈ x.cps.toList := by simp
    have := List.all_eq_true.mp h.2 _ hc
    exact upper_letters _ (inLet_mem this) e (by simpa using hel)
theorem m_upper {S : Sto} {z : Str} {Q : PR} (h : z.length ≤ 5592405) (q : Q (.v (.str (Txt.upper z))) S) : meW .upper (.v (.str z)) [] S Q := ⟨h, q⟩
theorem isTbs_take {xs : List D} (h : isTbs xs) (n : Nat) : isTbs (xs.take n) := isTbs_iff.mpr fun d hd => isTbs_iff.mp h d (List.mem_of_mem_take hd)
theorem isTbs_drop {xs : List D} (h : isTbs xs) (n : Nat) : isTbs (xs.drop n) := isTbs_iff.mpr fun d hd => isTbs_iff.mp h d (List.mem_of_mem_drop hd)
theorem isTbs_app {xs ys : List D} (h : isTbs xs) (h' : isTbs ys) : isTbs (xs ++ ys) := isTbs_iff.mpr fun d hd => (List.mem_append.mp hd).elim (isTbs_iff.mp h d) (isTbs_iff.mp h' d)
theorem isTbs_one {x : D} (h : isTb x) : isTbs [x] := by rw [isTbs, isTbs]; exact ⟨h, trivial⟩
theorem hts_sub {xs ys : List D} (h : ∀ d ∈ xs, d ∈ ys) : hts xs ≤ hts ys := by
  induction xs with
  | nil => rw [hts]; omega
  | cons x xs ih =>
    rw [hts]
    have := hts_le (h x List.mem_cons_self)
    have := ih fun d hd => h d (List.mem_cons_of_mem _ hd)
    omega
theorem szs_rev (xs : List D) : szs xs.reverse = szs xs := by
  rw [szs_sum, szs_sum, List.map_reverse, List.sum_reverse]
theorem tr_one_rev {xs : List D} (h : isTbs xs) : isTbs xs.reverse ∧ hts xs.reverse ≤ hts xs := ⟨isTbs_iff.mpr fun d hd => isTbs_iff.mp h d (List.mem_reverse.mp hd), hts_sub fun d hd => List.mem_reverse.mp hd⟩
section
variable {B : List Fn} {f n : Nat}
theorem bent_word {h fd fo : Nat} (hT : B[f]? = some ⟨2, 5, bLBent fd fo f⟩) (hO : B[fo]? = some ⟨1, 2, bLOdd fd⟩) (hD : B[fd]? = some ⟨2, 8, bDraw⟩) {x : Str} (hx : Wd x) {S : Sto} {p c : Addr} {n : Nat} {Q : PR} (hp : PenOk S p c n) (hn : n + 10 < 60000)
    (q : ∀ S' r, PenOk S' p c (n + 10) → Ext p S S' → Bt (rm S' p) 2 12 r → Q (.v r) S') : W B (h + 3) f [.ref p, .str x] S Q := by
  refine enter (b := ⟨2, 5, bLBent fd fo f⟩) (ρ := [some (.ref p), some (.str x), none, none, none]) hT rfl rfl ?_
  show wSs (W B (h + 2)) (bLBent fd fo f) _ _ _
  delta bLBent
  have hl1 := hx.1.1
  have hl8 := hx.1.2.1
  have hsx := hx.1.sh
  repeat' contradiction
  refine draw_ok hD hp (by omega) (by omega) (by omega) ?_
  intro S1 r1 hp1 hf1 g0 g1
  have hE1 : Ext p S S1 := fun b o hb e => (hf1 b hb).trans e
  clear hf1
  repeat' contradiction
  by_cases h1 : 0 < r1
  · refine i_D h1 ?_
    repeat' contradiction
    refine m_upper (by omega) ?_
    repeat' contradiction
    refine draw_ok hD hp1 (by omega) (by omega) (by omega) ?_
    intro S2 r2 hp2 hf2 k0 k1
    have hE2 : Ext p S S2 := fun b o hb e => (hf2 b hb).trans (hE1 b o hb e)
    clear hf2
    refine p_pick k0 (by exact k1) ?_
    refine fun o ho => q S2 o (hp2.mono (by omega)) hE2 ?_
    revert o
    have st : ∀ {x : Str}, Shrt x → Bt (rm S2 p) 2 12 (.str x) := fun h => (bt_str h).up (by decide) (by decide)
    have l1 : (("a" : String) : Str).length = 1 := rfl
    have l2 : ((" " : String) : Str).length = 1 := rfl
    refine List.forall_mem_cons.mpr ⟨st (sh_app hsx (shrt_of rfl) (by omega)), ?_⟩
    refine List.forall_mem_cons.mpr ⟨st (sh_cut hsx _ _), ?_⟩
    refine List.forall_mem_cons.mpr ⟨st (sh_upper hx), ?_⟩
    refine List.forall_mem_cons.mpr ⟨st (sh_app hsx (shrt_of rfl) (by omega)), ?_⟩
    refine List.forall_mem_cons.mpr ⟨bt_tbs (isTbs_one (by rw [isTb]; exact hx)) (by simp [hts, ht]) (by simp [szs, sz]), ?_⟩
    refine List.forall_mem_cons.mpr ⟨st (shrt_of rfl), ?_⟩
    exact List.forall_mem_cons.mpr ⟨st (sh_rep (k := 2) hsx (by omega)), fun _ z => by cases z⟩
  · refine i_N h1 ?_
    repeat' contradiction
    refine odd_ok hO hD hp1 (by omega) ?_
    intro S2 o hp2 hE2 hb
    exact q S2 o (hp2.mono (by omega)) (hE1.trans hE2) (hb.up (by decide) (by decide))
theorem bent_ok {fd fo : Nat} (hT : B[f]? = some ⟨2, 5, bLBent fd fo f⟩) (hO : B[fo]? = some ⟨1, 2, bLOdd fd⟩) (hD : B[fd]? = some ⟨2, 8, bDraw⟩) : ∀ (h : Nat) (d : D), isTb d → ht d ≤ h → sz d ≤ 30 → ht d ≤ 19 → ∀ {S : Sto} {p c : Addr} {n : Nat} {Q : PR}, PenOk S p c n → n + 10 * (h + 1) < 60000 →
    (∀ S' r, PenOk S' p c (n + 10 * (h + 1)) → Ext p S S' → Bt (rm S' p) (ht d + 2) (2 * sz d + 10) r → Q (.v r) S') → W B (h + 3) f [.ref p, d] S Q
  | h, .str x, hb, hh, hz, h19, S, p, c, n, Q, hp, hn, q => by
    rw [isTb] at hb
    exact bent_word hT hO hD hb hp (by omega) fun S' r a b c' => q S' r (a.mono (by omega)) b (c'.up (by simp [ht]) (by simp [sz]))
  | 0, .tup ds, hb, hh, hz, h19, S, p, c, n, Q, hp, hn, q => by rw [ht] at hh; omega
  | h + 1, .tup ds, hb, hh, hz, h19, S, p, c, n, Q, hp, hn, q => by
    refine enter (b := ⟨2, 5, bLBent fd fo f⟩) (ρ := [some (.ref p), some (.tup ds), none, none, none]) hT rfl rfl ?_
    show wSs (W B (h + 3)) (bLBent fd fo f) _ _ _
    delta bLBent
    rw [isTb] at hb
    obtain ⟨hb1, hbs⟩ := hb
    have hss := szs_len ds
    have ehd : ht (.tup ds) = hts ds + 1 := by rw [ht]
    have esd : sz (.tup ds) = szs ds + 1 := by rw [sz]
    rw [ehd] at hh h19 q
    rw [esd] at hz q
    have he : ds.isEmpty = false := by cases ds with
      | nil => simp at hb1
      | cons _ _ => rfl
    repeat' contradiction
    rw [he]
    repeat' contradiction
    refine draw_ok hD hp (by omega) (by omega) (by omega) ?_
    intro S1 r1 hp1 hf1 g0 g1
    have hE1 : Ext p S S1 := fun b o hb e => (hf1 b hb).trans e
    clear hf1
    repeat' contradiction
    by_cases h1 : 0 < r1
    · refine i_D h1 ?_
      repeat' contradiction
      refine draw_ok hD hp1 (by omega) (by omega) (by omega) ?_
      intro S2 at' hp2 hf2 k0 k1
      have hE2 : Ext p S S2 := fun b o hb e => (hf2 b hb).trans (hE1 b o hb e)
      clear hf2
      repeat' contradiction
      obtain ⟨x, hx, hxm⟩ := atI_lt (xs := ds) k0 k1
      refine p_tup hx ?_
      have hjl : at'.toNat < ds.length := by omega
      have hx' : ds[at'.toNat]? = some x := by
        unfold atI ixN at hx
        rw [if_pos k0, if_pos k1] at hx
        exact hx
      have hxt : isTb x := isTbs_iff.mp hbs x hxm
      have hxh := hts_le hxm
      have c1 : cut ds none (some at') = ds.take at'.toNat := cut_take k0
      have c2 : cut ds (some (at' + 1)) none = ds.drop (at'.toNat + 1) := by rw [cut_drop (by omega) (by omega)]; congr 1; omega
      have c3 : cut ds (some at') none = ds.drop at'.toNat := cut_drop k0 (by omega)
      have hd3 : ds.drop at'.toNat = x :: ds.drop (at'.toNat + 1) := by
        rw [List.drop_eq_getElem_cons hjl]
        congr 1
        rw [List.getElem?_eq_getElem hjl] at hx'
        exact Option.some.inj hx'
      have e12 : szs (ds.take at'.toNat) + (sz x + szs (ds.drop (at'.toNat + 1))) = szs ds := by
        have := szs_app (ds.take at'.toNat) (ds.drop at'.toNat)
        rw [List.take_append_drop, hd3, szs] at this
        omega
      have t1 := isTbs_take hbs at'.toNat
      have t2 := isTbs_drop hbs (at'.toNat + 1)
      have t3 := isTbs_drop hbs at'.toNat
      have u1 : hts (ds.take at'.toNat) ≤ hts ds := hts_sub fun d hd => List.mem_of_mem_take hd
      have u2 : hts (ds.drop (at'.toNat + 1)) ≤ hts ds := hts_sub fun d hd => List.mem_of_mem_drop hd
      have u3 : hts (ds.drop at'.toNat) ≤ hts ds := hts_sub fun d hd => List.mem_of_mem_drop hd
      have v3 : szs (ds.drop at'.toNat) = sz x + szs (ds.drop (at'.toNat + 1)) := by rw [hd3, szs]
      have l0 : ds.length ≤ 100 := by omega
      have l1 : (cut ds none (some at')).length ≤ 100 := Nat.le_trans (cut_len _ _ _) l0
      have l2 : (cut ds (some (at' + 1)) none).length ≤ 100 := Nat.le_trans (cut_len _ _ _) l0
      have l3 : (cut ds (some at') none).length ≤ 100 := Nat.le_trans (cut_len _ _ _) l0
      have l4 : ∀ y : D, (cut ds none (some at') ++ [y]).length ≤ 100 := fun y => by
        have := cut_len ds none (some at')
        rw [List.length_append, List.length_singleton]
        omega
      have l5 := l4 x
      have l6 := l4 (.tup [x])
      have l7 : ∀ y : D, ([y] : List D).length ≤ 100 := fun y => by simp
      repeat' contradiction
      refine r_mn fun a1 ha1 => ?_
      repeat' contradiction
      refine r_mn fun a2 ha2 => ?_
      repeat' contradiction
      have n1 : a1 ≠ p := hp2.ne ha1
      have n2 : a2 ≠ p := (hp2.new ha1).ne ha2
      refine odd_ok hO hD ((hp2.new ha1).new ha2) (by omega) ?_
      intro S3 o hp3 hE3 ho
      have f1 : S3 a1 = some (.lst ds) := hE3 _ _ n1 (up_keep ha2 up_same)
      have f2 := hE3 _ _ n2 up_same
      have hE3' : Ext p S S3 := fun b o hb e => hE3 b o hb (up_keep ha2 (up_keep ha1 (hE2 b o hb e)))
      clear ha1 ha2 hE3
      repeat' contradiction
      refine (?key : ∀ (L8 : List D), L8.length = 8 → (∀ y ∈ L8, Bt (rm S3 p) (hts ds + 1 + 2) (2 * (szs ds + 1) + 10) y) → mat (R.n (Ob.lst L8)) S3 _) _ rfl ?all
      case all =>
        rw [c1, c2, c3]
        have b1 := tr_one_rev hbs
        refine List.forall_mem_append.mpr ⟨?_, ?_⟩
        · refine List.forall_mem_cons.mpr ⟨bt_tbs (isTbs_app t1 t2) (by rw [hts_app2]; omega) (by rw [szs_app]; omega), ?_⟩
          refine List.forall_mem_cons.mpr ⟨bt_tbs (isTbs_app (isTbs_app t1 (isTbs_one hxt)) t3) (by rw [hts_app2, hts_app2, hts, hts]; omega) (by rw [szs_app, szs_app, szs, szs]; omega), ?_⟩
          refine List.forall_mem_cons.mpr ⟨bt_tbs b1.1 (by have := b1.2; omega) (by rw [szs_rev]; omega), ?_⟩
          refine List.forall_mem_cons.mpr ⟨(bt_lst (rm_get n1 f1) hbs (by omega) (by omega)).up (by omega) (by omega), ?_⟩
          exact List.forall_mem_cons.mpr ⟨bt_tbs (isTbs_one (by rw [isTb]; exact ⟨hb1, hbs⟩)) (by rw [hts, hts, ht]; omega) (by rw [szs, szs, sz]; omega), fun _ z => by cases z⟩
        · refine List.forall_mem_cons.mpr ⟨?_, ?_⟩
          · have := bt_one (h' := hts ds + 1 + 2) (z' := 2 * (szs ds + 1) + 10) hbs (show isTbs [] by simp [isTbs]) ho (by omega) (by simp [hts]) (by omega) (by simp [szs]; omega)
            rw [List.append_nil] at this
            exact this
          refine List.forall_mem_cons.mpr ⟨bt_tbs (isTbs_app t3 t1) (by rw [hts_app2]; omega) (by rw [szs_app]; omega), ?_⟩
          exact List.forall_mem_cons.mpr ⟨bt_tbs (isTbs_app (isTbs_app t1 (isTbs_one (by rw [isTb]; exact ⟨by simp, isTbs_one hxt⟩))) t2) (by rw [hts_app2, hts_app2, hts, hts, ht, hts, hts]; omega) (by rw [szs_app, szs_app, szs, szs, sz, szs, szs]; omega), fun _ z => by cases z⟩
      intro L8 h8 hb8
      clear f2 ho
      refine r_mn fun a3 ha3 => ?_
      have n3 : a3 ≠ p := hp3.ne ha3
      repeat' contradiction
      refine bent_ok hT hO hD h x hxt (by omega) (by omega) (by omega) (hp3.new ha3) (by omega) ?_
      intro S4 y hp4 hE4 hy
      have f3 : S4 a3 = some (.lst L8) := hE4 _ _ n3 up_same
      have hE34 : Ext p S3 S4 := fun b o hb e => hE4 b o hb (up_keep ha3 e)
      have hE4' : Ext p S S4 := hE3'.trans hE34
      have l8 := l4 y
      clear ha3 hE4
      repeat' contradiction
      refine o_mulN ⟨by decide, by decide, Nat.le_of_ble_eq_true rfl⟩ ?_
      repeat' contradiction
      refine o_addRN f3 (by rw [h8]; exact Nat.le_of_ble_eq_true rfl) ?_
      refine r_mn fun a4 ha4 => ?_
      have n4 : a4 ≠ p := hp4.ne ha4
      repeat' contradiction
      refine draw_ok hD (hp4.new ha4) (by omega) (by omega) (by omega) ?_
      intro S5 r5 hp5 hf5 k0' k1'
      have f4 := (hf5 a4 n4).trans up_same
      have hE45 : Ext p S4 S5 := fun b o hb e => (hf5 b hb).trans (up_keep ha4 e)
      clear ha4 hf5
      refine p_pickR f4 k0' (by rw [List.length_append, h8]; exact k1') ?_
      refine fun o ho => q S5 o (hp5.mono (by omega)) (hE4'.trans hE45) ?_
      revert o
      refine List.forall_mem_append.mpr ⟨fun o ho => (hb8 o ho).sub (hE34.trans hE45).sub, fun o ho => ?_⟩
      have eo : o = .tup (cut ds none (some at') ++ [y] ++ cut ds (some (at' + 1)) none) := by
        obtain ⟨l, hl, hol⟩ := List.mem_flatten.mp ho
        rw [(List.mem_replicate.mp hl).2] at hol
        exact List.mem_singleton.mp hol
      subst eo
      rw [c1, c2]
      exact bt_one t1 t2 (hy.sub hE45.sub) (by omega) (by omega) (by omega) (by omega)
    · refine i_N h1 ?_
      repeat' contradiction
      refine odd_ok hO hD hp1 (by omega) ?_
      intro S2 o hp2 hE2 hb
      exact q S2 o (hp2.mono (by omega)) (hE1.trans hE2) (hb.up (by omega) (by omega))
end
end DP

set_option maxRecDepth 100000
set_option maxHeartbeats 0
/-! the terms of law k01, printed by gen.py -/
namespace Dp_k01
open PySem PySem.Spec PyProof.Rows L2 DP
def top (i : Nat) : Stmt := PySem.Challenge.pw_joinedtrees_k01_what_is_a_tree.main.body.getD i (.Pass ⟨0, 0, 0, 0⟩)
def c_is_name : List C := [.ret (.and (.isi (.var 0) .str) (.and (.chn .le .le (.cst (.int 1)) (.bi .len [(.var 0)]) (.glo "LONGEST" (.int 8))) (.bi .all [(.lc (.cmp .isin (.var 1) (.glo "LETTERS" (.str "abcdefghijklmnopqrstuvwxyz"))) (.name 1) (.seq (.var 0)) none [1])])))]
def c_is_lot : List C := [.ife (.or (.not (.isi (.var 0) .tup)) (.or (.emp false true (.var 0)) (.not (.bi .all [(.lc (.call 0 [(.var 1)]) (.name 1) (.seq (.var 0)) none [1])])))) [.ret (.cst (.bl false))] [], .ret (.bi .all [(.lc (.cmp .lt (.ix (.var 0) (.bin .sub (.var 2) (.cst (.int 1)))) (.ix (.var 0) (.var 2))) (.name 2) (.rng2 (.cst (.int 1)) (.bi .len [(.var 0)])) none [2])])]
def c_first_name : List C := [.whl (.not (.isi (.var 0) .str)) [.asg (.name 0) (.ix (.var 0) (.cst (.int 0)))], .ret (.var 0)]
def c_standing : List C := [.ife (.isi (.var 0) .str) [.ret (.lst [(.var 0)])] [], .ret (.lc2 (.var 2) (.name 1) (.seq (.var 0)) none (.name 2) (.seq (.call 3 [(.var 1)])) none [1, 2] [2])]
def c_is_fork : List C := [.ife (.not (.isi (.var 0) .tup)) [.ret (.call 0 [(.var 0)])] [], .ife (.or (.cmp .eq (.var 1) (.cst (.int 0))) (.or (.cmp .lt (.bi .len [(.var 0)]) (.cst (.int 2))) (.not (.bi .all [(.lc (.call 4 [(.var 3), (.bin .sub (.var 1) (.cst (.int 1)))]) (.name 3) (.seq (.var 0)) none [3])])))) [.ret (.cst (.bl false))] [], .asg (.name 2) (.lc (.call 2 [(.var 3)]) (.name 3) (.seq (.var 0)) none [3]), .ret (.bi .all [(.lc (.cmp .lt (.ix (.var 2) (.bin .sub (.var 4) (.cst (.int 1)))) (.ix (.var 2) (.var 4))) (.name 4) (.rng2 (.cst (.int 1)) (.bi .len [(.var 2)])) none [4])])]
def c_is_tree : List C := [.ife (.not (.call 4 [(.var 0), (.glo "MOST_DEEP" (.int 9))])) [.ret (.cst (.bl false))] [], .asg (.name 1) (.call 3 [(.var 0)]), .ret (.and (.cmp .le (.bi .len [(.var 1)]) (.glo "MOST_NAMES" (.int 10))) (.cmp .eq (.lset (.var 1)) (.bi .len [(.var 1)])))]
def c__law_pen : List C := [.ret (.dK [.inr "cells", .inr "at", .inr "left"] [(.bi .list [(.sl (.var 0) none (some (.cst (.int 63))))]), (.cst (.int 0)), (.cst (.int 0))])]
def c__law_draw : List C := [.ife (.cmp .gt (.ix (.var 0) (.cst (.str "left"))) (.cst (.int 0))) [.asg (.name 2) (.bin .mod (.ix (.var 0) (.cst (.str "left"))) (.var 1)), .asg (.sub (.var 0) (.cst (.str "left"))) (.bin .fdiv (.ix (.var 0) (.cst (.str "left"))) (.var 1)), .ret (.var 2)] [], .asg (.name 3) (.ix (.var 0) (.cst (.str "at"))), .asg (.sub (.var 0) (.cst (.str "at"))) (.bin .add (.var 3) (.cst (.int 1))), .asg (.name 4) (.bin .add (.bin .mul (.cst (.int 2113)) (.var 3)) (.cst (.int 601))), .ife (.cmp .ne (.ix (.var 0) (.cst (.str "cells"))) (.lst [])) [.asg (.name 4) (.ix (.ix (.var 0) (.cst (.str "cells"))) (.bin .mod (.var 3) (.bi .len [(.ix (.var 0) (.cst (.str "cells")))])))] [], .ife (.and (.cmp .lt (.var 3) (.bi .len [(.ix (.var 0) (.cst (.str "cells")))])) (.cmp .ge (.bi .abs [(.var 4)]) (.bin .pow (.cst (.int 10)) (.cst (.int 18))))) [.asg (.name 5) (.bin .add (.bin .mul (.cst (.int 2)) (.bi .abs [(.var 4)])) (.bi .int [(.cmp .lt (.var 4) (.cst (.int 0)))])), .asg (.sub (.var 0) (.cst (.str "left"))) (.bin .fdiv (.var 5) (.var 1)), .ret (.bin .mod (.var 5) (.var 1))] [], .asg (.name 6) (.bin .mod (.bin .pow (.bin .add (.bin .add (.bin .mod (.var 4) (.cst (.int 2147483549))) (.bin .mul (.cst (.int 73009)) (.var 3))) (.cst (.int 71))) (.cst (.int 5))) (.cst (.int 2147483647))), .asg (.name 7) (.bin .mod (.bin .pow (.bin .add (.bin .mul (.var 6) (.bin .add (.var 3) (.cst (.int 65557)))) (.bin .mul (.bin .mul (.cst (.int 84991)) (.var 3)) (.var 3))) (.cst (.int 3))) (.cst (.int 2147483423))), .ret (.bin .mod (.bin .fdiv (.var 7) (.cst (.int 32))) (.var 1))]
def c__law_names : List C := [.asg (.name 2) (.lst [(.cst (.str "a")), (.cst (.str "aa")), (.cst (.str "ab")), (.cst (.str "b")), (.cst (.str "ba")), (.cst (.str "c")), (.cst (.str "d")), (.cst (.str "e")), (.cst (.str "zz")), (.cst (.str "zzzzzzzz")), (.cst (.str "m")), (.cst (.str "ma")), (.cst (.str "n"))]), .ret (.bi .sorted [(.lc (.me .pop (.var 2) [(.call 7 [(.var 0), (.bi .len [(.var 2)])])]) (.name 3) (.rng1 (.var 1)) none [3])])]
def c__law_least : List C := [.whl (.not (.isi (.var 0) .str)) [.asg (.name 0) (.ix (.var 0) (.cst (.int 0)))], .ret (.var 0)]
def c__law_fork : List C := [.ife (.cmp .eq (.bi .len [(.var 0)]) (.cst (.int 1))) [.ret (.ix (.var 0) (.cst (.int 0)))] [], .asg (.name 1) (.bi .sorted [(.lc (.tup [(.call 9 [(.var 3)]), (.var 2)]) (.tup [2, 3]) (.enum (.var 0)) none [2, 3])]), .ret (.bi .tupl [(.lc (.ix (.var 0) (.var 2)) (.tup [4, 2]) (.seq (.var 1)) none [4, 2])])]
def c__law_tree : List C := [.asg (.name 3) (.bi .list [(.var 1)]), .whl (.cmp .gt (.bi .len [(.var 3)]) (.cst (.int 1))) [.asg (.name 4) (.bin .add (.cst (.int 2)) (.bin .mul (.var 2) (.ix (.lst [(.cst (.int 0)), (.cst (.int 0)), (.cst (.int 1)), (.call 7 [(.var 0), (.cst (.int 3))])]) (.call 7 [(.var 0), (.cst (.int 4))])))), .asg (.name 5) (.lst []), .for (.name 6) (.rng1 (.bi .min [(.var 4), (.bi .len [(.var 3)])])) [.exp (.me .append (.var 5) [(.me .pop (.var 3) [(.ix (.lst [(.call 7 [(.var 0), (.bi .len [(.var 3)])]), (.neg (.cst (.int 1)))]) (.call 7 [(.var 0), (.cst (.int 2))]))])])], .exp (.me .append (.var 3) [(.call 10 [(.var 5)])])], .ret (.ix (.var 3) (.cst (.int 0)))]
def c__law_odd : List C := [.asg (.name 1) (.lst [(.cst .non), (.cst (.bl true)), (.cst (.bl false)), (.cst (.int 0)), (.cst (.int 7)), (.bin .pow (.cst (.int 10)) (.cst (.int 40))), (.cst (.str "")), (.cst (.str "A")), (.cst (.str "a1")), (.cst (.str "aaaaaaaaa")), (.cst (.str "a b")), (.cst (.str "a\n")), (.cst (.str "~")), (.lst []), (.tup []), (.dK [] []), (.lst [(.cst (.str "a"))]), (.tup [(.cst (.str "a"))])]), .ret (.ix (.bin .add (.var 1) (.lst [(.cst (.str "aaaaaaaa")), (.cst (.str "z")), (.tup [(.cst (.str "a")), (.cst (.str "b"))]), (.dK [.inr "a"] [(.cst (.str "b"))])])) (.call 7 [(.var 0), (.cst (.int 22))]))]
def c__law_is_name : List C := [.asg (.name 1) (.cst (.str "abcdefghijklmnopqrstuvwxyz")), .ret (.and (.isi (.var 0) .str) (.and (.chn .lt .lt (.cst (.int 0)) (.bi .len [(.var 0)]) (.cst (.int 9))) (.cmp .eq (.lc (.var 2) (.name 2) (.seq (.var 0)) (some (.cmp .notin (.var 2) (.var 1))) [2]) (.lst []))))]
def c__law_all_names : List C := [.asg (.name 1) (.lst []), .asg (.name 2) (.lst [(.var 0)]), .whl (.emp true false (.var 2)) [.asg (.name 3) (.me .pop (.var 2) [(.cst (.int 0))]), .ife (.and (.isi (.var 3) .tup) (.emp true true (.var 3))) [.asg (.name 2) (.bin .add (.bi .list [(.var 3)]) (.var 2))] [.ife (.call 13 [(.var 3)]) [.exp (.me .append (.var 1) [(.var 3)])] [.ret (.cst .non)]]], .ret (.var 1)]
def c__law_forks_right : List C := [.asg (.name 1) (.lst [(.var 0)]), .whl (.emp true false (.var 1)) [.asg (.name 2) (.me .pop (.var 1) []), .ife (.isi (.var 2) .tup) [.asg (.name 3) (.lc (.ix (.bi .sorted [(.call 14 [(.var 4)])]) (.cst (.int 0))) (.name 4) (.seq (.var 2)) none [4]), .ife (.or (.cmp .lt (.bi .len [(.var 2)]) (.cst (.int 2))) (.cmp .ne (.bi .sorted [(.var 3)]) (.var 3))) [.ret (.cst (.bl false))] [], .exp (.me .extend (.var 1) [(.bi .list [(.var 2)])])] []], .ret (.cst (.bl true))]
def c__law_is_tree : List C := [.asg (.name 1) (.call 14 [(.var 0)]), .ife (.or (.cmp .is (.var 1) (.cst .non)) (.or (.cmp .gt (.bi .len [(.var 1)]) (.cst (.int 10))) (.cmp .lt (.lset (.var 1)) (.bi .len [(.var 1)])))) [.ret (.cst (.bl false))] [], .ret (.call 15 [(.var 0)])]
def c__law_bent : List C := [.ife (.and (.isi (.var 1) .tup) (.and (.emp true true (.var 1)) (.cmp .gt (.call 7 [(.var 0), (.cst (.int 6))]) (.cst (.int 0))))) [.asg (.name 2) (.call 7 [(.var 0), (.bi .len [(.var 1)])]), .asg (.name 3) (.ix (.var 1) (.var 2)), .asg (.name 4) (.lst [(.bin .add (.sl (.var 1) none (some (.var 2))) (.sl (.var 1) (some (.bin .add (.var 2) (.cst (.int 1)))) none)), (.bin .add (.bin .add (.sl (.var 1) none (some (.var 2))) (.tup [(.var 3)])) (.sl (.var 1) (some (.var 2)) none)), (.rev (.var 1)), (.bi .list [(.var 1)]), (.tup [(.var 1)])]), .asg (.name 4) (.bin .add (.var 4) (.lst [(.bin .add (.var 1) (.tup [(.call 12 [(.var 0)])])), (.bin .add (.sl (.var 1) (some (.var 2)) none) (.sl (.var 1) none (some (.var 2)))), (.bin .add (.bin .add (.sl (.var 1) none (some (.var 2))) (.tup [(.tup [(.var 3)])])) (.sl (.var 1) (some (.bin .add (.var 2) (.cst (.int 1)))) none))])), .asg (.name 4) (.bin .add (.var 4) (.bin .mul (.lst [(.bin .add (.bin .add (.sl (.var 1) none (some (.var 2))) (.tup [(.call 17 [(.var 0), (.var 3)])])) (.sl (.var 1) (some (.bin .add (.var 2) (.cst (.int 1)))) none))]) (.cst (.int 4)))), .ret (.ix (.var 4) (.call 7 [(.var 0), (.cst (.int 12))]))] [], .ife (.and (.isi (.var 1) .str) (.cmp .gt (.call 7 [(.var 0), (.cst (.int 3))]) (.cst (.int 0)))) [.ret (.ix (.lst [(.bin .add (.var 1) (.cst (.str "a"))), (.sl (.var 1) (some (.cst (.int 1))) none), (.me .upper (.var 1) []), (.bin .add (.var 1) (.cst (.str " "))), (.tup [(.var 1)]), (.cst (.str "zzz")), (.bin .mul (.var 1) (.cst (.int 2)))]) (.call 7 [(.var 0), (.cst (.int 7))]))] [], .ret (.call 12 [(.var 0)])]
def c__law_great : List C := [.asg (.name 1) (.call 8 [(.var 0), (.cst (.int 10))]), .asg (.name 2) (.ix (.var 1) (.cst (.int 0))), .for (.name 3) (.rng2 (.cst (.int 1)) (.cst (.int 10))) [.asg (.name 2) (.tup [(.var 2), (.ix (.var 1) (.var 3))])], .ret (.ix (.lst [(.var 2), (.bi .tupl [(.var 1)]), (.call 11 [(.var 0), (.var 1), (.cst (.int 1))])]) (.call 7 [(.var 0), (.cst (.int 3))]))]
def c__law_is_lot : List C := [.ife (.or (.not (.isi (.var 0) .tup)) (.or (.emp false true (.var 0)) (.emp true false (.lc (.var 1) (.name 1) (.seq (.var 0)) (some (.not (.call 13 [(.var 1)]))) [1])))) [.ret (.cst (.bl false))] [], .ret (.cmp .eq (.sset (.var 0)) (.bi .list [(.var 0)]))]
def c__law_right : List C := [.asg (.name 1) (.bi .repr [(.var 0)]), .asg (.name 2) (.lst [(.call 13 [(.var 0)]), (.call 19 [(.var 0)]), (.call 16 [(.var 0)])]), .for (.name 3) (.rng1 (.cst (.int 2))) [.ife (.or (.cmp .ne (.bi .repr [(.lst [(.call 0 [(.var 0)]), (.call 1 [(.var 0)]), (.call 5 [(.var 0)])])]) (.bi .repr [(.var 2)])) (.cmp .ne (.bi .repr [(.var 0)]) (.var 1))) [.ret (.cst (.bl false))] []], .ret (.cst (.bl true))]
def c_law : List C := [.asg (.name 1) (.call 6 [(.var 0)]), .asg (.name 2) (.cst (.str "a")), .for (.name 3) (.rng1 (.cst (.int 30))) [.asg (.name 2) (.tup [(.var 2)])], .asg (.name 4) (.bi .tupl [(.lc (.var 9) (.name 9) (.seq (.cst (.str "abcdefghijk"))) none [9])]), .asg (.name 5) (.lst [(.tup []), (.tup [(.cst (.str "a")), (.cst (.str "a"))]), (.tup [(.cst (.str "b")), (.cst (.str "a"))]), (.tup [(.tup [(.cst (.str "a")), (.cst (.str "c"))]), (.cst (.str "b"))]), (.tup [(.cst (.str "a")), (.tup [(.cst (.str "c")), (.cst (.str "b"))])]), (.tup [(.cst (.str "a")), (.tup [(.cst (.str "b")), (.cst (.str "c"))])])]), .asg (.name 5) (.bin .add (.var 5) (.lst [(.var 2), (.var 4), (.sl (.var 4) none (some (.cst (.int 10))))])), .for (.name 6) (.rng1 (.cst (.int 5))) [.asg (.name 7) (.call 8 [(.var 1), (.bin .add (.cst (.int 1)) (.call 7 [(.var 1), (.cst (.int 8))]))]), .asg (.name 8) (.call 11 [(.var 1), (.var 7), (.call 7 [(.var 1), (.cst (.int 2))])]), .ife (.cmp .eq (.call 7 [(.var 1), (.cst (.int 8))]) (.cst (.int 0))) [.asg (.name 8) (.call 18 [(.var 1)])] [], .asg (.name 5) (.bin .add (.var 5) (.lst [(.var 8), (.bi .tupl [(.var 7)]), (.ix (.var 7) (.cst (.int 0))), (.tup [(.var 8), (.cst (.str "zzzz"))]), (.tup [(.cst (.str "aaaa")), (.var 8)]), (.tup [(.var 8), (.var 8)]), (.call 12 [(.var 1)])])), .asg (.name 5) (.bin .add (.bin .add (.var 5) (.lc (.call 17 [(.var 1), (.var 8)]) (.name 3) (.rng1 (.cst (.int 4))) none [3])) (.lc (.call 17 [(.var 1), (.bi .tupl [(.var 7)])]) (.name 3) (.rng1 (.cst (.int 2))) none [3]))], .ret (.cmp .eq (.lc (.var 10) (.name 10) (.seq (.var 5)) (some (.not (.call 20 [(.var 10)]))) [10]) (.lst []))]
def tab : List (Str × Fn) := [("is_name", ⟨1, 2, c_is_name⟩), ("is_lot", ⟨1, 3, c_is_lot⟩), ("first_name", ⟨1, 1, c_first_name⟩), ("standing", ⟨1, 3, c_standing⟩), ("is_fork", ⟨2, 5, c_is_fork⟩), ("is_tree", ⟨1, 2, c_is_tree⟩), ("_law_pen", ⟨1, 1, c__law_pen⟩), ("_law_draw", ⟨2, 8, c__law_draw⟩), ("_law_names", ⟨2, 4, c__law_names⟩), ("_law_least", ⟨1, 1, c__law_least⟩), ("_law_fork", ⟨1, 5, c__law_fork⟩), ("_law_tree", ⟨3, 7, c__law_tree⟩), ("_law_odd", ⟨1, 2, c__law_odd⟩), ("_law_is_name", ⟨1, 3, c__law_is_name⟩), ("_law_all_names", ⟨1, 4, c__law_all_names⟩), ("_law_forks_right", ⟨1, 5, c__law_forks_right⟩), ("_law_is_tree", ⟨1, 2, c__law_is_tree⟩), ("_law_bent", ⟨2, 5, c__law_bent⟩), ("_law_great", ⟨1, 4, c__law_great⟩), ("_law_is_lot", ⟨1, 2, c__law_is_lot⟩), ("_law_right", ⟨1, 4, c__law_right⟩), ("law", ⟨1, 11, c_law⟩)]
def fns : List Str := ["is_name", "is_lot", "first_name", "standing", "is_fork", "is_tree", "_law_pen", "_law_draw", "_law_names", "_law_least", "_law_fork", "_law_tree", "_law_odd", "_law_is_name", "_law_all_names", "_law_forks_right", "_law_is_tree", "_law_bent", "_law_great", "_law_is_lot", "_law_right", "law"]
def bodies : List Fn := [⟨1, 2, c_is_name⟩, ⟨1, 3, c_is_lot⟩, ⟨1, 1, c_first_name⟩, ⟨1, 3, c_standing⟩, ⟨2, 5, c_is_fork⟩, ⟨1, 2, c_is_tree⟩, ⟨1, 1, c__law_pen⟩, ⟨2, 8, c__law_draw⟩, ⟨2, 4, c__law_names⟩, ⟨1, 1, c__law_least⟩, ⟨1, 5, c__law_fork⟩, ⟨3, 7, c__law_tree⟩, ⟨1, 2, c__law_odd⟩, ⟨1, 3, c__law_is_name⟩, ⟨1, 4, c__law_all_names⟩, ⟨1, 5, c__law_forks_right⟩, ⟨1, 2, c__law_is_tree⟩, ⟨2, 5, c__law_bent⟩, ⟨1, 4, c__law_great⟩, ⟨1, 2, c__law_is_lot⟩, ⟨1, 4, c__law_right⟩, ⟨1, 11, c_law⟩]
def cst : List (Str × D) := [("LETTERS", .str "abcdefghijklmnopqrstuvwxyz"), ("LONGEST", .int 8), ("MOST_NAMES", .int 10), ("MOST_DEEP", .int 9)]
def free : List Str := ["isinstance", "str", "len", "all", "range", "tuple", "set", "list", "abs", "int", "sorted", "enumerate", "min", "repr"]
abbrev gm (F : Fw) (n : Nat) : Gm := ⟨F, n, fns, cst, free⟩
def n_is_name : List Str := ["thing", "sign"]
theorem k_is_name (F : Fw) (n : Nat) : KSs (gm F n) ⟨n_is_name, defScope (top 5), none⟩ (defBody (top 5)) c_is_name :=
  (k_cons (k_ret (k_and (k_isi (i := 1) (j := 0) (k := 2) (l := 1) (k_var (j := 0) rfl rfl rfl) rfl rfl rfl rfl rfl rfl) (k_and (k_chn (q := .le) (r := .le) k_int (k_bi (q := .len) (i := 3) (j := 2) rfl rfl rfl (k_r1 (k_var (j := 0) rfl rfl rfl) k_r0 rfl)) (k_glo (i := 1) (j := 4) rfl rfl) rfl rfl) (k_one (k_bi (q := .all) (i := 5) (j := 3) rfl rfl rfl (k_r1 (k_lc (own := [("sign", 1)]) (by decide +kernel) (by decide +kernel) rfl (by decide +kernel) rfl (k_seq (k_var (j := 0) rfl rfl rfl)) (k_gn (j := 1) rfl rfl rfl) k_if0 (k_cmp (q := .isin) (k_var (j := 1) rfl rfl rfl) (k_glo (i := 0) (j := 2) rfl rfl) rfl)) k_r0 rfl)))))) k_nil)
def n_is_lot : List Str := ["thing", "one", "k"]
theorem k_is_lot (F : Fw) (n : Nat) : KSs (gm F n) ⟨n_is_lot, defScope (top 6), none⟩ (defBody (top 6)) c_is_lot :=
  (k_cons (k_ife (k_W (k_orT (k_notT (k_tru (k_isi (i := 1) (j := 0) (k := 2) (l := 5) (k_var (j := 0) rfl rfl rfl) rfl rfl rfl rfl rfl rfl) rfl rfl)) (k_orT (k_empTT (neg := false) (k_var (j := 0) rfl rfl rfl)) (k_oneO (k_notT (k_tru (k_bi (q := .all) (i := 3) (j := 3) rfl rfl rfl (k_r1 (k_lc (own := [("one", 1)]) (by decide +kernel) (by decide +kernel) rfl (by decide +kernel) rfl (k_seq (k_var (j := 0) rfl rfl rfl)) (k_gn (j := 1) rfl rfl rfl) k_if0 (k_call (i := 2) rfl rfl (k_a1 (k_var (j := 1) rfl rfl rfl) k_a0 rfl))) k_r0 rfl)) rfl rfl)))))) (k_cons (k_ret k_bl) k_nil) k_nil) (k_cons (k_ret (k_bi (q := .all) (i := 3) (j := 3) rfl rfl rfl (k_r1 (k_lc (own := [("k", 2)]) (by decide +kernel) (by decide +kernel) rfl (by decide +kernel) rfl (k_rng2 (i := 4) (j := 4) rfl rfl k_int (k_bi (q := .len) (i := 5) (j := 2) rfl rfl rfl (k_r1 (k_var (j := 0) rfl rfl rfl) k_r0 rfl)) rfl rfl) (k_gn (j := 1) rfl rfl rfl) k_if0 (k_cmp (q := .lt) (k_ix (k_var (j := 2) rfl rfl rfl) (k_bin rfl (k_var (j := 1) rfl rfl rfl) k_int) rfl) (k_ix (k_var (j := 2) rfl rfl rfl) (k_var (j := 1) rfl rfl rfl) rfl) rfl)) k_r0 rfl))) k_nil))
def n_first_name : List Str := ["tree"]
theorem k_first_name (F : Fw) (n : Nat) : KSs (gm F n) ⟨n_first_name, defScope (top 7), none⟩ (defBody (top 7)) c_first_name :=
  (k_cons (k_whl (k_notT (k_tru (k_isi (i := 1) (j := 0) (k := 2) (l := 1) (k_var (j := 0) rfl rfl rfl) rfl rfl rfl rfl rfl rfl) rfl rfl)) (k_cons (k_set (j := 0) rfl rfl rfl (k_ix (k_var (j := 0) rfl rfl rfl) k_int rfl) rfl) k_nil)) (k_cons (k_ret (k_var (j := 0) rfl rfl rfl)) k_nil))
def n_standing : List Str := ["tree", "part", "name"]
theorem k_standing (F : Fw) (n : Nat) : KSs (gm F n) ⟨n_standing, defScope (top 8), none⟩ (defBody (top 8)) c_standing :=
  (k_cons (k_ife (k_tru (k_isi (i := 1) (j := 0) (k := 2) (l := 1) (k_var (j := 0) rfl rfl rfl) rfl rfl rfl rfl rfl rfl) rfl rfl) (k_cons (k_ret (k_lst (k_a1 (k_var (j := 0) rfl rfl rfl) k_a0 rfl))) k_nil) k_nil) (k_cons (k_ret (k_lc2 (own := [("part", 1), ("name", 2)]) (by decide +kernel) (by decide +kernel) rfl (by decide +kernel) rfl (by decide +kernel) rfl rfl (k_seq (k_var (j := 0) rfl rfl rfl)) (k_gn (j := 1) rfl rfl rfl) k_if0 (k_seq (k_call (i := 3) rfl rfl (k_a1 (k_var (j := 1) rfl rfl rfl) k_a0 rfl))) (k_gn (j := 2) rfl rfl rfl) k_if0 (k_var (j := 2) rfl rfl rfl))) k_nil))
def n_is_fork : List Str := ["thing", "deep", "firsts", "part", "k"]
theorem k_is_fork (F : Fw) (n : Nat) : KSs (gm F n) ⟨n_is_fork, defScope (top 9), none⟩ (defBody (top 9)) c_is_fork :=
  (k_cons (k_ife (k_notT (k_tru (k_isi (i := 3) (j := 0) (k := 4) (l := 5) (k_var (j := 0) rfl rfl rfl) rfl rfl rfl rfl rfl rfl) rfl rfl)) (k_cons (k_ret (k_call (i := 5) rfl rfl (k_a1 (k_var (j := 0) rfl rfl rfl) k_a0 rfl))) k_nil) k_nil) (k_cons (k_ife (k_W (k_orT (k_cmpT (q := .eq) (k_var (j := 1) rfl rfl rfl) k_int rfl) (k_orT (k_cmpT (q := .lt) (k_bi (q := .len) (i := 6) (j := 2) rfl rfl rfl (k_r1 (k_var (j := 0) rfl rfl rfl) k_r0 rfl)) k_int rfl) (k_oneO (k_notT (k_tru (k_bi (q := .all) (i := 7) (j := 3) rfl rfl rfl (k_r1 (k_lc (own := [("part", 3)]) (by decide +kernel) (by decide +kernel) rfl (by decide +kernel) rfl (k_seq (k_var (j := 0) rfl rfl rfl)) (k_gn (j := 1) rfl rfl rfl) k_if0 (k_call (i := 2) rfl rfl (k_a1 (k_var (j := 1) rfl rfl rfl) (k_a1 (k_bin rfl (k_var (j := 3) rfl rfl rfl) k_int) k_a0 rfl) rfl))) k_r0 rfl)) rfl rfl)))))) (k_cons (k_ret k_bl) k_nil) k_nil) (k_cons (k_setN (j := 2) rfl rfl rfl (k_lc (own := [("part", 3)]) (by decide +kernel) (by decide +kernel) rfl (by decide +kernel) rfl (k_seq (k_var (j := 0) rfl rfl rfl)) (k_gn (j := 1) rfl rfl rfl) k_if0 (k_call (i := 2) rfl rfl (k_a1 (k_var (j := 1) rfl rfl rfl) k_a0 rfl))) rfl) (k_cons (k_ret (k_bi (q := .all) (i := 7) (j := 3) rfl rfl rfl (k_r1 (k_lc (own := [("k", 4)]) (by decide +kernel) (by decide +kernel) rfl (by decide +kernel) rfl (k_rng2 (i := 8) (j := 4) rfl rfl k_int (k_bi (q := .len) (i := 6) (j := 2) rfl rfl rfl (k_r1 (k_var (j := 2) rfl rfl rfl) k_r0 rfl)) rfl rfl) (k_gn (j := 1) rfl rfl rfl) k_if0 (k_cmp (q := .lt) (k_ix (k_var (j := 2) rfl rfl rfl) (k_bin rfl (k_var (j := 1) rfl rfl rfl) k_int) rfl) (k_ix (k_var (j := 2) rfl rfl rfl) (k_var (j := 1) rfl rfl rfl) rfl) rfl)) k_r0 rfl))) k_nil))))
def n_is_tree : List Str := ["thing", "names"]
theorem k_is_tree (F : Fw) (n : Nat) : KSs (gm F n) ⟨n_is_tree, defScope (top 10), none⟩ (defBody (top 10)) c_is_tree :=
  (k_cons (k_ife (k_notT (k_tru (k_call (i := 2) rfl rfl (k_a1 (k_var (j := 0) rfl rfl rfl) (k_a1 (k_glo (i := 3) (j := 3) rfl rfl) k_a0 rfl) rfl)) rfl rfl)) (k_cons (k_ret k_bl) k_nil) k_nil) (k_cons (k_set (j := 1) rfl rfl rfl (k_call (i := 4) rfl rfl (k_a1 (k_var (j := 0) rfl rfl rfl) k_a0 rfl)) rfl) (k_cons (k_ret (k_and (k_cmp (q := .le) (k_bi (q := .len) (i := 5) (j := 2) rfl rfl rfl (k_r1 (k_var (j := 1) rfl rfl rfl) k_r0 rfl)) (k_glo (i := 2) (j := 6) rfl rfl) rfl) (k_one (k_cmp (q := .eq) (k_lset (i := 5) (j := 2) (i2 := 7) (j2 := 6) rfl rfl rfl rfl (k_var (j := 1) rfl rfl rfl) rfl) (k_bi (q := .len) (i := 5) (j := 2) rfl rfl rfl (k_r1 (k_var (j := 1) rfl rfl rfl) k_r0 rfl)) rfl)))) k_nil)))
def n__law_pen : List Str := ["_law_script"]
theorem k__law_pen (F : Fw) (n : Nat) : KSs (gm F n) ⟨n__law_pen, defScope (top 12), none⟩ (defBody (top 12)) c__law_pen :=
  (k_cons (k_ret (k_disp (k_psS (k_bi (q := .list) (i := 1) (j := 7) rfl rfl rfl (k_r1 (k_sl (k_var (j := 0) rfl rfl rfl) k_o0 (k_o1 k_int)) k_r0 rfl)) (k_psS k_int (k_psS k_int k_ps0))) (by simp) (by decide +kernel))) k_nil)
def n__law_draw : List Str := ["_law_pen_here", "_law_many", "_law_found", "_law_at", "_law_cell", "_law_whole", "_law_one", "_law_two"]
theorem k__law_draw (F : Fw) (n : Nat) : KSs (gm F n) ⟨n__law_draw, defScope (top 13), none⟩ (defBody (top 13)) c__law_draw :=
  (k_cons (k_ife (k_cmpT (q := .gt) (k_ix (k_var (j := 0) rfl rfl rfl) k_str rfl) k_int rfl) (k_cons (k_set (j := 2) rfl rfl rfl (k_bin rfl (k_ix (k_var (j := 0) rfl rfl rfl) k_str rfl) (k_var (j := 1) rfl rfl rfl)) rfl) (k_cons (k_asgS (k_var (j := 0) rfl rfl rfl) k_str rfl (k_bin rfl (k_ix (k_var (j := 0) rfl rfl rfl) k_str rfl) (k_var (j := 1) rfl rfl rfl))) (k_cons (k_ret (k_var (j := 2) rfl rfl rfl)) k_nil))) k_nil) (k_cons (k_set (j := 3) rfl rfl rfl (k_ix (k_var (j := 0) rfl rfl rfl) k_str rfl) rfl) (k_cons (k_asgS (k_var (j := 0) rfl rfl rfl) k_str rfl (k_bin rfl (k_var (j := 3) rfl rfl rfl) k_int)) (k_cons (k_set (j := 4) rfl rfl rfl (k_bin rfl (k_bin rfl k_int (k_var (j := 3) rfl rfl rfl)) k_int) rfl) (k_cons (k_ife (k_cmpT (q := .ne) (k_ix (k_var (j := 0) rfl rfl rfl) k_str rfl) (k_lst k_a0) rfl) (k_cons (k_set (j := 4) rfl rfl rfl (k_ix (k_ix (k_var (j := 0) rfl rfl rfl) k_str rfl) (k_bin rfl (k_var (j := 3) rfl rfl rfl) (k_bi (q := .len) (i := 8) (j := 2) rfl rfl rfl (k_r1 (k_ix (k_var (j := 0) rfl rfl rfl) k_str rfl) k_r0 rfl))) rfl) rfl) k_nil) k_nil) (k_cons (k_ife (k_W (k_andT (k_cmpT (q := .lt) (k_var (j := 3) rfl rfl rfl) (k_bi (q := .len) (i := 8) (j := 2) rfl rfl rfl (k_r1 (k_ix (k_var (j := 0) rfl rfl rfl) k_str rfl) k_r0 rfl)) rfl) (k_oneA (k_cmpT (q := .ge) (k_bi (q := .abs) (i := 9) (j := 8) rfl rfl rfl (k_r1 (k_var (j := 4) rfl rfl rfl) k_r0 rfl)) (k_bin rfl k_int k_int) rfl)))) (k_cons (k_set (j := 5) rfl rfl rfl (k_bin rfl (k_bin rfl k_int (k_bi (q := .abs) (i := 9) (j := 8) rfl rfl rfl (k_r1 (k_var (j := 4) rfl rfl rfl) k_r0 rfl))) (k_bi (q := .int) (i := 10) (j := 9) rfl rfl rfl (k_r1 (k_cmp (q := .lt) (k_var (j := 4) rfl rfl rfl) k_int rfl) k_r0 rfl))) rfl) (k_cons (k_asgS (k_var (j := 0) rfl rfl rfl) k_str rfl (k_bin rfl (k_var (j := 5) rfl rfl rfl) (k_var (j := 1) rfl rfl rfl))) (k_cons (k_ret (k_bin rfl (k_var (j := 5) rfl rfl rfl) (k_var (j := 1) rfl rfl rfl))) k_nil))) k_nil) (k_cons (k_set (j := 6) rfl rfl rfl (k_bin rfl (k_bin rfl (k_bin rfl (k_bin rfl (k_bin rfl (k_var (j := 4) rfl rfl rfl) k_int) (k_bin rfl k_int (k_var (j := 3) rfl rfl rfl))) k_int) k_int) k_int) rfl) (k_cons (k_set (j := 7) rfl rfl rfl (k_bin rfl (k_bin rfl (k_bin rfl (k_bin rfl (k_var (j := 6) rfl rfl rfl) (k_bin rfl (k_var (j := 3) rfl rfl rfl) k_int)) (k_bin rfl (k_bin rfl k_int (k_var (j := 3) rfl rfl rfl)) (k_var (j := 3) rfl rfl rfl))) k_int) k_int) rfl) (k_cons (k_ret (k_bin rfl (k_bin rfl (k_var (j := 7) rfl rfl rfl) k_int) (k_var (j := 1) rfl rfl rfl))) k_nil)))))))))
def n__law_names : List Str := ["_law_pen_here", "_law_many", "_law_some", "_law_k"]
theorem k__law_names (F : Fw) (n : Nat) : KSs (gm F n) ⟨n__law_names, defScope (top 14), none⟩ (defBody (top 14)) c__law_names :=
  (k_cons (k_set (j := 2) rfl rfl rfl (k_lst (k_a1 k_str (k_a1 k_str (k_a1 k_str (k_a1 k_str (k_a1 k_str (k_a1 k_str (k_a1 k_str (k_a1 k_str (k_a1 k_str (k_a1 k_str (k_a1 k_str (k_a1 k_str (k_a1 k_str k_a0 rfl) rfl) rfl) rfl) rfl) rfl) rfl) rfl) rfl) rfl) rfl) rfl) rfl)) rfl) (k_cons (k_ret (k_bi (q := .sorted) (i := 3) (j := 10) rfl rfl rfl (k_r1 (k_lc (own := [("_law_k", 3)]) (by decide +kernel) (by decide +kernel) rfl (by decide +kernel) rfl (k_rng1 (i := 4) (j := 4) rfl rfl (k_var (j := 1) rfl rfl rfl) rfl) (k_gn (j := 1) rfl rfl rfl) k_if0 (k_me1 (q := .pop) rfl (k_var (j := 5) rfl rfl rfl) rfl rfl (k_call (i := 2) rfl rfl (k_a1 (k_var (j := 4) rfl rfl rfl) (k_a1 (k_bi (q := .len) (i := 3) (j := 2) rfl rfl rfl (k_r1 (k_var (j := 5) rfl rfl rfl) k_r0 rfl)) k_a0 rfl) rfl)) rfl)) k_r0 rfl))) k_nil))
def n__law_least : List Str := ["_law_tree_here"]
theorem k__law_least (F : Fw) (n : Nat) : KSs (gm F n) ⟨n__law_least, defScope (top 15), none⟩ (defBody (top 15)) c__law_least :=
  (k_cons (k_whl (k_notT (k_tru (k_isi (i := 1) (j := 0) (k := 2) (l := 1) (k_var (j := 0) rfl rfl rfl) rfl rfl rfl rfl rfl rfl) rfl rfl)) (k_cons (k_set (j := 0) rfl rfl rfl (k_ix (k_var (j := 0) rfl rfl rfl) k_int rfl) rfl) k_nil)) (k_cons (k_ret (k_var (j := 0) rfl rfl rfl)) k_nil))
def n__law_fork : List Str := ["_law_parts", "_law_order", "_law_k", "_law_part", "_law_least_here"]
theorem k__law_fork (F : Fw) (n : Nat) : KSs (gm F n) ⟨n__law_fork, defScope (top 16), none⟩ (defBody (top 16)) c__law_fork :=
  (k_cons (k_ife (k_cmpT (q := .eq) (k_bi (q := .len) (i := 2) (j := 2) rfl rfl rfl (k_r1 (k_var (j := 0) rfl rfl rfl) k_r0 rfl)) k_int rfl) (k_cons (k_ret (k_ix (k_var (j := 0) rfl rfl rfl) k_int rfl)) k_nil) k_nil) (k_cons (k_set (j := 1) rfl rfl rfl (k_bi (q := .sorted) (i := 3) (j := 10) rfl rfl rfl (k_r1 (k_lc (own := [("_law_k", 2), ("_law_part", 3)]) (by decide +kernel) (by decide +kernel) rfl (by decide +kernel) rfl (k_enum (i := 4) (j := 11) rfl rfl (k_var (j := 0) rfl rfl rfl) rfl) (k_gt (k_gs1 (j := 1) rfl rfl rfl (k_gs1 (j := 2) rfl rfl rfl k_gs0))) k_if0 (k_tup (k_a1 (k_call (i := 3) rfl rfl (k_a1 (k_var (j := 2) rfl rfl rfl) k_a0 rfl)) (k_a1 (k_var (j := 1) rfl rfl rfl) k_a0 rfl) rfl))) k_r0 rfl)) rfl) (k_cons (k_ret (k_bi (q := .tupl) (i := 5) (j := 5) rfl rfl rfl (k_r1 (k_lc (own := [("_law_least_here", 4), ("_law_k", 2)]) (by decide +kernel) (by decide +kernel) rfl (by decide +kernel) rfl (k_seq (k_var (j := 1) rfl rfl rfl)) (k_gt (k_gs1 (j := 1) rfl rfl rfl (k_gs1 (j := 2) rfl rfl rfl k_gs0))) k_if0 (k_ix (k_var (j := 3) rfl rfl rfl) (k_var (j := 2) rfl rfl rfl) rfl)) k_r0 rfl))) k_nil)))
def n__law_tree : List Str := ["_law_pen_here", "_law_names_here", "_law_wide", "_law_left", "_law_many", "_law_parts", "_law_k"]
theorem k__law_tree (F : Fw) (n : Nat) : KSs (gm F n) ⟨n__law_tree, defScope (top 17), none⟩ (defBody (top 17)) c__law_tree :=
  (k_cons (k_set (j := 3) rfl rfl rfl (k_bi (q := .list) (i := 7) (j := 7) rfl rfl rfl (k_r1 (k_var (j := 1) rfl rfl rfl) k_r0 rfl)) rfl) (k_cons (k_whl (k_cmpT (q := .gt) (k_bi (q := .len) (i := 8) (j := 2) rfl rfl rfl (k_r1 (k_var (j := 3) rfl rfl rfl) k_r0 rfl)) k_int rfl) (k_cons (k_set (j := 4) rfl rfl rfl (k_bin rfl k_int (k_bin rfl (k_var (j := 2) rfl rfl rfl) (k_ix (k_lst (k_a1 k_int (k_a1 k_int (k_a1 k_int (k_a1 (k_call (i := 9) rfl rfl (k_a1 (k_var (j := 0) rfl rfl rfl) (k_a1 k_int k_a0 rfl) rfl)) k_a0 rfl) rfl) rfl) rfl)) (k_call (i := 9) rfl rfl (k_a1 (k_var (j := 0) rfl rfl rfl) (k_a1 k_int k_a0 rfl) rfl)) rfl))) rfl) (k_cons (k_set (j := 5) rfl rfl rfl (k_lst k_a0) rfl) (k_cons (k_for (k_rng1 (i := 10) (j := 4) rfl rfl (k_bi (q := .min) (i := 11) (j := 12) rfl rfl rfl (k_r1 (k_var (j := 4) rfl rfl rfl) (k_r1 (k_bi (q := .len) (i := 8) (j := 2) rfl rfl rfl (k_r1 (k_var (j := 3) rfl rfl rfl) k_r0 rfl)) k_r0 rfl) rfl)) rfl) (k_gn (j := 6) rfl rfl rfl) (k_cons (k_exp (k_me1 (q := .append) rfl (k_var (j := 5) rfl rfl rfl) rfl rfl (k_me1 (q := .pop) rfl (k_var (j := 3) rfl rfl rfl) rfl rfl (k_ix (k_lst (k_a1 (k_call (i := 9) rfl rfl (k_a1 (k_var (j := 0) rfl rfl rfl) (k_a1 (k_bi (q := .len) (i := 8) (j := 2) rfl rfl rfl (k_r1 (k_var (j := 3) rfl rfl rfl) k_r0 rfl)) k_a0 rfl) rfl)) (k_a1 (k_neg k_int) k_a0 rfl) rfl)) (k_call (i := 9) rfl rfl (k_a1 (k_var (j := 0) rfl rfl rfl) (k_a1 k_int k_a0 rfl) rfl)) rfl) rfl) rfl) rfl) k_nil) rfl) (k_cons (k_exp (k_me1 (q := .append) rfl (k_var (j := 3) rfl rfl rfl) rfl rfl (k_call (i := 12) rfl rfl (k_a1 (k_var (j := 5) rfl rfl rfl) k_a0 rfl)) rfl) rfl) k_nil))))) (k_cons (k_ret (k_ix (k_var (j := 3) rfl rfl rfl) k_int rfl)) k_nil)))
def n__law_odd : List Str := ["_law_pen_here", "_law_some"]
theorem k__law_odd (F : Fw) (n : Nat) : KSs (gm F n) ⟨n__law_odd, defScope (top 18), none⟩ (defBody (top 18)) c__law_odd :=
  (k_cons (k_set (j := 1) rfl rfl rfl (k_lst (k_a1 k_non (k_a1 k_bl (k_a1 k_bl (k_a1 k_int (k_a1 k_int (k_a1 (k_bin rfl k_int k_int) (k_a1 k_str (k_a1 k_str (k_a1 k_str (k_a1 k_str (k_a1 k_str (k_a1 k_str (k_a1 k_str (k_a1 (k_lst k_a0) (k_a1 (k_tup k_a0) (k_a1 k_dnew (k_a1 (k_lst (k_a1 k_str k_a0 rfl)) (k_a1 (k_tup (k_a1 k_str k_a0 rfl)) k_a0 rfl) rfl) rfl) rfl) rfl) rfl) rfl) rfl) rfl) rfl) rfl) rfl) rfl) rfl) rfl) rfl) rfl) rfl)) rfl) (k_cons (k_ret (k_ix (k_bin rfl (k_var (j := 1) rfl rfl rfl) (k_lst (k_a1 k_str (k_a1 k_str (k_a1 (k_tup (k_a1 k_str (k_a1 k_str k_a0 rfl) rfl)) (k_a1 (k_disp (k_psS k_str k_ps0) (by simp) (by decide +kernel)) k_a0 rfl) rfl) rfl) rfl))) (k_call (i := 2) rfl rfl (k_a1 (k_var (j := 0) rfl rfl rfl) (k_a1 k_int k_a0 rfl) rfl)) rfl)) k_nil))
def n__law_is_name : List Str := ["_law_thing", "_law_letters", "_law_sign"]
theorem k__law_is_name (F : Fw) (n : Nat) : KSs (gm F n) ⟨n__law_is_name, defScope (top 19), none⟩ (defBody (top 19)) c__law_is_name :=
  (k_cons (k_set (j := 1) rfl rfl rfl k_str rfl) (k_cons (k_ret (k_and (k_isi (i := 2) (j := 0) (k := 3) (l := 1) (k_var (j := 0) rfl rfl rfl) rfl rfl rfl rfl rfl rfl) (k_and (k_chn (q := .lt) (r := .lt) k_int (k_bi (q := .len) (i := 4) (j := 2) rfl rfl rfl (k_r1 (k_var (j := 0) rfl rfl rfl) k_r0 rfl)) k_int rfl rfl) (k_one (k_cmp (q := .eq) (k_lc (own := [("_law_sign", 2)]) (by decide +kernel) (by decide +kernel) rfl (by decide +kernel) rfl (k_seq (k_var (j := 0) rfl rfl rfl)) (k_gn (j := 1) rfl rfl rfl) (k_if1 (k_cmpT (q := .notin) (k_var (j := 1) rfl rfl rfl) (k_var (j := 2) rfl rfl rfl) rfl)) (k_var (j := 1) rfl rfl rfl)) (k_lst k_a0) rfl))))) k_nil))
def n__law_all_names : List Str := ["_law_thing", "_law_found", "_law_left", "_law_one"]
theorem k__law_all_names (F : Fw) (n : Nat) : KSs (gm F n) ⟨n__law_all_names, defScope (top 20), none⟩ (defBody (top 20)) c__law_all_names :=
  (k_cons (k_set (j := 1) rfl rfl rfl (k_lst k_a0) rfl) (k_cons (k_set (j := 2) rfl rfl rfl (k_lst (k_a1 (k_var (j := 0) rfl rfl rfl) k_a0 rfl)) rfl) (k_cons (k_whl (k_empLT (neg := true) (k_var (j := 2) rfl rfl rfl)) (k_cons (k_set (j := 3) rfl rfl rfl (k_me1 (q := .pop) rfl (k_var (j := 2) rfl rfl rfl) rfl rfl k_int rfl) rfl) (k_cons (k_ife (k_W (k_andT (k_tru (k_isi (i := 4) (j := 0) (k := 5) (l := 5) (k_var (j := 3) rfl rfl rfl) rfl rfl rfl rfl rfl rfl) rfl rfl) (k_oneA (k_empTT (neg := true) (k_var (j := 3) rfl rfl rfl))))) (k_cons (k_set (j := 2) rfl rfl rfl (k_bin rfl (k_bi (q := .list) (i := 6) (j := 7) rfl rfl rfl (k_r1 (k_var (j := 3) rfl rfl rfl) k_r0 rfl)) (k_var (j := 2) rfl rfl rfl)) rfl) k_nil) (k_cons (k_ife (k_tru (k_call (i := 7) rfl rfl (k_a1 (k_var (j := 3) rfl rfl rfl) k_a0 rfl)) rfl rfl) (k_cons (k_exp (k_me1 (q := .append) rfl (k_var (j := 1) rfl rfl rfl) rfl rfl (k_var (j := 3) rfl rfl rfl) rfl) rfl) k_nil) (k_cons (k_ret k_non) k_nil)) k_nil)) k_nil))) (k_cons (k_ret (k_var (j := 1) rfl rfl rfl)) k_nil))))
def n__law_forks_right : List Str := ["_law_thing", "_law_left", "_law_one", "_law_firsts", "_law_part"]
theorem k__law_forks_right (F : Fw) (n : Nat) : KSs (gm F n) ⟨n__law_forks_right, defScope (top 21), none⟩ (defBody (top 21)) c__law_forks_right :=
  (k_cons (k_set (j := 1) rfl rfl rfl (k_lst (k_a1 (k_var (j := 0) rfl rfl rfl) k_a0 rfl)) rfl) (k_cons (k_whl (k_empLT (neg := true) (k_var (j := 1) rfl rfl rfl)) (k_cons (k_set (j := 2) rfl rfl rfl (k_me0 (q := .pop) rfl (k_var (j := 1) rfl rfl rfl) rfl rfl) rfl) (k_cons (k_ife (k_tru (k_isi (i := 4) (j := 0) (k := 5) (l := 5) (k_var (j := 2) rfl rfl rfl) rfl rfl rfl rfl rfl rfl) rfl rfl) (k_cons (k_setLc (j := 3) (own := [("_law_part", 4)]) rfl rfl rfl rfl (by decide +kernel) (by decide +kernel) (by decide +kernel) rfl (by decide +kernel) rfl (k_seq (k_var (j := 2) rfl rfl rfl)) (k_gn (j := 1) rfl rfl rfl) k_if0 (k_ix (k_bi (q := .sorted) (i := 2) (j := 10) rfl rfl rfl (k_r1 (k_call (i := 3) rfl rfl (k_a1 (k_var (j := 1) rfl rfl rfl) k_a0 rfl)) k_r0 rfl)) k_int rfl)) (k_cons (k_ife (k_W (k_orT (k_cmpT (q := .lt) (k_bi (q := .len) (i := 6) (j := 2) rfl rfl rfl (k_r1 (k_var (j := 2) rfl rfl rfl) k_r0 rfl)) k_int rfl) (k_oneO (k_cmpT (q := .ne) (k_bi (q := .sorted) (i := 7) (j := 10) rfl rfl rfl (k_r1 (k_var (j := 3) rfl rfl rfl) k_r0 rfl)) (k_var (j := 3) rfl rfl rfl) rfl)))) (k_cons (k_ret k_bl) k_nil) k_nil) (k_cons (k_exp (k_me1 (q := .extend) rfl (k_var (j := 1) rfl rfl rfl) rfl rfl (k_bi (q := .list) (i := 8) (j := 7) rfl rfl rfl (k_r1 (k_var (j := 2) rfl rfl rfl) k_r0 rfl)) rfl) rfl) k_nil))) k_nil) k_nil))) (k_cons (k_ret k_bl) k_nil)))
def n__law_is_tree : List Str := ["_law_thing", "_law_every"]
theorem k__law_is_tree (F : Fw) (n : Nat) : KSs (gm F n) ⟨n__law_is_tree, defScope (top 22), none⟩ (defBody (top 22)) c__law_is_tree :=
  (k_cons (k_set (j := 1) rfl rfl rfl (k_call (i := 2) rfl rfl (k_a1 (k_var (j := 0) rfl rfl rfl) k_a0 rfl)) rfl) (k_cons (k_ife (k_W (k_orT (k_cmpT (q := .is) (k_var (j := 1) rfl rfl rfl) k_non rfl) (k_orT (k_cmpT (q := .gt) (k_bi (q := .len) (i := 3) (j := 2) rfl rfl rfl (k_r1 (k_var (j := 1) rfl rfl rfl) k_r0 rfl)) k_int rfl) (k_oneO (k_cmpT (q := .lt) (k_lset (i := 3) (j := 2) (i2 := 4) (j2 := 6) rfl rfl rfl rfl (k_var (j := 1) rfl rfl rfl) rfl) (k_bi (q := .len) (i := 3) (j := 2) rfl rfl rfl (k_r1 (k_var (j := 1) rfl rfl rfl) k_r0 rfl)) rfl))))) (k_cons (k_ret k_bl) k_nil) k_nil) (k_cons (k_ret (k_call (i := 5) rfl rfl (k_a1 (k_var (j := 0) rfl rfl rfl) k_a0 rfl))) k_nil)))
def n__law_bent : List Str := ["_law_pen_here", "_law_thing", "_law_at", "_law_part", "_law_some"]
theorem k__law_bent (F : Fw) (n : Nat) : KSs (gm F n) ⟨n__law_bent, defScope (top 23), none⟩ (defBody (top 23)) c__law_bent :=
  (k_cons (k_ife (k_W (k_andT (k_tru (k_isi (i := 5) (j := 0) (k := 6) (l := 5) (k_var (j := 1) rfl rfl rfl) rfl rfl rfl rfl rfl rfl) rfl rfl) (k_andT (k_empTT (neg := true) (k_var (j := 1) rfl rfl rfl)) (k_oneA (k_cmpT (q := .gt) (k_call (i := 7) rfl rfl (k_a1 (k_var (j := 0) rfl rfl rfl) (k_a1 k_int k_a0 rfl) rfl)) k_int rfl))))) (k_cons (k_set (j := 2) rfl rfl rfl (k_call (i := 7) rfl rfl (k_a1 (k_var (j := 0) rfl rfl rfl) (k_a1 (k_bi (q := .len) (i := 8) (j := 2) rfl rfl rfl (k_r1 (k_var (j := 1) rfl rfl rfl) k_r0 rfl)) k_a0 rfl) rfl)) rfl) (k_cons (k_set (j := 3) rfl rfl rfl (k_ix (k_var (j := 1) rfl rfl rfl) (k_var (j := 2) rfl rfl rfl) rfl) rfl) (k_cons (k_set (j := 4) rfl rfl rfl (k_lst (k_a1 (k_bin rfl (k_sl (k_var (j := 1) rfl rfl rfl) k_o0 (k_o1 (k_var (j := 2) rfl rfl rfl))) (k_sl (k_var (j := 1) rfl rfl rfl) (k_o1 (k_bin rfl (k_var (j := 2) rfl rfl rfl) k_int)) k_o0)) (k_a1 (k_bin rfl (k_bin rfl (k_sl (k_var (j := 1) rfl rfl rfl) k_o0 (k_o1 (k_var (j := 2) rfl rfl rfl))) (k_tup (k_a1 (k_var (j := 3) rfl rfl rfl) k_a0 rfl))) (k_sl (k_var (j := 1) rfl rfl rfl) (k_o1 (k_var (j := 2) rfl rfl rfl)) k_o0)) (k_a1 (k_rev (k_var (j := 1) rfl rfl rfl)) (k_a1 (k_bi (q := .list) (i := 9) (j := 7) rfl rfl rfl (k_r1 (k_var (j := 1) rfl rfl rfl) k_r0 rfl)) (k_a1 (k_tup (k_a1 (k_var (j := 1) rfl rfl rfl) k_a0 rfl)) k_a0 rfl) rfl) rfl) rfl) rfl)) rfl) (k_cons (k_set (j := 4) rfl rfl rfl (k_bin rfl (k_var (j := 4) rfl rfl rfl) (k_lst (k_a1 (k_bin rfl (k_var (j := 1) rfl rfl rfl) (k_tup (k_a1 (k_call (i := 10) rfl rfl (k_a1 (k_var (j := 0) rfl rfl rfl) k_a0 rfl)) k_a0 rfl))) (k_a1 (k_bin rfl (k_sl (k_var (j := 1) rfl rfl rfl) (k_o1 (k_var (j := 2) rfl rfl rfl)) k_o0) (k_sl (k_var (j := 1) rfl rfl rfl) k_o0 (k_o1 (k_var (j := 2) rfl rfl rfl)))) (k_a1 (k_bin rfl (k_bin rfl (k_sl (k_var (j := 1) rfl rfl rfl) k_o0 (k_o1 (k_var (j := 2) rfl rfl rfl))) (k_tup (k_a1 (k_tup (k_a1 (k_var (j := 3) rfl rfl rfl) k_a0 rfl)) k_a0 rfl))) (k_sl (k_var (j := 1) rfl rfl rfl) (k_o1 (k_bin rfl (k_var (j := 2) rfl rfl rfl) k_int)) k_o0)) k_a0 rfl) rfl) rfl))) rfl) (k_cons (k_set (j := 4) rfl rfl rfl (k_bin rfl (k_var (j := 4) rfl rfl rfl) (k_bin rfl (k_lst (k_a1 (k_bin rfl (k_bin rfl (k_sl (k_var (j := 1) rfl rfl rfl) k_o0 (k_o1 (k_var (j := 2) rfl rfl rfl))) (k_tup (k_a1 (k_call (i := 11) rfl rfl (k_a1 (k_var (j := 0) rfl rfl rfl) (k_a1 (k_var (j := 3) rfl rfl rfl) k_a0 rfl) rfl)) k_a0 rfl))) (k_sl (k_var (j := 1) rfl rfl rfl) (k_o1 (k_bin rfl (k_var (j := 2) rfl rfl rfl) k_int)) k_o0)) k_a0 rfl)) k_int)) rfl) (k_cons (k_ret (k_ix (k_var (j := 4) rfl rfl rfl) (k_call (i := 7) rfl rfl (k_a1 (k_var (j := 0) rfl rfl rfl) (k_a1 k_int k_a0 rfl) rfl)) rfl)) k_nil)))))) k_nil) (k_cons (k_ife (k_W (k_andT (k_tru (k_isi (i := 5) (j := 0) (k := 12) (l := 1) (k_var (j := 1) rfl rfl rfl) rfl rfl rfl rfl rfl rfl) rfl rfl) (k_oneA (k_cmpT (q := .gt) (k_call (i := 7) rfl rfl (k_a1 (k_var (j := 0) rfl rfl rfl) (k_a1 k_int k_a0 rfl) rfl)) k_int rfl)))) (k_cons (k_ret (k_ix (k_lst (k_a1 (k_bin rfl (k_var (j := 1) rfl rfl rfl) k_str) (k_a1 (k_sl (k_var (j := 1) rfl rfl rfl) (k_o1 k_int) k_o0) (k_a1 (k_me0 (q := .upper) rfl (k_var (j := 1) rfl rfl rfl) rfl rfl) (k_a1 (k_bin rfl (k_var (j := 1) rfl rfl rfl) k_str) (k_a1 (k_tup (k_a1 (k_var (j := 1) rfl rfl rfl) k_a0 rfl)) (k_a1 k_str (k_a1 (k_bin rfl (k_var (j := 1) rfl rfl rfl) k_int) k_a0 rfl) rfl) rfl) rfl) rfl) rfl) rfl)) (k_call (i := 7) rfl rfl (k_a1 (k_var (j := 0) rfl rfl rfl) (k_a1 k_int k_a0 rfl) rfl)) rfl)) k_nil) k_nil) (k_cons (k_ret (k_call (i := 10) rfl rfl (k_a1 (k_var (j := 0) rfl rfl rfl) k_a0 rfl))) k_nil)))
def n__law_great : List Str := ["_law_pen_here", "_law_ten", "_law_tree_here", "_law_k"]
theorem k__law_great (F : Fw) (n : Nat) : KSs (gm F n) ⟨n__law_great, defScope (top 24), none⟩ (defBody (top 24)) c__law_great :=
  (k_cons (k_set (j := 1) rfl rfl rfl (k_call (i := 4) rfl rfl (k_a1 (k_var (j := 0) rfl rfl rfl) (k_a1 k_int k_a0 rfl) rfl)) rfl) (k_cons (k_set (j := 2) rfl rfl rfl (k_ix (k_var (j := 1) rfl rfl rfl) k_int rfl) rfl) (k_cons (k_for (k_rng2 (i := 5) (j := 4) rfl rfl k_int k_int rfl rfl) (k_gn (j := 3) rfl rfl rfl) (k_cons (k_set (j := 2) rfl rfl rfl (k_tup (k_a1 (k_var (j := 2) rfl rfl rfl) (k_a1 (k_ix (k_var (j := 1) rfl rfl rfl) (k_var (j := 3) rfl rfl rfl) rfl) k_a0 rfl) rfl)) rfl) k_nil) rfl) (k_cons (k_ret (k_ix (k_lst (k_a1 (k_var (j := 2) rfl rfl rfl) (k_a1 (k_bi (q := .tupl) (i := 6) (j := 5) rfl rfl rfl (k_r1 (k_var (j := 1) rfl rfl rfl) k_r0 rfl)) (k_a1 (k_call (i := 7) rfl rfl (k_a1 (k_var (j := 0) rfl rfl rfl) (k_a1 (k_var (j := 1) rfl rfl rfl) (k_a1 k_int k_a0 rfl) rfl) rfl)) k_a0 rfl) rfl) rfl)) (k_call (i := 8) rfl rfl (k_a1 (k_var (j := 0) rfl rfl rfl) (k_a1 k_int k_a0 rfl) rfl)) rfl)) k_nil))))
def n__law_is_lot : List Str := ["_law_thing", "_law_one"]
theorem k__law_is_lot (F : Fw) (n : Nat) : KSs (gm F n) ⟨n__law_is_lot, defScope (top 25), none⟩ (defBody (top 25)) c__law_is_lot :=
  (k_cons (k_ife (k_W (k_orT (k_notT (k_tru (k_isi (i := 1) (j := 0) (k := 2) (l := 5) (k_var (j := 0) rfl rfl rfl) rfl rfl rfl rfl rfl rfl) rfl rfl)) (k_orT (k_empTT (neg := false) (k_var (j := 0) rfl rfl rfl)) (k_oneO (k_empLT (neg := true) (k_lc (own := [("_law_one", 1)]) (by decide +kernel) (by decide +kernel) rfl (by decide +kernel) rfl (k_seq (k_var (j := 0) rfl rfl rfl)) (k_gn (j := 1) rfl rfl rfl) (k_if1 (k_notT (k_tru (k_call (i := 2) rfl rfl (k_a1 (k_var (j := 1) rfl rfl rfl) k_a0 rfl)) rfl rfl))) (k_var (j := 1) rfl rfl rfl))))))) (k_cons (k_ret k_bl) k_nil) k_nil) (k_cons (k_ret (k_cmp (q := .eq) (k_sset (i := 3) (j := 10) (i2 := 4) (j2 := 6) rfl rfl rfl rfl (k_var (j := 0) rfl rfl rfl) rfl) (k_bi (q := .list) (i := 5) (j := 7) rfl rfl rfl (k_r1 (k_var (j := 0) rfl rfl rfl) k_r0 rfl)) rfl)) k_nil))
def n__law_right : List Str := ["_law_thing", "_law_kept", "_law_due", "_law_turn"]
theorem k__law_right (F : Fw) (n : Nat) : KSs (gm F n) ⟨n__law_right, defScope (top 26), none⟩ (defBody (top 26)) c__law_right :=
  (k_cons (k_set (j := 1) rfl rfl rfl (k_bi (q := .repr) (i := 4) (j := 13) rfl rfl rfl (k_r1 (k_var (j := 0) rfl rfl rfl) k_r0 rfl)) rfl) (k_cons (k_set (j := 2) rfl rfl rfl (k_lst (k_a1 (k_call (i := 5) rfl rfl (k_a1 (k_var (j := 0) rfl rfl rfl) k_a0 rfl)) (k_a1 (k_call (i := 6) rfl rfl (k_a1 (k_var (j := 0) rfl rfl rfl) k_a0 rfl)) (k_a1 (k_call (i := 7) rfl rfl (k_a1 (k_var (j := 0) rfl rfl rfl) k_a0 rfl)) k_a0 rfl) rfl) rfl)) rfl) (k_cons (k_for (k_rng1 (i := 8) (j := 4) rfl rfl k_int rfl) (k_gn (j := 3) rfl rfl rfl) (k_cons (k_ife (k_W (k_orT (k_cmpT (q := .ne) (k_bi (q := .repr) (i := 4) (j := 13) rfl rfl rfl (k_r1 (k_lst (k_a1 (k_call (i := 9) rfl rfl (k_a1 (k_var (j := 0) rfl rfl rfl) k_a0 rfl)) (k_a1 (k_call (i := 10) rfl rfl (k_a1 (k_var (j := 0) rfl rfl rfl) k_a0 rfl)) (k_a1 (k_call (i := 11) rfl rfl (k_a1 (k_var (j := 0) rfl rfl rfl) k_a0 rfl)) k_a0 rfl) rfl) rfl)) k_r0 rfl)) (k_bi (q := .repr) (i := 4) (j := 13) rfl rfl rfl (k_r1 (k_var (j := 2) rfl rfl rfl) k_r0 rfl)) rfl) (k_oneO (k_cmpT (q := .ne) (k_bi (q := .repr) (i := 4) (j := 13) rfl rfl rfl (k_r1 (k_var (j := 0) rfl rfl rfl) k_r0 rfl)) (k_var (j := 1) rfl rfl rfl) rfl)))) (k_cons (k_ret k_bl) k_nil) k_nil) k_nil) rfl) (k_cons (k_ret k_bl) k_nil))))
def n_law : List Str := ["_law_script", "_law_pen_here", "_law_deep", "_law_k", "_law_letters", "_law_things", "_law_turn", "_law_some", "_law_tree_here", "_law_letter", "_law_thing"]
theorem k_law (F : Fw) (n : Nat) : KSs (gm F n) ⟨n_law, defScope (top 27), none⟩ (defBody (top 27)) c_law :=
  (k_cons (k_set (j := 1) rfl rfl rfl (k_call (i := 9) rfl rfl (k_a1 (k_var (j := 0) rfl rfl rfl) k_a0 rfl)) rfl) (k_cons (k_set (j := 2) rfl rfl rfl k_str rfl) (k_cons (k_for (k_rng1 (i := 10) (j := 4) rfl rfl k_int rfl) (k_gn (j := 3) rfl rfl rfl) (k_cons (k_set (j := 2) rfl rfl rfl (k_tup (k_a1 (k_var (j := 2) rfl rfl rfl) k_a0 rfl)) rfl) k_nil) rfl) (k_cons (k_set (j := 4) rfl rfl rfl (k_bi (q := .tupl) (i := 11) (j := 5) rfl rfl rfl (k_r1 (k_lc (own := [("_law_letter", 9)]) (by decide +kernel) (by decide +kernel) rfl (by decide +kernel) rfl (k_seq k_str) (k_gn (j := 1) rfl rfl rfl) k_if0 (k_var (j := 1) rfl rfl rfl)) k_r0 rfl)) rfl) (k_cons (k_set (j := 5) rfl rfl rfl (k_lst (k_a1 (k_tup k_a0) (k_a1 (k_tup (k_a1 k_str (k_a1 k_str k_a0 rfl) rfl)) (k_a1 (k_tup (k_a1 k_str (k_a1 k_str k_a0 rfl) rfl)) (k_a1 (k_tup (k_a1 (k_tup (k_a1 k_str (k_a1 k_str k_a0 rfl) rfl)) (k_a1 k_str k_a0 rfl) rfl)) (k_a1 (k_tup (k_a1 k_str (k_a1 (k_tup (k_a1 k_str (k_a1 k_str k_a0 rfl) rfl)) k_a0 rfl) rfl)) (k_a1 (k_tup (k_a1 k_str (k_a1 (k_tup (k_a1 k_str (k_a1 k_str k_a0 rfl) rfl)) k_a0 rfl) rfl)) k_a0 rfl) rfl) rfl) rfl) rfl) rfl)) rfl) (k_cons (k_set (j := 5) rfl rfl rfl (k_bin rfl (k_var (j := 5) rfl rfl rfl) (k_lst (k_a1 (k_var (j := 2) rfl rfl rfl) (k_a1 (k_var (j := 4) rfl rfl rfl) (k_a1 (k_sl (k_var (j := 4) rfl rfl rfl) k_o0 (k_o1 k_int)) k_a0 rfl) rfl) rfl))) rfl) (k_cons (k_for (k_rng1 (i := 10) (j := 4) rfl rfl k_int rfl) (k_gn (j := 6) rfl rfl rfl) (k_cons (k_set (j := 7) rfl rfl rfl (k_call (i := 12) rfl rfl (k_a1 (k_var (j := 1) rfl rfl rfl) (k_a1 (k_bin rfl k_int (k_call (i := 13) rfl rfl (k_a1 (k_var (j := 1) rfl rfl rfl) (k_a1 k_int k_a0 rfl) rfl))) k_a0 rfl) rfl)) rfl) (k_cons (k_set (j := 8) rfl rfl rfl (k_call (i := 14) rfl rfl (k_a1 (k_var (j := 1) rfl rfl rfl) (k_a1 (k_var (j := 7) rfl rfl rfl) (k_a1 (k_call (i := 13) rfl rfl (k_a1 (k_var (j := 1) rfl rfl rfl) (k_a1 k_int k_a0 rfl) rfl)) k_a0 rfl) rfl) rfl)) rfl) (k_cons (k_ife (k_cmpT (q := .eq) (k_call (i := 13) rfl rfl (k_a1 (k_var (j := 1) rfl rfl rfl) (k_a1 k_int k_a0 rfl) rfl)) k_int rfl) (k_cons (k_set (j := 8) rfl rfl rfl (k_call (i := 15) rfl rfl (k_a1 (k_var (j := 1) rfl rfl rfl) k_a0 rfl)) rfl) k_nil) k_nil) (k_cons (k_set (j := 5) rfl rfl rfl (k_bin rfl (k_var (j := 5) rfl rfl rfl) (k_lst (k_a1 (k_var (j := 8) rfl rfl rfl) (k_a1 (k_bi (q := .tupl) (i := 11) (j := 5) rfl rfl rfl (k_r1 (k_var (j := 7) rfl rfl rfl) k_r0 rfl)) (k_a1 (k_ix (k_var (j := 7) rfl rfl rfl) k_int rfl) (k_a1 (k_tup (k_a1 (k_var (j := 8) rfl rfl rfl) (k_a1 k_str k_a0 rfl) rfl)) (k_a1 (k_tup (k_a1 k_str (k_a1 (k_var (j := 8) rfl rfl rfl) k_a0 rfl) rfl)) (k_a1 (k_tup (k_a1 (k_var (j := 8) rfl rfl rfl) (k_a1 (k_var (j := 8) rfl rfl rfl) k_a0 rfl) rfl)) (k_a1 (k_call (i := 16) rfl rfl (k_a1 (k_var (j := 1) rfl rfl rfl) k_a0 rfl)) k_a0 rfl) rfl) rfl) rfl) rfl) rfl) rfl))) rfl) (k_cons (k_set (j := 5) rfl rfl rfl (k_bin rfl (k_bin rfl (k_var (j := 5) rfl rfl rfl) (k_lc (own := [("_law_k", 3)]) (by decide +kernel) (by decide +kernel) rfl (by decide +kernel) rfl (k_rng1 (i := 10) (j := 4) rfl rfl k_int rfl) (k_gn (j := 1) rfl rfl rfl) k_if0 (k_call (i := 2) rfl rfl (k_a1 (k_var (j := 3) rfl rfl rfl) (k_a1 (k_var (j := 4) rfl rfl rfl) k_a0 rfl) rfl)))) (k_lc (own := [("_law_k", 3)]) (by decide +kernel) (by decide +kernel) rfl (by decide +kernel) rfl (k_rng1 (i := 10) (j := 4) rfl rfl k_int rfl) (k_gn (j := 1) rfl rfl rfl) k_if0 (k_call (i := 2) rfl rfl (k_a1 (k_var (j := 4) rfl rfl rfl) (k_a1 (k_bi (q := .tupl) (i := 3) (j := 5) rfl rfl rfl (k_r1 (k_var (j := 5) rfl rfl rfl) k_r0 rfl)) k_a0 rfl) rfl)))) rfl) k_nil))))) rfl) (k_cons (k_ret (k_cmp (q := .eq) (k_lc (own := [("_law_thing", 10)]) (by decide +kernel) (by decide +kernel) rfl (by decide +kernel) rfl (k_seq (k_var (j := 5) rfl rfl rfl)) (k_gn (j := 1) rfl rfl rfl) (k_if1 (k_notT (k_tru (k_call (i := 2) rfl rfl (k_a1 (k_var (j := 1) rfl rfl rfl) k_a0 rfl)) rfl rfl))) (k_var (j := 1) rfl rfl rfl)) (k_lst k_a0) rfl)) k_nil))))))))
section
variable {P : Program} {K : PySem.W.Frag} {mg : Str → Option Value} {a : Addr} {fd : FuncData}
theorem s_is_name : FnScope n_is_name ["thing"] (defScope (top 5)) := ⟨rfl, rfl, rfl, by decide +kernel, rfl, by decide +kernel, by decide +kernel⟩
theorem d_is_name (F : FunD K "is_name" "is_name" (defArgs (top 5)) (defBody (top 5)) (defScope (top 5)) [] [] a fd) (h : mg "is_name" = some (.ref a)) : DefOk P K mg fns cst free "is_name" ⟨1, 2, c_is_name⟩ :=
  ⟨_, _, _, n_is_name, ["thing"], a, fd, F, s_is_name, rfl, rfl, by decide +kernel, F.bindsN fun _ _ _ _ _ _ us hl => (match us, hl with | [_], _ => rfl), h, k_is_name⟩
theorem s_is_lot : FnScope n_is_lot ["thing"] (defScope (top 6)) := ⟨rfl, rfl, rfl, by decide +kernel, rfl, by decide +kernel, by decide +kernel⟩
theorem d_is_lot (F : FunD K "is_lot" "is_lot" (defArgs (top 6)) (defBody (top 6)) (defScope (top 6)) [] [] a fd) (h : mg "is_lot" = some (.ref a)) : DefOk P K mg fns cst free "is_lot" ⟨1, 3, c_is_lot⟩ :=
  ⟨_, _, _, n_is_lot, ["thing"], a, fd, F, s_is_lot, rfl, rfl, by decide +kernel, F.bindsN fun _ _ _ _ _ _ us hl => (match us, hl with | [_], _ => rfl), h, k_is_lot⟩
theorem s_first_name : FnScope n_first_name ["tree"] (defScope (top 7)) := ⟨rfl, rfl, rfl, by decide +kernel, rfl, by decide +kernel, by decide +kernel⟩
theorem d_first_name (F : FunD K "first_name" "first_name" (defArgs (top 7)) (defBody (top 7)) (defScope (top 7)) [] [] a fd) (h : mg "first_name" = some (.ref a)) : DefOk P K mg fns cst free "first_name" ⟨1, 1, c_first_name⟩ :=
  ⟨_, _, _, n_first_name, ["tree"], a, fd, F, s_first_name, rfl, rfl, by decide +kernel, F.bindsN fun _ _ _ _ _ _ us hl => (match us, hl with | [_], _ => rfl), h, k_first_name⟩
theorem s_standing : FnScope n_standing ["tree"] (defScope (top 8)) := ⟨rfl, rfl, rfl, by decide +kernel, rfl, by decide +kernel, by decide +kernel⟩
theorem d_standing (F : FunD K "standing" "standing" (defArgs (top 8)) (defBody (top 8)) (defScope (top 8)) [] [] a fd) (h : mg "standing" = some (.ref a)) : DefOk P K mg fns cst free "standing" ⟨1, 3, c_standing⟩ :=
  ⟨_, _, _, n_standing, ["tree"], a, fd, F, s_standing, rfl, rfl, by decide +kernel, F.bindsN fun _ _ _ _ _ _ us hl => (match us, hl with | [_], _ => rfl), h, k_standing⟩
theorem s_is_fork : FnScope n_is_fork ["thing", "deep"] (defScope (top 9)) := ⟨rfl, rfl, rfl, by decide +kernel, rfl, by decide +kernel, by decide +kernel⟩
theorem d_is_fork (F : FunD K "is_fork" "is_fork" (defArgs (top 9)) (defBody (top 9)) (defScope (top 9)) [] [] a fd) (h : mg "is_fork" = some (.ref a)) : DefOk P K mg fns cst free "is_fork" ⟨2, 5, c_is_fork⟩ :=
  ⟨_, _, _, n_is_fork, ["thing", "deep"], a, fd, F, s_is_fork, rfl, rfl, by decide +kernel, F.bindsN fun _ _ _ _ _ _ us hl => (match us, hl with | [_, _], _ => rfl), h, k_is_fork⟩
theorem s_is_tree : FnScope n_is_tree ["thing"] (defScope (top 10)) := ⟨rfl, rfl, rfl, by decide +kernel, rfl, by decide +kernel, by decide +kernel⟩
theorem d_is_tree (F : FunD K "is_tree" "is_tree" (defArgs (top 10)) (defBody (top 10)) (defScope (top 10)) [] [] a fd) (h : mg "is_tree" = some (.ref a)) : DefOk P K mg fns cst free "is_tree" ⟨1, 2, c_is_tree⟩ :=
  ⟨_, _, _, n_is_tree, ["thing"], a, fd, F, s_is_tree, rfl, rfl, by decide +kernel, F.bindsN fun _ _ _ _ _ _ us hl => (match us, hl with | [_], _ => rfl), h, k_is_tree⟩
theorem s__law_pen : FnScope n__law_pen ["_law_script"] (defScope (top 12)) := ⟨rfl, rfl, rfl, by decide +kernel, rfl, by decide +kernel, by decide +kernel⟩
theorem d__law_pen (F : FunD K "_law_pen" "_law_pen" (defArgs (top 12)) (defBody (top 12)) (defScope (top 12)) [] [] a fd) (h : mg "_law_pen" = some (.ref a)) : DefOk P K mg fns cst free "_law_pen" ⟨1, 1, c__law_pen⟩ :=
  ⟨_, _, _, n__law_pen, ["_law_script"], a, fd, F, s__law_pen, rfl, rfl, by decide +kernel, F.bindsN fun _ _ _ _ _ _ us hl => (match us, hl with | [_], _ => rfl), h, k__law_pen⟩
theorem s__law_draw : FnScope n__law_draw ["_law_pen_here", "_law_many"] (defScope (top 13)) := ⟨rfl, rfl, rfl, by decide +kernel, rfl, by decide +kernel, by decide +kernel⟩
theorem d__law_draw (F : FunD K "_law_draw" "_law_draw" (defArgs (top 13)) (defBody (top 13)) (defScope (top 13)) [] [] a fd) (h : mg "_law_draw" = some (.ref a)) : DefOk P K mg fns cst free "_law_draw" ⟨2, 8, c__law_draw⟩ :=
  ⟨_, _, _, n__law_draw, ["_law_pen_here", "_law_many"], a, fd, F, s__law_draw, rfl, rfl, by decide +kernel, F.bindsN fun _ _ _ _ _ _ us hl => (match us, hl with | [_, _], _ => rfl), h, k__law_draw⟩
theorem s__law_names : FnScope n__law_names ["_law_pen_here", "_law_many"] (defScope (top 14)) := ⟨rfl, rfl, rfl, by decide +kernel, rfl, by decide +kernel, by decide +kernel⟩
theorem d__law_names (F : FunD K "_law_names" "_law_names" (defArgs (top 14)) (defBody (top 14)) (defScope (top 14)) [] [] a fd) (h : mg "_law_names" = some (.ref a)) : DefOk P K mg fns cst free "_law_names" ⟨2, 4, c__law_names⟩ :=
  ⟨_, _, _, n__law_names, ["_law_pen_here", "_law_many"], a, fd, F, s__law_names, rfl, rfl, by decide +kernel, F.bindsN fun _ _ _ _ _ _ us hl => (match us, hl with | [_, _], _ => rfl), h, k__law_names⟩
theorem s__law_least : FnScope n__law_least ["_law_tree_here"] (defScope (top 15)) := ⟨rfl, rfl, rfl, by decide +kernel, rfl, by decide +kernel, by decide +kernel⟩
theorem d__law_least (F : FunD K "_law_least" "_law_least" (defArgs (top 15)) (defBody (top 15)) (defScope (top 15)) [] [] a fd) (h : mg "_law_least" = some (.ref a)) : DefOk P K mg fns cst free "_law_least" ⟨1, 1, c__law_least⟩ :=
  ⟨_, _, _, n__law_least, ["_law_tree_here"], a, fd, F, s__law_least, rfl, rfl, by decide +kernel, F.bindsN fun _ _ _ _ _ _ us hl => (match us, hl with | [_], _ => rfl), h, k__law_least⟩
theorem s__law_fork : FnScope n__law_fork ["_law_parts"] (defScope (top 16)) := ⟨rfl, rfl, rfl, by decide +kernel, rfl, by decide +kernel, by decide +kernel⟩
theorem d__law_fork (F : FunD K "_law_fork" "_law_fork" (defArgs (top 16)) (defBody (top 16)) (defScope (top 16)) [] [] a fd) (h : mg "_law_fork" = some (.ref a)) : DefOk P K mg fns cst free "_law_fork" ⟨1, 5, c__law_fork⟩ :=
  ⟨_, _, _, n__law_fork, ["_law_parts"], a, fd, F, s__law_fork, rfl, rfl, by decide +kernel, F.bindsN fun _ _ _ _ _ _ us hl => (match us, hl with | [_], _ => rfl), h, k__law_fork⟩
theorem s__law_tree : FnScope n__law_tree ["_law_pen_here", "_law_names_here", "_law_wide"] (defScope (top 17)) := ⟨rfl, rfl, rfl, by decide +kernel, rfl, by decide +kernel, by decide +kernel⟩
theorem d__law_tree (F : FunD K "_law_tree" "_law_tree" (defArgs (top 17)) (defBody (top 17)) (defScope (top 17)) [] [] a fd) (h : mg "_law_tree" = some (.ref a)) : DefOk P K mg fns cst free "_law_tree" ⟨3, 7, c__law_tree⟩ :=
  ⟨_, _, _, n__law_tree, ["_law_pen_here", "_law_names_here", "_law_wide"], a, fd, F, s__law_tree, rfl, rfl, by decide +kernel, F.bindsN fun _ _ _ _ _ _ us hl => (match us, hl with | [_, _, _], _ => rfl), h, k__law_tree⟩
theorem s__law_odd : FnScope n__law_odd ["_law_pen_here"] (defScope (top 18)) := ⟨rfl, rfl, rfl, by decide +kernel, rfl, by decide +kernel, by decide +kernel⟩
theorem d__law_odd (F : FunD K "_law_odd" "_law_odd" (defArgs (top 18)) (defBody (top 18)) (defScope (top 18)) [] [] a fd) (h : mg "_law_odd" = some (.ref a)) : DefOk P K mg fns cst free "_law_odd" ⟨1, 2, c__law_odd⟩ :=
  ⟨_, _, _, n__law_odd, ["_law_pen_here"], a, fd, F, s__law_odd, rfl, rfl, by decide +kernel, F.bindsN fun _ _ _ _ _ _ us hl => (match us, hl with | [_], _ => rfl), h, k__law_odd⟩
theorem s__law_is_name : FnScope n__law_is_name ["_law_thing"] (defScope (top 19)) := ⟨rfl, rfl, rfl, by decide +kernel, rfl, by decide +kernel, by decide +kernel⟩
theorem d__law_is_name (F : FunD K "_law_is_name" "_law_is_name" (defArgs (top 19)) (defBody (top 19)) (defScope (top 19)) [] [] a fd) (h : mg "_law_is_name" = some (.ref a)) : DefOk P K mg fns cst free "_law_is_name" ⟨1, 3, c__law_is_name⟩ :=
  ⟨_, _, _, n__law_is_name, ["_law_thing"], a, fd, F, s__law_is_name, rfl, rfl, by decide +kernel, F.bindsN fun _ _ _ _ _ _ us hl => (match us, hl with | [_], _ => rfl), h, k__law_is_name⟩
theorem s__law_all_names : FnScope n__law_all_names ["_law_thing"] (defScope (top 20)) := ⟨rfl, rfl, rfl, by decide +kernel, rfl, by decide +kernel, by decide +kernel⟩
theorem d__law_all_names (F : FunD K "_law_all_names" "_law_all_names" (defArgs (top 20)) (defBody (top 20)) (defScope (top 20)) [] [] a fd) (h : mg "_law_all_names" = some (.ref a)) : DefOk P K mg fns cst free "_law_all_names" ⟨1, 4, c__law_all_names⟩ :=
  ⟨_, _, _, n__law_all_names, ["_law_thing"], a, fd, F, s__law_all_names, rfl, rfl, by decide +kernel, F.bindsN fun _ _ _ _ _ _ us hl => (match us, hl with | [_], _ => rfl), h, k__law_all_names⟩
theorem s__law_forks_right : FnScope n__law_forks_right ["_law_thing"] (defScope (top 21)) := ⟨rfl, rfl, rfl, by decide +kernel, rfl, by decide +kernel, by decide +kernel⟩
theorem d__law_forks_right (F : FunD K "_law_forks_right" "_law_forks_right" (defArgs (top 21)) (defBody (top 21)) (defScope (top 21)) [] [] a fd) (h : mg "_law_forks_right" = some (.ref a)) : DefOk P K mg fns cst free "_law_forks_right" ⟨1, 5, c__law_forks_right⟩ :=
  ⟨_, _, _, n__law_forks_right, ["_law_thing"], a, fd, F, s__law_forks_right, rfl, rfl, by decide +kernel, F.bindsN fun _ _ _ _ _ _ us hl => (match us, hl with | [_], _ => rfl), h, k__law_forks_right⟩
theorem s__law_is_tree : FnScope n__law_is_tree ["_law_thing"] (defScope (top 22)) := ⟨rfl, rfl, rfl, by decide +kernel, rfl, by decide +kernel, by decide +kernel⟩
theorem d__law_is_tree (F : FunD K "_law_is_tree" "_law_is_tree" (defArgs (top 22)) (defBody (top 22)) (defScope (top 22)) [] [] a fd) (h : mg "_law_is_tree" = some (.ref a)) : DefOk P K mg fns cst free "_law_is_tree" ⟨1, 2, c__law_is_tree⟩ :=
  ⟨_, _, _, n__law_is_tree, ["_law_thing"], a, fd, F, s__law_is_tree, rfl, rfl, by decide +kernel, F.bindsN fun _ _ _ _ _ _ us hl => (match us, hl with | [_], _ => rfl), h, k__law_is_tree⟩
theorem s__law_bent : FnScope n__law_bent ["_law_pen_here", "_law_thing"] (defScope (top 23)) := ⟨rfl, rfl, rfl, by decide +kernel, rfl, by decide +kernel, by decide +kernel⟩
theorem d__law_bent (F : FunD K "_law_bent" "_law_bent" (defArgs (top 23)) (defBody (top 23)) (defScope (top 23)) [] [] a fd) (h : mg "_law_bent" = some (.ref a)) : DefOk P K mg fns cst free "_law_bent" ⟨2, 5, c__law_bent⟩ :=
  ⟨_, _, _, n__law_bent, ["_law_pen_here", "_law_thing"], a, fd, F, s__law_bent, rfl, rfl, by decide +kernel, F.bindsN fun _ _ _ _ _ _ us hl => (match us, hl with | [_, _], _ => rfl), h, k__law_bent⟩
theorem s__law_great : FnScope n__law_great ["_law_pen_here"] (defScope (top 24)) := ⟨rfl, rfl, rfl, by decide +kernel, rfl, by decide +kernel, by decide +kernel⟩
theorem d__law_great (F : FunD K "_law_great" "_law_great" (defArgs (top 24)) (defBody (top 24)) (defScope (top 24)) [] [] a fd) (h : mg "_law_great" = some (.ref a)) : DefOk P K mg fns cst free "_law_great" ⟨1, 4, c__law_great⟩ :=
  ⟨_, _, _, n__law_great, ["_law_pen_here"], a, fd, F, s__law_great, rfl, rfl, by decide +kernel, F.bindsN fun _ _ _ _ _ _ us hl => (match us, hl with | [_], _ => rfl), h, k__law_great⟩
theorem s__law_is_lot : FnScope n__law_is_lot ["_law_thing"] (defScope (top 25)) := ⟨rfl, rfl, rfl, by decide +kernel, rfl, by decide +kernel, by decide +kernel⟩
theorem d__law_is_lot (F : FunD K "_law_is_lot" "_law_is_lot" (defArgs (top 25)) (defBody (top 25)) (defScope (top 25)) [] [] a fd) (h : mg "_law_is_lot" = some (.ref a)) : DefOk P K mg fns cst free "_law_is_lot" ⟨1, 2, c__law_is_lot⟩ :=
  ⟨_, _, _, n__law_is_lot, ["_law_thing"], a, fd, F, s__law_is_lot, rfl, rfl, by decide +kernel, F.bindsN fun _ _ _ _ _ _ us hl => (match us, hl with | [_], _ => rfl), h, k__law_is_lot⟩
theorem s__law_right : FnScope n__law_right ["_law_thing"] (defScope (top 26)) := ⟨rfl, rfl, rfl, by decide +kernel, rfl, by decide +kernel, by decide +kernel⟩
theorem d__law_right (F : FunD K "_law_right" "_law_right" (defArgs (top 26)) (defBody (top 26)) (defScope (top 26)) [] [] a fd) (h : mg "_law_right" = some (.ref a)) : DefOk P K mg fns cst free "_law_right" ⟨1, 4, c__law_right⟩ :=
  ⟨_, _, _, n__law_right, ["_law_thing"], a, fd, F, s__law_right, rfl, rfl, by decide +kernel, F.bindsN fun _ _ _ _ _ _ us hl => (match us, hl with | [_], _ => rfl), h, k__law_right⟩
theorem s_law : FnScope n_law ["_law_script"] (defScope (top 27)) := ⟨rfl, rfl, rfl, by decide +kernel, rfl, by decide +kernel, by decide +kernel⟩
theorem d_law (F : FunD K "law" "law" (defArgs (top 27)) (defBody (top 27)) (defScope (top 27)) [] [] a fd) (h : mg "law" = some (.ref a)) : DefOk P K mg fns cst free "law" ⟨1, 11, c_law⟩ :=
  ⟨_, _, _, n_law, ["_law_script"], a, fd, F, s_law, rfl, rfl, by decide +kernel, F.bindsN fun _ _ _ _ _ _ us hl => (match us, hl with | [_], _ => rfl), h, k_law⟩
end
def dfs : List He.DefD := [⟨("is_name", none), "is_name", "is_name", defArgs (top 5), defBody (top 5), defScope (top 5), [], []⟩, ⟨("is_lot", none), "is_lot", "is_lot", defArgs (top 6), defBody (top 6), defScope (top 6), [], []⟩, ⟨("first_name", none), "first_name", "first_name", defArgs (top 7), defBody (top 7), defScope (top 7), [], []⟩, ⟨("standing", none), "standing", "standing", defArgs (top 8), defBody (top 8), defScope (top 8), [], []⟩, ⟨("is_fork", none), "is_fork", "is_fork", defArgs (top 9), defBody (top 9), defScope (top 9), [], []⟩, ⟨("is_tree", none), "is_tree", "is_tree", defArgs (top 10), defBody (top 10), defScope (top 10), [], []⟩, ⟨("_law_pen", none), "_law_pen", "_law_pen", defArgs (top 12), defBody (top 12), defScope (top 12), [], []⟩, ⟨("_law_draw", none), "_law_draw", "_law_draw", defArgs (top 13), defBody (top 13), defScope (top 13), [], []⟩, ⟨("_law_names", none), "_law_names", "_law_names", defArgs (top 14), defBody (top 14), defScope (top 14), [], []⟩, ⟨("_law_least", none), "_law_least", "_law_least", defArgs (top 15), defBody (top 15), defScope (top 15), [], []⟩, ⟨("_law_fork", none), "_law_fork", "_law_fork", defArgs (top 16), defBody (top 16), defScope (top 16), [], []⟩, ⟨("_law_tree", none), "_law_tree", "_law_tree", defArgs (top 17), defBody (top 17), defScope (top 17), [], []⟩, ⟨("_law_odd", none), "_law_odd", "_law_odd", defArgs (top 18), defBody (top 18), defScope (top 18), [], []⟩, ⟨("_law_is_name", none), "_law_is_name", "_law_is_name", defArgs (top 19), defBody (top 19), defScope (top 19), [], []⟩, ⟨("_law_all_names", none), "_law_all_names", "_law_all_names", defArgs (top 20), defBody (top 20), defScope (top 20), [], []⟩, ⟨("_law_forks_right", none), "_law_forks_right", "_law_forks_right", defArgs (top 21), defBody (top 21), defScope (top 21), [], []⟩, ⟨("_law_is_tree", none), "_law_is_tree", "_law_is_tree", defArgs (top 22), defBody (top 22), defScope (top 22), [], []⟩, ⟨("_law_bent", none), "_law_bent", "_law_bent", defArgs (top 23), defBody (top 23), defScope (top 23), [], []⟩, ⟨("_law_great", none), "_law_great", "_law_great", defArgs (top 24), defBody (top 24), defScope (top 24), [], []⟩, ⟨("_law_is_lot", none), "_law_is_lot", "_law_is_lot", defArgs (top 25), defBody (top 25), defScope (top 25), [], []⟩, ⟨("_law_right", none), "_law_right", "_law_right", defArgs (top 26), defBody (top 26), defScope (top 26), [], []⟩, ⟨("law", none), "law", "law", defArgs (top 27), defBody (top 27), defScope (top 27), [], []⟩]
def fas : List He.Fa := [.glo "is_name", .glo "is_lot", .glo "first_name", .glo "standing", .glo "is_fork", .glo "is_tree", .glo "_law_pen", .glo "_law_draw", .glo "_law_names", .glo "_law_least", .glo "_law_fork", .glo "_law_tree", .glo "_law_odd", .glo "_law_is_name", .glo "_law_all_names", .glo "_law_forks_right", .glo "_law_is_tree", .glo "_law_bent", .glo "_law_great", .glo "_law_is_lot", .glo "_law_right", .glo "law", .free "isinstance", .free "str", .free "len", .free "all", .free "range", .free "tuple", .free "set", .free "list", .free "abs", .free "int", .free "sorted", .free "enumerate", .free "min", .free "repr", .str "LETTERS" "abcdefghijklmnopqrstuvwxyz", .int "LONGEST" 8, .int "MOST_NAMES" 10, .int "MOST_DEEP" 9]
theorem defs {P : Program} {K : PySem.W.Frag} {h : Heap} {mg : Str → Option Value} (X : K.In h) (M : h.Ns mainGlobals mg) (c : He.SaysD fas dfs K) : ∀ (f : Nat) (x : Str), fns[f]? = some x → ∃ b, bodies[f]? = some b ∧ DefOk P K mg fns cst free x b := by
  obtain ⟨e0, F0⟩ := c.def_ 0 (d := ⟨("is_name", none), "is_name", "is_name", defArgs (top 5), defBody (top 5), defScope (top 5), [], []⟩) rfl
  obtain ⟨e1, F1⟩ := c.def_ 1 (d := ⟨("is_lot", none), "is_lot", "is_lot", defArgs (top 6), defBody (top 6), defScope (top 6), [], []⟩) rfl
  obtain ⟨e2, F2⟩ := c.def_ 2 (d := ⟨("first_name", none), "first_name", "first_name", defArgs (top 7), defBody (top 7), defScope (top 7), [], []⟩) rfl
  obtain ⟨e3, F3⟩ := c.def_ 3 (d := ⟨("standing", none), "standing", "standing", defArgs (top 8), defBody (top 8), defScope (top 8), [], []⟩) rfl
  obtain ⟨e4, F4⟩ := c.def_ 4 (d := ⟨("is_fork", none), "is_fork", "is_fork", defArgs (top 9), defBody (top 9), defScope (top 9), [], []⟩) rfl
  obtain ⟨e5, F5⟩ := c.def_ 5 (d := ⟨("is_tree", none), "is_tree", "is_tree", defArgs (top 10), defBody (top 10), defScope (top 10), [], []⟩) rfl
  obtain ⟨e6, F6⟩ := c.def_ 6 (d := ⟨("_law_pen", none), "_law_pen", "_law_pen", defArgs (top 12), defBody (top 12), defScope (top 12), [], []⟩) rfl
  obtain ⟨e7, F7⟩ := c.def_ 7 (d := ⟨("_law_draw", none), "_law_draw", "_law_draw", defArgs (top 13), defBody (top 13), defScope (top 13), [], []⟩) rfl
  obtain ⟨e8, F8⟩ := c.def_ 8 (d := ⟨("_law_names", none), "_law_names", "_law_names", defArgs (top 14), defBody (top 14), defScope (top 14), [], []⟩) rfl
  obtain ⟨e9, F9⟩ := c.def_ 9 (d := ⟨("_law_least", none), "_law_least", "_law_least", defArgs (top 15), defBody (top 15), defScope (top 15), [], []⟩) rfl
  obtain ⟨e10, F10⟩ := c.def_ 10 (d := ⟨("_law_fork", none), "_law_fork", "_law_fork", defArgs (top 16), defBody (top 16), defScope (top 16), [], []⟩) rfl
  obtain ⟨e11, F11⟩ := c.def_ 11 (d := ⟨("_law_tree", none), "_law_tree", "_law_tree", defArgs (top 17), defBody (top 17), defScope (top 17), [], []⟩) rfl
  obtain ⟨e12, F12⟩ := c.def_ 12 (d := ⟨("_law_odd", none), "_law_odd", "_law_odd", defArgs (top 18), defBody (top 18), defScope (top 18), [], []⟩) rfl
  obtain ⟨e13, F13⟩ := c.def_ 13 (d := ⟨("_law_is_name", none), "_law_is_name", "_law_is_name", defArgs (top 19), defBody (top 19), defScope (top 19), [], []⟩) rfl
  obtain ⟨e14, F14⟩ := c.def_ 14 (d := ⟨("_law_all_names", none), "_law_all_names", "_law_all_names", defArgs (top 20), defBody (top 20), defScope (top 20), [], []⟩) rfl
  obtain ⟨e15, F15⟩ := c.def_ 15 (d := ⟨("_law_forks_right", none), "_law_forks_right", "_law_forks_right", defArgs (top 21), defBody (top 21), defScope (top 21), [], []⟩) rfl
  obtain ⟨e16, F16⟩ := c.def_ 16 (d := ⟨("_law_is_tree", none), "_law_is_tree", "_law_is_tree", defArgs (top 22), defBody (top 22), defScope (top 22), [], []⟩) rfl
  obtain ⟨e17, F17⟩ := c.def_ 17 (d := ⟨("_law_bent", none), "_law_bent", "_law_bent", defArgs (top 23), defBody (top 23), defScope (top 23), [], []⟩) rfl
  obtain ⟨e18, F18⟩ := c.def_ 18 (d := ⟨("_law_great", none), "_law_great", "_law_great", defArgs (top 24), defBody (top 24), defScope (top 24), [], []⟩) rfl
  obtain ⟨e19, F19⟩ := c.def_ 19 (d := ⟨("_law_is_lot", none), "_law_is_lot", "_law_is_lot", defArgs (top 25), defBody (top 25), defScope (top 25), [], []⟩) rfl
  obtain ⟨e20, F20⟩ := c.def_ 20 (d := ⟨("_law_right", none), "_law_right", "_law_right", defArgs (top 26), defBody (top 26), defScope (top 26), [], []⟩) rfl
  obtain ⟨e21, F21⟩ := c.def_ 21 (d := ⟨("law", none), "law", "law", defArgs (top 27), defBody (top 27), defScope (top 27), [], []⟩) rfl
  intro f x e
  have e : (["is_name", "is_lot", "first_name", "standing", "is_fork", "is_tree", "_law_pen", "_law_draw", "_law_names", "_law_least", "_law_fork", "_law_tree", "_law_odd", "_law_is_name", "_law_all_names", "_law_forks_right", "_law_is_tree", "_law_bent", "_law_great", "_law_is_lot", "_law_right", "law"] : List Str)[f]? = some x := e
  show ∃ b, ([⟨1, 2, c_is_name⟩, ⟨1, 3, c_is_lot⟩, ⟨1, 1, c_first_name⟩, ⟨1, 3, c_standing⟩, ⟨2, 5, c_is_fork⟩, ⟨1, 2, c_is_tree⟩, ⟨1, 1, c__law_pen⟩, ⟨2, 8, c__law_draw⟩, ⟨2, 4, c__law_names⟩, ⟨1, 1, c__law_least⟩, ⟨1, 5, c__law_fork⟩, ⟨3, 7, c__law_tree⟩, ⟨1, 2, c__law_odd⟩, ⟨1, 3, c__law_is_name⟩, ⟨1, 4, c__law_all_names⟩, ⟨1, 5, c__law_forks_right⟩, ⟨1, 2, c__law_is_tree⟩, ⟨2, 5, c__law_bent⟩, ⟨1, 4, c__law_great⟩, ⟨1, 2, c__law_is_lot⟩, ⟨1, 4, c__law_right⟩, ⟨1, 11, c_law⟩] : List Fn)[f]? = some b ∧ _
  match f with
  | 0 => cases e; exact ⟨_, rfl, d_is_name F0 (He.glo_ok X M (c.fact 0 (f := .glo "is_name") rfl))⟩
  | 1 => cases e; exact ⟨_, rfl, d_is_lot F1 (He.glo_ok X M (c.fact 1 (f := .glo "is_lot") rfl))⟩
  | 2 => cases e; exact ⟨_, rfl, d_first_name F2 (He.glo_ok X M (c.fact 2 (f := .glo "first_name") rfl))⟩
  | 3 => cases e; exact ⟨_, rfl, d_standing F3 (He.glo_ok X M (c.fact 3 (f := .glo "standing") rfl))⟩
  | 4 => cases e; exact ⟨_, rfl, d_is_fork F4 (He.glo_ok X M (c.fact 4 (f := .glo "is_fork") rfl))⟩
  | 5 => cases e; exact ⟨_, rfl, d_is_tree F5 (He.glo_ok X M (c.fact 5 (f := .glo "is_tree") rfl))⟩
  | 6 => cases e; exact ⟨_, rfl, d__law_pen F6 (He.glo_ok X M (c.fact 6 (f := .glo "_law_pen") rfl))⟩
  | 7 => cases e; exact ⟨_, rfl, d__law_draw F7 (He.glo_ok X M (c.fact 7 (f := .glo "_law_draw") rfl))⟩
  | 8 => cases e; exact ⟨_, rfl, d__law_names F8 (He.glo_ok X M (c.fact 8 (f := .glo "_law_names") rfl))⟩
  | 9 => cases e; exact ⟨_, rfl, d__law_least F9 (He.glo_ok X M (c.fact 9 (f := .glo "_law_least") rfl))⟩
  | 10 => cases e; exact ⟨_, rfl, d__law_fork F10 (He.glo_ok X M (c.fact 10 (f := .glo "_law_fork") rfl))⟩
  | 11 => cases e; exact ⟨_, rfl, d__law_tree F11 (He.glo_ok X M (c.fact 11 (f := .glo "_law_tree") rfl))⟩
  | 12 => cases e; exact ⟨_, rfl, d__law_odd F12 (He.glo_ok X M (c.fact 12 (f := .glo "_law_odd") rfl))⟩
  | 13 => cases e; exact ⟨_, rfl, d__law_is_name F13 (He.glo_ok X M (c.fact 13 (f := .glo "_law_is_name") rfl))⟩
  | 14 => cases e; exact ⟨_, rfl, d__law_all_names F14 (He.glo_ok X M (c.fact 14 (f := .glo "_law_all_names") rfl))⟩
  | 15 => cases e; exact ⟨_, rfl, d__law_forks_right F15 (He.glo_ok X M (c.fact 15 (f := .glo "_law_forks_right") rfl))⟩
  | 16 => cases e; exact ⟨_, rfl, d__law_is_tree F16 (He.glo_ok X M (c.fact 16 (f := .glo "_law_is_tree") rfl))⟩
  | 17 => cases e; exact ⟨_, rfl, d__law_bent F17 (He.glo_ok X M (c.fact 17 (f := .glo "_law_bent") rfl))⟩
  | 18 => cases e; exact ⟨_, rfl, d__law_great F18 (He.glo_ok X M (c.fact 18 (f := .glo "_law_great") rfl))⟩
  | 19 => cases e; exact ⟨_, rfl, d__law_is_lot F19 (He.glo_ok X M (c.fact 19 (f := .glo "_law_is_lot") rfl))⟩
  | 20 => cases e; exact ⟨_, rfl, d__law_right F20 (He.glo_ok X M (c.fact 20 (f := .glo "_law_right") rfl))⟩
  | 21 => cases e; exact ⟨_, rfl, d_law F21 (He.glo_ok X M (c.fact 21 (f := .glo "law") rfl))⟩
  | f + 22 => cases e
theorem frees {K : PySem.W.Frag} {h : Heap} {mg : Str → Option Value} (X : K.In h) (M : h.Ns mainGlobals mg) (c : He.SaysD fas dfs K) : ∀ x ∈ free, mg x = none := by
  have all : ∀ x ∈ (["isinstance", "str", "len", "all", "range", "tuple", "set", "list", "abs", "int", "sorted", "enumerate", "min", "repr"] : List Str), mg x = none := by
    simp only [List.forall_mem_cons]
    exact ⟨He.free_ok X M (c.fact 22 (f := .free "isinstance") rfl), He.free_ok X M (c.fact 23 (f := .free "str") rfl), He.free_ok X M (c.fact 24 (f := .free "len") rfl), He.free_ok X M (c.fact 25 (f := .free "all") rfl), He.free_ok X M (c.fact 26 (f := .free "range") rfl), He.free_ok X M (c.fact 27 (f := .free "tuple") rfl), He.free_ok X M (c.fact 28 (f := .free "set") rfl), He.free_ok X M (c.fact 29 (f := .free "list") rfl), He.free_ok X M (c.fact 30 (f := .free "abs") rfl), He.free_ok X M (c.fact 31 (f := .free "int") rfl), He.free_ok X M (c.fact 32 (f := .free "sorted") rfl), He.free_ok X M (c.fact 33 (f := .free "enumerate") rfl), He.free_ok X M (c.fact 34 (f := .free "min") rfl), He.free_ok X M (c.fact 35 (f := .free "repr") rfl), fun _ z => nomatch z⟩
  exact all
theorem csts {K : PySem.W.Frag} {h : Heap} {mg : Str → Option Value} (X : K.In h) (M : h.Ns mainGlobals mg) (c : He.SaysD fas dfs K) : ∀ x d, (x, d) ∈ cst → ∃ v u, mg x = some u ∧ RelV v u ∧ ∀ H, RD K H d v := by
  have all : ∀ y ∈ ([("LETTERS", .str "abcdefghijklmnopqrstuvwxyz"), ("LONGEST", .int 8), ("MOST_NAMES", .int 10), ("MOST_DEEP", .int 9)] : List (Str × D)), ∃ v u, mg y.1 = some u ∧ RelV v u ∧ ∀ H, RD K H y.2 v := by
    simp only [List.forall_mem_cons]
    refine ⟨?_, ?_, ?_, ?_, fun _ z => nomatch z⟩
    · obtain ⟨t, e⟩ := He.str_ok X M (c.fact 36 (f := .str "LETTERS" "abcdefghijklmnopqrstuvwxyz") rfl)
      exact ⟨.str "abcdefghijklmnopqrstuvwxyz", _, e, ⟨t, rfl⟩, fun _ => rfl⟩
    · obtain ⟨t, e⟩ := He.int_ok X M (c.fact 37 (f := .int "LONGEST" 8) rfl)
      exact ⟨.int 8, _, e, ⟨t, rfl⟩, fun _ => rfl⟩
    · obtain ⟨t, e⟩ := He.int_ok X M (c.fact 38 (f := .int "MOST_NAMES" 10) rfl)
      exact ⟨.int 10, _, e, ⟨t, rfl⟩, fun _ => rfl⟩
    · obtain ⟨t, e⟩ := He.int_ok X M (c.fact 39 (f := .int "MOST_DEEP" 9) rfl)
      exact ⟨.int 9, _, e, ⟨t, rfl⟩, fun _ => rfl⟩
  exact fun x d z => all (x, d) z
def law_ix : Nat := 21
/-- what is left: the law in plain terms -/
def Left (depth : Nat) : Prop := ∀ ns : List Int, ns.length ≤ 63 → W bodies (depth + 1) law_ix [.fz (ns.map D.int)] (fun _ => none) fun r _ => r = .v (.bl true)
abbrev R : PySem.W.OpenRow := PySem.W.OpenLaw.row PySem.Challenge.rw_joinedtrees_k01_what_is_a_tree
abbrev hk : PySem.W.Hook := He.hookD 4 fas dfs
def ob (s : PySem.W.SharedT) : He.AlD := He.obsDG 4 fas dfs (HandSHeadRun.getT s)
theorem ob_eq (s : PySem.W.SharedT) : ob s = hk.obs s.abs := He.obsDG_eq (HandSHeadRun.getT_eq s)
def loose : List Str := (["is_name", "is_lot", "first_name", "standing", "is_fork", "is_tree", "_law_pen", "_law_draw", "_law_names", "_law_least", "_law_fork", "_law_tree", "_law_odd", "_law_is_name", "_law_all_names", "_law_forks_right", "_law_is_tree", "_law_bent", "_law_great", "_law_is_lot", "_law_right", "LETTERS", "LONGEST", "MOST_NAMES", "MOST_DEEP"] : List Str)
theorem run (w : World) : HandSHeadRun.RunEq R (PySem.W.view R.prog [27]) hk ob 4000 loose w := by
  intro os
  kernel_rfl
theorem holds_of {depth : Nat} (room : Room (depth + 1) callerA) (left : Left depth) : PySem.Challenge.rw_joinedtrees_k01_what_is_a_tree.Holds := by
  w_on; o_law
  refine HandSHeadRun.head_any (r := PySem.W.OpenLaw.row PySem.Challenge.rw_joinedtrees_k01_what_is_a_tree) (q := PySem.W.view (PySem.W.OpenLaw.row PySem.Challenge.rw_joinedtrees_k01_what_is_a_tree).prog [27]) (H := hk) (ob := ob) (M := 4000) (loose := loose) (d := HandSHeadRun.topDef (PySem.W.OpenLaw.row PySem.Challenge.rw_joinedtrees_k01_what_is_a_tree).prog 27) (kwd := []) ob_eq
    (by kernel_rfl) (fun s => by kernel_rfl) run (by kernel_rfl) (by kernel_rfl) (by kernel_rfl) (by rfl) (by first | assumption | decide +kernel) (by decide +kernel) ⟨rfl, rfl, rfl, rfl, rfl, by decide +kernel⟩ ?hw ?hc
  case hw => w_witness2
  case hc =>
    refine end_walk (l := PySem.Challenge.rw_joinedtrees_k01_what_is_a_tree) (n := 63) (k := depth + 1) (x := "_law_script") rfl (by decide) (by kernel_rfl) room ?_
    intro w mg fa h Y M hmg0
    obtain ⟨K, KX, c⟩ := Y
    have hmg : mg ("law" : Str) = some (.ref fa) := by
      have e : (HandSHeadRun.topDef (PySem.W.OpenLaw.row PySem.Challenge.rw_joinedtrees_k01_what_is_a_tree).prog 27).name = ("law" : Str) := by kernel_rfl
      rw [← e]
      exact hmg0
    obtain ⟨fd, F⟩ := c.def_ 21 (d := ⟨("law", none), "law", "law", defArgs (top 27), defBody (top 27), defScope (top 27), [], []⟩) rfl
    have e := hmg.symm.trans (He.glo_ok KX M (c.fact 21 (f := .glo "law") rfl))
    cases e
    have b := FunD.bindsA (ps := ["_law_script"]) F fun _ _ _ _ _ _ us hl => match us, hl with | [_], _ => rfl
    exact ⟨K, fd, W bodies (depth + 1) law_ix, KX, fun s v => b s [v] rfl, left, fun base _ _ => fn_ok (T := bodies) (f := law_ix) (defs KX M c) (frees KX M c) (csts KX M c) rfl F s_law rfl rfl (by decide +kernel) k_law⟩
end Dp_k01

set_option maxRecDepth 100000
set_option maxHeartbeats 1000000
namespace Dp_k01
open PySem L2 DP
local macro_rules
  | `(tactic| get_elem_tactic_trivial) => `(tactic| first
    | with_reducible assumption
    | exact up_same
    | (refine up_keep (by with_reducible assumption) ?_; get_elem_tactic_trivial))
local macro_rules
  | `(tactic| decreasing_trivial) => `(tactic| first
    | with_reducible assumption
    | (with_unfolding_all exact Nat.le_of_ble_eq_true rfl)
    | omega
    | exact shrt_of (by with_unfolding_all rfl)
    | exact sh_cut (by with_reducible assumption) _ _
    | exact cmul_l (by omega) (by omega)
    | exact cmul_r (by omega) (by omega)
    | exact pow_lit (by decide) (by decide) (by decide))
local macro_rules
  | `(tactic| contradiction) => `(tactic| with_reducible first
    | assumption | (apply r_var; with_unfolding_all rfl)
    | apply r_cst | apply r_glo | apply r_tup | apply r_lst | apply r_dK | apply r_bin | apply r_neg | apply r_cmp | apply r_chn
    | apply r_not | apply r_and | apply r_or | apply r_ite | apply r_ix | apply r_sl | apply r_rev | apply r_isi | apply r_bi | apply r_me | apply r_call | apply r_lc
    | apply r_es0 | apply r_es1 | apply r_rs0 | apply r_rs1 | apply r_o0 | apply r_o1 | apply r_part | apply r_ot0 | apply r_ot1 | apply r_mv
    | apply t_not | apply t_and | apply t_or | apply t_cmp | apply t_chn | (apply t_var; with_unfolding_all rfl) | apply t_isi | apply t_bi | apply t_me | apply t_call | apply t_ix
    | (apply x_len; with_unfolding_all exact Nat.le_of_ble_eq_true rfl) | (apply x_ty; with_unfolding_all exact ⟨_, rfl⟩) | (apply x_tyL; get_elem_tactic_trivial; rfl)
    | apply x_bl | apply x_int | (apply x_tru; with_unfolding_all rfl) | (apply x_isi; with_unfolding_all rfl)
    | apply i_T | apply i_F | apply i_nT | apply i_nF
    | apply o_addI | (apply o_addS; decreasing_trivial) | (apply o_addSS; decreasing_trivial; decreasing_trivial) | (apply o_addT; decreasing_trivial) | (apply o_addTT; decreasing_trivial; decreasing_trivial) | apply o_sub
    | (apply o_mulI; decreasing_trivial) | (apply o_mulS; decreasing_trivial) | (apply o_fdiv; decreasing_trivial) | (apply o_mod; decreasing_trivial) | (apply o_pow; decreasing_trivial)
    | (apply o_addNN; decreasing_trivial) | (apply o_addRN; get_elem_tactic_trivial; decreasing_trivial) | (apply o_addNR; get_elem_tactic_trivial; decreasing_trivial) | (apply o_addRR; get_elem_tactic_trivial; get_elem_tactic_trivial; decreasing_trivial)
    | apply c_eqI | apply c_eqS | apply c_eqB | apply c_neI | apply c_neS | apply c_neB | apply c_ltI | apply c_ltS | apply c_gtI | apply c_leI | apply c_geI | apply c_inS | apply c_ninS
    | (apply p_str; decreasing_trivial; with_unfolding_all rfl) | (apply p_tup; with_unfolding_all rfl) | (apply p_lstN; with_unfolding_all rfl) | (apply p_lst; get_elem_tactic_trivial; with_unfolding_all rfl) | (apply p_dK; get_elem_tactic_trivial; with_unfolding_all rfl)
    | (apply l_strS; decreasing_trivial) | (apply l_str; decreasing_trivial) | apply l_tup | apply l_fz | apply l_lstN | (apply l_lst; get_elem_tactic_trivial) | apply v_tup | apply v_lstN | (apply v_lst; get_elem_tactic_trivial)
    | (apply b_lenS; decreasing_trivial) | apply b_lenT | apply b_lenN | (apply b_lenL; get_elem_tactic_trivial) | apply b_abs | apply b_intI | apply b_intB | apply b_tuplN | apply b_tuplT | (apply b_tuplL; get_elem_tactic_trivial) | apply b_listN | apply b_listT | (apply b_listL; get_elem_tactic_trivial)
    | apply z_nil | apply z_exp | apply z_set | apply z_ret | apply z_ife | apply z_for | apply z_brk | apply z_cnt | apply z_sub
    | apply bn_name | (apply q_str; decreasing_trivial) | apply q_tup | apply q_fz | apply q_n | (apply q_ref; get_elem_tactic_trivial) | apply w_seq | apply w_rng1 | apply w_rng2)
local macro_rules
  | `(tactic| contradiction) => `(tactic| with_reducible first
    | (apply p_cells; get_elem_tactic_trivial) | (apply p_at; get_elem_tactic_trivial) | (apply p_left; get_elem_tactic_trivial)
    | (apply y_at; get_elem_tactic_trivial) | (apply y_left; get_elem_tactic_trivial))
local macro_rules
  | `(tactic| contradiction) => `(tactic| with_reducible first
    | apply r_lc2 | apply w_enum | apply e_n | apply c_isnotB | apply b_min | apply bn_tup2)
theorem b0 : bodies[0]? = some ⟨1, 2, bIsName⟩ := rfl
theorem b1 : bodies[1]? = some ⟨1, 3, bIsLot2 0⟩ := rfl
theorem b2 : bodies[2]? = some ⟨1, 1, bLeast⟩ := rfl
theorem b3 : bodies[3]? = some ⟨1, 3, bStanding 3⟩ := rfl
theorem b4 : bodies[4]? = some ⟨2, 5, bIsFork 0 4 2⟩ := rfl
theorem b5 : bodies[5]? = some ⟨1, 2, bIsTree 4 3⟩ := rfl
theorem b6 : bodies[6]? = some ⟨1, 1, bPen⟩ := rfl
theorem b7 : bodies[7]? = some ⟨2, 8, bDraw⟩ := rfl
theorem b8 : bodies[8]? = some ⟨2, 4, bNames 7⟩ := rfl
theorem b9 : bodies[9]? = some ⟨1, 1, bLeast⟩ := rfl
theorem b10 : bodies[10]? = some ⟨1, 5, bFork 9⟩ := rfl
theorem b11 : bodies[11]? = some ⟨3, 7, bTree 7 10⟩ := rfl
theorem b12 : bodies[12]? = some ⟨1, 2, bLOdd 7⟩ := rfl
theorem b13 : bodies[13]? = some ⟨1, 3, bLIsName⟩ := rfl
theorem b14 : bodies[14]? = some ⟨1, 4, bLAllNames 13⟩ := rfl
theorem b15 : bodies[15]? = some ⟨1, 5, bLForksRight 14⟩ := rfl
theorem b16 : bodies[16]? = some ⟨1, 2, bLIsTree 14 15⟩ := rfl
theorem b17 : bodies[17]? = some ⟨2, 5, bLBent 7 12 17⟩ := rfl
theorem b18 : bodies[18]? = some ⟨1, 4, bGreat 8 11 7⟩ := rfl
theorem b19 : bodies[19]? = some ⟨1, 2, bLIsLot 13⟩ := rfl
theorem b20 : bodies[20]? = some ⟨1, 4, bLRight 13 19 16 0 1 5⟩ := rfl
def nest : Nat → D
  | 0 => .str "a"
  | i + 1 => .tup [nest i]
theorem nest_tb : ∀ i, isTb (nest i) ∧ ht (nest i) = i ∧ sz (nest i) = i + 1
  | 0 => ⟨by rw [nest, isTb]; exact pool_wd _ List.mem_cons_self, by simp [nest, ht], by simp [nest, sz]⟩
  | i + 1 => by
    obtain ⟨a, b, c⟩ := nest_tb i
    exact ⟨by rw [nest, isTb]; exact ⟨by simp, isTbs_one a⟩, by rw [nest, ht, hts, hts, b]; omega, by rw [nest, sz, szs, szs, c]⟩
theorem wd_of {x : Str} (h : trB (.str x) = true) : isTb (.str x) := tr_tb _ (tr_of _ h)
theorem isTbs_two {x y : D} (h : isTb x) (h' : isTb y) : isTbs [x, y] := by rw [isTbs, isTbs, isTbs]; exact ⟨h, h', trivial⟩
abbrev stm1 : C := .asg (.name 5) (.bin .add (.var 5) (.lst [(.var 8), (.bi .tupl [(.var 7)]), (.ix (.var 7) (.cst (.int 0))), (.tup [(.var 8), (.cst (.str "zzzz"))]), (.tup [(.cst (.str "aaaa")), (.var 8)]), (.tup [(.var 8), (.var 8)]), (.call 12 [(.var 1)])]))
abbrev stm2 : C := .asg (.name 5) (.bin .add (.bin .add (.var 5) (.lc (.call 17 [(.var 1), (.var 8)]) (.name 3) (.rng1 (.cst (.int 4))) none [3])) (.lc (.call 17 [(.var 1), (.bi .tupl [(.var 7)])]) (.name 3) (.rng1 (.cst (.int 2))) none [3]))
theorem rest_ok {s l4 d2 d : D} {p c t t7 : Addr} {ts : List D} {x : Str} {xr : List Str} {i : Nat} {o3 o6 : Option D} {S : Sto} {nd : Nd} (hp : PenOk S p c (5000 * i + 1000)) (hi : i < 5) (htp : t ≠ p) (h7p : t7 ≠ p) (hS : S t = some (.lst ts)) (h7 : S t7 = some (.lst ((x :: xr).map .str)))
    (hpool : Pooled (x :: xr)) (hg : Good d) (hl : ts.length ≤ 9 + 13 * i) (hth : ∀ y ∈ ts, Th (rm S p) y)
    (q : ∀ S' t' ts', PenOk S' p c (5000 * (i + 1)) → t' ≠ p → S' t' = some (.lst ts') → ts'.length ≤ 9 + 13 * (i + 1) → (∀ y ∈ ts', Th (rm S' p) y) → nd.nx [some s, some (.ref p), some d2, o3, some l4, some (.ref t'), o6, some (.ref t7), some d, none, none] S') :
    wSs (W bodies 60) [stm1, stm2] [some s, some (.ref p), some d2, o3, some l4, some (.ref t), o6, some (.ref t7), some d, none, none] S nd := by
  have hdt := tr_tb d hg.tr
  have hdh := ht_nms d hg.tr
  have hdz := sz_nms d hg.tr
  have hfew := hg.few
  have hxt : isTbs ((x :: xr).map .str) := trs_tbs _ (isTrs_strs hpool.wd)
  have hxl := hpool.len
  have hxs : szs ((x :: xr).map .str) = (x :: xr).length := by
    rw [szs_sum, List.map_map]
    have : ∀ l : List Str, (l.map (sz ∘ D.str)).sum = l.length := fun l => by
      induction l with
      | nil => rfl
      | cons y l ih => rw [List.map_cons, List.sum_cons, ih, List.length_cons]; try (simp [sz, Nat.add_comm])
    exact this _
  have hxh : hts ((x :: xr).map .str) = 0 := by
    have : ∀ l : List Str, hts (l.map D.str) = 0 := fun l => by
      induction l with
      | nil => simp [hts]
      | cons y l ih => rw [List.map_cons, hts, ih]; try (simp [ht])
    exact this _
  have hxw : isTb (.str x) := by rw [isTb]; exact hpool.wd x List.mem_cons_self
  have hxtup : isTb (.tup ((x :: xr).map .str)) := by rw [isTb]; exact ⟨by simp, hxt⟩
  have hxlm : ((x :: xr).map D.str).length = (x :: xr).length := List.length_map _
  have hz4 : isTb (.str "zzzz") := wd_of (by decide +kernel)
  have ha4 : isTb (.str "aaaa") := wd_of (by decide +kernel)
  have eds : ∀ y : Str, sz (D.str y) = 1 := fun y => by simp [sz]
  have edh : ∀ y : Str, ht (D.str y) = 0 := fun y => by simp [ht]
  generalize hX : (x :: xr).map D.str = X at h7 hxt hxs hxh hxtup hxlm
  have hX0 : atI X 0 = some (.str x) := by rw [← hX]; exact atI_zero _ _
  repeat' contradiction
  refine p_lst h7 hX0 ?_
  repeat' contradiction
  refine odd_ok b12 b7 hp (by omega) ?_
  intro S1 o hp1 hE1 ho
  have e5 := hE1 _ _ htp hS
  repeat' contradiction
  refine o_addRN e5 (by rw [sizeLine_eq]; simp only [List.length_cons, List.length_nil]; omega) ?_
  refine (?key : ∀ T7 : List D, T7.length ≤ 16 + 13 * i → (∀ y ∈ T7, Th (rm S1 p) y) → mat (R.n (Ob.lst T7)) S1 _) _ (by rw [List.length_append]; simp only [List.length_cons, List.length_nil]; omega) ?all
  case all =>
    refine List.forall_mem_append.mpr ⟨fun y hy => (hth y hy).sub hE1.sub, ?_⟩
    have tb : ∀ {y : D}, isTb y → ht y ≤ 33 → sz y ≤ 1000 → Th (rm S1 p) y := fun a b c' => tb_th a b c'
    refine List.forall_mem_cons.mpr ⟨tb hdt (by omega) (by omega), ?_⟩
    refine List.forall_mem_cons.mpr ⟨tb hxtup (by rw [ht]; omega) (by rw [sz]; omega), ?_⟩
    refine List.forall_mem_cons.mpr ⟨tb hxw (by rw [edh]; omega) (by rw [eds]; omega), ?_⟩
    refine List.forall_mem_cons.mpr ⟨(bt_tbs (h' := 33) (z' := 1000) (isTbs_two hdt hz4) (by rw [hts, hts, hts, edh]; omega) (by rw [szs, szs, szs, eds]; omega)), ?_⟩
    refine List.forall_mem_cons.mpr ⟨(bt_tbs (h' := 33) (z' := 1000) (isTbs_two ha4 hdt) (by rw [hts, hts, hts, edh]; omega) (by rw [szs, szs, szs, eds]; omega)), ?_⟩
    refine List.forall_mem_cons.mpr ⟨(bt_tbs (h' := 33) (z' := 1000) (isTbs_two hdt hdt) (by rw [hts, hts, hts]; omega) (by rw [szs, szs, szs]; omega)), ?_⟩
    exact List.forall_mem_cons.mpr ⟨ho.th (by decide) (by decide), fun _ z => by cases z⟩
  intro T7 h7l hT7
  clear ho hth
  refine r_mn fun t5 ht5 => ?_
  have n5 : t5 ≠ p := hp1.ne ht5
  have hp2 := hp1.new (o := .lst T7) ht5
  have e7 : up S1 t5 (.lst T7) t7 = some (.lst X) := up_keep ht5 (hE1 _ _ h7p h7)
  have e55 : up S1 t5 (.lst T7) t5 = some (.lst T7) := up_same
  have hT7' : ∀ y ∈ T7, Th (rm (up S1 t5 (.lst T7)) p) y := fun y hy => (hT7 y hy).sub (Ext.new ht5).sub
  clear hT7
  generalize up S1 t5 (.lst T7) = S2 at hp2 e7 e55 hT7'
  repeat' contradiction
  refine ⟨by decide, by decide, ?_⟩
  refine lc_ok (fun j acc S' => acc.length = j ∧ PenOk S' p c (5000 * i + 1001 + 580 * j) ∧ Ext p S2 S' ∧ ∀ y ∈ acc, Th (rm S' p) y) (fun j y acc S' K hx hI hK => ⟨trivial, ?_⟩) (fun acc S' hI => ⟨trivial, ?_⟩) ⟨rfl, hp2.mono (by omega), Ext.rfl, fun _ z => by cases z⟩
  · obtain ⟨hj, hpj, hEj, hTj⟩ := hI
    have hj4 : j < 4 := by
      have := (List.getElem?_eq_some_iff.mp hx).1
      simpa [rngD] using this
    repeat' contradiction
    refine bent_ok b17 b12 b7 57 d hdt (by omega) (by omega) (by omega) hpj (by omega) ?_
    intro S3 r hp3 hE3 hr
    repeat' contradiction
    refine hK _ _ ⟨by rw [Option.toList_some, List.length_append, hj]; rfl, hp3.mono (by omega), hEj.trans hE3, fun y hy => ?_⟩
    rcases List.mem_append.mp hy with hy | hy
    · exact (hTj y hy).sub hE3.sub
    · rw [Option.toList_some, List.mem_singleton] at hy
      subst hy
      exact hr.th (by omega) (by omega)
  · obtain ⟨hj, hpj, hEj, hTj⟩ := hI
    have hj : acc.length = 4 := hj
    have hpj : PenOk S' p c (5000 * i + 1001 + 580 * 4) := hpj
    have e5' := hEj _ _ n5 e55
    have e7' := hEj _ _ h7p e7
    repeat' contradiction
    refine o_addRN e5' (by rw [sizeLine_eq]; omega) ?_
    repeat' contradiction
    refine ⟨by decide, by decide, ?_⟩
    refine lc_ok (fun j bcc S4 => bcc.length = j ∧ PenOk S4 p c (5000 * i + 3321 + 580 * j) ∧ Ext p S' S4 ∧ ∀ y ∈ bcc, Th (rm S4 p) y) (fun j y bcc S4 K hx hI hK => ⟨trivial, ?_⟩) (fun bcc S4 hI => ⟨trivial, ?_⟩) ⟨rfl, hpj.mono (by omega), Ext.rfl, fun _ z => by cases z⟩
    · obtain ⟨hj2, hpj2, hEj2, hTj2⟩ := hI
      have hj4 : j < 2 := by
        have := (List.getElem?_eq_some_iff.mp hx).1
        simpa [rngD] using this
      have e7'' := hEj2 _ _ h7p e7'
      repeat' contradiction
      refine bent_ok b17 b12 b7 57 (.tup X) hxtup (by rw [ht]; omega) (by rw [sz]; omega) (by rw [ht]; omega) hpj2 (by omega) ?_
      intro S3 r hp3 hE3 hr
      repeat' contradiction
      refine hK _ _ ⟨by rw [Option.toList_some, List.length_append, hj2]; rfl, hp3.mono (by omega), hEj2.trans hE3, fun y hy => ?_⟩
      rcases List.mem_append.mp hy with hy | hy
      · exact (hTj2 y hy).sub hE3.sub
      · rw [Option.toList_some, List.mem_singleton] at hy
        subst hy
        exact hr.th (by rw [ht]; omega) (by rw [sz]; omega)
    · obtain ⟨hj2, hpj2, hEj2, hTj2⟩ := hI
      have hj2 : bcc.length = 2 := hj2
      have hpj2 : PenOk S4 p c (5000 * i + 3321 + 580 * 2) := hpj2
      repeat' contradiction
      refine o_addNN (by rw [sizeLine_eq, List.length_append]; omega) ?_
      refine r_mn fun t6 ht6 => ?_
      have n6 : t6 ≠ p := hpj2.ne ht6
      have s1 : Sub (rm S' p) (rm (up S4 t6 (.lst (T7 ++ acc ++ bcc))) p) := (hEj2.then (hEj2.none n6 ht6)).sub
      refine q _ t6 _ ((hpj2.new ht6).mono (by omega)) n6 up_same (by rw [List.length_append, List.length_append]; omega) ?_
      intro y hy
      rcases List.mem_append.mp hy with hy | hy
      · rcases List.mem_append.mp hy with hy | hy
        · exact ((hT7' y hy).sub hEj.sub).sub s1
        · exact (hTj y hy).sub s1
      · exact (hTj2 y hy).sub (Ext.new ht6).sub
def letters : D := .tup (("abcdefghijk" : Str).cps.toList.map fun c => .str ⟨#[c]⟩)
theorem letters_tb : isTb letters ∧ ht letters ≤ 33 ∧ sz letters ≤ 1000 := ⟨tr_tb _ (tr_of _ (by decide +kernel)), by decide +kernel, by decide +kernel⟩
def LawInv (s : D) (p c : Addr) (i : Nat) (ρ : DP.Env) (S : Sto) : Prop := ∃ t ts d2 l4 o3 o6 o7 o8, ρ = [some s, some (.ref p), some d2, o3, some l4, some (.ref t), o6, o7, o8, none, none] ∧ t ≠ p ∧ PenOk S p c (5000 * i) ∧ S t = some (.lst ts) ∧ ts.length ≤ 9 + 13 * i ∧ ∀ y ∈ ts, Th (rm S p) y
theorem good_of_pool {xs : List Str} (hp : Pooled xs) {d : D} (htr : isTr d) (h : (nms d).Perm xs) : Good d := ⟨htr, by rw [h.length_eq]; exact hp.len, h.nodup_iff.mpr hp.nodup⟩
theorem left : Left 60 := by
  intro ns hns
  refine enter (b := ⟨1, 11, c_law⟩) (ρ := [some (.fz (ns.map .int)), none, none, none, none, none, none, none, none, none, none]) rfl rfl rfl ?_
  show wSs (W bodies 60) c_law _ _ _
  delta c_law
  repeat' contradiction
  refine pen_ok b6 ?_
  intro c ms hc hms
  refine r_mn fun p hp => ?_
  repeat' contradiction
  have hpc : p ≠ c := fun z => by subst z; rw [up_same] at hp; cases hp
  have hP1 : PenOk (up (up (fun x => none) c (Ob.lst (List.map D.int ms))) p (Ob.dK (pen c 0 0))) p c 0 := ⟨hpc, ms, 0, 0, up_same, up_keep hp up_same, by decide, by decide, by decide, hms⟩
  clear hp hc
  generalize (up (up (fun x => none) c (Ob.lst (List.map D.int ms))) p (Ob.dK (pen c 0 0))) = S0 at hP1
  refine ⟨by decide, by decide, ?_⟩
  refine for_ok (fun i ρ S' => S' = S0 ∧ ∃ o3, ρ = [some (.fz (ns.map .int)), some (.ref p), some (nest i), o3, none, none, none, none, none, none, none]) ?_ ?_ ⟨rfl, none, rfl⟩
  · rintro i x ρ S' K hx ⟨rfl, o3, rfl⟩ hK
    refine ⟨trivial, ?_⟩
    repeat' contradiction
    exact hK _ _ ⟨rfl, _, rfl⟩
  rintro ρ S' ⟨rfl, o3, rfl⟩
  refine ⟨trivial, ?_⟩
  have e30 : (rngD 0 (Int.toNat 30)).length = 30 := rfl
  rw [e30]
  repeat' contradiction
  refine lc_all (fun c => .str ⟨#[c]⟩) trivial (fun c hc K hK => ?_) ?_
  · repeat' contradiction
  repeat' contradiction
  refine r_mn fun t1 ht1 => ?_
  repeat' contradiction
  refine r_mn fun t2 ht2 => ?_
  have n1 : t1 ≠ p := hP1.ne ht1
  have n2 : t2 ≠ p := (hP1.new ht1).ne ht2
  refine (?key : ∀ (L : List D), L.length = 9 → (∀ y ∈ L, ∀ T : Sto, Th T y) → ∀ S2 : Sto, PenOk S2 p c 0 → S2 t2 = some (.lst L) → wSs (W bodies 60) _ [some (.fz (ns.map .int)), some (.ref p), some (nest 30), o3, some letters, some (.ref t2), none, none, none, none, none] S2 _) _ rfl ?all _ ((hP1.new ht1).new ht2) up_same
  case all =>
    have tb : ∀ {y : D}, isTb y → ht y ≤ 33 → sz y ≤ 1000 → ∀ T : Sto, Th T y := fun a b c' T => tb_th a b c'
    have tr : ∀ {y : D}, (trB y && decide (ht y ≤ 33) && decide (sz y ≤ 1000)) = true → ∀ T : Sto, Th T y := fun {y} h => by
      simp only [Bool.and_eq_true, decide_eq_true_eq] at h
      exact tb (tr_tb _ (tr_of _ h.1.1)) h.1.2 h.2
    refine List.forall_mem_append.mpr ⟨?_, ?_⟩
    · refine List.forall_mem_cons.mpr ⟨fun T => bt_tup0.th (by decide) (by decide), ?_⟩
      refine List.forall_mem_cons.mpr ⟨tr (by decide +kernel), ?_⟩
      refine List.forall_mem_cons.mpr ⟨tr (by decide +kernel), ?_⟩
      refine List.forall_mem_cons.mpr ⟨tr (by decide +kernel), ?_⟩
      refine List.forall_mem_cons.mpr ⟨tr (by decide +kernel), ?_⟩
      exact List.forall_mem_cons.mpr ⟨tr (by decide +kernel), fun _ z => by cases z⟩
    · refine List.forall_mem_cons.mpr ⟨tb (nest_tb 30).1 (by rw [(nest_tb 30).2.1]; omega) (by rw [(nest_tb 30).2.2]; omega), ?_⟩
      refine List.forall_mem_cons.mpr ⟨tb letters_tb.1 letters_tb.2.1 letters_tb.2.2, ?_⟩
      exact List.forall_mem_cons.mpr ⟨tr (by decide +kernel), fun _ z => by cases z⟩
  clear hP1 ht1 ht2
  intro L hL9 hL S2 hP2 e2
  repeat' contradiction
  refine ⟨by decide, by decide, ?_⟩
  refine for_ok (LawInv (.fz (ns.map .int)) p c) (fun i x ρ S K hx h hK => ⟨trivial, ?_⟩) (fun ρ S h => ⟨trivial, ?_⟩) ⟨t2, L, _, _, _, _, _, _, rfl, n2, hP2, e2, by omega, fun y hy => hL y hy _⟩
  · obtain ⟨t, ts, d2, l4, o3, o6, o7, o8, rfl, htp, hpi, hS, hl, hth⟩ := h
    have hi : i < 5 := by
      have := (List.getElem?_eq_some_iff.mp hx).1
      simpa [rngD] using this
    repeat' contradiction
    refine draw_ok b7 hpi (by omega) (by decide) (by decide) ?_
    intro S1 r1 hp1 hf1 g0 g1
    repeat' contradiction
    obtain ⟨m, hm, hm1, hm2⟩ : ∃ m : Nat, (1 : Int) + r1 = (m : Int) ∧ 1 ≤ m ∧ m ≤ 9 := ⟨(1 + r1).toNat, by omega, by omega, by omega⟩
    rw [hm]
    refine names_ok b8 b7 hp1 (by omega) (by omega) ?_
    intro S3 xs hp3 hE3 hxl hrest
    have hpool : Pooled xs := hrest
    obtain ⟨x0, xr, rfl⟩ : ∃ x0 xr, xs = x0 :: xr := by
      cases xs with
      | nil => rw [List.length_nil] at hxl; omega
      | cons a b => exact ⟨a, b, rfl⟩
    refine r_mn fun t7 ht7 => ?_
    have n7 : t7 ≠ p := hp3.ne ht7
    repeat' contradiction
    refine draw_ok b7 (hp3.new ht7) (by omega) (by decide) (by decide) ?_
    intro S4 w hp4 hf4 w0 w1
    have e7 : S4 t7 = some (.lst ((x0 :: xr).map .str)) := (hf4 t7 n7).trans up_same
    have hE4 : Ext p S S4 := fun b o hb e => (hf4 b hb).trans (up_keep ht7 (hE3 b o hb ((hf1 b hb).trans e)))
    clear hf1 hf4 ht7
    repeat' contradiction
    refine tree_ok b11 b7 b10 b9 hp4 (by omega) (by omega) e7 hpool.wd (by omega) (by omega) ?_
    intro S5 d hp5 hE5 htr hpm
    have hgood := good_of_pool hpool htr hpm
    repeat' contradiction
    refine draw_ok b7 hp5 (by omega) (by decide) (by decide) ?_
    intro S6 r6 hp6 hf6 _ _
    have hE6 : Ext p S S6 := fun b o hb e => (hf6 b hb).trans ((hE4.trans hE5) b o hb e)
    have e76 : S6 t7 = some (.lst ((x0 :: xr).map .str)) := (hf6 t7 n7).trans (hE5 _ _ n7 e7)
    clear hf6
    repeat' contradiction
    by_cases h6 : r6 = 0
    · refine i_D h6 ?_
      repeat' contradiction
      refine great_ok b18 b8 b11 b7 b10 b9 hp6 (by omega) ?_
      intro S7 d7 hp7 hE7 htr7 hl7 hpool7
      contradiction
      refine z_nil ?_
      exact rest_ok (hp7.mono (by omega)) hi htp n7 ((hE6.trans hE7) _ _ htp hS) (hE7 _ _ n7 e76) hpool (good_of_pool hpool7 htr7 (List.Perm.refl _)) hl (fun y hy => (hth y hy).sub (hE6.trans hE7).sub) fun S' t' ts' a b c' d' e' => hK _ _ ⟨t', ts', _, _, _, _, _, _, rfl, b, a, c', d', e'⟩
    · refine i_N h6 ?_
      refine z_nil ?_
      exact rest_ok (hp6.mono (by omega)) hi htp n7 (hE6 _ _ htp hS) e76 hpool hgood hl (fun y hy => (hth y hy).sub hE6.sub) fun S' t' ts' a b c' d' e' => hK _ _ ⟨t', ts', _, _, _, _, _, _, rfl, b, a, c', d', e'⟩
  · obtain ⟨t, ts, d2, l4, o3, o6, o7, o8, rfl, htp, hpi, hS, hl, hth⟩ := h
    repeat' contradiction
    refine lc_ok (fun i acc S' => acc = [] ∧ Sub S S') (fun i x acc S' K hx h hK => ?_) (fun acc S' h => ?_) ⟨rfl, Sub.rfl⟩
    · obtain ⟨rfl, hsub⟩ := h
      refine ⟨hsub _ _ hS, ?_⟩
      have hx : Th S' x := ((hth x (List.mem_of_getElem? hx)).sub rm_sub).sub hsub
      repeat' contradiction
      refine law_right_ok (k := 47) b20 b13 b19 b16 b14 b15 b0 b1 b5 b4 b2 b3 hx ?_
      intro S3 hs3
      repeat' contradiction
      exact hK none S3 ⟨rfl, hsub.trans hs3⟩
    · obtain ⟨rfl, hsub⟩ := h
      refine ⟨hsub _ _ hS, ?_⟩
      repeat' contradiction
      refine c_eq00 ?_
      rfl
theorem holds : PySem.Challenge.rw_joinedtrees_k01_what_is_a_tree.Holds := holds_of (depth := 60) ⟨rfl, by decide, by decide⟩ left
end Dp_k01

theorem PySem.Challenge.cw_joinedtrees_k01_what_is_a_tree_holds : PySem.Challenge.rw_joinedtrees_k01_what_is_a_tree.Holds := by
  exact Dp_k01.holds
