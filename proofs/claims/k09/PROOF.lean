import PyProof.Rows.All
import HandS.ForMost
import HandS.HeadHook1
import HandS.HeadHook2
import HandS.HeadHook3
import HandS.HeadHook4
import HandS.TupAny
import HandS.TupMul
import HandS.Deep
import HandS.Style
import HandS.IsInst
import HandS.Flow
import HandS.Defaults
import PyProof.ReprRoads
import KE.SortData
import HandS.Ends
import HandS.Head0
import HandS.Head1
import HandS.Head2
import HandS.HeadEnd
import HandS.HeadWalk
import HandS.Lambda
import KE.DataCmp
import HandS.More
import HandS.Iter
import PyProof.Draws
import PyProof.EnumMake
import PyProof.Rows.SetFrom
import HandS.Strs
import HandS.TupSets
import KE.SortKeyed
import HandS.Keys
import HandS.SortKw
import HandS.List
import HandS.SetFor
import PyProof.SeqRoads2
import HandS.Dict
import HandS.RaiseMore
import HandS.SetKeys
import KE.KUnpackStar
import HandS.Base
import HandS.Zip
import HandS.DictComp
import KE.KDictWalk
import KE.KDictSum
import HandS.Text
import HandS.FStr
import KE.SortKeyHeap
import KE.KUnpack
import HandS.Conv
import HandS.Exc
import HandS.ExcInit
import HandS.ExcOwn
import HandS.ExcIs
import HandS.ExcField
import KE.KExcIs
import HandS.EndTab
import KE.DataMinMax
import PyProof.StrLawsRepr
import PySem.Challenge.RW_joinedtrees_k09_trees_of_triples
set_option Elab.async false
set_option linter.all false
set_option maxRecDepth 100000
namespace DP
open PySem PySem.Spec PyProof.Rows L2
def asY (g : Addr → Option Obj) (n : Nat) : List Addr := He.asD g n ++ [cStatics, sysModules]
def frY (g : Addr → Option Obj) (n : Nat) : PySem.W.Frag := He.frT g (asY g n)
def obsY (n : Nat) (fa : List He.Fa) (fn : List He.DefD) (tf : List He.Defn) (ex : PySem.W.Frag → Bool) (g : Addr → Option Obj) : He.AlX := (He.obsT fa fn [] (frY g n), ex (frY g n) && He.tabsB g tf (frY g n))
theorem saysY {n : Nat} {fa : List He.Fa} {fn : List He.DefD} {tf : List He.Defn} {ex : PySem.W.Frag → Bool} {w : World} {h : Heap} (e : obsY n fa fn tf ex h.get? = He.valX fn [] w) : He.SaysX fa fn [] tf ex w h (frY h.get? n) := by
  have t : He.obsT fa fn [] (frY h.get? n) = He.valT fn [] w := congrArg Prod.fst e
  have b : (ex (frY h.get? n) && He.tabsB h.get? tf (frY h.get? n)) = true := congrArg Prod.snd e
  obtain ⟨b1, b2⟩ := He.ba b
  have each : ∀ p ∈ tf, PySem.W.codeHdIn (frY h.get? n) (He.cT (frY h.get? n) p).1 (He.cT (frY h.get? n) p).2 = true ∧ ∃ o, h.get? (He.cT (frY h.get? n) p).2 = some o ∧ He.emptyTab o = true := fun p hp => by
    obtain ⟨c1, c2⟩ := He.ba (List.all_eq_true.mp b2 p hp)
    refine ⟨c1, ?_⟩
    cases z : h.get? (He.cT (frY h.get? n) p).2 with
    | none => rw [z] at c2; cases c2
    | some o => rw [z] at c2; exact ⟨o, rfl, c2⟩
  refine ⟨t, b1, fun p hp => (each p hp).1, fun p hp => ?_, fun p hp => ?_⟩
  · obtain ⟨_, o, z, k⟩ := each p hp
    exact He.frT_none z k
  · obtain ⟨_, o, z, k⟩ := each p hp
    rw [z, He.emptyTab_eq k]
def hookY (n : Nat) (fa : List He.Fa) (fn : List He.DefD) (tf : List He.Defn) (ex : PySem.W.Frag → Bool) : PySem.W.Hook where
  α := He.AlX
  obs := fun s => obsY n fa fn tf ex s.heap.get?
  val := fun w => He.valX fn [] w
  says := fun w h => ∃ K : PySem.W.Frag, K.In h ∧ He.SaysX fa fn [] tf ex w h K
  of := fun _ _ e => ⟨_, He.frT_in, saysY e⟩
  keeps := fun _ _ _ ⟨K, hK, c⟩ k => ⟨K, PySem.W.Frag.In.keeps hK k, ⟨c.t, c.more, c.hd, c.out, fun p hp => k _ _ (c.empty p hp)⟩⟩
theorem obsY_eq {n : Nat} {fa : List He.Fa} {fn : List He.DefD} {tf : List He.Defn} {ex : PySem.W.Frag → Bool} {g : Addr → Option Obj} {s : Shared} (h : ∀ a, g a = s.heap.get? a) : obsY n fa fn tf ex g = (hookY n fa fn tf ex).obs s := by
  obtain rfl : g = s.heap.get? := funext h
  rfl
set_option maxRecDepth 100000
set_option maxHeartbeats 1000000
set_option maxRecDepth 100000
/-- the default of the keyword-only parameter x of the def f, if it is an object -/
def kwAt (f x : Str) (K : PySem.W.Frag) : Addr := match K.lookup (He.fAd K (f, none)) with
  | some ⟨_, _, .func fd, _⟩ => (match fd.kwdefaults with
    | .ref T => (match PySem.W.nsIn K T x with
      | some (some (.ref a)) => a
      | _ => 0)
    | _ => 0)
  | _ => 0
def emB (K : PySem.W.Frag) (a : Addr) : Bool := match K.lookup a with
  | some ⟨.type c, _, .seq its _, _⟩ => decide (c = "tuple") && decide (its.size = 0)
  | _ => false
end DP
set_option maxRecDepth 100000
set_option maxHeartbeats 0
namespace Dp_k09
open PySem PySem.Spec PyProof.Rows L2 DP
def top (i : Nat) : Stmt := PySem.Challenge.pw_joinedtrees_k09_trees_of_triples.main.body.getD i (.Pass ⟨0, 0, 0, 0⟩)
def dfs : List He.DefD := [⟨("all_names", none), "all_names", "all_names", defArgs (top 1), defBody (top 1), defScope (top 1), [], []⟩, ⟨("groups_of", none), "groups_of", "groups_of", defArgs (top 2), defBody (top 2), defScope (top 2), [], []⟩, ⟨("built", none), "built", "built", defArgs (top 3), defBody (top 3), defScope (top 3), [], []⟩, ⟨("agreed", none), "agreed", "agreed", defArgs (top 4), defBody (top 4), defScope (top 4), [], [("names", .adr (kwAt "agreed" "names"))]⟩, ⟨("_law_pen", none), "_law_pen", "_law_pen", defArgs (top 6), defBody (top 6), defScope (top 6), [], []⟩, ⟨("_law_draw", none), "_law_draw", "_law_draw", defArgs (top 7), defBody (top 7), defScope (top 7), [], []⟩, ⟨("_law_names", none), "_law_names", "_law_names", defArgs (top 8), defBody (top 8), defScope (top 8), [], []⟩, ⟨("_law_least", none), "_law_least", "_law_least", defArgs (top 9), defBody (top 9), defScope (top 9), [], []⟩, ⟨("_law_fork", none), "_law_fork", "_law_fork", defArgs (top 10), defBody (top 10), defScope (top 10), [], []⟩, ⟨("_law_tree", none), "_law_tree", "_law_tree", defArgs (top 11), defBody (top 11), defScope (top 11), [], []⟩, ⟨("_law_below", none), "_law_below", "_law_below", defArgs (top 12), defBody (top 12), defScope (top 12), [], []⟩, ⟨("_law_lots", none), "_law_lots", "_law_lots", defArgs (top 13), defBody (top 13), defScope (top 13), [], []⟩, ⟨("_law_has", none), "_law_has", "_law_has", defArgs (top 14), defBody (top 14), defScope (top 14), [], []⟩, ⟨("_law_all_of", none), "_law_all_of", "_law_all_of", defArgs (top 15), defBody (top 15), defScope (top 15), [], []⟩, ⟨("_law_any_triple", none), "_law_any_triple", "_law_any_triple", defArgs (top 16), defBody (top 16), defScope (top 16), [], []⟩, ⟨("_law_triples", none), "_law_triples", "_law_triples", defArgs (top 17), defBody (top 17), defScope (top 17), [], []⟩, ⟨("_law_beside", none), "_law_beside", "_law_beside", defArgs (top 18), defBody (top 18), defScope (top 18), [], []⟩, ⟨("_law_every", none), "_law_every", "_law_every", defArgs (top 19), defBody (top 19), defScope (top 19), [], []⟩, ⟨("_law_group", none), "_law_group", "_law_group", defArgs (top 20), defBody (top 20), defScope (top 20), [], []⟩, ⟨("_law_agree", none), "_law_agree", "_law_agree", defArgs (top 21), defBody (top 21), defScope (top 21), [], []⟩, ⟨("_law_is_name", none), "_law_is_name", "_law_is_name", defArgs (top 22), defBody (top 22), defScope (top 22), [], []⟩, ⟨("_law_names_told", none), "_law_names_told", "_law_names_told", defArgs (top 23), defBody (top 23), defScope (top 23), [], []⟩, ⟨("_law_is_tree_of", none), "_law_is_tree_of", "_law_is_tree_of", defArgs (top 24), defBody (top 24), defScope (top 24), [], []⟩, ⟨("_law_right", none), "_law_right", "_law_right", defArgs (top 25), defBody (top 25), defScope (top 25), [], []⟩, ⟨("_law_chain", none), "_law_chain", "_law_chain", defArgs (top 26), defBody (top 26), defScope (top 26), [], []⟩, ⟨("law", none), "law", "law", defArgs (top 27), defBody (top 27), defScope (top 27), [], []⟩]
def fas : List He.Fa := [.glo "all_names", .glo "groups_of", .glo "built", .glo "agreed", .glo "_law_pen", .glo "_law_draw", .glo "_law_names", .glo "_law_least", .glo "_law_fork", .glo "_law_tree", .glo "_law_below", .glo "_law_lots", .glo "_law_has", .glo "_law_all_of", .glo "_law_any_triple", .glo "_law_triples", .glo "_law_beside", .glo "_law_every", .glo "_law_group", .glo "_law_agree", .glo "_law_is_name", .glo "_law_names_told", .glo "_law_is_tree_of", .glo "_law_right", .glo "_law_chain", .glo "law", .free "list", .free "sorted", .free "set", .free "tuple", .free "max", .free "min", .free "len", .free "abs", .free "int", .free "range", .free "isinstance", .free "str", .free "enumerate", .free "repr"]
def ex (K : PySem.W.Frag) : Bool := emB K (kwAt "agreed" "names" K)
def tf : List He.Defn := []
abbrev R : PySem.W.OpenRow := PySem.W.OpenLaw.row PySem.Challenge.rw_joinedtrees_k09_trees_of_triples
abbrev hk : PySem.W.Hook := hookY 4 fas dfs tf ex
def ob (s : PySem.W.SharedT) : He.AlX := obsY 4 fas dfs tf ex (HandSHeadRun.getT s)
theorem ob_eq (s : PySem.W.SharedT) : ob s = hk.obs s.abs := obsY_eq (HandSHeadRun.getT_eq s)
def loose : List Str := (["all_names", "groups_of", "built", "agreed", "_law_pen", "_law_draw", "_law_names", "_law_least", "_law_fork", "_law_tree", "_law_below", "_law_lots", "_law_has", "_law_all_of", "_law_any_triple", "_law_triples", "_law_beside", "_law_every", "_law_group", "_law_agree", "_law_is_name", "_law_names_told", "_law_is_tree_of", "_law_right", "_law_chain"] : List Str)
theorem run (w : World) : HandSHeadRun.RunEq R (PySem.W.view R.prog [27]) hk ob 12000 loose w := by
  intro os
  kernel_rfl
end Dp_k09
namespace DP
section
variable {κ : Type} [BEq κ]
def put1 (l : List κ) (k : κ) : List κ := if l.any (· == k) then l else l ++ [k]
def met (val : Nat → κ) : Nat → List κ
  | 0 => []
  | i + 1 => put1 (met val i) (val i)
end
end DP
set_option maxRecDepth 100000
namespace DP
open PySem L2
/-- a datum: tuples by value, lists and dicts by their place; fz: a list that is never written -/
inductive D where
  | non | bl (b : Bool) | int (i : Int) | str (x : Str) | tup (xs : List D) | fz (xs : List D) | ref (a : Addr)
/-- what stands in the store -/
inductive Ob where
  | lst (xs : List D) | dK (kvs : List (Key × D)) | dT (kvs : List (List Key × D))
  /-- the table in which a def keeps its lambdas, all of the name q -/
  | tb (q : Str)
  /-- a dict that is walked: as it stands -/
  | lkK (kvs : List (Key × D)) (o : Obj) (ws : List (Key × V))
/-- what an expression gives: a datum, or an object that nothing names yet -/
inductive R where
  | v (d : D) | n (o : Ob)
abbrev Sto := Addr → Option Ob
def up (S : Sto) (a : Addr) (o : Ob) : Sto := fun b => if b = a then some o else S b
theorem up_same {S : Sto} {a : Addr} {o : Ob} : up S a o a = some o := if_pos rfl
theorem up_ne {S : Sto} {a b : Addr} {o : Ob} (h : b ≠ a) : up S a o b = S b := if_neg h
/-- without the object at a -/
def off (S : Sto) (a : Addr) : Sto := fun b => if b = a then none else S b
abbrev Env := List (Option D)
abbrev PR := R → Sto → Prop
abbrev PD := D → Sto → Prop
/-- an unnamed object is given a place -/
def mat (r : R) (S : Sto) (Q : PD) : Prop := match r with
  | .v d => Q d S
  | .n o => ∀ a, S a = none → Q (.ref a) (up S a o)
def see (S : Sto) : R → Option Ob
  | .n o => some o
  | .v (.ref a) => S a
  | _ => none
/-- the items of a list -/
def lstOf (S : Sto) : R → Option (List D)
  | .v (.fz xs) => some xs
  | r => match see S r with
    | some (.lst xs) => some xs
    | _ => none
/-- the items of a list or tuple -/
def seqOf (S : Sto) : R → Option (List D)
  | .v (.tup xs) => some xs
  | r => lstOf S r
/-! ### data read as a whole -/
def keyP : Key → PyData
  | .inl i => .int i
  | .inr x => .str x
def keyD : Key → D
  | .inl i => .int i
  | .inr x => .str x
mutual
inductive Rdg (S : Sto) : D → PyData → Prop
  | non : Rdg S .non .none
  | bl (b : Bool) : Rdg S (.bl b) (.bool b)
  | int (i : Int) : Rdg S (.int i) (.int i)
  | str (x : Str) : Rdg S (.str x) (.str x)
  | tup {xs : List D} {ps : List PyData} : RdgL S xs ps → Rdg S (.tup xs) (.tuple ps)
  | lst {a : Addr} {xs : List D} {ps : List PyData} : S a = some (.lst xs) → RdgL S xs ps → Rdg S (.ref a) (.list ps)
  | dK {a : Addr} {kvs : List (Key × D)} {ps : List PyData} : S a = some (.dK kvs) → RdgL S (kvs.map (·.2)) ps → Rdg S (.ref a) (.dict ((kvs.map fun kv => keyP kv.1).zip ps))
inductive RdgL (S : Sto) : List D → List PyData → Prop
  | nil : RdgL S [] []
  | cons {d : D} {ds : List D} {p : PyData} {ps : List PyData} : Rdg S d p → RdgL S ds ps → RdgL S (d :: ds) (p :: ps)
end
def RdgR (S : Sto) : R → PyData → Prop
  | .v d, p => Rdg S d p
  | .n (.lst xs), p => ∃ ps, p = .list ps ∧ RdgL S xs ps
  | .n (.dK kvs), p => ∃ ps, p = .dict ((kvs.map fun kv => keyP kv.1).zip ps) ∧ RdgL S (kvs.map (·.2)) ps
  | .n (.dT _), _ => False
  | .n (.tb _), _ => False
  | .n (.lkK ..), _ => False
/-! ### data without lists and dicts -/
mutual
def encD : D → PyData
  | .non => .none
  | .bl b => .bool b
  | .int i => .int i
  | .str x => .str x
  | .tup xs => .tuple (encDs xs)
  | .fz _ => .none
  | .ref _ => .none
def encDs : List D → List PyData
  | [] => []
  | d :: ds => encD d :: encDs ds
end
mutual
def pureD : D → Bool
  | .tup xs => pureDs xs
  | .fz _ => false
  | .ref _ => false
  | _ => true
def pureDs : List D → Bool
  | [] => true
  | d :: ds => pureD d && pureDs ds
end
theorem encDs_map : ∀ ds : List D, encDs ds = ds.map encD
  | [] => rfl
  | d :: ds => by rw [encDs, encDs_map ds]; rfl
theorem pureDs_all : ∀ ds : List D, pureDs ds = ds.all pureD
  | [] => rfl
  | d :: ds => by rw [pureDs, pureDs_all ds]; rfl
mutual
theorem rdg_pure (S : Sto) : ∀ d : D, pureD d = true → Rdg S d (encD d)
  | .non, _ => .non
  | .bl b, _ => .bl b
  | .int i, _ => .int i
  | .str x, _ => .str x
  | .tup xs, h => by rw [encD]; exact .tup (rdgL_pure S xs (by simpa only [pureD] using h))
  | .fz _, h => by simp [pureD] at h
  | .ref _, h => by simp [pureD] at h
theorem rdgL_pure (S : Sto) : ∀ ds : List D, pureDs ds = true → RdgL S ds (encDs ds)
  | [], _ => .nil
  | d :: ds, h => by
    rw [pureDs, Bool.and_eq_true] at h
    rw [encDs]
    exact .cons (rdg_pure S d h.1) (rdgL_pure S ds h.2)
end
/-- such data can be sorted: tuples with an item, no tuples, or one thing at most -/
inductive Srt (ds : List PyData) : Prop
  | inl (h : ∀ d, d ∈ ds → ∃ x r, d = .tuple (x :: r)) : Srt ds
  | inr (h : ∀ d, d ∈ ds → d ≠ .none ∧ ∀ xs, d ≠ .tuple xs) : Srt ds
  | one (h : ds.length ≤ 1) (hn : ∀ d, d ∈ ds → d ≠ .none) : Srt ds
/-- the sorted list of such data -/
def sortD (xs : List D) : List D := xs.mergeSort (PySem.W.dataLe false encD)
mutual
def hasLst : PyData → Bool
  | .list _ => true
  | .tuple xs => hasLsts xs
  | .dict kvs => hasLstK kvs
  | _ => false
def hasLsts : List PyData → Bool
  | [] => false
  | x :: xs => hasLst x || hasLsts xs
def hasLstK : List (PyData × PyData) → Bool
  | [] => false
  | (k, v) :: r => hasLst k || hasLst v || hasLstK r
end
/-! ### truth -/
def tru (S : Sto) (r : R) : Option Bool := match r with
  | .v .non => some false
  | .v (.bl b) => some b
  | .v (.int i) => some (i != 0)
  | .v (.str x) => if x.length ≤ sizeLine then some (x.length != 0) else none
  | r => match seqOf S r with
    | some xs => some (!xs.isEmpty)
    | none => match see S r with
      | some (.dK kvs) => some (!kvs.isEmpty)
      | _ => none
/-! ### what a set of listed keys holds -/
def metS (xs : List Str) : List Str := met (fun i => xs.getD i ⟨#[]⟩) xs.length
/-! ### terms -/
inductive BOp where | add | sub | mul | fdiv | mod | pow
inductive COp where | eq | ne | lt | le | gt | ge | isin | notin | is | isnot
inductive Ty where | str | tup | int | bool | list | dict
inductive Bi where | len | all | any | sorted | tupl | list | abs | int | min | max | sum | repr | reprM | minL | sortD | dict | suml | str | listD
/-- what is walked of a dict -/
inductive DW where | keys | vals | items
inductive Me where | append | extend | pop | reverse | upper | join | insert | count
/-- what is walked together: a list and a tuple; two tuples that must be equally long; two lists -/
inductive ZK where | lt | tts | ll
/-- targets of loops and comprehensions -/
inductive TN where
  | name (i : Nat) | tup (ts : List Nat)
  /-- a name, then names in a tuple -/
  | nest (i : Nat) (ts : List Nat)
mutual
inductive E where
  | var (i : Nat)
  | cst (c : D)
  | glo (x : Str) (c : D)
  | tup (es : List E)
  | lst (es : List E)
  | dK (ks : List Key) (es : List E)
  | bin (o : BOp) (a b : E)
  | neg (a : E)
  | cmp (o : COp) (a b : E)
  | chn (o p : COp) (a b c : E)
  | not (a : E)
  | and (a b : E)
  | or (a b : E)
  | ite (c a b : E)
  | ix (a i : E)
  | sl (a : E) (lo hi : Option E)
  | rev (a : E)
  | isi (a : E) (t : Ty)
  | bi (b : Bi) (es : List E)
  | me (m : Me) (o : E) (es : List E)
  | call (f : Nat) (es : List E)
  | lc (elt : E) (tg : TN) (it : I) (ifs : Option E) (own : List Nat)
  | emp (neg tp : Bool) (a : E)
  | lset (a : E)
  | sset (a : E)
  | sortk (f : Nat) (a : E)
  | rfd (P : Addr) (q : Str) (f : Nat) (es : List E)
  | lc2 (elt : E) (tg : TN) (it : I) (ifs : Option E) (tg1 : TN) (it1 : I) (ifs1 : Option E) (own own1 : List Nat)
  | get2 (d k x : E)
  | lcp (i : Nat)
  | lck (elt : E) (tg : TN) (i : Nat) (ifs : Option E) (own : List Nat)
  | dc (kx vx : E) (tg : TN) (it : I) (ifs : Option E) (own : List Nat)
  | dcT (kx vx : E) (tg : TN) (it : I) (ifs : Option E) (own : List Nat)
  | lckT (elt : E) (tg : TN) (i : Nat) (ifs : Option E) (own : List Nat)
  | d1 (k v : E)
  /-- a subscript of a dict that is walked -/
  | ixL (a i : E)
  /-- comprehensions over a dict -/
  | lcD (elt : E) (tg : TN) (w : DW) (i : Nat) (ifs : Option E) (own : List Nat)
  | dcD (kx vx : E) (tg : TN) (w : DW) (i : Nat) (ifs : Option E) (own : List Nat)
  | popD (d k : E)
  /-- sorted(d, key=lambda at: (e[at], at)) of two dicts by their slots -/
  | sortX (P : Addr) (q : Str) (i j : Nat)
  /-- dicts whose keys are tuples -/
  | dnT
  | get2T (d k x : E)
  | sortDT (i : Nat)
  | sdf (d k x : E)
  | sdfT (d k x : E)
  | ssc2 (elt : E) (tg : TN) (it : I) (ifs : Option E) (tg1 : TN) (it1 : I) (ifs1 : Option E) (own own1 : List Nat)
  /-- text.split(text) -/
  | spl (o e : E)
  /-- an f-string of texts and numbers -/
  | fst (es : List E)
  /-- int(text) -/
  | intS (e : E)
  /-- the place of the first such item of a list -/
  | idx (o e : E)
  /-- list(range(a, b)) -/
  | lrng (a b : E)
  /-- min(a, b), max(a, b) of two texts -/
  | mn2 (mx : Bool) (a b : E)
  /-- min(xs), max(xs) of texts -/
  | mnS (mx : Bool) (e : E)
  /-- list(e), where e may be one of the empty tuples at Ps that stand for a parameter left out -/
  | lstK (Ps : List Addr) (e : E)
inductive I where
  | seq (e : E)
  | rng1 (a : E)
  | rng2 (a b : E)
  | enum (e : E)
  | rngD (a b : E)
  | zip (z : ZK) (es : List E)
end
inductive TS where
  | name (i : Nat)
  | tup (ts : List Nat)
  | sub (o i : E)
inductive C where
  | exp (e : E)
  | asg (t : TS) (e : E)
  | par (i j : Nat) (es : List E)
  | star (i j : Nat) (e : E)
  /-- *others, last = a list -/
  | starB (i j : Nat) (e : E)
  | asg2 (o1 i1 o2 i2 : E) (es : List E)
  /-- x += e, x -= e of whole numbers -/
  | aug (i : Nat) (neg : Bool) (e : E)
  /-- d[k] += e, d[k] -= e of whole numbers -/
  | augS (o i : E) (neg : Bool) (e : E)
  | forD (w : DW) (tg : TN) (i : Nat) (j : Option Nat) (b : List C)
  | ret (e : E)
  | ret0
  | ife (c : E) (a b : List C)
  | whl (c : E) (b : List C)
  | for (tg : TN) (it : I) (b : List C)
  | brk
  | cnt
  | pas
  | bad
/-! ### operators -/
def addW (x y : R) (S : Sto) (Q : PR) : Prop := match x, y with
  | .v (.int i), .v (.int j) => Q (.v (.int (i + j))) S
  | .v (.str i), .v (.str j) => i.length + j.length ≤ sizeLine ∧ Q (.v (.str (i ++ j))) S
  | .v (.tup xs), .v (.tup ys) => xs.length + ys.length ≤ sizeLine ∧ Q (.v (.tup (xs ++ ys))) S
  | x, y => ∃ xs ys, see S x = some (.lst xs) ∧ see S y = some (.lst ys) ∧ xs.length + ys.length ≤ sizeLine ∧ Q (.n (.lst (xs ++ ys))) S
def subW (x y : R) (S : Sto) (Q : PR) : Prop := match x, y with
  | .v (.int i), .v (.int j) => Q (.v (.int (i - j))) S
  | _, _ => False
/-- a text k times -/
def repS (z : Str) (k : Nat) : Str := ⟨(List.replicate k z.cps.toList).flatten.toArray⟩
def mulW (x y : R) (S : Sto) (Q : PR) : Prop := match x, y with
  | .v (.int i), .v (.int j) => CMul i j ∧ Q (.v (.int (i * j))) S
  | .v (.str z), .v (.int k) => 1 ≤ z.length ∧ z.length ≤ 1000 ∧ 2 ≤ k ∧ k ≤ 1000 ∧ Q (.v (.str (repS z k.toNat))) S
  | x, y => ∃ xs k, see S x = some (.lst xs) ∧ y = .v (.int k) ∧ -(2 ^ 63) ≤ k ∧ k < 2 ^ 63 ∧ xs.length * k.toNat ≤ sizeLine ∧ Q (.n (.lst (List.replicate k.toNat xs).flatten)) S
def fdivW (x y : R) (S : Sto) (Q : PR) : Prop := match x, y with
  | .v (.int i), .v (.int j) => CDivN i j ∧ Q (.v (.int (i.fdiv j))) S
  | _, _ => False
def modW (x y : R) (S : Sto) (Q : PR) : Prop := match x, y with
  | .v (.int i), .v (.int j) => j ≠ 0 ∧ Q (.v (.int (i.fmod j))) S
  | _, _ => False
def powW (x y : R) (S : Sto) (Q : PR) : Prop := match x, y with
  | .v (.int i), .v (.int j) => CPow i j ∧ Q (.v (.int (i ^ j.toNat))) S
  | _, _ => False
def opW (o : BOp) (x y : R) (S : Sto) (Q : PR) : Prop := match o with
  | .add => addW x y S Q
  | .sub => subW x y S Q
  | .mul => mulW x y S Q
  | .fdiv => fdivW x y S Q
  | .mod => modW x y S Q
  | .pow => powW x y S Q
section
variable {κ : Type} [DecidableEq κ]
def valD (kvs : List (κ × D)) (k : κ) : Option D := (kvs.find? fun kv => decide (kv.1 = k)).map (·.2)
def putD (kvs : List (κ × D)) (k : κ) (v : D) : List (κ × D) :=
  if (kvs.any fun kv => decide (kv.1 = k)) = true then kvs.map (fun kv => if kv.1 = k then (kv.1, v) else kv) else kvs ++ [(k, v)]
end
/-- the dict without a key -/
def dropD {κ : Type} [DecidableEq κ] (kvs : List (κ × D)) (k : κ) : List (κ × D) := kvs.filter fun kv => decide (kv.1 ≠ k)
/-- a datum as a key of a dict -/
def keyOf : D → Option Key
  | .int i => some (.inl i)
  | .str x => some (.inr x)
  | _ => none
def inStr (x z : Str) : Bool := !(Builtin.Str.occurrences z x 0 z.length 1).isEmpty
def eqW (x y : R) (S : Sto) (Q : Bool → Prop) : Prop := match x, y with
  | .v (.str i), .v (.str j) => Q (decide (i = j))
  | .v (.int i), .v (.int j) => Q (decide (i = j))
  | .v (.bl i), .v (.bl j) => Q (decide (i = j))
  | x, y => ∃ p q, RdgR S x p ∧ RdgR S y q ∧ SeqAt.shaped p = true ∧ SeqAt.shaped q = true ∧ Q (PyData.eqv p q)
def inW (x y : R) (S : Sto) (Q : Bool → Prop) : Prop := match x, y with
  | .v (.str i), .v (.str j) => Q (inStr i j)
  | x, y => (∃ p qs, RdgR S x p ∧ RdgR S y (.list qs) ∧ SeqAt.shaped p = true ∧ SeqAt.shaped (.list qs) = true ∧ Q (qs.any fun q => PyData.eqv q p)) ∨
    (∃ p qs, RdgR S x p ∧ RdgR S y (.tuple qs) ∧ SeqAt.shaped p = true ∧ SeqAt.shaped (.tuple qs) = true ∧ Q (qs.any fun q => PyData.eqv q p)) ∨
    (∃ kvs d k, see S y = some (.dK kvs) ∧ x = .v d ∧ keyOf d = some k ∧ Q (valD kvs k).isSome) ∨
    (∃ (kvs : List (List Key × D)) (ks : List Key), see S y = some (.dT kvs) ∧ x = .v (.tup (ks.map keyD)) ∧ Q (valD kvs ks).isSome) ∨
    (∃ kvs o ws k, see S y = some (.lkK kvs o ws) ∧ x = .v (keyD k) ∧ Q (valD kvs k).isSome)
/-- two tuples that may be set in order -/
def tupLtOk (i j : List D) : Prop := pureDs i = true ∧ pureDs j = true ∧ PySem.W.alike (encD (.tup i)) (encD (.tup j)) = true ∧ SeqAt.shaped (encD (.tup i)) = true ∧ SeqAt.shaped (encD (.tup j)) = true ∧ (encD (.tup i)).depth ≤ 60 ∧ (encD (.tup j)).depth ≤ 60
def ltW (x y : R) (Q : Bool → Prop) : Prop := match x, y with
  | .v (.int i), .v (.int j) => Q (decide (i < j))
  | .v (.str i), .v (.str j) => Q (decide (i.cps.toList < j.cps.toList))
  | .v (.tup i), .v (.tup j) => tupLtOk i j ∧ Q (PySem.W.dataLt (encD (.tup i)) (encD (.tup j)))
  | _, _ => False
def leW (x y : R) (Q : Bool → Prop) : Prop := match x, y with
  | .v (.int i), .v (.int j) => Q (decide (i ≤ j))
  | _, _ => False
def isW (x y : R) (Q : Bool → Prop) : Prop := match x, y with
  | .v .non, .v .non => Q true
  | _, .v .non => Q false
  | .v (.bl a), .v (.bl b) => Q (decide (a = b))
  | _, _ => False
def cmpW (o : COp) (x y : R) (S : Sto) (Q : PR) : Prop := match o with
  | .eq => eqW x y S fun b => Q (.v (.bl b)) S
  | .ne => eqW x y S fun b => Q (.v (.bl (!b))) S
  | .lt => ltW x y fun b => Q (.v (.bl b)) S
  | .le => leW x y fun b => Q (.v (.bl b)) S
  | .gt => ltW y x fun b => Q (.v (.bl b)) S
  | .ge => leW y x fun b => Q (.v (.bl b)) S
  | .isin => inW x y S fun b => Q (.v (.bl b)) S
  | .notin => inW x y S fun b => Q (.v (.bl (!b))) S
  | .is => isW x y fun b => Q (.v (.bl b)) S
  | .isnot => isW x y fun b => Q (.v (.bl (!b))) S
/-- beside the empty list, the empty tuple -/
def empW (tp : Bool) (x : R) (S : Sto) (K : Bool → Prop) : Prop := match tp with
  | true => ∃ xs, x = .v (.tup xs) ∧ K xs.isEmpty
  | false => ∃ xs, lstOf S x = some xs ∧ K xs.isEmpty
def negB (neg b : Bool) : Bool := if neg = true then !b else b
/-! ### subscripts, slices -/
def ixW (x y : R) (S : Sto) (Q : PR) : Prop := match x, y with
  | .v (.str z), .v (.int i) => z.length ≤ sizeLine ∧ ∃ c, atI z.cps.toList i = some c ∧ Q (.v (.str ⟨#[c]⟩)) S
  | x, .v (.int i) => (∃ xs d, seqOf S x = some xs ∧ atI xs i = some d ∧ Q (.v d) S) ∨ ∃ kvs d, see S x = some (.dK kvs) ∧ valD kvs (.inl i) = some d ∧ Q (.v d) S
  | x, .v (.str k) => ∃ kvs d, see S x = some (.dK kvs) ∧ valD kvs (.inr k) = some d ∧ Q (.v d) S
  | x, .v (.tup ds) => ∃ (kvs : List (List Key × D)) (ks : List Key) (d : D), ds = ks.map keyD ∧ see S x = some (.dT kvs) ∧ valD kvs ks = some d ∧ Q (.v d) S
  | _, _ => False
/-- the items of xs[lo:hi] -/
def cut {α : Type} (xs : List α) (lo hi : Option Int) : List α := (xs.drop (HT.sIx xs.length 0 lo)).take (HT.sIx xs.length xs.length hi - HT.sIx xs.length 0 lo)
def partW (r : R) (Q : Option Int → Prop) : Prop := match r with
  | .v (.int i) => Q (some i)
  | _ => False
def slW (x : R) (lo hi : Option Int) (S : Sto) (Q : PR) : Prop := match x with
  | .v (.str z) => z.length ≤ sizeLine ∧ Q (.v (.str ⟨(cut z.cps.toList lo hi).toArray⟩)) S
  | .v (.tup xs) => Q (.v (.tup (cut xs lo hi))) S
  | x => match lstOf S x with
    | some xs => Q (.n (.lst (cut xs lo hi))) S
    | none => False
def revW (x : R) (S : Sto) (Q : PR) : Prop := match x with
  | .v (.str z) => z.length ≤ sizeLine ∧ Q (.v (.str ⟨z.cps.toList.reverse.toArray⟩)) S
  | .v (.tup xs) => Q (.v (.tup xs.reverse)) S
  | x => match lstOf S x with
    | some xs => Q (.n (.lst xs.reverse)) S
    | none => False
/-! ### kinds -/
def obTy (o : Option Ob) (t : Ty) : Option Bool := match o, t with
  | some (.lst _), .list => some true
  | some (.lst _), _ => some false
  | some (.dK _), .dict => some true
  | some (.dK _), _ => some false
  | some (.dT _), .dict => some true
  | some (.dT _), _ => some false
  | some (.tb _), _ => none
  | some (.lkK ..), .dict => some true
  | some (.lkK ..), _ => some false
  | none, _ => none
def isTy (S : Sto) (r : R) (t : Ty) : Option Bool := match r, t with
  | .v .non, _ => some false
  | .v (.bl _), .bool => some true
  | .v (.bl _), .int => some true
  | .v (.bl _), _ => some false
  | .v (.int _), .int => some true
  | .v (.int _), _ => some false
  | .v (.str _), .str => some true
  | .v (.str _), _ => some false
  | .v (.tup _), .tup => some true
  | .v (.tup _), _ => some false
  | .v (.fz _), .list => some true
  | .v (.fz _), _ => some false
  | r, t => obTy (see S r) t
/-! ### built-ins -/
def strsOf : List D → Option (List Str)
  | [] => some []
  | .str x :: r => (strsOf r).map (x :: ·)
  | _ => none
def intsOf : List D → Option (List Int)
  | [] => some []
  | .int x :: r => (intsOf r).map (x :: ·)
  | _ => none
def blsOf : List D → Option (List Bool)
  | [] => some []
  | .bl x :: r => (blsOf r).map (x :: ·)
  | _ => none
/-- pairs as the entries of a dict -/
def mergeD (kvs : List (Key × D)) : List (Key × D) := kvs.foldl (fun acc kv => putD acc kv.1 kv.2) []
def biW (b : Bi) (rs : List R) (S : Sto) (Q : PR) : Prop := match b, rs with
  | .len, [.v (.str x)] => x.length ≤ sizeLine ∧ Q (.v (.int x.length)) S
  | .len, [r] => (∃ xs, seqOf S r = some xs ∧ Q (.v (.int xs.length)) S) ∨ (∃ kvs, see S r = some (.dK kvs) ∧ Q (.v (.int kvs.length)) S)
  | .all, [r] => ∃ xs bs, lstOf S r = some xs ∧ blsOf xs = some bs ∧ Q (.v (.bl (bs.all id))) S
  | .any, [r] => ∃ xs bs, lstOf S r = some xs ∧ blsOf xs = some bs ∧ Q (.v (.bl (bs.any id))) S
  | .sorted, [r] => ∃ xs, lstOf S r = some xs ∧ pureDs xs = true ∧ PySem.W.AllAlike (xs.map encD) ∧ Srt (xs.map encD) ∧ (∀ d ∈ xs, (encD d).depth ≤ 60) ∧ Q (.n (.lst (sortD xs))) S
  | .tupl, [r] => ∃ xs, seqOf S r = some xs ∧ Q (.v (.tup xs)) S
  | .list, [r] => ∃ xs, seqOf S r = some xs ∧ Q (.n (.lst xs)) S
  | .abs, [.v (.int i)] => Q (.v (.int (if i < 0 then -i else i))) S
  | .int, [.v (.int i)] => Q (.v (.int i)) S
  | .int, [.v (.bl k)] => Q (.v (.int (if k then 1 else 0))) S
  | .min, [.v (.int i), .v (.int j)] => Q (.v (.int (if j < i then j else i))) S
  | .max, [.v (.int i), .v (.int j)] => Q (.v (.int (if j > i then j else i))) S
  | .sum, [r] => ∃ xs ns, lstOf S r = some xs ∧ intsOf xs = some ns ∧ Q (.v (.int ns.sum)) S
  | .repr, [r] => ∃ p, RdgR S r p ∧ p.showable = true ∧ p.depth ≤ 60 ∧ (p.hasDict = true → hasLst p = false) ∧ p.shown.length ≤ sizeLine ∧ Q (.v (.str p.shown)) S
  | .reprM, [r] => ∃ p, RdgR S r p ∧ p.showable = true ∧ p.depth ≤ 60 ∧ p.shown.length ≤ sizeLine ∧ Q (.v (.str p.shown)) S
  | .minL, [r] => ∃ ns : List Int, lstOf S r = some (ns.map .int) ∧ 0 < ns.length ∧ ∀ m, m ∈ ns → (∀ y, y ∈ ns → m ≤ y) → Q (.v (.int m)) S
  | .sortD, [r] => (∃ (kvs : List (Key × D)) (ks : List Int), see S r = some (.dK kvs) ∧ kvs.map (·.1) = ks.map .inl ∧ ks.length < 64 ∧ ∀ ys : List Int, ys.Perm ks → ys.Pairwise (· ≤ ·) → Q (.n (.lst (ys.map .int))) S) ∨
      ∃ (kvs : List (Key × D)) (ks : List Str), see S r = some (.dK kvs) ∧ kvs.map (·.1) = ks.map .inr ∧ ks.length < 64 ∧ ∀ ys : List Str, ys.Perm ks → PyProof.Rows.sortedS ys = true → Q (.n (.lst (ys.map .str))) S
  | .dict, [r] => ∃ kvs : List (Key × D), lstOf S r = some (kvs.map fun kv => .tup [keyD kv.1, kv.2]) ∧ Q (.n (.dK (mergeD kvs))) S
  | .listD, [r] => ∃ kvs : List (Key × D), see S r = some (.dK kvs) ∧ Q (.n (.lst (kvs.map fun kv => keyD kv.1))) S
  | .str, [.v (.int i)] => i.natAbs.log2 < 1920 ∧ Q (.v (.str ((toString i : String) : Str))) S
  | .str, [.v (.str z)] => Q (.v (.str z)) S
  | .suml, [r, q] => ∃ (ads : List Addr) (xss : List (List D)), see S r = some (.lst (ads.map D.ref)) ∧ see S q = some (.lst []) ∧ 0 < ads.length ∧ ads.length = xss.length ∧ (∀ (i : Nat) x ys, ads[i]? = some x → xss[i]? = some ys → S x = some (.lst ys)) ∧ (xss.map List.length).sum ≤ sizeLine ∧ Q (.n (.lst xss.flatten)) S
  | _, _ => False
/-- the kind of what a method is called of -/
def meTy (m : Me) (o : R) (S : Sto) : Prop := match m with
  | .upper => ∃ z, o = .v (.str z)
  | .join => ∃ z, o = .v (.str z)
  | _ => ∃ xs, lstOf S o = some xs
def meW (m : Me) (o : R) (ds : List D) (S : Sto) (Q : PR) : Prop := match m, o, ds with
  | .append, .v (.ref a), [d] => ∃ xs, S a = some (.lst xs) ∧ xs.length < sizeLine ∧ Q (.v .non) (up S a (.lst (xs ++ [d])))
  | .pop, .v (.ref a), [] => ∃ xs d, S a = some (.lst xs) ∧ xs[xs.length - 1]? = some d ∧ Q (.v d) (up S a (.lst xs.dropLast))
  | .pop, .v (.ref a), [.int i] => ∃ xs k d, S a = some (.lst xs) ∧ -(2 ^ 63) ≤ i ∧ i < 2 ^ 63 ∧ ixN xs.length i = some k ∧ xs[k]? = some d ∧ Q (.v d) (up S a (.lst (xs.eraseIdx k)))
  | .reverse, .v (.ref a), [] => ∃ xs, S a = some (.lst xs) ∧ Q (.v .non) (up S a (.lst xs.reverse))
  | .upper, .v (.str z), [] => z.length ≤ 5592405 ∧ Q (.v (.str (Txt.upper z))) S
  | .insert, .v (.ref a), [.int i, d] => ∃ xs, S a = some (.lst xs) ∧ xs.length < sizeLine ∧ 0 ≤ i ∧ i < 2 ^ 63 ∧ Q (.v .non) (up S a (.lst (xs.take i.toNat ++ [d] ++ xs.drop i.toNat)))
  | .count, .v (.ref a), [.str z] => ∃ zs : List Str, S a = some (.lst (zs.map .str)) ∧ Q (.v (.int (zs.count z : Nat))) S
  | .extend, .v (.ref a), [.ref b] => ∃ xs ys, S a = some (.lst xs) ∧ S b = some (.lst ys) ∧ xs.length + ys.length ≤ sizeLine ∧ Q (.v .non) (up S a (.lst (xs ++ ys)))
  | .extend, .v (.ref a), [.tup ys] => ∃ xs, S a = some (.lst xs) ∧ xs.length + ys.length ≤ sizeLine ∧ Q (.v .non) (up S a (.lst (xs ++ ys)))
  | .join, .v (.str z), [d] => ∃ xs ss, seqOf S (.v d) = some xs ∧ strsOf xs = some ss ∧ (ss.map (·.length)).sum + ss.length * z.length ≤ 16777216 ∧ Q (.v (.str (Txt.join z ss))) S
  | _, _, _ => False
/-! ### loops -/
def signs (z : Str) : List D := z.cps.toList.map fun c => .str ⟨#[c]⟩
def lcL (step : D → Sto → (Option D → Sto → Prop) → Prop) (hold : Sto → Prop) : List D → List D → Sto → (List D → Sto → Prop) → Prop
  | [], acc, S, Q => hold S ∧ Q acc S
  | x :: xs, acc, S, Q => hold S ∧ step x S fun o S' => lcL step hold xs (acc ++ o.toList) S' Q
/-- the same, the list handed on -/
def accL (step : D → List D → Sto → (List D → Sto → Prop) → Prop) (hold : Sto → Prop) : List D → List D → Sto → (List D → Sto → Prop) → Prop
  | [], acc, S, Q => hold S ∧ Q acc S
  | x :: xs, acc, S, Q => hold S ∧ step x acc S fun acc' S' => accL step hold xs acc' S' Q
/-- the turns of a comprehension that puts into a dict of the store -/
def dcL (step : D → Sto → (Sto → Prop) → Prop) (hold : Sto → Prop) : List D → Sto → (Sto → Prop) → Prop
  | [], S, Q => hold S ∧ Q S
  | x :: xs, S, Q => hold S ∧ step x S fun S' => dcL step hold xs S' Q
def wipeE (ρ : Env) : List Nat → Env
  | [] => ρ
  | v :: vs => (wipeE ρ vs).set v none
def bindL : List Nat → List D → Env → Env
  | i :: is, d :: ds, ρ => bindL is ds (ρ.set i (some d))
  | _, _, ρ => ρ
def bindN (t : TN) (d : D) (ρ : Env) (Q : Env → Prop) : Prop := match t, d with
  | .name i, d => Q (ρ.set i (some d))
  | .tup is, .tup ds => ds.length = is.length ∧ Q (bindL is ds ρ)
  | .nest i is, .tup [d, .tup ds] => ds.length = is.length ∧ Q (bindL is ds (ρ.set i (some d)))
  | _, _ => False
structure Nd where
  nx : Env → Sto → Prop
  rt : PR
  bk : Env → Sto → Prop := fun _ _ => False
  ct : Env → Sto → Prop := fun _ _ => False
/-- ways out of a walk over a locked dict -/
def Nd.lk (nd : Nd) (a : Addr) (kvs : List (Key × D)) (o : Obj) (ws : List (Key × V)) (un : Sto → Sto) : Nd where
  nx := fun ρ S' => S' a = some (.lkK kvs o ws) ∧ nd.nx ρ (un S')
  rt := fun r S' => S' a = some (.lkK kvs o ws) ∧ nd.rt r (un S')
  bk := fun ρ S' => S' a = some (.lkK kvs o ws) ∧ nd.bk ρ (un S')
  ct := fun ρ S' => S' a = some (.lkK kvs o ws) ∧ nd.ct ρ (un S')
def forL (body : Env → Sto → Nd → Prop) (tg : TN) (hold : Sto → Prop) (nd : Nd) : List D → Env → Sto → Prop
  | [], ρ, S => hold S ∧ nd.nx ρ S
  | x :: xs, ρ, S => hold S ∧ bindN tg x ρ fun ρ' => body ρ' S { nx := forL body tg hold nd xs, ct := forL body tg hold nd xs, bk := nd.nx, rt := nd.rt }
/-- what a def does: its number, the arguments, the store, what is wanted -/
abbrev Fw := Nat → List D → Sto → PR → Prop
def seqW (r : R) (S : Sto) (K : List D → (Sto → Prop) → Prop) : Prop := match r with
  | .v (.str z) => z.length ≤ sizeLine ∧ K (signs z) fun _ => True
  | .v (.tup xs) => K xs fun _ => True
  | .v (.fz xs) => K xs fun _ => True
  | .n (.lst xs) => K xs fun _ => True
  | .v (.ref a) => ∃ xs, S a = some (.lst xs) ∧ K xs fun S' => S' a = some (.lst xs)
  | _ => False
/-- what can be walked with its numbers: a list -/
def enumW (r : R) (S : Sto) (K : List D → (Sto → Prop) → Prop) : Prop := match r with
  | .v (.tup xs) => xs.length ≤ sizeLine ∧ K xs fun _ => True
  | .v (.fz xs) => xs.length ≤ sizeLine ∧ K xs fun _ => True
  | .n (.lst xs) => xs.length ≤ sizeLine ∧ K xs fun _ => True
  | .v (.ref a) => ∃ xs, S a = some (.lst xs) ∧ xs.length ≤ sizeLine ∧ K xs fun S' => S' a = some (.lst xs)
  | _ => False
/-- two sequences walked together: both tuples where they must be equally long; else a list and a tuple -/
def zipW (z : ZK) (ds : List D) (S : Sto) (K : List D → List D → (Sto → Prop) → Prop) : Prop := match z, ds with
  | .tts, [.tup xs, .tup ys] => K xs ys fun _ => True
  | .lt, [.ref a, .tup ys] => ∃ xs, S a = some (.lst xs) ∧ K xs ys fun S' => S' a = some (.lst xs)
  | .ll, [.ref a, .ref b] => ∃ xs ys, S a = some (.lst xs) ∧ S b = some (.lst ys) ∧ K xs ys fun S' => S' a = some (.lst xs) ∧ S' b = some (.lst ys)
  | _, _ => False
def zipD (xs ys : List D) : List D := (xs.zip ys).map fun p => .tup [p.1, p.2]
def numD (xs : List D) : List D := xs.zipIdx.map fun p => .tup [.int (p.2 : Nat), p.1]
def rngD (lo : Int) (n : Nat) : List D := (List.range n).map fun (i : Nat) => .int (lo + i)
/-- the keys of some data, one by one -/
def keysW (F : Fw) (f : Nat) : List D → List Str → Sto → (Sto → Prop) → Prop
  | [], [], S, Q => Q S
  | d :: ds, y :: ys, S, Q => F f [d] S fun r S' => r = .v (.str y) ∧ keysW F f ds ys S' Q
  | _, _, _, _ => False
/-- data by their keys -/
def sortK (ds : List D) (ys : List Str) : List D := ((ds.zip ys).mergeSort (PySem.W.dataLe false fun p => PyData.str p.2)).map fun p => p.1
def dcPut (l : Addr) (rk : R) (d : D) (S : Sto) (k : Sto → Prop) : Prop := ∃ ky kvs, rk = .v (keyD ky) ∧ S l = some (.dK kvs) ∧ kvs.length < sizeLine ∧ k (up S l (.dK (putD kvs ky d)))
/-- the same in a dict whose keys are tuples -/
def dcPutT (l : Addr) (rk : R) (d : D) (S : Sto) (k : Sto → Prop) : Prop := ∃ (ky : List Key) (kvs : List (List Key × D)), rk = .v (.tup (ky.map keyD)) ∧ S l = some (.dT kvs) ∧ kvs.length < sizeLine ∧ k (up S l (.dT (putD kvs ky d)))
def dwD : DW → List (Key × D) → List D
  | .keys, kvs => kvs.map fun kv => keyD kv.1
  | .vals, kvs => kvs.map fun kv => kv.2
  | .items, kvs => kvs.map fun kv => .tup [keyD kv.1, kv.2]
/-- a dict by its name, or by its place in a list, in a dict -/
def dwAt (ρ : Env) (S : Sto) (i : Nat) (j : Option Nat) (a : Addr) : Prop := match j with
  | none => ρ[i]? = some (some (.ref a))
  | some j => ∃ l k, ρ[i]? = some (some (.ref l)) ∧ ρ[j]? = some (some (.int k)) ∧ ((∃ xs, S l = some (.lst xs) ∧ atI xs k = some (.ref a)) ∨ ∃ kvs : List (Key × D), S l = some (.dK kvs) ∧ l ≠ a ∧ valD kvs (.inl k) = some (.ref a))
/-- while a dict is walked it is locked -/
def lkW (S : Sto) (a : Addr) (K : List (Key × D) → Obj → List (Key × V) → (Sto → Sto) → Sto → Prop) : Prop :=
  (∃ kvs, S a = some (.dK kvs) ∧ kvs.length ≤ sizeLine ∧ ∀ o ws, K kvs o ws (fun S' => up S' a (.dK kvs)) (up S a (.lkK kvs o ws))) ∨
    ∃ kvs o ws, S a = some (.lkK kvs o ws) ∧ kvs.length ≤ sizeLine ∧ K kvs o ws id S
/-- a part of an f-string -/
def fmtW (r : R) (Q : Str → Prop) : Prop := (∃ y : Str, r = .v (.str y) ∧ y.length ≤ sizeLine ∧ Q y) ∨ ∃ i : Int, r = .v (.int i) ∧ i.natAbs.log2 < 1920 ∧ Q (toString i : String)
mutual
def wE (F : Fw) : E → Env → Sto → PR → Prop
  | .var i, ρ, S, Q => ∃ d, ρ[i]? = some (some d) ∧ Q (.v d) S
  | .cst c, _, S, Q => Q (.v c) S
  | .glo _ c, _, S, Q => Q (.v c) S
  | .tup es, ρ, S, Q => wEs F es ρ S fun ds S' => ds.length ≤ sizeLine ∧ Q (.v (.tup ds)) S'
  | .lst es, ρ, S, Q => wEs F es ρ S fun ds S' => ds.length ≤ sizeLine ∧ Q (.n (.lst ds)) S'
  | .dK ks es, ρ, S, Q => wEs F es ρ S fun ds S' => Q (.n (.dK (ks.zip ds))) S'
  | .bin o a b, ρ, S, Q => wE F a ρ S fun x S1 => wE F b ρ S1 fun y S2 => opW o x y S2 Q
  | .neg a, ρ, S, Q => wE F a ρ S fun x S1 => ∃ i, x = .v (.int i) ∧ Q (.v (.int (-i))) S1
  | .cmp o a b, ρ, S, Q => wE F a ρ S fun x S1 => wE F b ρ S1 fun y S2 => cmpW o x y S2 Q
  | .chn o p a b c, ρ, S, Q => wE F a ρ S fun x S1 => wE F b ρ S1 fun y S2 => cmpW o x y S2 fun z S3 => ∃ k, z = .v (.bl k) ∧
      if k = true then wE F c ρ S3 fun w S4 => cmpW p y w S4 Q else Q (.v (.bl false)) S3
  | .not a, ρ, S, Q => wE F a ρ S fun x S1 => ∃ k, tru S1 x = some k ∧ Q (.v (.bl (!k))) S1
  | .and a b, ρ, S, Q => wE F a ρ S fun x S1 => ∃ k, tru S1 x = some k ∧ if k = true then wE F b ρ S1 Q else Q x S1
  | .or a b, ρ, S, Q => wE F a ρ S fun x S1 => ∃ k, tru S1 x = some k ∧ if k = true then Q x S1 else wE F b ρ S1 Q
  | .ite c a b, ρ, S, Q => wT F c ρ S fun k S1 => if k = true then wE F a ρ S1 Q else wE F b ρ S1 Q
  | .ix a i, ρ, S, Q => wE F a ρ S fun x S1 => wE F i ρ S1 fun y S2 => ixW x y S2 Q
  | .sl a lo hi, ρ, S, Q => wE F a ρ S fun x S1 => wO F lo ρ S1 fun l S2 => wO F hi ρ S2 fun h S3 => slW x l h S3 Q
  | .rev a, ρ, S, Q => wE F a ρ S fun x S1 => revW x S1 Q
  | .isi a t, ρ, S, Q => wE F a ρ S fun x S1 => ∃ b, isTy S1 x t = some b ∧ Q (.v (.bl b)) S1
  | .bi b es, ρ, S, Q => wRs F es ρ S fun rs S1 => biW b rs S1 Q
  | .me m o es, ρ, S, Q => wE F o ρ S fun x S1 => meTy m x S1 ∧ wEs F es ρ S1 fun ds S2 => meW m x ds S2 Q
  | .call f es, ρ, S, Q => wEs F es ρ S fun ds S1 => F f ds S1 Q
  | .rfd P q f es, ρ, S, Q => S P = some (.tb q) ∧ wEs F es ρ S fun ds S1 => F f ds S1 Q
  | .lc elt tg it ifs own, ρ, S, Q => wI F it ρ S fun xs hold S1 => lcL (fun x S2 k => bindN tg x (wipeE ρ own) fun ρ' => wOT F ifs ρ' S2 fun b S3 =>
      if b = true then wE F elt ρ' S3 fun r S4 => mat r S4 fun d S5 => k (some d) S5 else k none S3) hold xs [] S1 fun ds S2 => Q (.n (.lst ds)) S2
  | .sortk f a, ρ, S, Q => wE F a ρ S fun r S1 => ∃ ds ys, lstOf S1 r = some ds ∧ ys.length = ds.length ∧ keysW F f ds ys S1 fun S2 => Q (.n (.lst (sortK ds ys))) S2
  | .lset a, ρ, S, Q => wE F a ρ S fun r S1 => ∃ xs, lstOf S1 r = some (xs.map .str) ∧ xs.length < 1000 ∧ Q (.v (.int (metS xs).length)) S1
  | .emp neg tp a, ρ, S, Q => wE F a ρ S fun x S1 => ([] : List D).length ≤ sizeLine ∧ empW tp x S1 fun b => Q (.v (.bl (negB neg b))) S1
  | .sset a, ρ, S, Q => wE F a ρ S fun r S1 => ∃ xs : List Key, seqOf S1 r = some (xs.map keyD) ∧ xs.length < 1000 ∧ PySem.W.AllAlike (xs.map keyP) ∧ ∀ ys : List Key, ys.Nodup → (∀ k, k ∈ ys ↔ k ∈ xs) → Q (.n (.lst (sortD (ys.map keyD)))) S1
  | .lc2 elt tg it ifs tg1 it1 ifs1 own own1, ρ, S, Q => wI F it ρ S fun xs hold S1 => accL (fun x acc S2 k => bindN tg x (wipeE ρ own) fun ρ1 => wOT F ifs ρ1 S2 fun b S3 =>
      if b = true then wI F it1 ρ1 S3 fun ys hold1 S4 => accL (fun y acc S5 k1 => bindN tg1 y (wipeE ρ1 own1) fun ρ2 => wOT F ifs1 ρ2 S5 fun b S6 =>
        if b = true then wE F elt ρ2 S6 fun r S7 => mat r S7 fun d S8 => acc.length < sizeLine ∧ k1 (acc ++ [d]) S8 else k1 acc S6) hold1 ys acc S4 k else k acc S3) hold xs [] S1 fun ds S2 => Q (.n (.lst ds)) S2
  | .get2 d k x, ρ, S, Q => wE F d ρ S fun r S1 => (∃ kvs, see S1 r = some (.dK kvs)) ∧ wE F k ρ S1 fun y S2 => wE F x ρ S2 fun z S3 => mat z S3 fun dx S4 => ∃ kvs ky, see S4 r = some (.dK kvs) ∧ y = .v (keyD ky) ∧ Q (.v ((valD kvs ky).getD dx)) S4
  | .lcp i, ρ, S, Q => ∃ a kvs, ρ[i]? = some (some (.ref a)) ∧ S a = some (.dK kvs) ∧ (kvs.map (·.1)).Nodup ∧ kvs.length ≤ sizeLine ∧ Q (.n (.lst (kvs.map fun kv => .tup [kv.2, keyD kv.1]))) S
  | .lck elt tg i ifs own, ρ, S, Q => ∃ a kvs, ρ[i]? = some (some (.ref a)) ∧ S a = some (.dK kvs) ∧ kvs.length ≤ sizeLine ∧ lcL (fun x S2 k => bindN tg x (wipeE ρ own) fun ρ' => wOT F ifs ρ' S2 fun b S3 =>
      if b = true then wE F elt ρ' S3 fun r S4 => mat r S4 fun d S5 => k (some d) S5 else k none S3) (fun _ => True) (kvs.map fun kv => keyD kv.1) [] (off S a) fun ds S2 => Q (.n (.lst ds)) (up S2 a (.dK kvs))
  | .dc kx vx tg it ifs own, ρ, S, Q => wI F it ρ S fun xs hold S1 => ∀ l, S1 l = none → dcL (fun x S2 k => bindN tg x (wipeE ρ own) fun ρ' => wOT F ifs ρ' S2 fun b S3 =>
      if b = true then wE F kx ρ' S3 fun rk S4 => wE F vx ρ' S4 fun r S5 => mat r S5 fun d S6 => dcPut l rk d S6 k else k S3) hold xs (up S1 l (.dK [])) fun S2 => Q (.v (.ref l)) S2
  | .dcT kx vx tg it ifs own, ρ, S, Q => wI F it ρ S fun xs hold S1 => ∀ l, S1 l = none → dcL (fun x S2 k => bindN tg x (wipeE ρ own) fun ρ' => wOT F ifs ρ' S2 fun b S3 =>
      if b = true then wE F kx ρ' S3 fun rk S4 => wE F vx ρ' S4 fun r S5 => mat r S5 fun d S6 => dcPutT l rk d S6 k else k S3) hold xs (up S1 l (.dT [])) fun S2 => Q (.v (.ref l)) S2
  | .lckT elt tg i ifs own, ρ, S, Q => ∃ a kvs, ρ[i]? = some (some (.ref a)) ∧ S a = some (.dT kvs) ∧ kvs.length ≤ sizeLine ∧ lcL (fun x S2 k => bindN tg x (wipeE ρ own) fun ρ' => wOT F ifs ρ' S2 fun b S3 =>
      if b = true then wE F elt ρ' S3 fun r S4 => mat r S4 fun d S5 => k (some d) S5 else k none S3) (fun _ => True) (kvs.map fun kv => .tup (kv.1.map keyD)) [] (off S a) fun ds S2 => Q (.n (.lst ds)) (up S2 a (.dT kvs))
  | .d1 k v, ρ, S, Q => wE F k ρ S fun r S1 => wE F v ρ S1 fun x S2 => ∃ (ky : Key) (d : D), r = .v (keyD ky) ∧ x = .v d ∧ Q (.n (.dK [(ky, d)])) S2
  | .ixL a i, ρ, S, Q => wE F a ρ S fun x S1 => wE F i ρ S1 fun y S2 => ∃ (kvs : List (Key × D)) (o : Obj) (ws : List (Key × V)) (ky : Key) (d : D), see S2 x = some (.lkK kvs o ws) ∧ y = .v (keyD ky) ∧ valD kvs ky = some d ∧ Q (.v d) S2
  | .popD a i, ρ, S, Q => wE F a ρ S fun x S1 => (∃ l kvs, x = .v (.ref l) ∧ S1 l = some (.dK kvs)) ∧ wE F i ρ S1 fun y S2 => ∃ (l : Addr) (kvs : List (Key × D)) (ky : Key) (d : D), x = .v (.ref l) ∧ S2 l = some (.dK kvs) ∧ y = .v (keyD ky) ∧ valD kvs ky = some d ∧ Q (.v d) (up S2 l (.dK (dropD kvs ky)))
  | .sortX P q i j, ρ, S, Q => S P = some (.tb q) ∧ ∃ (a b : Addr) (kvs dvs : List (Key × D)) (ks : List Int) (f : Int → Int), ρ[i]? = some (some (.ref a)) ∧ ρ[j]? = some (some (.ref b)) ∧ S a = some (.dK kvs) ∧ S b = some (.dK dvs) ∧ kvs.map (·.1) = ks.map .inl ∧ ks.length ≤ 10000 ∧
      (∀ k ∈ ks, valD dvs (.inl k) = some (.int (f k))) ∧ ∀ ys : List Int, ys.Perm ks → ys.Pairwise (fun p q => f p < f q ∨ f p = f q ∧ p ≤ q) → Q (.n (.lst (ys.map .int))) S
  | .dnT, _, S, Q => Q (.n (.dT [])) S
  | .get2T d k x, ρ, S, Q => wE F d ρ S fun r S1 => (∃ kvs, see S1 r = some (.dT kvs)) ∧ wE F k ρ S1 fun y S2 => wE F x ρ S2 fun z S3 => mat z S3 fun dx S4 => ∃ (kvs : List (List Key × D)) (ks : List Key), see S4 r = some (.dT kvs) ∧ y = .v (.tup (ks.map keyD)) ∧ Q (.v ((valD kvs ks).getD dx)) S4
  | .sortDT i, ρ, S, Q => ∃ (a : Addr) (kvs : List (List Key × D)), ρ[i]? = some (some (.ref a)) ∧ S a = some (.dT kvs) ∧ PySem.W.AllAlike ((kvs.map fun kv => D.tup (kv.1.map keyD)).map encD) ∧ Srt ((kvs.map fun kv => D.tup (kv.1.map keyD)).map encD) ∧
      Q (.n (.lst (sortD (kvs.map fun kv => .tup (kv.1.map keyD))))) S
  | .mn2 mx a b, ρ, S, Q => wE F a ρ S fun r S1 => wE F b ρ S1 fun q S2 => ∃ x y : Str, r = .v (.str x) ∧ q = .v (.str y) ∧ Q (.v (.str (if (if mx = true then decide (x.cps.toList < y.cps.toList) else decide (y.cps.toList < x.cps.toList)) = true then y else x))) S2
  | .mnS mx e, ρ, S, Q => wE F e ρ S fun r S1 => ∃ xs : List Str, seqOf S1 r = some (xs.map .str) ∧ 0 < xs.length ∧ xs.length ≤ 1000 ∧ ∀ m, m ∈ xs → (∀ y, y ∈ xs → (if mx = true then ¬ m.cps.toList < y.cps.toList else ¬ y.cps.toList < m.cps.toList)) → Q (.v (.str m)) S1
  | .lstK Ps e, ρ, S, Q => wE F e ρ S fun r S1 => (∃ P, P ∈ Ps ∧ r = .v (.ref P) ∧ Q (.n (.lst [])) S1) ∨ biW .list [r] S1 Q
  | .sdf d k x, ρ, S, Q => wE F d ρ S fun r S1 => (∃ l kvs, r = .v (.ref l) ∧ S1 l = some (.dK kvs)) ∧ wE F k ρ S1 fun y S2 => wE F x ρ S2 fun z S3 => mat z S3 fun dx S4 => ∃ (l : Addr) (kvs : List (Key × D)) (ky : Key), r = .v (.ref l) ∧ S4 l = some (.dK kvs) ∧ kvs.length < sizeLine ∧ y = .v (keyD ky) ∧
      (∀ d, valD kvs ky = some d → Q (.v d) S4) ∧ (valD kvs ky = none → Q (.v dx) (up S4 l (.dK (putD kvs ky dx))))
  | .sdfT d k x, ρ, S, Q => wE F d ρ S fun r S1 => (∃ l kvs, r = .v (.ref l) ∧ S1 l = some (.dT kvs)) ∧ wE F k ρ S1 fun y S2 => wE F x ρ S2 fun z S3 => mat z S3 fun dx S4 => ∃ (l : Addr) (kvs : List (List Key × D)) (ks : List Key), r = .v (.ref l) ∧ S4 l = some (.dT kvs) ∧ kvs.length < sizeLine ∧ y = .v (.tup (ks.map keyD)) ∧
      (∀ d, valD kvs ks = some d → Q (.v d) S4) ∧ (valD kvs ks = none → Q (.v dx) (up S4 l (.dT (putD kvs ks dx))))
  | .spl o e, ρ, S, Q => wE F o ρ S fun x S1 => (∃ z : Str, x = .v (.str z)) ∧ wE F e ρ S1 fun y S2 => ∃ z b : Str, x = .v (.str z) ∧ y = .v (.str b) ∧ 0 < b.length ∧ z.length + 2 ≤ sizeLine ∧ Q (.n (.lst ((Txt.split z b).map .str))) S2
  | .fst es, ρ, S, Q => wFs F es Str.empty ρ S fun z S1 => Q (.v (.str z)) S1
  | .intS e, ρ, S, Q => wE F e ρ S fun x S1 => ∃ (z : Str) (n : Int), x = .v (.str z) ∧ PySem.intText? z = some n ∧ z.length ≤ 640 ∧ Q (.v (.int n)) S1
  | .idx o e, ρ, S, Q => wE F o ρ S fun x S1 => (∃ ks, lstOf S1 x = some ks) ∧ wE F e ρ S1 fun y S2 => ∃ (ks : List Key) (k : Key) (j : Nat), lstOf S2 x = some (ks.map keyD) ∧ y = .v (keyD k) ∧ ks[j]? = some k ∧ (∀ m, m < j → ks[m]? ≠ some k) ∧ Q (.v (.int j)) S2
  | .lrng a b, ρ, S, Q => wE F a ρ S fun r S1 => wE F b ρ S1 fun q S2 => ∃ i j, r = .v (.int i) ∧ q = .v (.int j) ∧ (-(2 ^ 62) ≤ i ∧ i < 2 ^ 62 ∧ -(2 ^ 62) ≤ j ∧ j < 2 ^ 62) ∧ j - i ≤ sizeLine ∧ Q (.n (.lst (rngD i (j - i).toNat))) S2
  | .ssc2 elt tg it ifs tg1 it1 ifs1 own own1, ρ, S, Q => wI F it ρ S fun xs hold S1 => accL (fun x acc S2 k => bindN tg x (wipeE ρ own) fun ρ1 => wOT F ifs ρ1 S2 fun b S3 =>
      if b = true then wI F it1 ρ1 S3 fun ys hold1 S4 => accL (fun y acc S5 k1 => bindN tg1 y (wipeE ρ1 own1) fun ρ2 => wOT F ifs1 ρ2 S5 fun b S6 =>
        if b = true then wE F elt ρ2 S6 fun r S7 => mat r S7 fun d S8 => acc.length < sizeLine ∧ k1 (acc ++ [d]) S8 else k1 acc S6) hold1 ys acc S4 k else k acc S3) hold xs [] S1 fun ds S2 => ∃ ls : List (List Str), ds = ls.map (fun l => .tup (l.map .str)) ∧ ls.length < 1000 ∧ (∀ l ∈ ls, l ≠ []) ∧
          ∀ ys : List (List Str), ys.Nodup → (∀ l, l ∈ ys ↔ l ∈ ls) → Q (.n (.lst (sortD (ys.map fun l => .tup (l.map .str))))) S2
  | .lcD elt tg w i ifs own, ρ, S, Q => ∃ a, dwAt ρ S i none a ∧ lkW S a fun kvs o ws un S1 => lcL (fun x S2 k => bindN tg x (wipeE ρ own) fun ρ' => wOT F ifs ρ' S2 fun b S3 =>
      if b = true then wE F elt ρ' S3 fun r S4 => mat r S4 fun d S5 => k (some d) S5 else k none S3) (fun S' => S' a = some (.lkK kvs o ws)) (dwD w kvs) [] S1 fun ds S2 => S2 a = some (.lkK kvs o ws) ∧ Q (.n (.lst ds)) (un S2)
  | .dcD kx vx tg w i ifs own, ρ, S, Q => ∃ a, dwAt ρ S i none a ∧ lkW S a fun kvs o ws un S1 => ∀ l, S1 l = none → dcL (fun x S2 k => bindN tg x (wipeE ρ own) fun ρ' => wOT F ifs ρ' S2 fun b S3 =>
      if b = true then wE F kx ρ' S3 fun rk S4 => wE F vx ρ' S4 fun r S5 => mat r S5 fun d S6 => dcPut l rk d S6 k else k S3) (fun S' => S' a = some (.lkK kvs o ws)) (dwD w kvs) (up S1 l (.dK [])) fun S2 => S2 a = some (.lkK kvs o ws) ∧ Q (.v (.ref l)) (un S2)
def wO (F : Fw) : Option E → Env → Sto → (Option Int → Sto → Prop) → Prop
  | none, _, S, Q => Q none S
  | some e, ρ, S, Q => wE F e ρ S fun r S' => partW r fun i => Q i S'
def wOT (F : Fw) : Option E → Env → Sto → (Bool → Sto → Prop) → Prop
  | none, _, S, Q => Q true S
  | some e, ρ, S, Q => wT F e ρ S Q
def wEs (F : Fw) : List E → Env → Sto → (List D → Sto → Prop) → Prop
  | [], _, S, Q => Q [] S
  | e :: es, ρ, S, Q => wE F e ρ S fun r S1 => mat r S1 fun d S2 => wEs F es ρ S2 fun ds S3 => Q (d :: ds) S3
def wFs (F : Fw) : List E → Str → Env → Sto → (Str → Sto → Prop) → Prop
  | [], acc, _, S, Q => Q acc S
  | e :: es, acc, ρ, S, Q => wE F e ρ S fun r S1 => fmtW r fun y => (acc ++ y).length ≤ sizeLine ∧ wFs F es (acc ++ y) ρ S1 Q
def wRs (F : Fw) : List E → Env → Sto → (List R → Sto → Prop) → Prop
  | [], _, S, Q => Q [] S
  | e :: es, ρ, S, Q => wE F e ρ S fun r S1 => wRs F es ρ S1 fun rs S2 => Q (r :: rs) S2
def wT (F : Fw) : E → Env → Sto → (Bool → Sto → Prop) → Prop
  | .not a, ρ, S, Q => wT F a ρ S fun k S1 => Q (!k) S1
  | .and a b, ρ, S, Q => wT F a ρ S fun k S1 => if k = true then wT F b ρ S1 Q else Q false S1
  | .or a b, ρ, S, Q => wT F a ρ S fun k S1 => if k = true then Q true S1 else wT F b ρ S1 Q
  | .cmp o a b, ρ, S, Q => wE F a ρ S fun x S1 => wE F b ρ S1 fun y S2 => cmpW o x y S2 fun z S3 => ∃ k, z = .v (.bl k) ∧ Q k S3
  | .chn o p a b c, ρ, S, Q => wE F a ρ S fun x S1 => wE F b ρ S1 fun y S2 => cmpW o x y S2 fun z S3 => ∃ k, z = .v (.bl k) ∧
      if k = true then wE F c ρ S3 fun w S4 => cmpW p y w S4 fun z S5 => ∃ k, z = .v (.bl k) ∧ Q k S5 else Q false S3
  | .ite c a b, ρ, S, Q => wT F c ρ S fun k S1 => if k = true then wT F a ρ S1 Q else wT F b ρ S1 Q
  | .var i, ρ, S, Q => ∃ d, ρ[i]? = some (some d) ∧ ∃ k, tru S (.v d) = some k ∧ Q k S
  | .isi a t, ρ, S, Q => wE F a ρ S fun x S1 => ∃ b, isTy S1 x t = some b ∧ ∃ k, tru S1 (.v (.bl b)) = some k ∧ Q k S1
  | .emp neg tp a, ρ, S, Q => wE F a ρ S fun x S1 => ([] : List D).length ≤ sizeLine ∧ empW tp x S1 fun b => ∃ k, (R.v (.bl (negB neg b))) = .v (.bl k) ∧ Q k S1
  | .bi b es, ρ, S, Q => wRs F es ρ S fun rs S1 => biW b rs S1 fun z S2 => ∃ k, tru S2 z = some k ∧ Q k S2
  | .me m o es, ρ, S, Q => wE F o ρ S fun x S1 => meTy m x S1 ∧ wEs F es ρ S1 fun ds S2 => meW m x ds S2 fun z S2 => ∃ k, tru S2 z = some k ∧ Q k S2
  | .call f es, ρ, S, Q => wEs F es ρ S fun ds S1 => F f ds S1 fun z S2 => ∃ k, tru S2 z = some k ∧ Q k S2
  | .ix a i, ρ, S, Q => wE F a ρ S fun x S1 => wE F i ρ S1 fun y S2 => ixW x y S2 fun z S2 => ∃ k, tru S2 z = some k ∧ Q k S2
  | _, _, _, _ => False
def wI (F : Fw) : I → Env → Sto → (List D → (Sto → Prop) → Sto → Prop) → Prop
  | .seq e, ρ, S, K => wE F e ρ S fun r S1 => seqW r S1 fun xs hold => K xs hold S1
  | .rng1 a, ρ, S, K => wE F a ρ S fun r S1 => ∃ j, r = .v (.int j) ∧ j ≤ 16777216 ∧ -(2 ^ 62) ≤ j ∧ K (rngD 0 j.toNat) (fun _ => True) S1
  | .rng2 a b, ρ, S, K => wE F a ρ S fun r S1 => wE F b ρ S1 fun q S2 => ∃ i j, r = .v (.int i) ∧ q = .v (.int j) ∧ (-(2 ^ 62) ≤ i ∧ i < 2 ^ 62 ∧ -(2 ^ 62) ≤ j ∧ j < 2 ^ 62) ∧ j - i ≤ 16777216 ∧ K (rngD i (j - i).toNat) (fun _ => True) S2
  | .enum e, ρ, S, K => wE F e ρ S fun r S1 => enumW r S1 fun xs hold => K (numD xs) hold S1
  | .rngD a b, ρ, S, K => wE F a ρ S fun r S1 => wE F b ρ S1 fun q S2 => ∃ i j, r = .v (.int i) ∧ q = .v (.int j) ∧ (-(2 ^ 62) ≤ i ∧ i < 2 ^ 62 ∧ -(2 ^ 62) ≤ j ∧ j < 2 ^ 62) ∧ i - j ≤ 16777216 ∧ K ((List.range (i - j).toNat).map fun (n : Nat) => .int (i - n)) (fun _ => True) S2
  | .zip z es, ρ, S, K => wEs F es ρ S fun ds S1 => zipW z ds S1 fun xs ys hold => (xs.length = ys.length ∧ xs.length ≤ sizeLine) ∧ K (zipD xs ys) hold S1
end
/-! ### statements -/
def setW (o i : R) (d : D) (S : Sto) (Q : Sto → Prop) : Prop := match o, i with
  | .v (.ref a), .v (.int k) => (∃ xs j, S a = some (.lst xs) ∧ ixN xs.length k = some j ∧ Q (up S a (.lst (xs.set j d)))) ∨ ∃ kvs, S a = some (.dK kvs) ∧ kvs.length < sizeLine ∧ Q (up S a (.dK (putD kvs (.inl k) d)))
  | .v (.ref a), .v (.str k) => ∃ kvs, S a = some (.dK kvs) ∧ kvs.length < sizeLine ∧ Q (up S a (.dK (putD kvs (.inr k) d)))
  | .v (.ref a), .v (.tup ds) => ∃ (kvs : List (List Key × D)) (ks : List Key), ds = ks.map keyD ∧ S a = some (.dT kvs) ∧ kvs.length < sizeLine ∧ Q (up S a (.dT (putD kvs ks d)))
  | _, _ => False
def asgW (F : Fw) (t : TS) (d : D) (ρ : Env) (S : Sto) (k : Env → Sto → Prop) : Prop := match t with
  | .name i => k (ρ.set i (some d)) S
  | .tup is => match d with
    | .tup ds => ds.length = is.length ∧ k (bindL is ds ρ) S
    | _ => False
  | .sub o i => wE F o ρ S fun x S1 => wE F i ρ S1 fun y S2 => setW x y d S2 fun S3 => k ρ S3
mutual
def wS (F : Fw) : C → Env → Sto → Nd → Prop
  | .exp e, ρ, S, nd => wE F e ρ S fun _ S' => nd.nx ρ S'
  | .asg t e, ρ, S, nd => wE F e ρ S fun r S1 => mat r S1 fun d S2 => asgW F t d ρ S2 nd.nx
  | .par i j es, ρ, S, nd => wEs F es ρ S fun ds S1 => ∃ d e, ds = [d, e] ∧ nd.nx ((ρ.set i (some d)).set j (some e)) S1
  | .starB i j e, ρ, S, nd => wE F e ρ S fun r S1 => ∃ ds d, lstOf S1 r = some (ds ++ [d]) ∧ mat (.n (.lst ds)) S1 fun b S2 => nd.nx ((ρ.set i (some b)).set j (some d)) S2
  | .star i j e, ρ, S, nd => wE F e ρ S fun r S1 => ∃ d ds, lstOf S1 r = some (d :: ds) ∧ mat (.n (.lst ds)) S1 fun b S2 => nd.nx ((ρ.set i (some d)).set j (some b)) S2
  | .asg2 o1 i1 o2 i2 es, ρ, S, nd => wEs F es ρ S fun ds S1 => ds.length ≤ sizeLine ∧ ∃ d e, D.tup ds = .tup [d, e] ∧ wE F o1 ρ S1 fun x S2 => wE F i1 ρ S2 fun y S3 => setW x y d S3 fun S4 => wE F o2 ρ S4 fun x2 S5 => wE F i2 ρ S5 fun y2 S6 => setW x2 y2 e S6 fun S7 => nd.nx ρ S7
  | .aug i neg e, ρ, S, nd => ∃ n : Int, ρ[i]? = some (some (.int n)) ∧ wE F e ρ S fun r S1 => ∃ m : Int, r = .v (.int m) ∧ nd.nx (ρ.set i (some (.int (if neg = true then n - m else n + m)))) S1
  | .augS o i neg e, ρ, S, nd => wE F o ρ S fun x S1 => wE F i ρ S1 fun y S2 => ∃ (l : Addr) (kvs : List (Key × D)) (ky : Key) (n : Int), x = .v (.ref l) ∧ S2 l = some (.dK kvs) ∧ y = .v (keyD ky) ∧ valD kvs ky = some (.int n) ∧
      wE F e ρ S2 fun q S4 => ∃ (m : Int) (kvs' : List (Key × D)), q = .v (.int m) ∧ S4 l = some (.dK kvs') ∧ kvs'.length < sizeLine ∧ nd.nx ρ (up S4 l (.dK (putD kvs' ky (.int (if neg = true then n - m else n + m)))))
  | .forD w tg i j b, ρ, S, nd => ∃ a, dwAt ρ S i j a ∧ lkW S a fun kvs o ws un S1 => forL (fun ρ' S' nd' => wSs F b ρ' S' nd') tg (fun S' => S' a = some (.lkK kvs o ws)) (nd.lk a kvs o ws un) (dwD w kvs) ρ S1
  | .ret e, ρ, S, nd => wE F e ρ S nd.rt
  | .ret0, _, S, nd => nd.rt (.v .non) S
  | .ife c a b, ρ, S, nd => wT F c ρ S fun k S1 => if k = true then wSs F a ρ S1 nd else wSs F b ρ S1 nd
  | .whl c b, ρ, S, nd => ∃ J : Nat → Env → Sto → Prop, (∃ m, J m ρ S) ∧ ∀ m ρ' S', J m ρ' S' → wT F c ρ' S' fun k S1 =>
      if k = true then wSs F b ρ' S1 { nx := fun ρ2 S2 => ∃ m', m' < m ∧ J m' ρ2 S2, ct := fun ρ2 S2 => ∃ m', m' < m ∧ J m' ρ2 S2, bk := nd.nx, rt := nd.rt } else nd.nx ρ' S1
  | .for tg it b, ρ, S, nd => wI F it ρ S fun xs hold S1 => forL (fun ρ' S' nd' => wSs F b ρ' S' nd') tg hold nd xs ρ S1
  | .brk, ρ, S, nd => nd.bk ρ S
  | .cnt, ρ, S, nd => nd.ct ρ S
  | .pas, ρ, S, nd => nd.nx ρ S
  | .bad, _, _, _ => False
def wSs (F : Fw) : List C → Env → Sto → Nd → Prop
  | [], ρ, S, nd => nd.nx ρ S
  | c :: cs, ρ, S, nd => wS F c ρ S { nd with nx := fun ρ' S' => wSs F cs ρ' S' nd }
end
/-- a def: its parameters, its slots, its body -/
structure Fn where
  np : Nat
  ns : Nat
  body : List C
def startE (b : Fn) (ds : List D) : Env := ds.map some ++ List.replicate (b.ns - ds.length) none
/-- what the defs of a table do, n calls deep -/
def W (T : List Fn) : Nat → Fw
  | 0, _, _, _, _ => False
  | n + 1, f, ds, S, Q => match T[f]? with
    | none => False
    | some b => ds.length = b.np ∧ wSs (W T n) b.body (startE b ds) S { nx := fun _ S' => Q (.v .non) S', rt := Q }
theorem W_def {T : List Fn} {n f : Nat} {b : Fn} (h : T[f]? = some b) (ds : List D) (S : Sto) (Q : PR) :
    W T (n + 1) f ds S Q = (ds.length = b.np ∧ wSs (W T n) b.body (startE b ds) S { nx := fun _ S' => Q (.v .non) S', rt := Q }) := by
  show (match T[f]? with | none => False | some b => _) = _
  rw [h]
end DP
set_option maxRecDepth 100000
namespace DP
open PySem PySem.Spec PyProof.Rows L2
section
variable (K : PySem.W.Frag) (H : Hp)
/-- a list that is known to the object (the script) -/
def FzL (a : Addr) (xs : List V) : Prop := (∃ o, H a = some (.frz o (.lst xs))) ∨
  ∃ (o : Obj) (its : Array Value) (n : Nat), K.lookup a = some o ∧ o.cls = .type "list" ∧ o.dict = none ∧ o.data = .seq its n ∧ its.size ≤ sizeLine ∧ Vals xs its.toList
/-- a tuple of the store of objects -/
def TqT (H : Hp) (a : Addr) (vs : List V) : Prop := H a = some (.tup vs)
theorem TqT.sq {K : PySem.W.Frag} {H : Hp} {a : Addr} {vs : List V} (h : TqT H a vs) : SqT K H a vs := .inl (.inl h)
mutual
def RD : D → V → Prop
  | .non, v => v = .non
  | .bl b, v => v = .bl b
  | .int i, v => v = .int i
  | .str x, v => v = .str x
  | .tup ds, v => ∃ a vs, v = .ref a ∧ TqT H a vs ∧ RDs ds vs
  | .fz ds, v => ∃ a vs, v = .ref a ∧ FzL K H a vs ∧ RDs ds vs
  | .ref a, v => v = .ref a
def RDs : List D → List V → Prop
  | [], vs => vs = []
  | d :: ds, vs => ∃ v r, vs = v :: r ∧ RD d v ∧ RDs ds r
end
def RKv {κ : Type} (kvs : List (κ × D)) (ws : List (κ × V)) : Prop := Paired (fun (p : κ × D) (q : κ × V) => p.1 = q.1 ∧ RD K H p.2 q.2) kvs ws
def RO (a : Addr) : Ob → Prop
  | .lst ds => ∃ vs, H a = some (.lst vs) ∧ RDs K H ds vs
  | .dK kvs => ∃ ws, H a = some (.dK ws) ∧ RKv K H kvs ws
  | .dT kvs => ∃ ws, H a = some (.dT ws) ∧ RKv K H kvs ws
  | .tb _ => False
  | .lkK .. => False
/-- the same of what stands in the store -/
def RT (a : Addr) : Ob → Prop
  | .tb q => LamX.TabS H a q
  | .lkK kvs o ws => H a = some (.frz o (.dK ws)) ∧ RKv K H kvs ws
  | o => RO K H a o
def RS (S : Sto) : Prop := ∀ a o, S a = some o → RT K H a o
def REnv (σ : L2.St) (ρ : Env) : Prop := σ.length = ρ.length ∧ ∀ (i : Nat) (d : D), ρ[i]? = some (some d) → ∃ v : V, σ[i]? = some (some v) ∧ RD K H d v
end
/-- a result: fresh objects are younger than H0 -/
def RR (K : PySem.W.Frag) (H0 H : Hp) (S : Sto) (r : R) (v : V) : Prop := match r with
  | .v d => RD K H d v
  | .n o => ∃ a, v = .ref a ∧ H0 a = none ∧ S a = none ∧ RO K H a o
structure Kp (S : Sto) (H : Hp) (S' : Sto) (H' : Hp) : Prop where
  keep : ∀ a o, H a = some o → S a = none → H' a = some o ∧ S' a = none
  dom : ∀ a, H' a = none → H a = none
  sdom : ∀ a, S' a = none → S a = none
section
variable {K : PySem.W.Frag} {S S' S0 S1 S2 : Sto} {H H' H0 H1 H2 : Hp} {σ : L2.St} {ρ : Env}
theorem Kp.refl : Kp S H S H := ⟨fun _ _ h h' => ⟨h, h'⟩, fun _ h => h, fun _ h => h⟩
theorem Kp.trans (a : Kp S0 H0 S1 H1) (b : Kp S1 H1 S2 H2) : Kp S0 H0 S2 H2 :=
  ⟨fun c o h h' => let ⟨x, y⟩ := a.keep c o h h'; b.keep c o x y, fun c h => a.dom c (b.dom c h), fun c h => a.sdom c (b.sdom c h)⟩
theorem RO.some {a : Addr} {o : Ob} (h : RO K H a o) : H a ≠ none := by
  cases o with
  | lst ds => obtain ⟨vs, e, _⟩ := h; rw [e]; simp
  | dK ds => obtain ⟨vs, e, _⟩ := h; rw [e]; simp
  | dT ds => obtain ⟨vs, e, _⟩ := h; rw [e]; simp
  | tb q => exact h.elim
  | lkK kvs o ws => exact h.elim
theorem RO.rt {a : Addr} {o : Ob} (h : RO K H a o) : RT K H a o := by
  cases o with
  | tb q => exact h.elim
  | lkK kvs o ws => exact h.elim
  | _ => exact h
theorem RT.ro {a : Addr} {o : Ob} (h : RT K H a o) : RO K H a o ∨ (∃ q, o = .tb q ∧ LamX.TabS H a q) ∨ ∃ (u : Obj) (ws : List (Key × V)), H a = some (.frz u (.dK ws)) := by
  cases o with
  | tb q => exact .inr (.inl ⟨q, rfl, h⟩)
  | lkK kvs u ws => exact .inr (.inr ⟨u, ws, h.1⟩)
  | _ => exact .inl h
theorem RT.tracked {a : Addr} {o : Ob} (h : RT K H a o) : H a ≠ none := by
  rcases h.ro with r | ⟨q, _, ps, e, _⟩ | ⟨u, ws, e⟩
  · exact r.some
  · rw [e]; simp
  · rw [e]; simp
theorem RT.noext {a : Addr} {o : Ob} (h : RT K H a o) (c : Addr) (q : Str) : H a ≠ Option.some (LamX.CodeO c q) := fun z => by
  unfold LamX.CodeO at z
  cases o with
  | lst ds => obtain ⟨vs, e, _⟩ := h; rw [z] at e; cases e
  | dK ds => obtain ⟨vs, e, _⟩ := h; rw [z] at e; cases e
  | dT ds => obtain ⟨vs, e, _⟩ := h; rw [z] at e; cases e
  | tb q => obtain ⟨ps, e, _⟩ := h; rw [z] at e; cases e
  | lkK kvs o ws => obtain ⟨e, _⟩ := h; rw [z] at e; cases e
/-- a table where one object changes -/
theorem tab_but {P l : Addr} {q : Str} (t : LamX.TabS H P q) (hP : P ≠ l) (hc : ∀ c q, H l ≠ some (LamX.CodeO c q)) (e : ∀ b o, b ≠ l → H b = some o → H' b = some o) : LamX.TabS H' P q := by
  obtain ⟨ps, h1, h2, h3⟩ := t
  refine ⟨ps, e _ _ hP h1, h2, fun pos cv k => ?_⟩
  obtain ⟨c, e1, e2⟩ := h3 pos cv k
  exact ⟨c, e1, e _ _ (fun z => by subst z; exact hc _ _ e2) e2⟩
theorem RS.no (h : RS K H S) {a : Addr} (e : H a = none) : S a = none := by
  cases q : S a with
  | none => rfl
  | some o => exact absurd e (RT.tracked (h a o q))
/-- what is no list and no dict stands outside the store -/
theorem RS.out (h : RS K H S) {a : Addr} {u : HO} (e : H a = some u) (n1 : ∀ vs, u ≠ .lst vs) (n2 : ∀ vs, u ≠ .dK vs) (n3 : ∀ vs, u ≠ .dT vs) (n4 : ∀ vs, u ≠ .tbl vs) (n5 : ∀ o vs, u ≠ .frz o (.dK vs)) : S a = none := by
  cases q : S a with
  | none => rfl
  | some o =>
    have r := h a o q
    cases o with
    | lst ds => obtain ⟨vs, e', _⟩ := r; rw [e] at e'; exact absurd (Option.some.inj e') (n1 vs)
    | dK ds => obtain ⟨vs, e', _⟩ := r; rw [e] at e'; exact absurd (Option.some.inj e') (n2 vs)
    | dT ds => obtain ⟨vs, e', _⟩ := r; rw [e] at e'; exact absurd (Option.some.inj e') (n3 vs)
    | tb q => obtain ⟨ps, e', _⟩ := r; rw [e] at e'; exact absurd (Option.some.inj e') (n4 ps)
    | lkK kvs o ws => obtain ⟨e', _⟩ := r; rw [e] at e'; exact absurd (Option.some.inj e') (n5 o ws)
theorem SqT.kp {a : Addr} {vs : List V} (k : Kp S H S' H') (hs : RS K H S) (h : SqT K H a vs) : SqT K H' a vs := by
  rcases h with (h | ⟨o, h⟩) | h
  · exact .inl (.inl (k.keep a _ h (hs.out h (fun _ z => nomatch z) (fun _ z => nomatch z) (fun _ z => nomatch z) (fun _ z => nomatch z) fun _ _ z => nomatch z)).1)
  · exact .inl (.inr ⟨o, (k.keep a _ h (hs.out h (fun _ z => nomatch z) (fun _ z => nomatch z) (fun _ z => nomatch z) (fun _ z => nomatch z) fun _ _ z => nomatch z)).1⟩)
  · exact .inr h
theorem TqT.kp {a : Addr} {vs : List V} (k : Kp S H S' H') (hs : RS K H S) (h : TqT H a vs) : TqT H' a vs :=
  (k.keep a _ h (hs.out h (fun _ z => nomatch z) (fun _ z => nomatch z) (fun _ z => nomatch z) (fun _ z => nomatch z) fun _ _ z => nomatch z)).1
theorem FzL.kp {a : Addr} {vs : List V} (k : Kp S H S' H') (hs : RS K H S) (h : FzL K H a vs) : FzL K H' a vs := by
  rcases h with ⟨o, h⟩ | h
  · exact .inl ⟨o, (k.keep a _ h (hs.out h (fun _ z => nomatch z) (fun _ z => nomatch z) (fun _ z => nomatch z) (fun _ z => nomatch z) fun _ _ z => nomatch z)).1⟩
  · exact .inr h
theorem FzL.sq {a : Addr} {vs : List V} (h : FzL K H a vs) : SqL K H a vs := by
  rcases h with ⟨o, h⟩ | h
  · exact .inl (.inr ⟨o, h⟩)
  · exact .inr h
mutual
theorem RD.kp (k : Kp S H S' H') (hs : RS K H S) : ∀ (d : D) (v : V), RD K H d v → RD K H' d v
  | .non, _, h => h
  | .bl _, _, h => h
  | .int _, _, h => h
  | .str _, _, h => h
  | .tup ds, _, h => by
    simp only [RD] at h ⊢
    obtain ⟨a, vs, e, h1, h2⟩ := h
    exact ⟨a, vs, e, TqT.kp k hs h1, RDs.kp k hs ds vs h2⟩
  | .fz ds, _, h => by
    simp only [RD] at h ⊢
    obtain ⟨a, vs, e, h1, h2⟩ := h
    exact ⟨a, vs, e, FzL.kp k hs h1, RDs.kp k hs ds vs h2⟩
  | .ref _, _, h => h
theorem RDs.kp (k : Kp S H S' H') (hs : RS K H S) : ∀ (ds : List D) (vs : List V), RDs K H ds vs → RDs K H' ds vs
  | [], _, h => h
  | d :: ds, _, h => by
    simp only [RDs] at h ⊢
    obtain ⟨v, r, e, h1, h2⟩ := h
    exact ⟨v, r, e, RD.kp k hs d v h1, RDs.kp k hs ds r h2⟩
end
theorem RKv.mono {κ : Type} {kvs : List (κ × D)} {ws : List (κ × V)} (f : ∀ d v, RD K H d v → RD K H' d v) (h : RKv K H kvs ws) : RKv K H' kvs ws :=
  Paired.mapP h fun p q ⟨a, b⟩ => ⟨a, f _ _ b⟩
theorem REnv.kp (k : Kp S H S' H') (hs : RS K H S) (h : REnv K H σ ρ) : REnv K H' σ ρ :=
  ⟨h.1, fun i d e => let ⟨v, e', r⟩ := h.2 i d e; ⟨v, e', RD.kp k hs d v r⟩⟩
theorem RO.kp {a : Addr} {o : Ob} (k : Kp S H S' H') (hs : RS K H S) (hn : S a = none) (h : RO K H a o) : RO K H' a o := by
  cases o with
  | lst ds => obtain ⟨vs, e, r⟩ := h; exact ⟨vs, (k.keep a _ e hn).1, RDs.kp k hs ds vs r⟩
  | dK kvs => obtain ⟨vs, e, r⟩ := h; exact ⟨vs, (k.keep a _ e hn).1, r.mono (RD.kp k hs)⟩
  | dT kvs => obtain ⟨vs, e, r⟩ := h; exact ⟨vs, (k.keep a _ e hn).1, r.mono (RD.kp k hs)⟩
  | tb q => exact h.elim
  | lkK kvs o ws => exact h.elim
/-- the weaker: an older list that nothing tells of may change -/
structure Kq (H0 : Hp) (S : Sto) (H : Hp) (S' : Sto) (H' : Hp) : Prop where
  keep : ∀ a o, H a = some o → S a = none → (H0 a = none ∨ ∀ vs, o ≠ .lst vs) → H' a = some o ∧ S' a = none
  dom : ∀ a, H' a = none → H a = none
  sdom : ∀ a, S' a = none → S a = none
theorem Kp.q (k : Kp S H S' H') : Kq H0 S H S' H' := ⟨fun a o h h' _ => k.keep a o h h', k.dom, k.sdom⟩
theorem SqT.kq {a : Addr} {vs : List V} (k : Kq H0 S H S' H') (hs : RS K H S) (h : SqT K H a vs) : SqT K H' a vs := by
  rcases h with (h | ⟨o, h⟩) | h
  · exact .inl (.inl (k.keep a _ h (hs.out h (fun _ z => nomatch z) (fun _ z => nomatch z) (fun _ z => nomatch z) (fun _ z => nomatch z) fun _ _ z => nomatch z) (.inr fun _ z => nomatch z)).1)
  · exact .inl (.inr ⟨o, (k.keep a _ h (hs.out h (fun _ z => nomatch z) (fun _ z => nomatch z) (fun _ z => nomatch z) (fun _ z => nomatch z) fun _ _ z => nomatch z) (.inr fun _ z => nomatch z)).1⟩)
  · exact .inr h
theorem TqT.kq {a : Addr} {vs : List V} (k : Kq H0 S H S' H') (hs : RS K H S) (h : TqT H a vs) : TqT H' a vs :=
  (k.keep a _ h (hs.out h (fun _ z => nomatch z) (fun _ z => nomatch z) (fun _ z => nomatch z) (fun _ z => nomatch z) fun _ _ z => nomatch z) (.inr fun _ z => nomatch z)).1
theorem FzL.kq {a : Addr} {vs : List V} (k : Kq H0 S H S' H') (hs : RS K H S) (h : FzL K H a vs) : FzL K H' a vs := by
  rcases h with ⟨o, h⟩ | h
  · exact .inl ⟨o, (k.keep a _ h (hs.out h (fun _ z => nomatch z) (fun _ z => nomatch z) (fun _ z => nomatch z) (fun _ z => nomatch z) fun _ _ z => nomatch z) (.inr fun _ z => nomatch z)).1⟩
  · exact .inr h
mutual
theorem RD.kq (k : Kq H0 S H S' H') (hs : RS K H S) : ∀ (d : D) (v : V), RD K H d v → RD K H' d v
  | .non, _, h => h
  | .bl _, _, h => h
  | .int _, _, h => h
  | .str _, _, h => h
  | .tup ds, _, h => by
    simp only [RD] at h ⊢
    obtain ⟨a, vs, e, h1, h2⟩ := h
    exact ⟨a, vs, e, TqT.kq k hs h1, RDs.kq k hs ds vs h2⟩
  | .fz ds, _, h => by
    simp only [RD] at h ⊢
    obtain ⟨a, vs, e, h1, h2⟩ := h
    exact ⟨a, vs, e, FzL.kq k hs h1, RDs.kq k hs ds vs h2⟩
  | .ref _, _, h => h
theorem RDs.kq (k : Kq H0 S H S' H') (hs : RS K H S) : ∀ (ds : List D) (vs : List V), RDs K H ds vs → RDs K H' ds vs
  | [], _, h => h
  | d :: ds, _, h => by
    simp only [RDs] at h ⊢
    obtain ⟨v, r, e, h1, h2⟩ := h
    exact ⟨v, r, e, RD.kq k hs d v h1, RDs.kq k hs ds r h2⟩
end
theorem RO.lst_kq {a : Addr} {xs : List D} (k : Kq H0 S H S' H') (hs : RS K H S) (hn : S a = none) (h0 : H0 a = none) (h : RO K H a (.lst xs)) : ∃ vs, SqL K H' a vs ∧ RDs K H' xs vs := by
  obtain ⟨vs, e, r⟩ := h
  exact ⟨vs, .inl (.inl (k.keep a _ e hn (.inl h0)).1), RDs.kq k hs xs vs r⟩
theorem RR.kp {r : R} {v : V} (k : Kp S H S' H') (hs : RS K H S) (h : RR K H0 H S r v) : RR K H0 H' S' r v := by
  cases r with
  | v d => exact RD.kp k hs d v h
  | n o =>
    obtain ⟨a, e, h0, hn, ho⟩ := h
    have hsome : ∃ u, H a = some u := by
      cases q : H a with
      | none => exact absurd q ho.some
      | some u => exact ⟨u, rfl⟩
    obtain ⟨u, hu⟩ := hsome
    exact ⟨a, e, h0, (k.keep a u hu hn).2, RO.kp k hs hn ho⟩
/-- fresh for a later heap: fresh for an earlier one -/
theorem RR.back {r : R} {v : V} (k : Kp S0 H0 S1 H1) (h : RR K H1 H S r v) : RR K H0 H S r v := by
  cases r with
  | v d => exact h
  | n o => obtain ⟨a, e, h0, hn, ho⟩ := h; exact ⟨a, e, k.dom a h0, hn, ho⟩
/-- a new untracked object -/
theorem Kp.laid {p : Addr} {u : HO} (hp : H p = none) : Kp S H S (upd H p u) :=
  ⟨fun a o h h' => ⟨by rw [upd_ne (ne_of_none h hp)]; exact h, h'⟩, fun a h => by
    by_cases e : a = p
    · subst e; exact hp
    · rw [upd_ne e] at h; exact h, fun _ h => h⟩
theorem RS.laid {p : Addr} {u : HO} (hs : RS K H S) (hp : H p = none) : RS K (upd H p u) S := fun a o e => by
  have k : Kp S H S (upd H p u) := Kp.laid hp
  have r := hs a o e
  have hne : a ≠ p := fun z => by subst z; exact RT.tracked r hp
  cases o with
  | lst ds => obtain ⟨vs, e, r⟩ := r; exact ⟨vs, by rw [upd_ne hne]; exact e, RDs.kp k hs ds vs r⟩
  | dK kvs => obtain ⟨vs, e, r⟩ := r; exact ⟨vs, by rw [upd_ne hne]; exact e, r.mono (RD.kp k hs)⟩
  | dT kvs => obtain ⟨vs, e, r⟩ := r; exact ⟨vs, by rw [upd_ne hne]; exact e, r.mono (RD.kp k hs)⟩
  | tb q => exact LamX.TabS.ext r fun b u z => by rw [upd_ne (ne_of_none z hp)]; exact z
  | lkK kvs o ws => obtain ⟨e, r⟩ := r; exact ⟨by rw [upd_ne hne]; exact e, r.mono (RD.kp k hs)⟩
/-- a fresh object is named -/
theorem named {o : Ob} {a : Addr} (hs : RS K H S) (ho : RO K H a o) : RS K H (up S a o) := fun b u e => by
  by_cases h : b = a
  · subst h; rw [up_same] at e; cases e; exact ho.rt
  · rw [up_ne h] at e; exact hs b u e
theorem Kp.named {o : Ob} {a : Addr} (k : Kp S0 H0 S H) (h0 : H0 a = none) : Kp S0 H0 (up S a o) H :=
  ⟨fun b u e h => let ⟨x, y⟩ := k.keep b u e h; ⟨x, by rw [up_ne (fun z => by subst z; rw [h0] at e; cases e)]; exact y⟩, k.dom, fun b h => by
    by_cases z : b = a
    · subst z; rw [up_same] at h; cases h
    · rw [up_ne z] at h; exact k.sdom b h⟩
theorem mat_ok {r : R} {v : V} {Q : PD} (h : mat r S Q) (rr : RR K H0 H S r v) (hs : RS K H S) (k : Kp S0 H0 S H) : ∃ d S', RD K H d v ∧ RS K H S' ∧ Kp S0 H0 S' H ∧ Q d S' := by
  cases r with
  | v d => exact ⟨d, S, rr, hs, k, h⟩
  | n o =>
    obtain ⟨a, rfl, h0, hn, ho⟩ := rr
    exact ⟨.ref a, up S a o, rfl, named hs ho, k.named h0, h a hn⟩
theorem REnv.set {i : Nat} {d : D} {v : V} (h : REnv K H σ ρ) (r : RD K H d v) : REnv K H (σ.set i (some v)) (ρ.set i (some d)) := by
  refine ⟨by rw [List.length_set, List.length_set]; exact h.1, fun j x e => ?_⟩
  by_cases hj : i = j
  · subst hj
    by_cases hl : i < ρ.length
    · rw [List.getElem?_set_self hl] at e
      cases e
      exact ⟨v, by rw [List.getElem?_set_self (by rw [h.1]; exact hl)], r⟩
    · rw [List.getElem?_eq_none (by rw [List.length_set]; omega)] at e; cases e
  · rw [List.getElem?_set_ne hj] at e
    obtain ⟨w, e', q⟩ := h.2 j x e
    exact ⟨w, by rw [List.getElem?_set_ne hj]; exact e', q⟩
theorem REnv.wipe (h : REnv K H σ ρ) : ∀ vs : List Nat, REnv K H (L2.wipe σ vs) (wipeE ρ vs)
  | [] => h
  | v :: vs => by
    have ih := REnv.wipe h vs
    refine ⟨by unfold L2.wipe wipeE; rw [List.length_set, List.length_set]; exact ih.1, fun j x e => ?_⟩
    unfold wipeE at e
    by_cases hj : v = j
    · subst hj
      by_cases hl : v < (wipeE ρ vs).length
      · rw [List.getElem?_set_self hl] at e; cases e
      · rw [List.getElem?_eq_none (by rw [List.length_set]; omega)] at e; cases e
    · rw [List.getElem?_set_ne hj] at e
      obtain ⟨w, e', q⟩ := ih.2 j x e
      exact ⟨w, by unfold L2.wipe; rw [List.getElem?_set_ne hj]; exact e', q⟩
theorem RDs.length : ∀ {ds : List D} {vs : List V}, RDs K H ds vs → ds.length = vs.length
  | [], _, h => by simp only [RDs] at h; subst h; rfl
  | d :: ds, _, h => by
    simp only [RDs] at h
    obtain ⟨v, r, e, h1, h2⟩ := h
    rw [e, List.length_cons, List.length_cons, RDs.length h2]
theorem RDs.get : ∀ {ds : List D} {vs : List V}, RDs K H ds vs → ∀ {i : Nat} {d : D}, ds[i]? = some d → ∃ v, vs[i]? = some v ∧ RD K H d v
  | [], _, _, i, d, e => by simp at e
  | x :: ds, _, h, i, d, e => by
    simp only [RDs] at h
    obtain ⟨v, r, rfl, h1, h2⟩ := h
    cases i with
    | zero => simp at e; subst e; exact ⟨v, rfl, h1⟩
    | succ i => obtain ⟨w, a, b⟩ := RDs.get h2 (i := i) (by simpa using e); exact ⟨w, by simpa using a, b⟩
theorem RDs.append : ∀ {ds es : List D} {vs ws : List V}, RDs K H ds vs → RDs K H es ws → RDs K H (ds ++ es) (vs ++ ws)
  | [], _, _, _, h, h' => by simp only [RDs] at h; subst h; exact h'
  | d :: ds, _, _, _, h, h' => by
    simp only [RDs] at h
    obtain ⟨v, r, rfl, h1, h2⟩ := h
    rw [List.cons_append, List.cons_append]
    simp only [RDs]
    exact ⟨v, _, rfl, h1, RDs.append h2 h'⟩
theorem RDs.one {d : D} {v : V} (h : RD K H d v) : RDs K H [d] [v] := by simp only [RDs]; exact ⟨v, [], rfl, h, rfl⟩
theorem RDs.mk : ∀ {ds : List D} {vs : List V}, ds.length = vs.length → (∀ (i : Nat) (d : D), ds[i]? = some d → ∃ v, vs[i]? = some v ∧ RD K H d v) → RDs K H ds vs
  | [], [], _, _ => by simp only [RDs]
  | [], _ :: _, h, _ => by simp at h
  | _ :: _, [], h, _ => by simp at h
  | d :: ds, v :: vs, h, f => by
    simp only [RDs]
    refine ⟨v, vs, rfl, ?_, RDs.mk (by simpa using h) fun i x e => ?_⟩
    · obtain ⟨w, e, r⟩ := f 0 d rfl
      simp at e; subst e; exact r
    · obtain ⟨w, e', r⟩ := f (i + 1) x (by simpa using e)
      exact ⟨w, by simpa using e', r⟩
theorem RDs.take {ds : List D} {vs : List V} (h : RDs K H ds vs) (n : Nat) : RDs K H (ds.take n) (vs.take n) := by
  refine RDs.mk (by rw [List.length_take, List.length_take, h.length]) fun i d e => ?_
  rw [List.getElem?_take] at e ⊢
  split at e
  · rename_i hi
    rw [if_pos hi]; exact h.get e
  · cases e
theorem RDs.drop {ds : List D} {vs : List V} (h : RDs K H ds vs) (n : Nat) : RDs K H (ds.drop n) (vs.drop n) := by
  refine RDs.mk (by rw [List.length_drop, List.length_drop, h.length]) fun i d e => ?_
  rw [List.getElem?_drop] at e ⊢
  exact h.get e
theorem RDs.reverse : ∀ {ds : List D} {vs : List V}, RDs K H ds vs → RDs K H ds.reverse vs.reverse
  | [], _, h => by simp only [RDs] at h; subst h; simp [RDs]
  | d :: ds, _, h => by
    simp only [RDs] at h
    obtain ⟨v, r, rfl, h1, h2⟩ := h
    rw [List.reverse_cons, List.reverse_cons]
    exact RDs.append (RDs.reverse h2) (RDs.one h1)
theorem RDs.set {ds : List D} {vs : List V} (h : RDs K H ds vs) {d : D} {v : V} (r : RD K H d v) (j : Nat) : RDs K H (ds.set j d) (vs.set j v) := by
  refine RDs.mk (by rw [List.length_set, List.length_set, h.length]) fun i x e => ?_
  by_cases hj : j = i
  · subst hj
    by_cases hl : j < ds.length
    · rw [List.getElem?_set_self hl] at e; cases e
      exact ⟨v, by rw [List.getElem?_set_self (by rw [← h.length]; exact hl)], r⟩
    · rw [List.getElem?_eq_none (by rw [List.length_set]; omega)] at e; cases e
  · rw [List.getElem?_set_ne hj] at e ⊢; exact h.get e
theorem RDs.dropLast {ds : List D} {vs : List V} (h : RDs K H ds vs) : RDs K H ds.dropLast vs.dropLast := by
  rw [List.dropLast_eq_take, List.dropLast_eq_take, h.length]; exact h.take _
theorem RDs.erase {ds : List D} {vs : List V} (h : RDs K H ds vs) (j : Nat) : RDs K H (ds.eraseIdx j) (vs.eraseIdx j) := by
  rw [List.eraseIdx_eq_take_drop_succ, List.eraseIdx_eq_take_drop_succ]
  exact (h.take j).append (h.drop (j + 1))
theorem RDs.rep {ds : List D} {vs : List V} (h : RDs K H ds vs) : ∀ k : Nat, RDs K H (List.replicate k ds).flatten (List.replicate k vs).flatten
  | 0 => by simp [RDs]
  | k + 1 => by
    rw [List.replicate_succ, List.replicate_succ, List.flatten_cons, List.flatten_cons]
    exact h.append (RDs.rep h k)
end
/-! ### evaluations -/
abbrev Ev := Env → Sto → PR → Prop
def Post (K : PySem.W.Frag) (S : Sto) (H : Hp) (Q : PR) (QV : VK) : Prop := ∀ v H' r S', RR K H H' S' r v → RS K H' S' → Kp S H S' H' → Q r S' → QV v H'
def tD (K : PySem.W.Frag) (w : Ev) : TE := fun σ H QV => ∃ ρ S Q, REnv K H σ ρ ∧ RS K H S ∧ w ρ S Q ∧ Post K S H Q QV
def tDT (K : PySem.W.Frag) (w : Env → Sto → (Bool → Sto → Prop) → Prop) : TT := fun σ H QV => ∃ ρ S Q, REnv K H σ ρ ∧ RS K H S ∧ w ρ S Q ∧ ∀ b H' S', RS K H' S' → Kp S H S' H' → Q b S' → QV b H'
def tDA (K : PySem.W.Frag) (w : Env → Sto → (List D → Sto → Prop) → Prop) : TA := fun σ H QV => ∃ ρ S Q, REnv K H σ ρ ∧ RS K H S ∧ w ρ S Q ∧ ∀ vs H' ds S', RDs K H' ds vs → RS K H' S' → Kp S H S' H' → Q ds S' → QV vs H'
def RRs (K : PySem.W.Frag) (H0 H : Hp) (S : Sto) (rs : List R) (vs : List V) : Prop := Paired (RR K H0 H S) rs vs
def tDR (K : PySem.W.Frag) (w : Env → Sto → (List R → Sto → Prop) → Prop) : TA := fun σ H QV => ∃ ρ S Q, REnv K H σ ρ ∧ RS K H S ∧ w ρ S Q ∧ ∀ vs H' rs S', RRs K H H' S' rs vs → RS K H' S' → Kp S H S' H' → Q rs S' → QV vs H'
def tDO (K : PySem.W.Frag) (w : Env → Sto → (Option Int → Sto → Prop) → Prop) : TO := fun σ H QV => ∃ ρ S Q, REnv K H σ ρ ∧ RS K H S ∧ w ρ S Q ∧ ∀ o H' S', RS K H' S' → Kp S H S' H' → Q o S' → QV o H'
/-- the end of a statement -/
def tDS (K : PySem.W.Frag) (w : Env → Sto → Nd → Prop) : L2.TS := fun D σ H => ∃ ρ S nd, REnv K H σ ρ ∧ RS K H S ∧ w ρ S nd ∧
  (∀ σ' H' ρ' S', REnv K H' σ' ρ' → RS K H' S' → Kp S H S' H' → nd.nx ρ' S' → D.nx σ' H') ∧ Post K S H nd.rt D.rt ∧
  (∀ σ' H' ρ' S', REnv K H' σ' ρ' → RS K H' S' → Kp S H S' H' → nd.bk ρ' S' → D.bk σ' H') ∧ (∀ σ' H' ρ' S', REnv K H' σ' ρ' → RS K H' S' → Kp S H S' H' → nd.ct ρ' S' → D.ct σ' H')
/-- a walk over items: what it yields, while the store holds -/
def ItOk (K : PySem.W.Frag) (H0 : Hp) (S : Sto) (H : Hp) (J : It) (xs : List D) (hold : Sto → Prop) : Prop := ∀ (i : Nat) S' H', Kq H0 S H S' H' → RS K H' S' → hold S' →
  (xs.length ≤ i → J.stop i H') ∧ ∀ d, xs[i]? = some d → J.go i H' ∧ ∀ x H2, J.yld i H' x H2 → RD K H2 d x ∧ RS K H2 S' ∧ Kp S' H' S' H2
def tDI (K : PySem.W.Frag) (w : Env → Sto → (List D → (Sto → Prop) → Sto → Prop) → Prop) : TI := fun σ H R => ∃ ρ S Q, REnv K H σ ρ ∧ RS K H S ∧ w ρ S Q ∧
  ∀ J H' xs hold S', ItOk K H S' H' J xs hold → xs.length ≤ sizeLine → RS K H' S' → Kp S H S' H' → Q xs hold S' → R J H'
theorem _root_.L2.PE.weak {X : Cx} {e : Expr} {t t' : TE} (h : PE X e t) (f : ∀ σ H Q, t' σ H Q → t σ H Q) : PE X e t' := ⟨fun pins s σ H Q I q => h.run pins s σ H Q I (f _ _ _ q)⟩
theorem _root_.L2.PT.weak {X : Cx} {e : Expr} {t t' : TT} (h : PT X e t) (f : ∀ σ H Q, t' σ H Q → t σ H Q) : PT X e t' := ⟨fun pins s σ H Q I q => h.run pins s σ H Q I (f _ _ _ q)⟩
theorem _root_.L2.PW.weak {X : Cx} {e : Expr} {t t' : TT} (h : PW X e t) (f : ∀ σ H Q, t' σ H Q → t σ H Q) : PW X e t' := ⟨fun wh pins s σ H Q I q => h.run wh pins s σ H Q I (f _ _ _ q)⟩
theorem _root_.L2.PA.weak {X : Cx} {e : List Expr} {t t' : TA} (h : PA X e t) (f : ∀ σ H Q, t' σ H Q → t σ H Q) : PA X e t' := ⟨fun pos pins s σ H Q I q => h.run pos pins s σ H Q I (f _ _ _ q)⟩
theorem _root_.L2.PS.weak {X : Cx} {e : Stmt} {t t' : L2.TS} (h : PS X e t) (f : ∀ D σ H, t' D σ H → t D σ H) : PS X e t' := ⟨fun pins s σ H D I q => h.run pins s σ H D I (f _ _ _ q)⟩
theorem _root_.L2.PSs.weak {X : Cx} {e : List Stmt} {t t' : L2.TS} (h : PSs X e t) (f : ∀ D σ H, t' D σ H → t D σ H) : PSs X e t' := ⟨fun pins s σ H D I q => h.run pins s σ H D I (f _ _ _ q)⟩
theorem _root_.L2.PI.weak {X : Cx} {tg e : Expr} {t t' : TI} (h : PI X tg e t) (f : ∀ σ H R, t' σ H R → t σ H R) : PI X tg e t' := ⟨fun pins s σ H R I q => h.run pins s σ H R I (f _ _ _ q)⟩
theorem _root_.L2.PO.weak {X : Cx} {e : Option Expr} {t t' : TO} (h : PO X e t) (f : ∀ σ H R, t' σ H R → t σ H R) : PO X e t' := ⟨fun pins s σ H R I q => h.run pins s σ H R I (f _ _ _ q)⟩
section
variable {K : PySem.W.Frag} {S S0 S1 S2 : Sto} {H H0 H1 H2 : Hp} {σ : L2.St} {ρ : Env} {wa wb : Ev}
/-- one evaluation, then something by its result -/
theorem tD1 {k : R → Sto → Prop} {QV : VK} (re : REnv K H σ ρ) (hs : RS K H S) (h : wa ρ S k) (f : ∀ r v H1 S1, RR K H H1 S1 r v → RS K H1 S1 → Kp S H S1 H1 → REnv K H1 σ ρ → k r S1 → QV v H1) : tD K wa σ H QV :=
  ⟨ρ, S, k, re, hs, h, fun v H' r S' a b c d => f r v H' S' a b c (re.kp c hs) d⟩
theorem tD2 {k : R → R → Sto → Prop} {QV : V → V → Hp → Prop} (re : REnv K H σ ρ) (hs : RS K H S) (h : wa ρ S fun x S1 => wb ρ S1 fun y S2 => k x y S2)
    (f : ∀ x y v u H2 S2, RR K H H2 S2 x v → RR K H H2 S2 y u → RS K H2 S2 → Kp S H S2 H2 → k x y S2 → QV v u H2) : tD K wa σ H fun v H1 => tD K wb σ H1 fun u H2 => QV v u H2 :=
  tD1 re hs h fun x v H1 S1 r1 s1 k1 re1 q => tD1 re1 s1 q fun y u H2 S2 r2 s2 k2 _ q => f x y v u H2 S2 (r1.kp k2 s1) (r2.back k1) s2 (k1.trans k2) q
theorem Post.sub {S' : Sto} {H' : Hp} {Q : PR} {QV : VK} (p : Post K S H Q QV) (k : Kp S H S' H') : Post K S' H' Q QV := fun v H2 r S2 a b c d => p v H2 r S2 (a.back k) b (k.trans c) d
/-- the result is the datum d, nothing has changed -/
theorem Post.at {S' : Sto} {H' : Hp} {Q : PR} {QV : VK} {r : R} {v : V} (p : Post K S H Q QV) (k : Kp S H S' H') (hs : RS K H' S') (rr : RR K H H' S' r v) (q : Q r S') : QV v H' := p v H' r S' rr hs k q
/-- the result is a new tuple -/
theorem Post.tup {S' : Sto} {H' : Hp} {Q : PR} {QV : VK} {ds : List D} {vs : List V} {p : Addr} (po : Post K S H Q QV) (k : Kp S H S' H') (hs : RS K H' S') (hp : H' p = none) (r : RDs K H' ds vs) (q : Q (.v (.tup ds)) S') : QV (.ref p) (upd H' p (.tup vs)) := by
  have k2 : Kp S' H' S' (upd H' p (.tup vs)) := Kp.laid hp
  refine po _ _ _ S' ?_ (hs.laid hp) (k.trans k2) q
  show RD K _ (.tup ds) _
  simp only [RD]
  exact ⟨p, vs, rfl, upd_same, RDs.kp k2 hs ds vs r⟩
/-- the result is a new list -/
theorem Post.lst {S' : Sto} {H' : Hp} {Q : PR} {QV : VK} {ds : List D} {vs : List V} {p : Addr} (po : Post K S H Q QV) (k : Kp S H S' H') (hs : RS K H' S') (hp : H' p = none) (r : RDs K H' ds vs) (q : Q (.n (.lst ds)) S') : QV (.ref p) (upd H' p (.lst vs)) := by
  have k2 : Kp S' H' S' (upd H' p (.lst vs)) := Kp.laid hp
  have rr : RR K H (upd H' p (.lst vs)) S' (.n (.lst ds)) (.ref p) := ⟨p, rfl, k.dom p hp, hs.no hp, vs, upd_same, RDs.kp k2 hs ds vs r⟩
  exact po _ _ _ S' rr (hs.laid hp) (k.trans k2) q
/-- an object of the store is written -/
theorem Kp.wrote {a : Addr} {o : Ob} {u : HO} (hs : RS K H S) (ha : S a ≠ none) : Kp S H (up S a o) (upd H a u) := by
  have hne : ∀ b, S b = none → b ≠ a := fun b hb z => by subst z; exact ha hb
  have hH : H a ≠ none := by
    cases q : S a with
    | none => exact absurd q ha
    | some o' => exact RT.tracked (hs a o' q)
  refine ⟨fun b x h h' => ⟨by rw [upd_ne (hne b h')]; exact h, by rw [up_ne (hne b h')]; exact h'⟩, fun b h => ?_, fun b h => ?_⟩
  · by_cases z : b = a
    · subst z; rw [upd_same] at h; cases h
    · rw [upd_ne z] at h; exact h
  · by_cases z : b = a
    · subst z; rw [up_same] at h; cases h
    · rw [up_ne z] at h; exact h
theorem RS.wrote {a : Addr} {o : Ob} {u : HO} (hs : RS K H S) (ha : S a ≠ none) (ho : RO K (upd H a u) a o) : RS K (upd H a u) (up S a o) := fun b x e => by
  have k : Kp S H (up S a o) (upd H a u) := Kp.wrote hs ha
  by_cases z : b = a
  · subst z; rw [up_same] at e; cases e; exact ho.rt
  · rw [up_ne z] at e
    have r := hs b x e
    cases x with
    | lst ds => obtain ⟨vs, e, r⟩ := r; exact ⟨vs, by rw [upd_ne z]; exact e, RDs.kp k hs ds vs r⟩
    | dK kvs => obtain ⟨vs, e, r⟩ := r; exact ⟨vs, by rw [upd_ne z]; exact e, r.mono (RD.kp k hs)⟩
    | dT kvs => obtain ⟨vs, e, r⟩ := r; exact ⟨vs, by rw [upd_ne z]; exact e, r.mono (RD.kp k hs)⟩
    | lkK kvs o ws => obtain ⟨e, r⟩ := r; exact ⟨by rw [upd_ne z]; exact e, r.mono (RD.kp k hs)⟩
    | tb q =>
      obtain ⟨o', q'⟩ := Option.ne_none_iff_exists'.mp ha
      exact tab_but r z (fun c q => RT.noext (hs a o' q') c q) fun b o hb e => by rw [upd_ne hb]; exact e
/-- what a list, a tuple, a dict is by its value -/
theorem see_lst {x : R} {v : V} {ds : List D} (hs : RS K H S) (r : RR K H0 H S x v) (h : see S x = some (.lst ds)) : ∃ a vs, v = .ref a ∧ H a = some (.lst vs) ∧ RDs K H ds vs := by
  cases x with
  | n o =>
    obtain ⟨a, e, _, _, ho⟩ := r
    have e2 : o = .lst ds := Option.some.inj h
    subst e2
    obtain ⟨vs, h1, h2⟩ := ho
    exact ⟨a, vs, e, h1, h2⟩
  | v d =>
    cases d with
    | ref a =>
      obtain ⟨vs, h1, h2⟩ := hs a _ h
      exact ⟨a, vs, r, h1, h2⟩
    | _ => cases h
theorem see_dK {x : R} {v : V} {kvs : List (Key × D)} (hs : RS K H S) (r : RR K H0 H S x v) (h : see S x = some (.dK kvs)) : ∃ a ws, v = .ref a ∧ H a = some (.dK ws) ∧ RKv K H kvs ws := by
  cases x with
  | n o =>
    obtain ⟨a, e, _, _, ho⟩ := r
    have e2 : o = .dK kvs := Option.some.inj h
    subst e2
    obtain ⟨vs, h1, h2⟩ := ho
    exact ⟨a, vs, e, h1, h2⟩
  | v d =>
    cases d with
    | ref a =>
      obtain ⟨vs, h1, h2⟩ := hs a _ h
      exact ⟨a, vs, r, h1, h2⟩
    | _ => cases h
theorem see_dT {x : R} {v : V} {kvs : List (List Key × D)} (hs : RS K H S) (r : RR K H0 H S x v) (h : see S x = some (.dT kvs)) : ∃ a ws, v = .ref a ∧ H a = some (.dT ws) ∧ RKv K H kvs ws := by
  cases x with
  | n o =>
    obtain ⟨a, e, _, _, ho⟩ := r
    have e2 : o = .dT kvs := Option.some.inj h
    subst e2
    obtain ⟨vs, h1, h2⟩ := ho
    exact ⟨a, vs, e, h1, h2⟩
  | v d =>
    cases d with
    | ref a =>
      obtain ⟨vs, h1, h2⟩ := hs a _ h
      exact ⟨a, vs, r, h1, h2⟩
    | _ => cases h
theorem see_lkK {x : R} {v : V} {kvs : List (Key × D)} {o : Obj} {ws : List (Key × V)} (hs : RS K H S) (r : RR K H0 H S x v) (h : see S x = some (.lkK kvs o ws)) : ∃ a, v = .ref a ∧ H a = some (.frz o (.dK ws)) ∧ RKv K H kvs ws := by
  cases x with
  | n o' =>
    obtain ⟨a, e, _, _, ho⟩ := r
    have e2 : o' = .lkK kvs o ws := Option.some.inj h
    subst e2
    exact ho.elim
  | v d =>
    cases d with
    | ref a =>
      obtain ⟨h1, h2⟩ := hs a _ h
      exact ⟨a, r, h1, h2⟩
    | _ => cases h
theorem keyD_rd {ky : Key} {v : V} (h : RD K H (keyD ky) v) : v = kV ky := by
  cases ky with
  | inl i => exact h
  | inr x => exact h
theorem rds_keyD : ∀ {ks : List Key} {vs : List V}, RDs K H (ks.map keyD) vs → vs = ks.map kV
  | [], vs, h => by simpa [RDs] using h
  | k :: ks, vs, h => by
    rw [List.map_cons] at h
    simp only [RDs] at h
    obtain ⟨v, r, e, e1, e2⟩ := h
    rw [e, keyD_rd e1, rds_keyD e2]
    rfl
/-- a tuple of keys -/
theorem tup_key {ks : List Key} {v : V} (h : RD K H (.tup (ks.map keyD)) v) : ∃ b, v = .ref b ∧ H b = some (.tup (ks.map kV)) := by
  simp only [RD] at h
  obtain ⟨a, vs, e, h1, h2⟩ := h
  rw [rds_keyD h2] at h1
  exact ⟨a, e, h1⟩
theorem lstOf_sq {x : R} {v : V} {ds : List D} (hs : RS K H S) (r : RR K H0 H S x v) (h : lstOf S x = some ds) : ∃ a vs, v = .ref a ∧ SqL K H a vs ∧ RDs K H ds vs := by
  have go : ∀ x, RR K H0 H S x v → (match see S x with | some (Ob.lst xs) => some xs | _ => none) = some ds → ∃ a vs, v = .ref a ∧ SqL K H a vs ∧ RDs K H ds vs := fun x r h => by
    split at h
    · rename_i xs hx
      cases h
      obtain ⟨a, vs, e, h1, h2⟩ := see_lst hs r hx
      exact ⟨a, vs, e, .inl (.inl h1), h2⟩
    · cases h
  cases x with
  | n o => exact go _ r h
  | v d =>
    cases d with
    | fz xs =>
      have e : xs = ds := Option.some.inj h
      rw [e] at r
      have r : RD K H (.fz ds) v := r
      simp only [RD] at r
      obtain ⟨a, vs, e, h1, h2⟩ := r
      exact ⟨a, vs, e, h1.sq, h2⟩
    | _ => exact go _ r h
theorem seqOf_sq {x : R} {v : V} {ds : List D} (hs : RS K H S) (r : RR K H0 H S x v) (h : seqOf S x = some ds) : ∃ a vs, v = .ref a ∧ (SqL K H a vs ∨ SqT K H a vs) ∧ RDs K H ds vs := by
  have go : ∀ x, RR K H0 H S x v → lstOf S x = some ds → ∃ a vs, v = .ref a ∧ (SqL K H a vs ∨ SqT K H a vs) ∧ RDs K H ds vs := fun x r h =>
    let ⟨a, vs, e, h1, h2⟩ := lstOf_sq hs r h
    ⟨a, vs, e, .inl h1, h2⟩
  cases x with
  | n o => exact go _ r h
  | v d =>
    cases d with
    | tup xs =>
      have e : xs = ds := Option.some.inj h
      rw [e] at r
      have r : RD K H (.tup ds) v := r
      simp only [RD] at r
      obtain ⟨a, vs, e, h1, h2⟩ := r
      exact ⟨a, vs, e, .inr h1.sq, h2⟩
    | _ => exact go _ r h
end
set_option maxRecDepth 100000
set_option maxHeartbeats 1000000
section
variable {X : Cx} {K : PySem.W.Frag} {S S0 S1 S2 : Sto} {H H0 H1 H2 : Hp} {σ : L2.St} {ρ : Env} {a b c : Expr} {wa wb wc : Ev} {pos : Pos}
/-! ### names, constants -/
theorem s_var {i : Nat} (h : PE X a (tVar i)) : PE X a (tD K fun ρ S Q => ∃ d, ρ[i]? = some (some d) ∧ Q (.v d) S) :=
  h.weak fun σ H QV ⟨ρ, S, Q, re, hs, ⟨d, e, q⟩, po⟩ => by
    obtain ⟨v, e', r⟩ := re.2 i d e
    exact ⟨v, e', po v H (.v d) S r hs Kp.refl q⟩
theorem s_cst {d : D} {v : V} (r : ∀ H, RD K H d v) (h : PE X a (tC v)) : PE X a (tD K fun _ S Q => Q (.v d) S) :=
  h.weak fun σ H QV ⟨ρ, S, Q, re, hs, q, po⟩ => po v H (.v d) S (r H) hs Kp.refl q
/-! ### two operands -/
theorem s_op {op : Operator} {r : R2} {k : R → R → Sto → PR → Prop} (ho : OpR X (binaryOp op) r) (ha : PE X a (tD X.K wa)) (hb : PE X b (tD X.K wb))
    (f : ∀ x y v u S0 H0 S H Q QV, RR X.K H0 H S x v → RR X.K H0 H S y u → RS X.K H S → Kp S0 H0 S H → k x y S Q → Post X.K S0 H0 Q QV → r v u H QV) :
    PE X (.BinOp a op b pos) (tD X.K fun ρ S Q => wa ρ S fun x S1 => wb ρ S1 fun y S2 => k x y S2 Q) :=
  (pe_op ho ha hb).weak fun σ H QV ⟨ρ, S, Q, re, hs, h, po⟩ => tD2 re hs h fun x y v u H2 S2 r1 r2 s2 k2 q => f x y v u S H S2 H2 Q QV r1 r2 s2 k2 q po
theorem s_cmp {op : CmpOp} {r : R2} {k : R → R → Sto → PR → Prop} (ho : OpR X (compareOp op) r) (ha : PE X a (tD X.K wa)) (hb : PE X b (tD X.K wb)) (hm : behindInMarks op b = false)
    (f : ∀ x y v u S0 H0 S H Q QV, RR X.K H0 H S x v → RR X.K H0 H S y u → RS X.K H S → Kp S0 H0 S H → k x y S Q → Post X.K S0 H0 Q QV → r v u H QV) :
    PE X (.Compare a [op] [b] pos) (tD X.K fun ρ S Q => wa ρ S fun x S1 => wb ρ S1 fun y S2 => k x y S2 Q) :=
  (pe_cmpR ho ha hb hm).weak fun σ H QV ⟨ρ, S, Q, re, hs, h, po⟩ => tD2 re hs h fun x y v u H2 S2 r1 r2 s2 k2 q => f x y v u S H S2 H2 Q QV r1 r2 s2 k2 q po
/-- a wish about a truth -/
theorem Post.bool {QT : Bool → Hp → Prop} {Q : Bool → Sto → Prop} (po : ∀ b H' S', RS K H' S' → Kp S H S' H' → Q b S' → QT b H') :
    Post K S H (fun z S3 => ∃ k, z = .v (.bl k) ∧ Q k S3) fun x H1 => ∃ k, x = .bl k ∧ QT k H1 := fun v H' r S' rr hs k ⟨b, e, q⟩ => by
  subst e
  exact ⟨b, rr, po b H' S' hs k q⟩
theorem s_cmpT {op : CmpOp} {r : R2} {k : R → R → Sto → PR → Prop} (ho : OpR X (compareOp op) r) (ha : PE X a (tD X.K wa)) (hb : PE X b (tD X.K wb)) (hm : behindInMarks op b = false)
    (f : ∀ x y v u S0 H0 S H Q QV, RR X.K H0 H S x v → RR X.K H0 H S y u → RS X.K H S → Kp S0 H0 S H → k x y S Q → Post X.K S0 H0 Q QV → r v u H QV) :
    PT X (.Compare a [op] [b] pos) (tDT X.K fun ρ S Q => wa ρ S fun x S1 => wb ρ S1 fun y S2 => k x y S2 fun z S3 => ∃ k, z = .v (.bl k) ∧ Q k S3) :=
  (pt_cmpR ho ha hb hm).weak fun σ H QT ⟨ρ, S, Q, re, hs, h, po⟩ => tD2 re hs h fun x y v u H2 S2 r1 r2 s2 k2 q => f x y v u S H S2 H2 _ _ r1 r2 s2 k2 q (Post.bool po)
/-! ### the operators by values -/
/-- what a result is where it is the datum d -/
theorem Post.dat {S' : Sto} {H' : Hp} {Q : PR} {QV : VK} {d : D} {v : V} (po : Post K S H Q QV) (k : Kp S H S' H') (hs : RS K H' S') (r : RD K H' d v) (q : Q (.v d) S') : QV v H' := po v H' (.v d) S' r hs k q
theorem op_add_all : OpR X (binaryOp .Add) (fun x y H Q => (((rI0 fun i j => .int (i + j)) x y H Q ∨ (∃ i j, x = .str i ∧ y = .str j ∧ i.length + j.length ≤ sizeLine ∧ Q (.str (i ++ j)) H)) ∨ rCatA X.K x y H Q) ∨ rCat x y H Q) :=
  ((op_add.or op_add_str).or op_catA).or op_cat
theorem add_tup {xs ys : List D} {x y : V} {Q : PR} {QV : VK} (r1 : RD K H (.tup xs) x) (r2 : RD K H (.tup ys) y) (hs : RS K H S) (k : Kp S0 H0 S H) (hz : xs.length + ys.length ≤ sizeLine) (q : Q (.v (.tup (xs ++ ys))) S) (po : Post K S0 H0 Q QV) : rCatA K x y H QV := by
  have r1' := r1
  have r2' := r2
  simp only [RD] at r1' r2'
  obtain ⟨a, vs, rfl, h1, d1⟩ := r1'
  obtain ⟨b, us, rfl, h2, d2⟩ := r2'
  refine ⟨a, b, vs, us, rfl, rfl, h1.sq, h2.sq, by rw [← d1.length, ← d2.length]; exact hz, fun e => ?_, fun _ e => ?_, fun _ _ p hp => ?_⟩
  · have e' : xs = [] := List.length_eq_zero_iff.mp (by rw [d1.length, e]; rfl)
    rw [e', List.nil_append] at q
    exact po.dat k hs r2 q
  · have e' : ys = [] := List.length_eq_zero_iff.mp (by rw [d2.length, e]; rfl)
    rw [e', List.append_nil] at q
    exact po.dat k hs r1 q
  · exact po.tup k hs hp (d1.append d2) q
theorem add_lst {x y : R} {v u : V} {xs ys : List D} {Q : PR} {QV : VK} (r1 : RR K H0 H S x v) (r2 : RR K H0 H S y u) (hs : RS K H S) (k : Kp S0 H0 S H) (e1 : see S x = some (.lst xs)) (e2 : see S y = some (.lst ys)) (hz : xs.length + ys.length ≤ sizeLine)
    (q : Q (.n (.lst (xs ++ ys))) S) (po : Post K S0 H0 Q QV) : rCat v u H QV := by
  obtain ⟨a, vs, rfl, h1, d1⟩ := see_lst hs r1 e1
  obtain ⟨b, us, rfl, h2, d2⟩ := see_lst hs r2 e2
  exact ⟨a, b, vs, us, rfl, rfl, h1, h2, by rw [← d1.length, ← d2.length]; exact hz, fun p hp => po.lst k hs hp (d1.append d2) q⟩
theorem rd_int {i : Int} : RD K H (.int i) (.int i) := rfl
theorem rd_str {i : Str} : RD K H (.str i) (.str i) := rfl
theorem rd_bl {i : Bool} : RD K H (.bl i) (.bl i) := rfl
theorem rd_non : RD K H .non .non := rfl
theorem l_add {x y : R} {v u : V} {Q : PR} {QV : VK} (r1 : RR K H0 H S x v) (r2 : RR K H0 H S y u) (hs : RS K H S) (k : Kp S0 H0 S H) (h : addW x y S Q) (po : Post K S0 H0 Q QV) :
    (((rI0 fun i j => .int (i + j)) v u H QV ∨ (∃ i j, v = .str i ∧ u = .str j ∧ i.length + j.length ≤ sizeLine ∧ QV (.str (i ++ j)) H)) ∨ rCatA K v u H QV) ∨ rCat v u H QV := by
  unfold addW at h
  split at h
  · exact .inl (.inl (.inl ⟨_, _, r1, r2, po.dat k hs rd_int h⟩))
  · exact .inl (.inl (.inr ⟨_, _, r1, r2, h.1, po.dat k hs rd_str h.2⟩))
  · exact .inl (.inr (add_tup r1 r2 hs k h.1 h.2 po))
  · obtain ⟨xs, ys, e1, e2, hz, q⟩ := h
    exact .inr (add_lst r1 r2 hs k e1 e2 hz q po)
theorem l_sub {x y : R} {v u : V} {Q : PR} {QV : VK} (r1 : RR K H0 H S x v) (r2 : RR K H0 H S y u) (hs : RS K H S) (k : Kp S0 H0 S H) (h : subW x y S Q) (po : Post K S0 H0 Q QV) : (rI0 fun i j => .int (i - j)) v u H QV := by
  unfold subW at h
  split at h
  · exact ⟨_, _, r1, r2, po.dat k hs rd_int h⟩
  · exact h.elim
theorem l_fdiv {x y : R} {v u : V} {Q : PR} {QV : VK} (r1 : RR K H0 H S x v) (r2 : RR K H0 H S y u) (hs : RS K H S) (k : Kp S0 H0 S H) (h : fdivW x y S Q) (po : Post K S0 H0 Q QV) : (rI CDivN fun i j => .int (i.fdiv j)) v u H QV := by
  unfold fdivW at h
  split at h
  · exact ⟨_, _, r1, r2, h.1, po.dat k hs rd_int h.2⟩
  · exact h.elim
theorem l_mod {x y : R} {v u : V} {Q : PR} {QV : VK} (r1 : RR K H0 H S x v) (r2 : RR K H0 H S y u) (hs : RS K H S) (k : Kp S0 H0 S H) (h : modW x y S Q) (po : Post K S0 H0 Q QV) : (rI (fun _ j => j ≠ 0) fun i j => .int (i.fmod j)) v u H QV := by
  unfold modW at h
  split at h
  · exact ⟨_, _, r1, r2, h.1, po.dat k hs rd_int h.2⟩
  · exact h.elim
theorem l_pow {x y : R} {v u : V} {Q : PR} {QV : VK} (r1 : RR K H0 H S x v) (r2 : RR K H0 H S y u) (hs : RS K H S) (k : Kp S0 H0 S H) (h : powW x y S Q) (po : Post K S0 H0 Q QV) : (rI CPow fun i j => .int (i ^ j.toNat)) v u H QV := by
  unfold powW at h
  split at h
  · exact ⟨_, _, r1, r2, h.1, po.dat k hs rd_int h.2⟩
  · exact h.elim
def rRepS : R2 := fun x y H Q => ∃ z k, x = .str z ∧ y = .int k ∧ 1 ≤ z.length ∧ z.length ≤ 1000 ∧ 2 ≤ k ∧ k ≤ 1000 ∧ Q (.str (repS z k.toNat)) H
theorem rep_size (z : Str) : ∀ (m : Nat) (acc : Array Nat), ((List.replicate m z.cps).foldl (· ++ ·) acc) = (acc.toList ++ (List.replicate m z.cps.toList).flatten).toArray
  | 0, acc => by simp
  | m + 1, acc => by
    rw [List.replicate_succ, List.foldl_cons, rep_size z m, List.replicate_succ, List.flatten_cons]
    simp
theorem op_repS {X : Cx} : OpR X (binaryOp .Mult) rRepS := by
  intro pins s σ H x y v u Q I rx ry h
  obtain ⟨z, k, rfl, rfl, h1, h2, h3, h4, q⟩ := h
  obtain ⟨t, rfl⟩ := rx
  obtain ⟨t', rfl⟩ := ry
  have h5 : ¬ k < 1 := by omega
  have e1 : (k == 1) = false := beq_eq_false_iff_ne.mpr (by omega)
  have e2 : (z.length == 0) = false := beq_eq_false_iff_ne.mpr (by omega)
  have h6 : (k == 1 || z.length == 0) = false := by rw [e1, e2]; rfl
  have hk : k.toNat ≤ 1000 := by omega
  have hb : z.length * k.toNat ≤ 1000 * 1000 := Nat.mul_le_mul h2 hk
  have hl : sizeLine = 16777216 := sizeLine_eq
  have el : (repS z k.toNat).length = z.length * k.toNat := by
    show (List.replicate k.toNat z.cps.toList).flatten.toArray.size = z.cps.size * k.toNat
    rw [List.size_toArray, List.length_flatten, List.map_replicate, List.sum_replicate_nat, Array.length_toList, Nat.mul_comm]
  refine P.mul_str ?_ (fun _ _ => ?_) (fun _ _ => ?_) ?_
  · have a : decide (k < -(2 ^ 63 : Int)) = false := decide_eq_false (by omega)
    have b : decide (k ≥ 2 ^ 63) = false := decide_eq_false (by omega)
    rw [a, b]; rfl
  · intro w
    have hz : (z.length : Int) ≤ 1000 := by omega
    have d : (1000 : Int) ≤ (2 ^ 63 - 1) / k := by
      rw [Int.le_ediv_iff_mul_le (by omega)]
      omega
    omega
  · exact decide_eq_false (by omega)
  · rw [if_neg h5, h6, if_neg (by simp)]
    have e3 : (List.replicate k.toNat z.cps).foldl (· ++ ·) #[] = (repS z k.toNat).cps := by
      rw [rep_size z k.toNat #[]]; simp [repS]
    show (Made.str ⟨(List.replicate k.toNat z.cps).foldl (· ++ ·) #[]⟩).post _ s
    rw [e3]
    exact ⟨by show (repS z k.toNat).length ≤ _; omega, .str (repS z k.toNat), H, I.tok _, ⟨_, rfl⟩, q⟩
theorem l_mul {x y : R} {v u : V} {Q : PR} {QV : VK} (r1 : RR K H0 H S x v) (r2 : RR K H0 H S y u) (hs : RS K H S) (k : Kp S0 H0 S H) (h : mulW x y S Q) (po : Post K S0 H0 Q QV) :
    ((rI CMul fun i j => .int (i * j)) v u H QV ∨ rRep v u H QV) ∨ rRepS v u H QV := by
  unfold mulW at h
  split at h
  · exact .inl (.inl ⟨_, _, r1, r2, h.1, po.dat k hs rd_int h.2⟩)
  · exact .inr ⟨_, _, r1, r2, h.1, h.2.1, h.2.2.1, h.2.2.2.1, po.dat k hs rd_str h.2.2.2.2⟩
  · obtain ⟨xs, n, e, rfl, h1, h2, h3, q⟩ := h
    obtain ⟨a, vs, rfl, e1, d1⟩ := see_lst hs r1 e
    exact .inl (.inr ⟨a, n, vs, rfl, r2, e1, h1, h2, by rw [← d1.length]; exact h3, fun p hp => po.lst k hs hp (d1.rep _) q⟩)
/-- all the operators -/
theorem s_bin {o : BOp} {op : Operator} (e : (match o, op with | .add, .Add => true | .sub, .Sub => true | .mul, .Mult => true | .fdiv, .FloorDiv => true | .mod, .Mod => true | .pow, .Pow => true | _, _ => false) = true)
    (ha : PE X a (tD X.K wa)) (hb : PE X b (tD X.K wb)) : PE X (.BinOp a op b pos) (tD X.K fun ρ S Q => wa ρ S fun x S1 => wb ρ S1 fun y S2 => opW o x y S2 Q) := by
  cases o <;> cases op <;> first
    | (exact absurd e (by decide))
    | exact s_op op_add_all ha hb fun x y v u S0 H0 S H Q QV r1 r2 hs k h po => l_add r1 r2 hs k h po
    | exact s_op op_sub ha hb fun x y v u S0 H0 S H Q QV r1 r2 hs k h po => l_sub r1 r2 hs k h po
    | exact s_op ((op_mul.or op_rep).or op_repS) ha hb fun x y v u S0 H0 S H Q QV r1 r2 hs k h po => l_mul r1 r2 hs k h po
    | exact s_op op_fdivN ha hb fun x y v u S0 H0 S H Q QV r1 r2 hs k h po => l_fdiv r1 r2 hs k h po
    | exact s_op op_modN ha hb fun x y v u S0 H0 S H Q QV r1 r2 hs k h po => l_mod r1 r2 hs k h po
    | exact s_op op_pow ha hb fun x y v u S0 H0 S H Q QV r1 r2 hs k h po => l_pow r1 r2 hs k h po
end
set_option maxRecDepth 100000
set_option maxHeartbeats 1000000
section
variable {K : PySem.W.Frag} {S S0 : Sto} {H H0 Ha Hb : Hp}
/-! ### data as a whole -/
theorem RKv.vals {kvs : List (Key × D)} {ws : List (Key × V)} (h : RKv K H kvs ws) : RDs K H (kvs.map (·.2)) (ws.map (·.2)) := by
  unfold RKv at h
  induction h with
  | nil => simp [RDs]
  | cons r t ih => simp only [List.map_cons, RDs]; exact ⟨_, _, rfl, r.2, ih⟩
theorem lay_list {ps : List PyData} (h : (PyData.list ps).canLay0 = true) : PyData.canLayAll0 ps = true := by simpa only [PyData.canLay0] using h
theorem lay_tuple {ps : List PyData} (h : (PyData.tuple ps).canLay0 = true) : PyData.canLayAll0 ps = true := by simpa only [PyData.canLay0] using h
theorem lay_cons {p : PyData} {ps : List PyData} (h : PyData.canLayAll0 (p :: ps) = true) : p.canLay0 = true ∧ PyData.canLayAll0 ps = true := by simpa only [PyData.canLayAll0, Bool.and_eq_true] using h
mutual
theorem Rdg.dp (hs : RS K H S) : ∀ (p : PyData) (d : D) (v : V), Rdg S d p → p.canLay0 = true → RD K H d v → Dp K H v p
  | .none, _, _, h, _, r => by cases h; cases (show _ = V.non from r); exact .non
  | .bool b, _, _, h, _, r => by cases h; cases (show _ = V.bl b from r); exact .bl b
  | .int i, _, _, h, _, r => by cases h; cases (show _ = V.int i from r); exact .int i
  | .str x, _, _, h, _, r => by cases h; cases (show _ = V.str x from r); exact .str x
  | .list ps, _, _, h, hc, r => by
    cases h with
    | @lst a xs _ e hl =>
      cases (show _ = V.ref a from r)
      obtain ⟨vs, e1, d1⟩ := hs a _ e
      exact .lst (.inl (.inl e1)) (RdgL.dp hs ps xs vs hl (lay_list hc) d1)
  | .tuple ps, _, _, h, hc, r => by
    cases h with
    | @tup xs _ hl =>
      simp only [RD] at r
      obtain ⟨a, vs, rfl, e1, d1⟩ := r
      exact .tup e1.sq (RdgL.dp hs ps xs vs hl (lay_tuple hc) d1)
  | .dict _, _, _, _, hc, _ => by simp [PyData.canLay0] at hc
theorem RdgL.dp (hs : RS K H S) : ∀ (ps : List PyData) (ds : List D) (vs : List V), RdgL S ds ps → PyData.canLayAll0 ps = true → RDs K H ds vs → DpAll K H vs ps
  | [], _, _, h, _, r => by cases h; simp only [RDs] at r; subst r; exact .nil
  | p :: ps, _, _, h, hc, r => by
    cases h with
    | @cons d ds _ _ h1 h2 =>
      simp only [RDs] at r
      obtain ⟨v, r, rfl, r1, r2⟩ := r
      exact .cons (Rdg.dp hs p d v h1 (lay_cons hc).1 r1) (RdgL.dp hs ps ds r h2 (lay_cons hc).2 r2)
end
theorem RdgR.dp {x : R} {v : V} {p : PyData} (hs : RS K H S) (r : RR K H0 H S x v) (h : RdgR S x p) (hp : SeqAt.shaped p = true) : Dp K H v p := by
  have hc := SeqAt.canLay_of_shaped hp
  cases x with
  | v d => exact Rdg.dp hs p d v h hc r
  | n o =>
    obtain ⟨a, rfl, _, _, ho⟩ := r
    cases o with
    | lst xs =>
      obtain ⟨ps, rfl, h⟩ := h
      obtain ⟨vs, e1, d1⟩ := ho
      exact .lst (.inl (.inl e1)) (RdgL.dp hs ps xs vs h (lay_list hc) d1)
    | dK kvs =>
      obtain ⟨ps, rfl, h⟩ := h
      simp [PyData.canLay0] at hc
    | dT kvs => exact h.elim
    | tb q => exact h.elim
    | lkK kvs o ws => exact h.elim
/-! ### comparisons -/
theorem l_eq {x y : R} {v u : V} {f : Bool → Bool} {Q : PR} {QV : VK} (r1 : RR K Ha H S x v) (r2 : RR K Hb H S y u) (hs : RS K H S) (k : Kp S0 H0 S H) (h : eqW x y S fun b => Q (.v (.bl (f b))) S) (po : Post K S0 H0 Q QV) :
    (scal v u = true ∧ QV (.bl (f (decide (v = u)))) H) ∨ ∃ d e, Dp K H v d ∧ Dp K H u e ∧ SeqAt.shaped d = true ∧ SeqAt.shaped e = true ∧ QV (.bl (f (PyData.eqv d e))) H := by
  unfold eqW at h
  split at h
  · rename_i i j
    cases (show v = V.str i from r1)
    cases (show u = V.str j from r2)
    have e : decide (V.str i = V.str j) = decide (i = j) := by simp
    exact .inl ⟨rfl, by rw [e]; exact po.dat k hs rd_bl h⟩
  · rename_i i j
    cases (show v = V.int i from r1)
    cases (show u = V.int j from r2)
    have e : decide (V.int i = V.int j) = decide (i = j) := by simp
    exact .inl ⟨rfl, by rw [e]; exact po.dat k hs rd_bl h⟩
  · rename_i i j
    cases (show v = V.bl i from r1)
    cases (show u = V.bl j from r2)
    have e : decide (V.bl i = V.bl j) = decide (i = j) := by simp
    exact .inl ⟨rfl, by rw [e]; exact po.dat k hs rd_bl h⟩
  · obtain ⟨p, q, h1, h2, s1, s2, h⟩ := h
    exact .inr ⟨p, q, RdgR.dp hs r1 h1 s1, RdgR.dp hs r2 h2 s2, s1, s2, po.dat k hs rd_bl h⟩
def rLt (K : PySem.W.Frag) : R2 := fun x y H Q => ((rI0 fun i j => .bl (decide (i < j))) x y H Q ∨ ∃ i j, x = .str i ∧ y = .str j ∧ Q (.bl (decide (i.cps.toList < j.cps.toList))) H) ∨
  ∃ d e, Dp K H x d ∧ Dp K H y e ∧ PySem.W.alike d e = true ∧ d ≠ .none ∧ d.depth ≤ 60 ∧ Q (.bl (PySem.W.dataLt d e)) H
def rGt (K : PySem.W.Frag) : R2 := fun x y H Q => ((rI0 fun i j => .bl (decide (j < i))) x y H Q ∨ ∃ i j, x = .str i ∧ y = .str j ∧ Q (.bl (decide (j.cps.toList < i.cps.toList))) H) ∨
  ∃ d e, Dp K H x d ∧ Dp K H y e ∧ PySem.W.alike d e = true ∧ d ≠ .none ∧ d.depth ≤ 60 ∧ Q (.bl (PySem.W.dataLt e d)) H
theorem op_ltD {X : Cx} (hu : X.A.units + 65 < cLine) : OpR X (compareOp .Lt) (fun x y H Q => ∃ d e, Dp X.K H x d ∧ Dp X.K H y e ∧ PySem.W.alike d e = true ∧ d ≠ .none ∧ d.depth ≤ 60 ∧ Q (.bl (PySem.W.dataLt d e)) H) := by
  intro pins s σ H x y v u Q I rx ry ⟨d, e, hd, he, al, hn, dd, q⟩
  obtain ⟨as, r1⟩ := Dp.reads I d x v hd rx
  obtain ⟨bs, r2⟩ := Dp.reads I e y u he ry
  exact PySem.W.lt_data r1 r2 al hn (by omega) ⟨.bl _, H, I, rfl, q⟩
theorem op_gtD {X : Cx} (hu : X.A.units + 65 < cLine) : OpR X (compareOp .Gt) (fun x y H Q => ∃ d e, Dp X.K H x d ∧ Dp X.K H y e ∧ PySem.W.alike d e = true ∧ d ≠ .none ∧ d.depth ≤ 60 ∧ Q (.bl (PySem.W.dataLt e d)) H) := by
  intro pins s σ H x y v u Q I rx ry ⟨d, e, hd, he, al, hn, dd, q⟩
  obtain ⟨as, r1⟩ := Dp.reads I d x v hd rx
  obtain ⟨bs, r2⟩ := Dp.reads I e y u he ry
  exact PySem.W.gt_data r1 r2 al hn (by omega) ⟨.bl _, H, I, rfl, q⟩
theorem l_lt {x y : R} {v u : V} {Q : PR} {QV : VK} (r1 : RR K Ha H S x v) (r2 : RR K Hb H S y u) (hs : RS K H S) (k : Kp S0 H0 S H) (h : ltW x y fun b => Q (.v (.bl b)) S) (po : Post K S0 H0 Q QV) : rLt K v u H QV := by
  unfold ltW at h
  split at h
  · exact .inl (.inl ⟨_, _, r1, r2, po.dat k hs rd_bl h⟩)
  · exact .inl (.inr ⟨_, _, r1, r2, po.dat k hs rd_bl h⟩)
  · rename_i i j
    obtain ⟨⟨p1, p2, al, s1, s2, d1, d2⟩, q⟩ := h
    exact .inr ⟨_, _, RdgR.dp hs r1 (show RdgR S (.v (.tup i)) _ from rdg_pure S _ (by rw [pureD]; exact p1)) s1, RdgR.dp hs r2 (show RdgR S (.v (.tup j)) _ from rdg_pure S _ (by rw [pureD]; exact p2)) s2, al, (by rw [encD]; exact fun z => by cases z), d1, po.dat k hs rd_bl q⟩
  · exact h.elim
theorem l_gt {x y : R} {v u : V} {Q : PR} {QV : VK} (r1 : RR K Ha H S x v) (r2 : RR K Hb H S y u) (hs : RS K H S) (k : Kp S0 H0 S H) (h : ltW y x fun b => Q (.v (.bl b)) S) (po : Post K S0 H0 Q QV) : rGt K v u H QV := by
  unfold ltW at h
  split at h
  · exact .inl (.inl ⟨_, _, r1, r2, po.dat k hs rd_bl h⟩)
  · exact .inl (.inr ⟨_, _, r1, r2, po.dat k hs rd_bl h⟩)
  · rename_i i j
    obtain ⟨⟨p1, p2, al, s1, s2, d1, d2⟩, q⟩ := h
    exact .inr ⟨_, _, RdgR.dp hs r1 (show RdgR S (.v (.tup j)) _ from rdg_pure S _ (by rw [pureD]; exact p2)) s2, RdgR.dp hs r2 (show RdgR S (.v (.tup i)) _ from rdg_pure S _ (by rw [pureD]; exact p1)) s1, (PySem.W.alike_comm _ _).trans al, (by rw [encD]; exact fun z => by cases z), d2, po.dat k hs rd_bl q⟩
  · exact h.elim
theorem l_le {x y : R} {v u : V} {Q : PR} {QV : VK} (r1 : RR K Ha H S x v) (r2 : RR K Hb H S y u) (hs : RS K H S) (k : Kp S0 H0 S H) (h : leW x y fun b => Q (.v (.bl b)) S) (po : Post K S0 H0 Q QV) : (rI0 fun i j => .bl (decide (i ≤ j))) v u H QV := by
  unfold leW at h
  split at h
  · exact ⟨_, _, r1, r2, po.dat k hs rd_bl h⟩
  · exact h.elim
theorem l_ge {x y : R} {v u : V} {Q : PR} {QV : VK} (r1 : RR K Ha H S x v) (r2 : RR K Hb H S y u) (hs : RS K H S) (k : Kp S0 H0 S H) (h : leW y x fun b => Q (.v (.bl b)) S) (po : Post K S0 H0 Q QV) : (rI0 fun i j => .bl (decide (j ≤ i))) v u H QV := by
  unfold leW at h
  split at h
  · exact ⟨_, _, r1, r2, po.dat k hs rd_bl h⟩
  · exact h.elim
def rIs (f : Bool → Bool) : R2 := fun x y H Q => (y = .non ∧ Q (.bl (f (decide (x = .non)))) H) ∨ ∃ a b : Bool, x = .bl a ∧ y = .bl b ∧ Q (.bl (f (decide (a = b)))) H
theorem RR.nonnon {x : R} {v : V} (r : RR K H0 H S x v) (h : x ≠ .v .non) : decide (v = .non) = false := by
  refine decide_eq_false fun e => ?_
  subst e
  cases x with
  | n o => obtain ⟨a, e, _⟩ := r; cases e
  | v d =>
    cases d with
    | non => exact h rfl
    | bl b => exact nomatch (show V.non = V.bl b from r)
    | int b => exact nomatch (show V.non = V.int b from r)
    | str b => exact nomatch (show V.non = V.str b from r)
    | ref b => exact nomatch (show V.non = V.ref b from r)
    | tup b => have r : RD K H (.tup b) .non := r; simp only [RD] at r; obtain ⟨a, _, e, _⟩ := r; cases e
    | fz b => have r : RD K H (.fz b) .non := r; simp only [RD] at r; obtain ⟨a, _, e, _⟩ := r; cases e
theorem l_is {x y : R} {v u : V} {f : Bool → Bool} {Q : PR} {QV : VK} (r1 : RR K Ha H S x v) (r2 : RR K Hb H S y u) (hs : RS K H S) (k : Kp S0 H0 S H) (h : isW x y fun b => Q (.v (.bl (f b))) S) (po : Post K S0 H0 Q QV) : rIs f v u H QV := by
  unfold isW at h
  split at h
  · have e1 : v = .non := r1
    have e2 : u = .non := r2
    subst e1 e2
    exact .inl ⟨rfl, po.dat k hs rd_bl h⟩
  · rename_i hn
    refine .inl ⟨r2, ?_⟩
    rw [RR.nonnon r1 fun e => hn e]
    exact po.dat k hs rd_bl h
  · exact .inr ⟨_, _, r1, r2, po.dat k hs rd_bl h⟩
  · exact h.elim
/-! in -/
theorem RKv.val {κ : Type} [DecidableEq κ] {kvs : List (κ × D)} {ws : List (κ × V)} (h : RKv K H kvs ws) (k : κ) : (∀ d, valD kvs k = some d → ∃ v, valV ws k = some v ∧ RD K H d v) ∧ (valD kvs k = none → valV ws k = none) := by
  unfold RKv at h
  induction h with
  | nil => exact ⟨fun d e => by simp [valD] at e, fun _ => rfl⟩
  | @cons p q ps qs r t ih =>
    unfold valD valV at ih ⊢
    rw [List.find?_cons, List.find?_cons, ← r.1]
    by_cases e : p.1 = k
    · rw [decide_eq_true e]
      refine ⟨fun d hd => ⟨q.2, rfl, ?_⟩, fun hn => ?_⟩
      · have e2 : p.2 = d := Option.some.inj hd
        rw [← e2]; exact r.2
      · cases hn
    · rw [decide_eq_false e]
      exact ih
theorem RKv.isSome {κ : Type} [DecidableEq κ] {kvs : List (κ × D)} {ws : List (κ × V)} (h : RKv K H kvs ws) (k : κ) : (valD kvs k).isSome = (valV ws k).isSome := by
  obtain ⟨h1, h2⟩ := h.val k
  cases e : valD kvs k with
  | none => rw [h2 e]; rfl
  | some d => obtain ⟨v, e', _⟩ := h1 d e; rw [e']; rfl
theorem keyOf_rd {d : D} {k : Key} {v : V} (h : keyOf d = some k) (r : RD K H d v) : v = kV k := by
  cases d with
  | int i => cases h; exact r
  | str i => cases h; exact r
  | _ => cases h
def rInA (K : PySem.W.Frag) (f : Bool → Bool) : R2 := fun x y H Q => (∃ i j, x = .str i ∧ y = .str j ∧ Q (.bl (f (inStr i j))) H) ∨
  (∃ d ds, Dp K H x d ∧ (Dp K H y (.list ds) ∨ Dp K H y (.tuple ds)) ∧ SeqAt.shaped d = true ∧ PyData.canLayAll0 ds = true ∧ Q (.bl (f (ds.any fun z => PyData.eqv z d))) H) ∨
  ∃ a o, y = .ref a ∧ DGet H a x o ∧ Q (.bl (f o.isSome)) H
theorem op_inA {X : Cx} (hu : X.A.units + 65 < cLine) : OpR X (compareOp .In) (rInA X.K fun b => b) := by
  intro pins s σ H x y v u Q I rx ry h
  rcases h with ⟨i, j, rfl, rfl, q⟩ | ⟨d, ds, hd, he, sd, se, q⟩ | ⟨a, o, rfl, g, q⟩
  · exact op_in_str pins s σ H _ _ v u Q I rx ry ⟨i, j, rfl, rfl, q⟩
  · obtain ⟨as, r1⟩ := Dp.reads I d x v hd rx
    rcases he with he | he
    · obtain ⟨bs, r2⟩ := Dp.reads I (.list ds) y u he ry
      exact SeqAt.in_list_reads r2 r1 se (SeqAt.canLay_of_shaped sd) (room_in_shaped sd hu) ⟨.bl _, H, I, rfl, q⟩
    · obtain ⟨bs, r2⟩ := Dp.reads I (.tuple ds) y u he ry
      exact SeqAt.in_tuple_reads r2 r1 se (SeqAt.canLay_of_shaped sd) (room_in_shaped sd hu) ⟨.bl _, H, I, rfl, q⟩
  · cases ry
    exact d_in (by omega) I g rx fun s3 I3 => ⟨.bl o.isSome, H, I3, rfl, q⟩
theorem op_notInA {X : Cx} (hu : X.A.units + 65 < cLine) : OpR X (compareOp .NotIn) (rInA X.K fun b => !b) := by
  intro pins s σ H x y v u Q I rx ry h
  rcases h with ⟨i, j, rfl, rfl, q⟩ | ⟨d, ds, hd, he, sd, se, q⟩ | ⟨a, o, rfl, g, q⟩
  · exact op_notin_str pins s σ H _ _ v u Q I rx ry ⟨i, j, rfl, rfl, q⟩
  · obtain ⟨as, r1⟩ := Dp.reads I d x v hd rx
    rcases he with he | he
    · obtain ⟨bs, r2⟩ := Dp.reads I (.list ds) y u he ry
      exact SeqAt.notIn_list_reads r2 r1 se (SeqAt.canLay_of_shaped sd) (room_in_shaped sd hu) ⟨.bl _, H, I, rfl, q⟩
    · obtain ⟨bs, r2⟩ := Dp.reads I (.tuple ds) y u he ry
      exact SeqAt.notIn_tuple_reads r2 r1 se (SeqAt.canLay_of_shaped sd) (room_in_shaped sd hu) ⟨.bl _, H, I, rfl, q⟩
  · cases ry
    exact d_notIn (by omega) I g rx fun s3 I3 => ⟨.bl (!o.isSome), H, I3, rfl, q⟩
theorem shaped_list {qs : List PyData} (h : SeqAt.shaped (.list qs) = true) : PyData.canLayAll0 qs = true := lay_list (SeqAt.canLay_of_shaped h)
theorem shaped_tuple {qs : List PyData} (h : SeqAt.shaped (.tuple qs) = true) : PyData.canLayAll0 qs = true := lay_tuple (SeqAt.canLay_of_shaped h)
theorem l_in {x y : R} {v u : V} {f : Bool → Bool} {Q : PR} {QV : VK} (r1 : RR K Ha H S x v) (r2 : RR K Hb H S y u) (hs : RS K H S) (k : Kp S0 H0 S H) (h : inW x y S fun b => Q (.v (.bl (f b))) S) (po : Post K S0 H0 Q QV) : rInA K f v u H QV := by
  unfold inW at h
  split at h
  · exact .inl ⟨_, _, r1, r2, po.dat k hs rd_bl h⟩
  · rcases h with ⟨p, qs, h1, h2, s1, s2, h⟩ | ⟨p, qs, h1, h2, s1, s2, h⟩ | ⟨kvs, d, ky, e, rfl, ek, h⟩ | ⟨kvs, ks, e, rfl, h⟩ | ⟨kvs, o, ws, ky, e, rfl, h⟩
    · exact .inr (.inl ⟨p, qs, RdgR.dp hs r1 h1 s1, .inl (RdgR.dp hs r2 h2 s2), s1, shaped_list s2, po.dat k hs rd_bl h⟩)
    · exact .inr (.inl ⟨p, qs, RdgR.dp hs r1 h1 s1, .inr (RdgR.dp hs r2 h2 s2), s1, shaped_tuple s2, po.dat k hs rd_bl h⟩)
    · obtain ⟨a, ws, rfl, e1, rk⟩ := see_dK hs r2 e
      have ev : v = kV ky := keyOf_rd ek r1
      subst ev
      rw [rk.isSome ky] at h
      exact .inr (.inr ⟨a, valV ws ky, rfl, DGet.k e1, po.dat k hs rd_bl h⟩)
    · obtain ⟨a, ws, rfl, e1, rk⟩ := see_dT hs r2 e
      obtain ⟨b, rfl, eb⟩ := tup_key (show RD K H (.tup (ks.map keyD)) v from r1)
      rw [rk.isSome ks] at h
      exact .inr (.inr ⟨a, valV ws ks, rfl, DGet.t e1 eb, po.dat k hs rd_bl h⟩)
    · obtain ⟨a, rfl, e1, rk⟩ := see_lkK hs r2 e
      have ev : v = kV ky := keyD_rd (show RD K H (keyD ky) v from r1)
      subst ev
      rw [rk.isSome ky] at h
      exact .inr (.inr ⟨a, valV ws ky, rfl, .inl ⟨ws, ky, .inr ⟨o, e1⟩, rfl, rfl⟩, po.dat k hs rd_bl h⟩)
end
section
variable {X : Cx} {a b c : Expr} {wa wb wc : Ev} {pos : Pos}
def copC : COp → CmpOp
  | .eq => .Eq | .ne => .NotEq | .lt => .Lt | .le => .LtE | .gt => .Gt | .ge => .GtE | .isin => .In | .notin => .NotIn | .is => .Is | .isnot => .IsNot
/-- every comparison by values -/
structure CmpOk (X : Cx) (o : COp) (r : R2) : Prop where
  op : OpR X (compareOp (copC o)) r
  l : ∀ x y v u S0 H0 S H Ha Hb Q QV, RR X.K Ha H S x v → RR X.K Hb H S y u → RS X.K H S → Kp S0 H0 S H → cmpW o x y S Q → Post X.K S0 H0 Q QV → r v u H QV
theorem op_is_all : OpR X (compareOp .Is) (rIs fun b => b) := op_isN.or op_isBl
theorem op_isnot_all : OpR X (compareOp .IsNot) (rIs fun b => !b) := op_notN.or op_notBl
theorem cmp_ok (hu : X.A.units + 65 < cLine) (o : COp) : ∃ r, CmpOk X o r := by
  cases o with
  | eq => exact ⟨_, op_eq.or (op_eqD (by omega)), fun x y v u S0 H0 S H Ha Hb Q QV r1 r2 hs k h po => l_eq (f := fun b => b) r1 r2 hs k h po⟩
  | ne => exact ⟨_, op_ne.or (op_neD (by omega)), fun x y v u S0 H0 S H Ha Hb Q QV r1 r2 hs k h po => l_eq (f := fun b => !b) r1 r2 hs k h po⟩
  | lt => exact ⟨_, (op_lt.or op_lt_str).or (op_ltD hu), fun x y v u S0 H0 S H Ha Hb Q QV r1 r2 hs k h po => l_lt r1 r2 hs k h po⟩
  | le => exact ⟨_, op_le, fun x y v u S0 H0 S H Ha Hb Q QV r1 r2 hs k h po => l_le r1 r2 hs k h po⟩
  | gt => exact ⟨_, (op_gt.or op_gt_str).or (op_gtD hu), fun x y v u S0 H0 S H Ha Hb Q QV r1 r2 hs k h po => l_gt r1 r2 hs k h po⟩
  | ge => exact ⟨_, op_ge, fun x y v u S0 H0 S H Ha Hb Q QV r1 r2 hs k h po => l_ge r1 r2 hs k h po⟩
  | isin => exact ⟨_, op_inA hu, fun x y v u S0 H0 S H Ha Hb Q QV r1 r2 hs k h po => l_in (f := fun b => b) r1 r2 hs k h po⟩
  | notin => exact ⟨_, op_notInA hu, fun x y v u S0 H0 S H Ha Hb Q QV r1 r2 hs k h po => l_in (f := fun b => !b) r1 r2 hs k h po⟩
  | is => exact ⟨_, op_is_all, fun x y v u S0 H0 S H Ha Hb Q QV r1 r2 hs k h po => l_is (f := fun b => b) r1 r2 hs k h po⟩
  | isnot => exact ⟨_, op_isnot_all, fun x y v u S0 H0 S H Ha Hb Q QV r1 r2 hs k h po => l_is (f := fun b => !b) r1 r2 hs k h po⟩
theorem s_cmpE {o : COp} (hu : X.A.units + 65 < cLine) (ha : PE X a (tD X.K wa)) (hb : PE X b (tD X.K wb)) (hm : behindInMarks (copC o) b = false) :
    PE X (.Compare a [copC o] [b] pos) (tD X.K fun ρ S Q => wa ρ S fun x S1 => wb ρ S1 fun y S2 => cmpW o x y S2 Q) := by
  obtain ⟨r, c⟩ := cmp_ok (X := X) hu o
  exact s_cmp c.op ha hb hm fun x y v u S0 H0 S H Q QV r1 r2 hs k h po => c.l x y v u S0 H0 S H H0 H0 Q QV r1 r2 hs k h po
theorem s_cmpET {o : COp} (hu : X.A.units + 65 < cLine) (ha : PE X a (tD X.K wa)) (hb : PE X b (tD X.K wb)) (hm : behindInMarks (copC o) b = false) :
    PT X (.Compare a [copC o] [b] pos) (tDT X.K fun ρ S Q => wa ρ S fun x S1 => wb ρ S1 fun y S2 => cmpW o x y S2 fun z S3 => ∃ k, z = .v (.bl k) ∧ Q k S3) := by
  obtain ⟨r, c⟩ := cmp_ok (X := X) hu o
  exact s_cmpT c.op ha hb hm fun x y v u S0 H0 S H Q QV r1 r2 hs k h po => c.l x y v u S0 H0 S H H0 H0 Q QV r1 r2 hs k h po
theorem s_chnET {o p : COp} (hu : X.A.units + 65 < cLine) (ha : PE X a (tD X.K wa)) (hb : PE X b (tD X.K wb)) (hc : PE X c (tD X.K wc)) (hm : behindInMarks (copC o) b = false) (hm2 : behindInMarks (copC p) c = false) :
    PT X (.Compare a [copC o, copC p] [b, c] pos) (tDT X.K fun ρ S Q => wa ρ S fun x S1 => wb ρ S1 fun y S2 => cmpW o x y S2 fun z S3 => ∃ k, z = .v (.bl k) ∧
      if k = true then wc ρ S3 fun w S4 => cmpW p y w S4 fun z S5 => ∃ k, z = .v (.bl k) ∧ Q k S5 else Q false S3) := by
  obtain ⟨r, c1⟩ := cmp_ok (X := X) hu o
  obtain ⟨r', c2⟩ := cmp_ok (X := X) hu p
  refine (pt_chain c1.op c2.op ha hb hc (by rw [← hm2]; rfl)).weak fun σ H QT ⟨ρ, S, Q, re, hs, h, po⟩ => ?_
  refine tD1 re hs h fun x v H1 S1 r1 s1 k1 re1 q => tD1 re1 s1 q fun y u H2 S2 r2 s2 k2 re2 q => ?_
  refine c1.l x y v u S2 H2 S2 H2 H H1 _ _ (r1.kp k2 s1) r2 s2 Kp.refl q fun z H3 r3 S3 rr s3 k3 ⟨k, e, q⟩ => ?_
  subst e
  refine ⟨k, rr, ?_⟩
  have k13 : Kp S H S3 H3 := (k1.trans k2).trans k3
  cases k with
  | false => exact ⟨false, rfl, po false H3 S3 s3 k13 q⟩
  | true => exact tD1 (re2.kp k3 s2) s3 q fun w u' H4 S4 r4 s4 k4 re4 q => c2.l y w u u' S H S4 H4 H1 H3 _ _ ((r2.kp k3 s2).kp k4 s3) r4 s4 (k13.trans k4) q (Post.bool po)
end
set_option maxRecDepth 100000
set_option maxHeartbeats 1000000
section
variable {K : PySem.W.Frag} {S S0 : Sto} {H H0 Ha Hb : Hp}
/-! ### subscripts -/
theorem atI_rds {xs : List D} {vs : List V} (r : RDs K H xs vs) {i : Int} {d : D} (h : atI xs i = some d) : ∃ v, atI vs i = some v ∧ RD K H d v := by
  unfold atI at h ⊢
  rw [← r.length]
  cases e : ixN xs.length i with
  | none => rw [e] at h; cases h
  | some j =>
    rw [e] at h
    exact r.get h
def rIxA (K : PySem.W.Frag) : R2 := fun x y H Q => rIx K x y H Q ∨ ∃ a v, x = .ref a ∧ DGet H a y (some v) ∧ Q v H
theorem ix_dict {X : Cx} (hu : X.A.units + 1 < cLine) : IxR X fun x y H Q => ∃ a v, x = .ref a ∧ DGet H a y (some v) ∧ Q v H := by
  intro value slice pins s σ H x y v u Q I rx ry h hsub
  obtain ⟨a, z, rfl, g, q⟩ := h
  cases rx
  exact tail_any (dict_typeIs I g) PySem.F.slot_dict_getitem.lookup (d_getItem hu I g ry fun w' s3 I3 rw' => ⟨z, H, I3, rw', q⟩) hsub
theorem ix_all {X : Cx} (hu : X.A.units + 1 < cLine) : IxR X (rIxA X.K) := ix_seq.or (ix_dict hu)
theorem l_ixK {x : R} {v u : V} {kvs : List (Key × D)} {d : D} {ky : Key} {Q : PR} {QV : VK} (r1 : RR K Ha H S x v) (eu : u = kV ky) (hs : RS K H S) (k : Kp S0 H0 S H) (e : see S x = some (.dK kvs)) (l : valD kvs ky = some d) (q : Q (.v d) S) (po : Post K S0 H0 Q QV) :
    ∃ a v', v = .ref a ∧ DGet H a u (some v') ∧ QV v' H := by
  obtain ⟨a, ws, rfl, e1, rk⟩ := see_dK hs r1 e
  obtain ⟨v', ev, rd⟩ := (rk.val ky).1 d l
  subst eu
  exact ⟨a, v', rfl, by rw [← ev]; exact DGet.k e1, po.dat k hs rd q⟩
theorem l_ix {x y : R} {v u : V} {Q : PR} {QV : VK} (r1 : RR K Ha H S x v) (r2 : RR K Hb H S y u) (hs : RS K H S) (k : Kp S0 H0 S H) (h : ixW x y S Q) (po : Post K S0 H0 Q QV) : rIxA K v u H QV := by
  unfold ixW at h
  split at h
  · obtain ⟨hz, c, e, q⟩ := h
    exact .inl (.inr (.inr ⟨_, _, c, r1, r2, hz, e, po.dat k hs rd_str q⟩))
  · rcases h with ⟨xs, d, e, ea, q⟩ | ⟨kvs, d, e, l, q⟩
    · obtain ⟨a, vs, rfl, sq, rd⟩ := seqOf_sq hs r1 e
      obtain ⟨v', ev, rv⟩ := atI_rds rd ea
      rcases sq with sq | sq
      · exact .inl (.inl ⟨a, vs, _, v', rfl, r2, sq, ev, po.dat k hs rv q⟩)
      · exact .inl (.inr (.inl ⟨a, vs, _, v', rfl, r2, sq, ev, po.dat k hs rv q⟩))
    · exact .inr (l_ixK (ky := .inl _) r1 r2 hs k e l q po)
  · obtain ⟨kvs, d, e, l, q⟩ := h
    exact .inr (l_ixK (ky := .inr _) r1 r2 hs k e l q po)
  · obtain ⟨kvs, ks, d, rfl, e, l, q⟩ := h
    obtain ⟨b, rfl, eb⟩ := tup_key (show RD K H (.tup (ks.map keyD)) u from r2)
    obtain ⟨a, ws, rfl, e1, rk⟩ := see_dT hs r1 e
    obtain ⟨v', ev, rd⟩ := (rk.val ks).1 d l
    exact .inr ⟨a, v', rfl, by rw [← ev]; exact DGet.t e1 eb, po.dat k hs rd q⟩
  · exact h.elim
/-! ### slices -/
theorem cut_rds {xs : List D} {vs : List V} (r : RDs K H xs vs) (lo hi : Option Int) : RDs K H (cut xs lo hi) (cutV vs lo hi) := by
  unfold cut cutV
  rw [r.length]
  exact (r.drop _).take _
theorem cut_whole {α : Type} {xs : List α} {lo hi : Option Int} (h : HT.sIx xs.length 0 lo = 0 ∧ HT.sIx xs.length xs.length hi = xs.length) : cut xs lo hi = xs := by
  unfold cut
  rw [h.1, h.2]
  simp
def rSlAll (K : PySem.W.Frag) : V → Option Int → Option Int → Hp → VK → Prop := fun x lo hi H Q => (rSlL K x lo hi H Q ∨ rSlA K x lo hi H Q) ∨ rSlS x lo hi H Q
theorem sl_all {X : Cx} : SlR X (rSlAll X.K) := (sl_list.or sl_tupA).or sl_str
theorem cutS_eq (z : Str) (lo hi : Option Int) : cutS z lo hi = ⟨(cut z.cps.toList lo hi).toArray⟩ := by
  unfold cutS cut
  first
    | rfl
    | (simp only [Str.length, Array.length_toList])
theorem l_sl {x : R} {v : V} {lo hi : Option Int} {Q : PR} {QV : VK} (r1 : RR K Ha H S x v) (hs : RS K H S) (k : Kp S0 H0 S H) (h : slW x lo hi S Q) (po : Post K S0 H0 Q QV) : rSlAll K v lo hi H QV := by
  unfold slW at h
  split at h
  · obtain ⟨hz, q⟩ := h
    refine .inr ⟨_, r1, hz, ?_⟩
    rw [cutS_eq]
    exact po.dat k hs rd_str q
  · rename_i xs
    have r1' := r1
    have r1' : RD K H (.tup xs) v := r1'
    simp only [RD] at r1'
    obtain ⟨a, vs, rfl, sq, rd⟩ := r1'
    refine .inl (.inr ⟨a, vs, rfl, sq.sq, fun hw => ?_, fun hw p hp => po.tup k hs hp (cut_rds rd lo hi) h⟩)
    rw [← rd.length] at hw
    rw [cut_whole hw] at h
    exact po.dat k hs r1 h
  · split at h
    · rename_i xs e
      obtain ⟨a, vs, rfl, sq, rd⟩ := lstOf_sq hs r1 e
      exact .inl (.inl ⟨a, vs, rfl, sq, fun p hp => po.lst k hs hp (cut_rds rd lo hi) h⟩)
    · exact h.elim
end
section
variable {X : Cx} {a b c : Expr} {wa wb wc : Ev} {pos p2 : Pos}
theorem s_ix (hu : X.A.units + 65 < cLine) (ha : PE X a (tD X.K wa)) (hb : PE X b (tD X.K wb)) (hp : PlainIx b) :
    PE X (.Subscript a b pos) (tD X.K fun ρ S Q => wa ρ S fun x S1 => wb ρ S1 fun y S2 => ixW x y S2 Q) :=
  (pe_ix (ix_all (by omega)) ha hb hp).weak fun σ H QV ⟨ρ, S, Q, re, hs, h, po⟩ => tD2 re hs h fun x y v u H2 S2 r1 r2 s2 k2 q => l_ix r1 r2 s2 k2 q po
theorem s_po0 : PO X none (tDO X.K fun _ S Q => Q none S) := po_none.weak fun σ H QV ⟨ρ, S, Q, re, hs, q, po⟩ => po none H S hs Kp.refl q
theorem s_po1 (ha : PE X a (tD X.K wa)) : PO X (some a) (tDO X.K fun ρ S Q => wa ρ S fun r S' => partW r fun i => Q i S') :=
  (po_some ha).weak fun σ H QV ⟨ρ, S, Q, re, hs, h, po⟩ => tD1 re hs h fun r v H1 S1 r1 s1 k1 _ q => by
    unfold partW at q
    split at q
    · exact ⟨_, r1, po _ H1 S1 s1 k1 q⟩
    · exact q.elim
theorem s_sl {lo hi : Option Expr} {wl wh : Env → Sto → (Option Int → Sto → Prop) → Prop} (ha : PE X a (tD X.K wa)) (hl : PO X lo (tDO X.K wl)) (hh : PO X hi (tDO X.K wh)) :
    PE X (.Subscript a (.Slice lo hi none p2) pos) (tD X.K fun ρ S Q => wa ρ S fun x S1 => wl ρ S1 fun l S2 => wh ρ S2 fun u S3 => slW x l u S3 Q) :=
  (pe_slice sl_all ha hl hh).weak fun σ H QV ⟨ρ, S, Q, re, hs, h, po⟩ => tD1 re hs h fun x v H1 S1 r1 s1 k1 re1 q =>
    ⟨ρ, S1, _, re1, s1, q, fun l H2 S2 s2 k2 q => ⟨ρ, S2, _, re1.kp k2 s1, s2, q, fun u H3 S3 s3 k3 q => l_sl ((r1.kp k2 s1).kp k3 s2) s3 ((k1.trans k2).trans k3) q po⟩⟩
end
set_option maxRecDepth 100000
set_option maxHeartbeats 1000000
/-! ### xs[::-1] -/
section
variable {X : Cx} {a b c : Expr} {wa wb wc : Ev} {pos p1 p2 p3 : Pos} {j : Nat}
/-! ### lists of operands -/
variable {es : List Expr} {wes : Env → Sto → (List D → Sto → Prop) → Prop} {wrs : Env → Sto → (List R → Sto → Prop) → Prop}
theorem s_pa0 : PA X [] (tDA X.K fun _ S Q => Q [] S) := pa_nil.weak fun σ H QV ⟨ρ, S, Q, re, hs, q, po⟩ => po [] H [] S (by simp [RDs]) hs Kp.refl q
theorem s_pa1 (ha : PE X a (tD X.K wa)) (hr : PA X es (tDA X.K wes)) (hn : starEach (a :: es) X.env = (false, eval a X.env) :: starEach es X.env) :
    PA X (a :: es) (tDA X.K fun ρ S Q => wa ρ S fun r S1 => mat r S1 fun d S2 => wes ρ S2 fun ds S3 => Q (d :: ds) S3) :=
  (pa_cons ha hr hn).weak fun σ H QV ⟨ρ, S, Q, re, hs, h, po⟩ => tD1 re hs h fun r v H1 S1 r1 s1 k1 re1 q => by
    obtain ⟨d, S2, rd, s2, k2, q⟩ := mat_ok q r1 s1 k1
    refine ⟨ρ, S2, _, re.kp k2 hs, s2, q, fun vs H3 ds S3 rds s3 k3 q => po (v :: vs) H3 (d :: ds) S3 ?_ s3 (k2.trans k3) q⟩
    simp only [RDs]
    exact ⟨v, vs, rfl, RD.kp k3 s2 d v rd, rds⟩
theorem s_pr0 : PA X [] (tDR X.K fun _ S Q => Q [] S) := pa_nil.weak fun σ H QV ⟨ρ, S, Q, re, hs, q, po⟩ => po [] H [] S .nil hs Kp.refl q
theorem RRs.back {K : PySem.W.Frag} {S0 S1 S : Sto} {H0 H1 H : Hp} (k : Kp S0 H0 S1 H1) {rs : List R} {vs : List V} (h : RRs K H1 H S rs vs) : RRs K H0 H S rs vs := Paired.mapP h fun _ _ r => r.back k
theorem s_pr1 (ha : PE X a (tD X.K wa)) (hr : PA X es (tDR X.K wrs)) (hn : starEach (a :: es) X.env = (false, eval a X.env) :: starEach es X.env) :
    PA X (a :: es) (tDR X.K fun ρ S Q => wa ρ S fun r S1 => wrs ρ S1 fun rs S2 => Q (r :: rs) S2) :=
  (pa_cons ha hr hn).weak fun σ H QV ⟨ρ, S, Q, re, hs, h, po⟩ => tD1 re hs h fun r v H1 S1 r1 s1 k1 re1 q =>
    ⟨ρ, S1, _, re1, s1, q, fun vs H3 rs S3 rrs s3 k3 q => po (v :: vs) H3 (r :: rs) S3 (.cons (r1.kp k3 s1) (rrs.back k1)) s3 (k1.trans k3) q⟩
theorem s_tup {x1 : Nat} (h : PA X es (tDA X.K wes)) : PE X (.Tuple es x1 pos) (tD X.K fun ρ S Q => wes ρ S fun ds S' => ds.length ≤ sizeLine ∧ Q (.v (.tup ds)) S') :=
  (pe_tup h).weak fun σ H QV ⟨ρ, S, Q, re, hs, h, po⟩ => ⟨ρ, S, _, re, hs, h, fun vs H1 ds S1 rd s1 k1 ⟨hz, q⟩ => ⟨by rw [← rd.length]; exact hz, fun p hp => po.tup k1 s1 hp rd q⟩⟩
theorem s_lst (h : PA X es (tDA X.K wes)) : PE X (.List es pos) (tD X.K fun ρ S Q => wes ρ S fun ds S' => ds.length ≤ sizeLine ∧ Q (.n (.lst ds)) S') :=
  (pe_lst h).weak fun σ H QV ⟨ρ, S, Q, re, hs, h, po⟩ => ⟨ρ, S, _, re, hs, h, fun vs H1 ds S1 rd s1 k1 ⟨hz, q⟩ => ⟨by rw [← rd.length]; exact hz, fun p hp => po.lst k1 s1 hp rd q⟩⟩
theorem s_neg (ha : PE X a (tD X.K wa)) : PE X (.UnaryOp .USub a pos) (tD X.K fun ρ S Q => wa ρ S fun x S1 => ∃ i, x = .v (.int i) ∧ Q (.v (.int (-i))) S1) :=
  (pe_un un_neg ha).weak fun σ H QV ⟨ρ, S, Q, re, hs, h, po⟩ => tD1 re hs h fun x v H1 S1 r1 s1 k1 re1 ⟨i, e, q⟩ => by
    subst e
    exact ⟨i, r1, po.dat k1 s1 rd_int q⟩
/-! ### truth -/
theorem ne_cast (n : Nat) : (n != 0) = ((n : Int) != 0) := by
  cases n with
  | zero => rfl
  | succ n =>
    have h1 : ((n + 1 : Nat) != 0) = true := bne_iff_ne.mpr (by omega)
    have h2 : (((n + 1 : Nat) : Int) != 0) = true := bne_iff_ne.mpr (by omega)
    rw [h1, h2]
theorem tru_V {K : PySem.W.Frag} {S : Sto} {H H0 : Hp} {r : R} {v : V} {k : Bool} (rr : RR K H0 H S r v) (hs : RS K H S) (h : tru S r = some k) : TruV K v H k := by
  have isE : ∀ {xs : List D} {vs : List V}, RDs K H xs vs → (!xs.isEmpty) = !vs.isEmpty := fun {xs vs} r => by
    have := r.length
    cases xs <;> cases vs <;> first | rfl | (simp at this)
  unfold tru at h
  split at h
  · cases h; cases (show v = V.non from rr); rfl
  · cases h; cases (show v = V.bl _ from rr); rfl
  · cases h; cases (show v = V.int _ from rr); rfl
  · split at h
    · rename_i x hz
      cases h
      cases (show v = V.str _ from rr)
      exact ⟨hz, ne_cast _⟩
    · cases h
  · split at h
    · rename_i xs e
      cases h
      obtain ⟨a, vs, rfl, sq, rd⟩ := seqOf_sq hs rr e
      rcases sq with sq | sq
      · exact .inl ⟨vs, sq, isE rd⟩
      · exact .inr (.inl ⟨vs, sq, isE rd⟩)
    · split at h
      · rename_i kvs e
        cases h
        obtain ⟨a, ws, rfl, e1, rk⟩ := see_dK hs rr e
        refine .inr (.inr ⟨ws, e1, ?_⟩)
        cases rk <;> rfl
      · cases h
theorem s_and {rest : List Expr} (ha : PE X a (tD X.K wa)) (hb : PE X (.BoolOp .And (b :: rest) pos) (tD X.K wb)) :
    PE X (.BoolOp .And (a :: b :: rest) pos) (tD X.K fun ρ S Q => wa ρ S fun x S1 => ∃ k, tru S1 x = some k ∧ if k = true then wb ρ S1 Q else Q x S1) :=
  (pe_andT ha hb).weak fun σ H QV ⟨ρ, S, Q, re, hs, h, po⟩ => tD1 re hs h fun x v H1 S1 r1 s1 k1 re1 ⟨k, e, q⟩ => by
    refine ⟨k, tru_V r1 s1 e, ?_⟩
    cases k with
    | true => exact ⟨ρ, S1, Q, re1, s1, q, po.sub k1⟩
    | false => exact po v H1 x S1 r1 s1 k1 q
/-! tests -/
variable {tA tB : Env → Sto → (Bool → Sto → Prop) → Prop}
theorem tDT1 {K : PySem.W.Frag} {σ : L2.St} {ρ : Env} {H : Hp} {S : Sto} {k : Bool → Sto → Prop} {QV : Bool → Hp → Prop} (re : REnv K H σ ρ) (hs : RS K H S) (h : tA ρ S k) (f : ∀ b H1 S1, RS K H1 S1 → Kp S H S1 H1 → REnv K H1 σ ρ → k b S1 → QV b H1) : tDT K tA σ H QV :=
  ⟨ρ, S, k, re, hs, h, fun b H' S' a c d => f b H' S' a c (re.kp c hs) d⟩
theorem s_ite (hc : PT X c (tDT X.K tA)) (ha : PE X a (tD X.K wa)) (hb : PE X b (tD X.K wb)) : PE X (.IfExp c a b pos) (tD X.K fun ρ S Q => tA ρ S fun k S1 => if k = true then wa ρ S1 Q else wb ρ S1 Q) :=
  (pe_ifExp hc ha hb).weak fun σ H QV ⟨ρ, S, Q, re, hs, h, po⟩ => tDT1 re hs h fun k H1 S1 s1 k1 re1 q => by
    cases k with
    | true => exact ⟨ρ, S1, Q, re1, s1, q, po.sub k1⟩
    | false => exact ⟨ρ, S1, Q, re1, s1, q, po.sub k1⟩
theorem s_notT (ha : PT X a (tDT X.K tA)) : PT X (.UnaryOp .Not a pos) (tDT X.K fun ρ S Q => tA ρ S fun k S1 => Q (!k) S1) :=
  (pt_not ha).weak fun σ H QT ⟨ρ, S, Q, re, hs, h, po⟩ => ⟨ρ, S, _, re, hs, h, fun b H' S' s1 k1 q => po (!b) H' S' s1 k1 q⟩
theorem s_andT {rest : List Expr} (ha : PT X a (tDT X.K tA)) (hb : PW X (.BoolOp .And (b :: rest) pos) (tDT X.K tB)) : PW X (.BoolOp .And (a :: b :: rest) pos) (tDT X.K fun ρ S Q => tA ρ S fun k S1 => if k = true then tB ρ S1 Q else Q false S1) :=
  (pw_and ha hb).weak fun σ H QT ⟨ρ, S, Q, re, hs, h, po⟩ => tDT1 re hs h fun k H1 S1 s1 k1 re1 q => by
    cases k with
    | true => exact ⟨ρ, S1, Q, re1, s1, q, fun b H' S' s2 k2 q => po b H' S' s2 (k1.trans k2) q⟩
    | false => exact po false H1 S1 s1 k1 q
theorem s_orT {rest : List Expr} (ha : PT X a (tDT X.K tA)) (hb : PW X (.BoolOp .Or (b :: rest) pos) (tDT X.K tB)) : PW X (.BoolOp .Or (a :: b :: rest) pos) (tDT X.K fun ρ S Q => tA ρ S fun k S1 => if k = true then Q true S1 else tB ρ S1 Q) :=
  (pw_or ha hb).weak fun σ H QT ⟨ρ, S, Q, re, hs, h, po⟩ => tDT1 re hs h fun k H1 S1 s1 k1 re1 q => by
    cases k with
    | false => exact ⟨ρ, S1, Q, re1, s1, q, fun b H' S' s2 k2 q => po b H' S' s2 (k1.trans k2) q⟩
    | true => exact po true H1 S1 s1 k1 q
/-- a value as a test -/
theorem s_truth (ha : PE X a (tD X.K wa)) (he : ∀ whole, isTrue a X.env whole = (do let v ← whole; standAt a.pos; holding [v] (truthy v))) : PT X a (tDT X.K fun ρ S Q => wa ρ S fun z S1 => ∃ k, tru S1 z = some k ∧ Q k S1) :=
  (pt_truth ha he).weak fun σ H QT ⟨ρ, S, Q, re, hs, h, po⟩ => tD1 re hs h fun x v H1 S1 r1 s1 k1 re1 ⟨k, e, q⟩ => ⟨k, tru_V r1 s1 e, po k H1 S1 s1 k1 q⟩
end
set_option maxRecDepth 100000
set_option maxHeartbeats 1000000
/-! ### isinstance -/
def tyNm : Ty → String
  | .str => "str" | .tup => "tuple" | .int => "int" | .bool => "bool" | .list => "list" | .dict => "dict"
theorem kitBs : ∀ a ∈ ["NoneType", "bool", "int", "str", "tuple", "list", "dict"], ∀ b ∈ ["str", "tuple", "int", "bool", "list", "dict"], kitB a b = some (a == b || (a == "bool" && b == "int")) := by decide +kernel
theorem ty_mem (t : Ty) : tyNm t ∈ ["str", "tuple", "int", "bool", "list", "dict"] := by cases t <;> decide
theorem kit1 {K : PySem.W.Frag} {a : String} {t : Ty} {b : Bool} (ha : a ∈ ["NoneType", "bool", "int", "str", "tuple", "list", "dict"]) (h : (a == tyNm t || (a == "bool" && tyNm t == "int")) = b) : PySem.W.kitOne K (.type a) (.type (tyNm t)) = some b :=
  kit_ty (by rw [kitBs a ha _ (ty_mem t), h])
section
variable {K : PySem.W.Frag} {S S0 : Sto} {H H0 Ha Hb : Hp}
theorem TyX.tupV {a : Addr} {vs : List V} (h : SqT K H a vs) : TyX K H (.ref a) (.type "tuple") := by
  rcases h with (h | ⟨o, h⟩) | ⟨o, its, n, h, c, _⟩
  · exact .base (.tup h)
  · exact .fTuple h
  · exact .kTuple h c
theorem TyX.fzV {a : Addr} {vs : List V} (h : FzL K H a vs) : TyX K H (.ref a) (.type "list") := by
  rcases h with ⟨o, h⟩ | ⟨o, its, n, h, c, _⟩
  · exact .base (.frz h)
  · exact .kList h c
theorem ty_of {r : R} {v : V} {t : Ty} {b : Bool} (rr : RR K Ha H S r v) (hs : RS K H S) (h : isTy S r t = some b) : ∃ a, TyX K H v (.type a) ∧ a ∈ ["NoneType", "bool", "int", "str", "tuple", "list", "dict"] ∧ (a == tyNm t || (a == "bool" && tyNm t == "int")) = b := by
  have obj : ∀ r, RR K Ha H S r v → obTy (see S r) t = some b → ∃ a, TyX K H v (.type a) ∧ a ∈ ["NoneType", "bool", "int", "str", "tuple", "list", "dict"] ∧ (a == tyNm t || (a == "bool" && tyNm t == "int")) = b := fun r rr h => by
    cases e : see S r with
    | none => rw [e] at h; cases h
    | some o =>
      rw [e] at h
      cases o with
      | lst xs =>
        obtain ⟨a, vs, rfl, h1, _⟩ := see_lst hs rr e
        refine ⟨"list", .base (.lst h1), by decide, ?_⟩
        cases t <;> (cases h; decide)
      | dK kvs =>
        obtain ⟨a, vs, rfl, h1, _⟩ := see_dK hs rr e
        refine ⟨"dict", .base (.dK h1), by decide, ?_⟩
        cases t <;> (cases h; decide)
      | dT kvs =>
        obtain ⟨a, vs, rfl, h1, _⟩ := see_dT hs rr e
        refine ⟨"dict", .base (.dT h1), by decide, ?_⟩
        cases t <;> (cases h; decide)
      | tb q => simp [obTy] at h
      | lkK kvs o ws =>
        obtain ⟨a, rfl, h1, _⟩ := see_lkK hs rr e
        refine ⟨"dict", .fDict h1, by decide, ?_⟩
        cases t <;> (cases h; decide)
  cases r with
  | n o => exact obj _ rr h
  | v d =>
    cases d with
    | ref a => exact obj _ rr h
    | non =>
      cases (show v = V.non from rr)
      refine ⟨"NoneType", .base .non, by decide, ?_⟩
      cases t <;> (cases h; decide)
    | bl x =>
      cases (show v = V.bl x from rr)
      refine ⟨"bool", .base (.bl x), by decide, ?_⟩
      cases t <;> (cases h; decide)
    | int x =>
      cases (show v = V.int x from rr)
      refine ⟨"int", .base (.int x), by decide, ?_⟩
      cases t <;> (cases h; decide)
    | str x =>
      cases (show v = V.str x from rr)
      refine ⟨"str", .base (.str x), by decide, ?_⟩
      cases t <;> (cases h; decide)
    | tup xs =>
      have rr : RD K H (.tup xs) v := rr
      simp only [RD] at rr
      obtain ⟨a, vs, rfl, h1, _⟩ := rr
      refine ⟨"tuple", TyX.tupV h1.sq, by decide, ?_⟩
      cases t <;> (cases h; decide)
    | fz xs =>
      have rr : RD K H (.fz xs) v := rr
      simp only [RD] at rr
      obtain ⟨a, vs, rfl, h1, _⟩ := rr
      refine ⟨"list", TyX.fzV h1, by decide, ?_⟩
      cases t <;> (cases h; decide)
end
section
variable {X : Cx} {a b c : Expr} {wa wb wc : Ev} {pos p p2 : Pos} {es : List Expr} {wrs : Env → Sto → (List R → Sto → Prop) → Prop}
theorem boot_tyNm (t : Ty) : bootBuiltins (Str.ofString (tyNm t)) = some (.type (tyNm t)) := by cases t <;> decide +kernel
theorem s_isi {t : Ty} {x : Str} (ha : PE X a (tD X.K wa)) (hg : Gl X "isinstance") (hm : X.mg "isinstance" = none) (ex : x = Str.ofString (tyNm t)) (hg2 : Gl X x) (hm2 : X.mg x = none)
    (hn : starEach [a, .Name x p2] X.env = (false, eval a X.env) :: starEach [.Name x p2] X.env) :
    PE X (.Call (.Name "isinstance" p) [a, .Name x p2] [] pos) (tD X.K fun ρ S Q => wa ρ S fun z S1 => ∃ b, isTy S1 z t = some b ∧ Q (.v (.bl b)) S1) := by
  subst ex
  have hT : PE X (.Name (Str.ofString (tyNm t)) p2) (tC (.ty (tyNm t))) := pe_bltn hg2 hm2 (boot_tyNm t) rfl (by cases t <;> decide) (by cases t <;> decide)
  refine (pe_callB call_isi hg hm (by decide +kernel) (pa_cons ha (pa_cons hT pa_nil) hn) (he := hn)).weak fun σ H QV ⟨ρ, S, Q, re, hs, h, po⟩ => tD1 re hs h fun z v H1 S1 r1 s1 k1 re1 ⟨b, e, q⟩ => ?_
  obtain ⟨n, ty, hn1, e1⟩ := ty_of r1 s1 e
  exact ⟨v, .ty (tyNm t), .type n, .type (tyNm t), b, rfl, .ty _, ty, kit1 hn1 e1, po.dat k1 s1 rd_bl q⟩
/-! ### built-ins -/
/-- a rule of a built-in beside its way by data -/
structure BiOk (X : Cx) (b : Bi) (r : List V → Hp → VK → Prop) : Prop where
  l : ∀ rs vs S0 H0 S H Ha Q QV, RRs X.K Ha H S rs vs → RS X.K H S → Kp S0 H0 S H → biW b rs S Q → Post X.K S0 H0 Q QV → r vs H QV
theorem s_biB {b : Bi} {id : String} {x : Str} {r : List V → Hp → VK → Prop} (ok : BiOk X b r) (hc : CallR X (.builtin id) r) (hg : Gl X x) (hm : X.mg x = none) (hv : bootBuiltins x = some (.builtin id)) (hn1 : x ≠ "__name__") (hd : (x == ("__debug__" : Str)) = false)
    (ha : PA X (a :: es) (tDR X.K wrs)) (hn : starEach (a :: es) X.env = (false, eval a X.env) :: starEach es X.env) (hpl : (backTo pos (starEach es X.env)).any (·.1) = false) :
    PE X (.Call (.Name x p) (a :: es) [] pos) (tD X.K fun ρ S Q => wrs ρ S fun rs S1 => biW b rs S1 Q) :=
  (pe_callB hc hg hm hv ha hn1 hd hn hpl).weak fun σ H QV ⟨ρ, S, Q, re, hs, h, po⟩ => ⟨ρ, S, _, re, hs, h, fun vs H1 rs S1 rr s1 k1 q => ok.l rs vs S H S1 H1 H Q QV rr s1 k1 q po⟩
theorem s_biT {b : Bi} {T : String} {x : Str} {r : List V → Hp → VK → Prop} (ok : BiOk X b r) (hc : CallR X (.type T) r) (hg : Gl X x) (hm : X.mg x = none) (hv : bootBuiltins x = some (.type T)) (hn1 : x ≠ "__name__") (hd : (x == ("__debug__" : Str)) = false)
    (ha : PA X (a :: es) (tDR X.K wrs)) (hn : starEach (a :: es) X.env = (false, eval a X.env) :: starEach es X.env) (hpl : (backTo pos (starEach es X.env)).any (·.1) = false) :
    PE X (.Call (.Name x p) (a :: es) [] pos) (tD X.K fun ρ S Q => wrs ρ S fun rs S1 => biW b rs S1 Q) :=
  (pe_callTy hc hg hm hv ha hn1 hd hn hpl).weak fun σ H QV ⟨ρ, S, Q, re, hs, h, po⟩ => ⟨ρ, S, _, re, hs, h, fun vs H1 rs S1 rr s1 k1 q => ok.l rs vs S H S1 H1 H Q QV rr s1 k1 q po⟩
theorem RRs.one {K : PySem.W.Frag} {H0 H : Hp} {S : Sto} {r : R} {vs : List V} (h : RRs K H0 H S [r] vs) : ∃ v, vs = [v] ∧ RR K H0 H S r v := by
  cases h with
  | cons a t => cases t; exact ⟨_, rfl, a⟩
theorem RRs.two {K : PySem.W.Frag} {H0 H : Hp} {S : Sto} {r q : R} {vs : List V} (h : RRs K H0 H S [r, q] vs) : ∃ v u, vs = [v, u] ∧ RR K H0 H S r v ∧ RR K H0 H S q u := by
  cases h with
  | cons a t => cases t with
    | cons b t => cases t; exact ⟨_, _, rfl, a, b⟩
/-! len -/
def rLenA (K : PySem.W.Frag) : List V → Hp → VK → Prop := fun xs H Q => ((∃ p ys, xs = [.ref p] ∧ (SqL K H p ys ∨ SqT K H p ys) ∧ Q (.int ys.length) H) ∨ ∃ z, xs = [.str z] ∧ z.length ≤ sizeLine ∧ Q (.int z.length) H) ∨ ∃ a kvs, xs = [.ref a] ∧ Rd H a (.dK kvs) ∧ Q (.int kvs.length) H
theorem call_len_dK : CallR X (.builtin "len") fun xs H Q => ∃ a kvs, xs = [.ref a] ∧ Rd H a (.dK kvs) ∧ Q (.int kvs.length) H := by
  intro pins s σ H xs us Q I r h
  obtain ⟨d, kvs, rfl, e, q⟩ := h
  obtain ⟨u, rfl, ru⟩ := vals1 r
  cases ru
  exact d_len I e fun t s' I' => ⟨.int kvs.length, H, I', ⟨t, rfl⟩, q⟩
theorem len_all : CallR X (.builtin "len") (rLenA X.K) := (call_len_seq.or call_len_str).or call_len_dK
theorem bi_len : BiOk X .len (rLenA X.K) := ⟨fun rs vs S0 H0 S H Ha Q QV rr hs k h po => by
  unfold biW at h
  split at h <;> first | (rename_i e; cases e) | skip
  all_goals first | exact h.elim | skip
  · obtain ⟨v, rfl, r⟩ := rr.one
    cases (show v = V.str _ from r)
    exact .inl (.inr ⟨_, rfl, h.1, po.dat k hs rd_int h.2⟩)
  · obtain ⟨v, rfl, r⟩ := rr.one
    rcases h with ⟨xs, e, q⟩ | ⟨kvs, e, q⟩
    · obtain ⟨a, ws, rfl, sq, rd⟩ := seqOf_sq hs r e
      rw [rd.length] at q
      exact .inl (.inl ⟨a, ws, rfl, sq, po.dat k hs rd_int q⟩)
    · obtain ⟨a, ws, rfl, e1, rk⟩ := see_dK hs r e
      have el : kvs.length = ws.length := Paired.length rk
      rw [el] at q
      exact .inr ⟨a, ws, rfl, .inl e1, po.dat k hs rd_int q⟩⟩
end
set_option maxRecDepth 100000
set_option maxHeartbeats 1000000
section
variable {K : PySem.W.Frag} {S S0 : Sto} {H H0 Ha Hb : Hp}
theorem blsOf_rds : ∀ {xs : List D} {bs : List Bool} {vs : List V}, blsOf xs = some bs → RDs K H xs vs → vs = bs.map V.bl
  | [], bs, vs, h, r => by cases h; simp only [RDs] at r; exact r
  | d :: xs, bs, vs, h, r => by
    simp only [RDs] at r
    obtain ⟨v, vr, rfl, r1, r2⟩ := r
    cases d with
    | bl x =>
      obtain ⟨bs', e, rfl⟩ := Option.map_eq_some_iff.mp (show (blsOf xs).map (x :: ·) = some bs from h)
      rw [blsOf_rds e r2, show v = V.bl x from r1]
      rfl
    | _ => cases h
theorem intsOf_rds : ∀ {xs : List D} {bs : List Int} {vs : List V}, intsOf xs = some bs → RDs K H xs vs → vs = bs.map V.int
  | [], bs, vs, h, r => by cases h; simp only [RDs] at r; exact r
  | d :: xs, bs, vs, h, r => by
    simp only [RDs] at r
    obtain ⟨v, vr, rfl, r1, r2⟩ := r
    cases d with
    | int x =>
      obtain ⟨bs', e, rfl⟩ := Option.map_eq_some_iff.mp (show (intsOf xs).map (x :: ·) = some bs from h)
      rw [intsOf_rds e r2, show v = V.int x from r1]
      rfl
    | _ => cases h
theorem strsOf_rds : ∀ {xs : List D} {bs : List Str} {vs : List V}, strsOf xs = some bs → RDs K H xs vs → vs = bs.map V.str
  | [], bs, vs, h, r => by cases h; simp only [RDs] at r; exact r
  | d :: xs, bs, vs, h, r => by
    simp only [RDs] at r
    obtain ⟨v, vr, rfl, r1, r2⟩ := r
    cases d with
    | str x =>
      obtain ⟨bs', e, rfl⟩ := Option.map_eq_some_iff.mp (show (strsOf xs).map (x :: ·) = some bs from h)
      rw [strsOf_rds e r2, show v = V.str x from r1]
      rfl
    | _ => cases h
/-! ### data with dicts, read -/
mutual
inductive Dx (K : PySem.W.Frag) (H : Hp) : V → PyData → Prop
  | non : Dx K H .non .none
  | bl (b : Bool) : Dx K H (.bl b) (.bool b)
  | int (i : Int) : Dx K H (.int i) (.int i)
  | str (x : Str) : Dx K H (.str x) (.str x)
  | lst {a : Addr} {xs : List V} {ds : List PyData} : SqL K H a xs → DxL K H xs ds → Dx K H (.ref a) (.list ds)
  | tup {a : Addr} {xs : List V} {ds : List PyData} : SqT K H a xs → DxL K H xs ds → Dx K H (.ref a) (.tuple ds)
  | dK {a : Addr} {ws : List (Key × V)} {ds : List PyData} : H a = some (.dK ws) → DxL K H (ws.map (·.2)) ds → Dx K H (.ref a) (.dict ((ws.map fun kv => keyP kv.1).zip ds))
inductive DxL (K : PySem.W.Frag) (H : Hp) : List V → List PyData → Prop
  | nil : DxL K H [] []
  | cons {v : V} {vs : List V} {d : PyData} {ds : List PyData} : Dx K H v d → DxL K H vs ds → DxL K H (v :: vs) (d :: ds)
end
theorem RKv.keys {kvs : List (Key × D)} {ws : List (Key × V)} (h : RKv K H kvs ws) : kvs.map (fun kv => keyP kv.1) = ws.map fun kv => keyP kv.1 := by
  unfold RKv at h
  induction h with
  | nil => rfl
  | cons r t ih => rw [List.map_cons, List.map_cons, ih, r.1]
mutual
theorem Rdg.dx (hs : RS K H S) : ∀ {d : D} {p : PyData} {v : V}, Rdg S d p → RD K H d v → Dx K H v p
  | _, _, v, .non, r => by cases (show v = V.non from r); exact .non
  | _, _, v, .bl b, r => by cases (show v = V.bl b from r); exact .bl b
  | _, _, v, .int i, r => by cases (show v = V.int i from r); exact .int i
  | _, _, v, .str x, r => by cases (show v = V.str x from r); exact .str x
  | _, _, v, .tup hl, r => by
    simp only [RD] at r
    obtain ⟨a, vs, rfl, e1, d1⟩ := r
    exact .tup e1.sq (RdgL.dx hs hl d1)
  | _, _, v, .lst e hl, r => by
    cases (show v = V.ref _ from r)
    obtain ⟨vs, e1, d1⟩ := hs _ _ e
    exact .lst (.inl (.inl e1)) (RdgL.dx hs hl d1)
  | _, _, v, .dK e hl, r => by
    cases (show v = V.ref _ from r)
    obtain ⟨ws, e1, rk⟩ := hs _ _ e
    rw [rk.keys]
    exact .dK e1 (RdgL.dx hs hl rk.vals)
theorem RdgL.dx (hs : RS K H S) : ∀ {ds : List D} {ps : List PyData} {vs : List V}, RdgL S ds ps → RDs K H ds vs → DxL K H vs ps
  | _, _, _, .nil, r => by simp only [RDs] at r; subst r; exact .nil
  | _, _, _, .cons h1 h2, r => by
    simp only [RDs] at r
    obtain ⟨v, vr, rfl, r1, r2⟩ := r
    exact .cons (Rdg.dx hs h1 r1) (RdgL.dx hs h2 r2)
end
theorem RdgR.dx {x : R} {v : V} {p : PyData} (hs : RS K H S) (r : RR K Ha H S x v) (h : RdgR S x p) : Dx K H v p := by
  cases x with
  | v d => exact Rdg.dx hs h r
  | n o =>
    obtain ⟨a, rfl, _, _, ho⟩ := r
    cases o with
    | lst xs =>
      obtain ⟨ps, rfl, h⟩ := h
      obtain ⟨vs, e1, d1⟩ := ho
      exact .lst (.inl (.inl e1)) (RdgL.dx hs h d1)
    | dK kvs =>
      obtain ⟨ps, rfl, h⟩ := h
      obtain ⟨ws, e1, rk⟩ := ho
      rw [rk.keys]
      exact .dK e1 (RdgL.dx hs h rk.vals)
    | dT kvs => exact h.elim
    | tb q => exact h.elim
    | lkK kvs o ws => exact h.elim
end
/-! the heap's own reading -/
section
variable {X : Cx} {pins : List (Addr × Obj)} {σ : L2.St} {H : Hp} {s : Shared}
theorem hasLst_list {ps : List PyData} : hasLst (.list ps) = true := by simp only [hasLst]
theorem hasLst_tup {ps : List PyData} (h : hasLst (.tuple ps) = false) : hasLsts ps = false := by simpa only [hasLst] using h
theorem hasLst_cons {p : PyData} {ps : List PyData} (h : hasLsts (p :: ps) = false) : hasLst p = false ∧ hasLsts ps = false := by simpa only [hasLsts, Bool.or_eq_false_iff] using h
theorem hasLst_dict : ∀ {ks ps : List PyData}, ks.length = ps.length → hasLstK (ks.zip ps) = false → hasLsts ps = false
  | [], [], _, _ => by simp only [hasLsts]
  | [], _ :: _, h, _ => by simp at h
  | _ :: _, [], h, _ => by simp at h
  | k :: ks, p :: ps, h, e => by
    have e : hasLstK ((k, p) :: ks.zip ps) = false := e
    simp only [hasLstK, Bool.or_eq_false_iff] at e
    simp only [hasLsts, Bool.or_eq_false_iff]
    exact ⟨e.1.2, hasLst_dict (by simpa using h) e.2⟩
theorem DxL.length {K : PySem.W.Frag} {H : Hp} : ∀ {vs : List V} {ps : List PyData}, DxL K H vs ps → vs.length = ps.length
  | _, _, .nil => rfl
  | _, _, .cons _ h => by rw [List.length_cons, List.length_cons, DxL.length h]
theorem read_keys {h : Heap} {knd : KeyKind X.prog X.w Key} (e : ∀ k v, knd.is k v = keyIs k v) {es : List DictEntry} {ws : List (Key × Value)} (p : Pairs knd es ws) : ReadsAll h (es.map (·.key)) (ws.map fun kv => keyP kv.1) [] := by
  induction p with
  | nil => exact .nil
  | @cons en kv es kvs h1 h2 t ih =>
    rw [List.map_cons, List.map_cons]
    rw [e] at h1
    rcases keyIs_shape h1 with ⟨i, t, e1, e2⟩ | ⟨i, t, e1, e2⟩
    · rw [e1, e2]
      exact .cons (as := []) (bs := []) (.int i t) ih
    · rw [e1, e2]
      exact .cons (as := []) (bs := []) (.str i t) ih
theorem pair_vals {knd : KeyKind X.prog X.w Key} : ∀ {es : List DictEntry} {vs : List (Key × Value)} {ws : List (Key × V)}, Pairs knd es vs → KV ws vs → Vals (ws.map (·.2)) (es.map (·.val)) := by
  intro es vs ws p
  induction p generalizing ws with
  | nil => intro k; cases k; exact .nil
  | @cons en kv es kvs h1 h2 t ih =>
    intro k
    cases k with
    | cons r q =>
      rw [List.map_cons, List.map_cons, h2]
      exact .cons r.2 (ih q)
theorem KV_keys {κ : Type} : ∀ {ws : List (κ × V)} {vs : List (κ × Value)} {f : κ → PyData}, KV ws vs → ws.map (fun kv => f kv.1) = vs.map fun kv => f kv.1 := by
  intro ws vs f k
  unfold KV at k
  induction k with
  | nil => rfl
  | cons r t ih => rw [List.map_cons, List.map_cons, ih, r.1]
mutual
theorem Dx.reads (I : Inv X pins σ H s) : ∀ {v : V} {p : PyData} {u : Value}, Dx X.K H v p → RelV v u → ∃ as, Reads s.heap u p as ∧ (hasLst p = false → sysModules ∉ as)
  | _, _, u, .non, r => by cases (show u = Value.none from r); exact ⟨_, .none, fun _ z => nomatch z⟩
  | _, _, u, .bl b, r => by cases (show u = Value.bool b from r); exact ⟨_, .bool b, fun _ z => nomatch z⟩
  | _, _, u, .int i, r => by obtain ⟨t, rfl⟩ := r; exact ⟨_, .int i t, fun _ z => nomatch z⟩
  | _, _, u, .str x, r => by obtain ⟨t, rfl⟩ := r; exact ⟨_, .str x t, fun _ z => nomatch z⟩
  | _, _, u, .lst hs hl, r => by
    cases r
    obtain ⟨its, rv, ⟨o, n, ho, hc, _, hd⟩, _⟩ := I.list hs
    obtain ⟨as, hr, _⟩ := DxL.reads I hl rv
    exact ⟨_, .list ho hc hd hr, fun z => by rw [hasLst_list] at z; cases z⟩
  | _, _, u, .tup hs hl, r => by
    cases r
    obtain ⟨its, rv, ⟨o, ho, hc, n, hd⟩, _⟩ := I.tuple hs
    obtain ⟨as, hr, hn⟩ := DxL.reads I hl rv
    exact ⟨_, .tuple ho hc hd hr, fun z => hn (hasLst_tup z)⟩
  | _, _, u, .dK e hl, r => by
    cases r
    obtain ⟨z, hsm, vs, rel, o, es, ep, ho, hx, hd, hk, hp, hnd⟩ := I.hok _ _ e
    have hv := pair_vals hp rel
    obtain ⟨as, hr, hn⟩ := DxL.reads I hl hv
    have el := DxL.length hl
    rw [List.length_map] at el
    have k1 := read_keys (h := s.heap) (fun k v => mixKind_is X.prog X.w k v) hp
    rw [← KV_keys rel] at k1
    refine ⟨_, .dict (as := []) (bs := as) ho hx.1 hd ?_ ?_, fun q => ?_⟩
    · rw [List.map_fst_zip (by rw [List.length_map]; omega)]
      exact k1
    · rw [List.map_snd_zip (by rw [List.length_map]; omega)]
      exact hr
    · simp only [hasLst] at q
      have q2 := hasLst_dict (by rw [List.length_map]; exact el) q
      intro hm
      rcases List.mem_cons.mp hm with e1 | hm
      · rw [← e1] at hsm
        simp at hsm
      · exact hn q2 (by simpa using hm)
theorem DxL.reads (I : Inv X pins σ H s) : ∀ {vs : List V} {ps : List PyData} {us : List Value}, DxL X.K H vs ps → Vals vs us → ∃ as, ReadsAll s.heap us ps as ∧ (hasLsts ps = false → sysModules ∉ as)
  | _, _, _, .nil, r => by cases r; exact ⟨_, .nil, fun _ z => nomatch z⟩
  | _, _, _, .cons h1 h2, r => by
    cases r with
    | cons r1 r2 =>
      obtain ⟨as, q1, n1⟩ := Dx.reads I h1 r1
      obtain ⟨bs, q2, n2⟩ := DxL.reads I h2 r2
      exact ⟨_, .cons q1 q2, fun z hm => (List.mem_append.mp hm).elim (n1 (hasLst_cons z).1) (n2 (hasLst_cons z).2)⟩
end
end
end DP
set_option maxRecDepth 100000
namespace PySem.W
open PySem PySem.Spec PyProof.Rows PySem.SeqAt
section
variable {prog : Program} {w : World} {A : Around} {E : Value → Shared → Prop} {s : Shared} {β : Type} {vs : List Value} {bs : List β} {enc : β → PyData} {R : Value → β → Prop}
theorem SortsAt.one {vs : List Value} {ds : List PyData} (e : EachIs (fun v d => ∃ as, Reads s.heap v d as) vs ds) (hal : AllAlike ds) (hn : ∀ d ∈ ds, d ≠ .none) (h1 : vs.length ≤ 1) (hu : ∀ d, d ∈ ds → A.units + d.depth < cLine) : SortsAt prog w A s (dataKind s.heap ds) vs := by
  have room : ∀ {d d' : PyData}, d ∈ ds → A.units + min d.depth d'.depth < cLine := fun {d d'} hd => Nat.lt_of_le_of_lt (Nat.add_le_add_left (Nat.min_le_left _ _) _) (hu d hd)
  refine ⟨fun v hv => ?_, general', fun E x y a b Q ha hb hq => ?_, fun h2 => by omega⟩
  · obtain ⟨d, hd, as, r⟩ := e.left v hv
    exact ⟨_, dataKind_some hal hd r⟩
  · obtain ⟨d, as, hd, ra, rfl⟩ := dataKind_inv ha
    obtain ⟨d', as', hd', rb, rfl⟩ := dataKind_inv hb
    show wpAny _ A (oneLt' false x y) Q E s
    exact oneLt_alike (fun h => by cases h) ra rb (hal d hd d' hd') (hn d hd) (room hd) hq
theorem sorted_one {l : Addr} {Q : Value → Shared → Prop} (hl : s.heap.IsList l vs.toArray) (e : EachIs R vs bs) (er : EachIs (fun v b => ∃ as, Reads s.heap v (enc b) as) vs bs) (hal : AllAlike (bs.map enc)) (hn : ∀ d ∈ bs.map enc, d ≠ .none) (h1 : bs.length ≤ 1) (hL : bs.length ≤ sizeLine)
    (hu : ∀ b, b ∈ bs → A.units + 2 + (enc b).depth < cLine) (h : ∀ out, out.length = bs.length → EachIs R out (bs.mergeSort (dataLe false enc)) → Q (.ref (s.heap.objs.size + 1)) { s with heap := sortedAll s.heap vs (List.toArray out) }) :
    wpAny (model prog w) A (call (.builtin "sorted") [.ref l]) Q E s := by
  have er' : EachIs (fun v b => ∃ as, Reads (sortingHeap (copyHeap s.heap vs) (s.heap.objs.size + 1) vs) v (enc b) as) vs bs := er.mono fun _ _ ⟨as, r⟩ => ⟨as, PyProof.Rows.Reads.keeps (fun _ _ => sorting_copy_old) r⟩
  exact sorted_vals hl (SortsAt.one (s := { s with heap := sortingHeap (copyHeap s.heap vs) (s.heap.objs.size + 1) vs }) (each_map (R := fun v d => ∃ as, Reads (sortingHeap (copyHeap s.heap vs) (s.heap.objs.size + 1) vs) v d as) enc er') hal hn (by rw [e.length]; exact h1) (bound_map hu)) (by rw [e.length]; exact hL)
    (h _ (by rw [sortVals_length false rfl]; exact e.length) (sortVals_data false e er' hal))
end
end PySem.W
set_option maxRecDepth 100000
set_option maxHeartbeats 1000000
namespace DP
open PySem PySem.Spec PyProof.Rows L2
section
variable {X : Cx}
theorem bi_all : BiOk X .all (rAll X.K) := ⟨fun rs vs S0 H0 S H Ha Q QV rr hs k h po => by
  unfold biW at h
  split at h <;> first | (rename_i e; cases e) | skip
  all_goals first | exact h.elim | skip
  obtain ⟨v, rfl, r⟩ := rr.one
  obtain ⟨xs, bs, e, eb, q⟩ := h
  obtain ⟨a, ws, rfl, sq, rd⟩ := lstOf_sq hs r e
  rw [blsOf_rds eb rd] at sq
  exact ⟨a, bs, rfl, sq, po.dat k hs rd_bl q⟩⟩
theorem bi_any : BiOk X .any (rAny X.K) := ⟨fun rs vs S0 H0 S H Ha Q QV rr hs k h po => by
  unfold biW at h
  split at h <;> first | (rename_i e; cases e) | skip
  all_goals first | exact h.elim | skip
  obtain ⟨v, rfl, r⟩ := rr.one
  obtain ⟨xs, bs, e, eb, q⟩ := h
  obtain ⟨a, ws, rfl, sq, rd⟩ := lstOf_sq hs r e
  rw [blsOf_rds eb rd] at sq
  exact ⟨a, bs, rfl, sq, po.dat k hs rd_bl q⟩⟩
theorem bi_sum : BiOk X .sum (rSum X.K) := ⟨fun rs vs S0 H0 S H Ha Q QV rr hs k h po => by
  unfold biW at h
  split at h <;> first | (rename_i e; cases e) | skip
  all_goals first | exact h.elim | skip
  obtain ⟨v, rfl, r⟩ := rr.one
  obtain ⟨xs, ns, e, eb, q⟩ := h
  obtain ⟨a, ws, rfl, sq, rd⟩ := lstOf_sq hs r e
  rw [intsOf_rds eb rd] at sq
  exact ⟨a, ns, rfl, sq, po.dat k hs rd_int q⟩⟩
theorem bi_list : BiOk X .list (fun xs H Q => ∃ p ys, xs = [.ref p] ∧ (SqL X.K H p ys ∨ SqT X.K H p ys) ∧ ∀ l, H l = none → Q (.ref l) (upd H l (.lst ys))) := ⟨fun rs vs S0 H0 S H Ha Q QV rr hs k h po => by
  unfold biW at h
  split at h <;> first | (rename_i e; cases e) | skip
  all_goals first | exact h.elim | skip
  obtain ⟨v, rfl, r⟩ := rr.one
  obtain ⟨xs, e, q⟩ := h
  obtain ⟨a, ws, rfl, sq, rd⟩ := seqOf_sq hs r e
  exact ⟨a, ws, rfl, sq, fun l hl => po.lst k hs hl rd q⟩⟩
theorem seq_tup {K : PySem.W.Frag} {H : Hp} {S : Sto} {Ha : Hp} {r : R} {xs : List D} (rr : RR K Ha H S r (.ref (a : Addr))) (hs : RS K H S) (e : seqOf S r = some xs) : (∃ ws, SqL K H a ws ∧ RDs K H xs ws) ∨ (∃ ws, SqT K H a ws ∧ RDs K H xs ws) ∧ r = .v (.tup xs) := by
  cases r with
  | n o =>
    obtain ⟨b, ws, e1, sq, rd⟩ := lstOf_sq hs rr (show lstOf S (.n o) = some xs from e)
    cases e1
    exact .inl ⟨ws, sq, rd⟩
  | v d =>
    cases d with
    | tup ys =>
      have e2 : ys = xs := Option.some.inj e
      subst e2
      have rr' : RD K H (.tup ys) (.ref a) := rr
      simp only [RD] at rr'
      obtain ⟨b, ws, e1, sq, rd⟩ := rr'
      cases e1
      exact .inr ⟨⟨ws, sq.sq, rd⟩, rfl⟩
    | _ =>
      obtain ⟨b, ws, e1, sq, rd⟩ := lstOf_sq hs rr e
      cases e1
      exact .inl ⟨ws, sq, rd⟩
theorem bi_tupl : BiOk X .tupl (fun xs H Q => ∃ p ys, xs = [.ref p] ∧ ((SqL X.K H p ys ∧ ∀ l, H l = none → Q (.ref l) (upd H l (.tup ys))) ∨ (SqT X.K H p ys ∧ Q (.ref p) H))) := ⟨fun rs vs S0 H0 S H Ha Q QV rr hs k h po => by
  unfold biW at h
  split at h <;> first | (rename_i e; cases e) | skip
  all_goals first | exact h.elim | skip
  obtain ⟨v, rfl, r⟩ := rr.one
  obtain ⟨xs, e, q⟩ := h
  obtain ⟨a, ws, rfl, _, _⟩ := seqOf_sq hs r e
  rcases seq_tup r hs e with ⟨ys, sq, rd⟩ | ⟨⟨ys, sq, rd⟩, e2⟩
  · exact ⟨a, ys, rfl, .inl ⟨sq, fun l hl => po.tup k hs hl rd q⟩⟩
  · subst e2
    exact ⟨a, ys, rfl, .inr ⟨sq, po.dat k hs r q⟩⟩⟩
theorem bi_abs : BiOk X .abs (fun xs H Q => ∃ i, xs = [.int i] ∧ Q (.int (if i < 0 then -i else i)) H) := ⟨fun rs vs S0 H0 S H Ha Q QV rr hs k h po => by
  unfold biW at h
  split at h <;> first | (rename_i e; cases e) | skip
  all_goals first | exact h.elim | skip
  obtain ⟨v, rfl, r⟩ := rr.one
  cases (show v = V.int _ from r)
  exact ⟨_, rfl, po.dat k hs rd_int h⟩⟩
theorem bi_int : BiOk X .int (fun xs H Q => (∃ i, xs = [.int i] ∧ Q (.int i) H) ∨ ∃ k, xs = [.bl k] ∧ Q (.int (if k then 1 else 0)) H) := ⟨fun rs vs S0 H0 S H Ha Q QV rr hs k h po => by
  unfold biW at h
  split at h <;> first | (rename_i e; cases e) | skip
  all_goals first | exact h.elim | skip
  · obtain ⟨v, rfl, r⟩ := rr.one
    cases (show v = V.int _ from r)
    exact .inl ⟨_, rfl, po.dat k hs rd_int h⟩
  · obtain ⟨v, rfl, r⟩ := rr.one
    cases (show v = V.bl _ from r)
    exact .inr ⟨_, rfl, po.dat k hs rd_int h⟩⟩
theorem bi_min : BiOk X .min (fun xs H Q => ∃ i j, xs = [.int i, .int j] ∧ Q (.int (if j < i then j else i)) H) := ⟨fun rs vs S0 H0 S H Ha Q QV rr hs k h po => by
  unfold biW at h
  split at h <;> first | (rename_i e; cases e) | skip
  all_goals first | exact h.elim | skip
  obtain ⟨v, u, rfl, r, r2⟩ := rr.two
  cases (show v = V.int _ from r)
  cases (show u = V.int _ from r2)
  exact ⟨_, _, rfl, po.dat k hs rd_int h⟩⟩
theorem bi_max : BiOk X .max (fun xs H Q => ∃ i j, xs = [.int i, .int j] ∧ Q (.int (if j > i then j else i)) H) := ⟨fun rs vs S0 H0 S H Ha Q QV rr hs k h po => by
  unfold biW at h
  split at h <;> first | (rename_i e; cases e) | skip
  all_goals first | exact h.elim | skip
  obtain ⟨v, u, rfl, r, r2⟩ := rr.two
  cases (show v = V.int _ from r)
  cases (show u = V.int _ from r2)
  exact ⟨_, _, rfl, po.dat k hs rd_int h⟩⟩
/-! repr -/
def rRepr (K : PySem.W.Frag) : List V → Hp → VK → Prop := fun xs H Q => ∃ v p, xs = [v] ∧ Dx K H v p ∧ p.showable = true ∧ p.depth ≤ 60 ∧ (p.hasDict = true → hasLst p = false) ∧ p.shown.length ≤ sizeLine ∧ Q (.str p.shown) H
theorem call_repr (hg : X.A.guards = some []) (hu : X.A.units + 65 < cLine) : CallR X (.builtin "repr") (rRepr X.K) := by
  intro pins s σ H xs us Q I r h
  obtain ⟨v, p, rfl, dx, hsh, hd, hl, hz, q⟩ := h
  obtain ⟨u, rfl, ru⟩ := vals1 r
  cases dx with
  | non => cases (show u = Value.none from ru); exact PySem.P.repr_of_none ⟨.str _, H, I.tok _, ⟨_, rfl⟩, by simpa only [PyData.shown] using q⟩
  | bl b => cases (show u = Value.bool b from ru); exact PySem.P.repr_of_bool ⟨.str _, H, I.tok _, ⟨_, rfl⟩, by simpa only [PyData.shown] using q⟩
  | int i =>
    obtain ⟨t, rfl⟩ := ru
    exact PySem.P.repr_of_int (by simpa [PyData.showable] using hsh) ⟨.str _, H, I.tok _, ⟨_, rfl⟩, by simpa only [PyData.shown] using q⟩
  | str x =>
    obtain ⟨t, rfl⟩ := ru
    exact PySem.P.repr_of_str ⟨.str _, H, I.tok _, ⟨_, rfl⟩, by simpa only [PyData.shown] using q⟩ (by simpa only [PyData.shown] using hz)
  | lst h1 h2 =>
    cases ru
    obtain ⟨as, rd, hn⟩ := Dx.reads I (.lst h1 h2) (show RelV (.ref _) (.ref _) from rfl)
    exact repr_of_reads' rd hsh (fun e => hn (hl e)) hg (by omega) (fun _ _ e => e) (fun h' u' tk kp => ⟨.str _, H, I.kept kp, ⟨u', rfl⟩, q⟩) hz
  | tup h1 h2 =>
    cases ru
    obtain ⟨as, rd, hn⟩ := Dx.reads I (.tup h1 h2) (show RelV (.ref _) (.ref _) from rfl)
    exact repr_of_reads' rd hsh (fun e => hn (hl e)) hg (by omega) (fun _ _ e => e) (fun h' u' tk kp => ⟨.str _, H, I.kept kp, ⟨u', rfl⟩, q⟩) hz
  | dK h1 h2 =>
    cases ru
    obtain ⟨as, rd, hn⟩ := Dx.reads I (.dK h1 h2) (show RelV (.ref _) (.ref _) from rfl)
    exact repr_of_reads' rd hsh (fun e => hn (hl e)) hg (by omega) (fun _ _ e => e) (fun h' u' tk kp => ⟨.str _, H, I.kept kp, ⟨u', rfl⟩, q⟩) hz
theorem bi_repr : BiOk X .repr (rRepr X.K) := ⟨fun rs vs S0 H0 S H Ha Q QV rr hs k h po => by
  unfold biW at h
  split at h <;> first | (rename_i e; cases e) | skip
  all_goals first | exact h.elim | skip
  obtain ⟨v, rfl, r⟩ := rr.one
  obtain ⟨p, e, h1, h2, h3, h4, q⟩ := h
  exact ⟨v, p, rfl, RdgR.dx hs r e, h1, h2, h3, h4, po.dat k hs rd_str q⟩⟩
/-! repr of anything, where the table of modules is known -/
/-! sorted -/
open PySem.W in
def rSortD (K : PySem.W.Frag) : List V → Hp → VK → Prop := fun xs H Q => ∃ a ds vs, xs = [.ref a] ∧ SqL K H a vs ∧ RDs K H ds vs ∧ pureDs ds = true ∧ AllAlike (ds.map encD) ∧ Srt (ds.map encD) ∧ (∀ d ∈ ds, (encD d).depth ≤ 60) ∧
  ∀ p ws, H p = none → RDs K H (sortD ds) ws → Q (.ref p) (upd H p (.lst ws))
theorem each_of {K : PySem.W.Frag} {H : Hp} : ∀ {ds : List D} {vs : List V} {us : List Value}, RDs K H ds vs → Vals vs us → PySem.W.EachIs (fun u d => ∃ v, RelV v u ∧ RD K H d v) us ds
  | [], _, _, h, r => by simp only [RDs] at h; subst h; cases r; exact .nil
  | d :: ds, _, _, h, r => by
    simp only [RDs] at h
    obtain ⟨v, vr, rfl, h1, h2⟩ := h
    cases r with
    | cons r1 r2 => exact .cons ⟨v, r1, h1⟩ (each_of h2 r2)
theorem each_back {K : PySem.W.Frag} {H : Hp} : ∀ {ds : List D} {us : List Value}, PySem.W.EachIs (fun u d => ∃ v, RelV v u ∧ RD K H d v) us ds → ∃ vs, RDs K H ds vs ∧ Vals vs us
  | _, _, .nil => ⟨[], by simp only [RDs], .nil⟩
  | _, _, .cons ⟨v, r, d⟩ t => by
    obtain ⟨vs, h1, h2⟩ := each_back t
    exact ⟨v :: vs, by simp only [RDs]; exact ⟨v, vs, rfl, d, h1⟩, .cons r h2⟩
theorem each_read {pins : List (Addr × Obj)} {σ : L2.St} {H : Hp} {s : Shared} (I : Inv X pins σ H s) : ∀ {ds : List D} {vs : List V} {us : List Value}, RDs X.K H ds vs → Vals vs us → pureDs ds = true → PySem.W.EachIs (fun u d => ∃ as, Reads s.heap u (encD d) as) us ds
  | [], _, _, h, r, _ => by simp only [RDs] at h; subst h; cases r; exact .nil
  | d :: ds, _, _, h, r, p => by
    simp only [RDs] at h
    obtain ⟨v, vr, rfl, h1, h2⟩ := h
    rw [pureDs, Bool.and_eq_true] at p
    cases r with
    | cons r1 r2 =>
      have dx : Dx X.K H v (encD d) := Rdg.dx (S := fun _ => none) (fun _ _ e => nomatch e) (rdg_pure _ d p.1) h1
      obtain ⟨as, rd, _⟩ := Dx.reads I dx r1
      exact .cons ⟨as, rd⟩ (each_read I h2 r2 p.2)
theorem call_sortD (hu : X.A.units + 65 < cLine) : CallR X (.builtin "sorted") (rSortD X.K) := by
  intro pins s σ H xs us Q I r h
  obtain ⟨a, ds, vs, rfl, sq, rd, hp, hal, hso, hdp, q⟩ := h
  obtain ⟨u, rfl, ru⟩ := vals1 r
  cases ru
  obtain ⟨its, rv, hl, hz⟩ := I.list sq
  have hlen : ds.length ≤ sizeLine := by rw [rd.length]; exact hz
  rcases hso with hso | hso | ⟨hso, hn⟩
  · refine PySem.W.sorted_data (enc := encD) hl.isList (each_of rd rv) (each_read I rd rv hp) hal (.inl hso) hlen (fun d hd => by have := hdp d hd; omega) fun out ho he => ?_
    obtain ⟨ws, h1, h2⟩ := each_back he
    obtain ⟨ep, he'⟩ := PyProof.Rows.sortedAll_at s.heap its out.toArray
    have hfr := I.hok.fresh (Nat.le_succ s.heap.objs.size)
    refine ⟨.ref _, upd H (s.heap.objs.size + 1) (.lst ws), I.laid (t' := s.toks) (fun _ _ => PyProof.Rows.sortedAll_old) (Nat.le_succ _) ⟨?_, out, ep, h2, he'⟩, rfl, q _ ws hfr h1⟩
    have := h2.length
    omega
  · refine PySem.W.sorted_data (enc := encD) hl.isList (each_of rd rv) (each_read I rd rv hp) hal (.inr hso) hlen (fun d hd => by have := hdp d hd; omega) fun out ho he => ?_
    obtain ⟨ws, h1, h2⟩ := each_back he
    obtain ⟨ep, he'⟩ := PyProof.Rows.sortedAll_at s.heap its out.toArray
    have hfr := I.hok.fresh (Nat.le_succ s.heap.objs.size)
    refine ⟨.ref _, upd H (s.heap.objs.size + 1) (.lst ws), I.laid (t' := s.toks) (fun _ _ => PyProof.Rows.sortedAll_old) (Nat.le_succ _) ⟨?_, out, ep, h2, he'⟩, rfl, q _ ws hfr h1⟩
    have := h2.length
    omega
  · refine PySem.W.sorted_one (enc := encD) hl.isList (each_of rd rv) (each_read I rd rv hp) hal hn (by rw [List.length_map] at hso; exact hso) hlen (fun d hd => by have := hdp d hd; omega) fun out ho he => ?_
    obtain ⟨ws, h1, h2⟩ := each_back he
    obtain ⟨ep, he'⟩ := PyProof.Rows.sortedAll_at s.heap its out.toArray
    have hfr := I.hok.fresh (Nat.le_succ s.heap.objs.size)
    refine ⟨.ref _, upd H (s.heap.objs.size + 1) (.lst ws), I.laid (t' := s.toks) (fun _ _ => PyProof.Rows.sortedAll_old) (Nat.le_succ _) ⟨?_, out, ep, h2, he'⟩, rfl, q _ ws hfr h1⟩
    have := h2.length
    omega
theorem bi_sorted : BiOk X .sorted (rSortD X.K) := ⟨fun rs vs S0 H0 S H Ha Q QV rr hs k h po => by
  unfold biW at h
  split at h <;> first | (rename_i e; cases e) | skip
  all_goals first | exact h.elim | skip
  obtain ⟨v, rfl, r⟩ := rr.one
  obtain ⟨xs, e, h1, h2, h3, h4, q⟩ := h
  obtain ⟨a, ws, rfl, sq, rd⟩ := lstOf_sq hs r e
  exact ⟨a, xs, ws, rfl, sq, rd, h1, h2, h3, h4, fun p ys hp rd2 => po.lst k hs hp rd2 q⟩⟩
end
set_option maxRecDepth 100000
set_option maxHeartbeats 1000000
section
variable {X : Cx} {a b c o : Expr} {wa wb wc wo : Ev} {pos p p2 apos cpos : Pos} {es : List Expr} {wes : Env → Sto → (List D → Sto → Prop) → Prop}
/-- a rule of a method beside its way by data -/
structure MeOk (X : Cx) (m : Me) (T id : String) (name : Str) (r : V → List V → Hp → VK → Prop) : Prop where
  plain : PlainAttrs T
  slot : Slot T name id
  ty : typeOf (.builtin id) = pure (.type "method_descriptor")
  mt : MtR X id r
  tyV : ∀ x v S H Ha, RR X.K Ha H S x v → RS X.K H S → meTy m x S → tyV X.K T v H
  l : ∀ x v ds vs S0 H0 S H Ha Q QV, RR X.K Ha H S x v → RDs X.K H ds vs → RS X.K H S → Kp S0 H0 S H → meW m x ds S Q → Post X.K S0 H0 Q QV → r v vs H QV
theorem s_me0 {m : Me} {T id : String} {name : Str} {r : V → List V → Hp → VK → Prop} (ok : MeOk X m T id name r) (ho : PE X o (tD X.K wo)) (hbase : attributeBase o name X.env (eval o X.env) = eval o X.env) (hline : (apos.endLine == cpos.line) = true) :
    PE X (.Call (.Attribute o name apos) [] [] cpos) (tD X.K fun ρ S Q => wo ρ S fun x S1 => meTy m x S1 ∧ (fun (_ : Env) S2 (k : List D → Sto → Prop) => k [] S2) ρ S1 fun ds S2 => meW m x ds S2 Q) :=
  (pe_bm0 ok.plain ok.slot ok.ty ok.mt ho hbase hline).weak fun σ H QV ⟨ρ, S, Q, re, hs, h, po⟩ => tD1 re hs h fun x v H1 S1 r1 s1 k1 re1 ⟨ht, q⟩ =>
    ⟨ok.tyV x v S1 H1 H r1 s1 ht, ok.l x v [] [] S H S1 H1 H Q QV r1 (by simp [RDs]) s1 k1 q po⟩
theorem s_me1 {m : Me} {T id : String} {name : Str} {r : V → List V → Hp → VK → Prop} (ok : MeOk X m T id name r) (ho : PE X o (tD X.K wo)) (ha : PA X (a :: es) (tDA X.K wes)) (hbase : attributeBase o name X.env (eval o X.env) = eval o X.env)
    (hfew : ((backTo cpos (starEach (a :: es) X.env)).all (fun x => !x.1) && (backToKw cpos (keywordEach [] X.env)).all (fun x => x.1.isSome) && decide ((a :: es).length + ([] : List Keyword).length + (if ([] : List Keyword).isEmpty then 0 else 1) < 30)) = true)
    (hline : (apos.endLine == cpos.line) = true) (hn : starEach (a :: es) X.env = (false, eval a X.env) :: starEach es X.env) (hpl : (backTo cpos (starEach es X.env)).any (·.1) = false) :
    PE X (.Call (.Attribute o name apos) (a :: es) [] cpos) (tD X.K fun ρ S Q => wo ρ S fun x S1 => meTy m x S1 ∧ wes ρ S1 fun ds S2 => meW m x ds S2 Q) :=
  (pe_bm ok.plain ok.slot ok.ty ok.mt ho ha hbase hfew hline hn hpl).weak fun σ H QV ⟨ρ, S, Q, re, hs, h, po⟩ => tD1 re hs h fun x v H1 S1 r1 s1 k1 re1 ⟨ht, q⟩ =>
    ⟨ok.tyV x v S1 H1 H r1 s1 ht, ρ, S1, _, re1, s1, q, fun vs H2 ds S2 rd s2 k2 q => ok.l x v ds vs S H S2 H2 H Q QV (r1.kp k2 s1) rd s2 (k1.trans k2) q po⟩
theorem tyV_list {K : PySem.W.Frag} {x : R} {v : V} {S : Sto} {H Ha : Hp} (r : RR K Ha H S x v) (hs : RS K H S) (h : ∃ xs, lstOf S x = some xs) : tyV K "list" v H := by
  obtain ⟨xs, e⟩ := h
  obtain ⟨a, vs, rfl, sq, _⟩ := lstOf_sq hs r e
  exact .inl ⟨rfl, vs, sq⟩
theorem tyV_str {K : PySem.W.Frag} {x : R} {v : V} {S : Sto} {H Ha : Hp} (r : RR K Ha H S x v) (h : ∃ z, x = .v (.str z)) : tyV K "str" v H := by
  obtain ⟨z, rfl⟩ := h
  cases (show v = V.str z from r)
  rfl
/-- a list of the store is written -/
theorem wrote_lst {K : PySem.W.Frag} {S0 S : Sto} {H0 H : Hp} {Q : PR} {QV : VK} {l : Addr} {xs ys : List D} {us : List V} {d : D} {v : V} (po : Post K S0 H0 Q QV) (k : Kp S0 H0 S H) (hs : RS K H S) (e : S l = some (.lst xs)) (rd : RDs K H ys us) (r : RD K H d v)
    (q : Q (.v d) (up S l (.lst ys))) : QV v (upd H l (.lst us)) := by
  have hn : S l ≠ none := by rw [e]; simp
  have k2 : Kp S H (up S l (.lst ys)) (upd H l (.lst us)) := Kp.wrote hs hn
  have ro : RO K (upd H l (.lst us)) l (.lst ys) := ⟨us, upd_same, RDs.kp k2 hs ys us rd⟩
  exact po _ _ (.v d) _ (RD.kp k2 hs d v r) (RS.wrote hs hn ro) (k.trans k2) q
theorem store_lst {K : PySem.W.Frag} {S : Sto} {H : Hp} {l : Addr} {xs : List D} (hs : RS K H S) (e : S l = some (.lst xs)) : ∃ vs, H l = some (.lst vs) ∧ RDs K H xs vs := hs l _ e
theorem me_append : MeOk X .append "list" "list.append" "append" rAppend := by
  refine ⟨PySem.F.plainAttrs_list, PySem.F.slot_list_append, PySem.F.type_list_append, mt_append, fun x v S H Ha r hs h => tyV_list r hs h, fun x v ds vs S0 H0 S H Ha Q QV r rd hs k h po => ?_⟩
  unfold meW at h
  split at h <;> first | (rename_i e; cases e) | skip
  all_goals first | exact h.elim | skip
  obtain ⟨xs, e, hz, q⟩ := h
  cases (show v = V.ref _ from r)
  obtain ⟨ws, e1, d1⟩ := store_lst hs e
  simp only [RDs] at rd
  obtain ⟨u, ur, rfl, ru, rfl⟩ := rd
  exact ⟨_, ws, u, rfl, rfl, e1, by rw [← d1.length]; exact hz, wrote_lst po k hs e (d1.append (.one ru)) rd_non q⟩
open PyProof PyProof.Rows in
theorem ext_tup (l : Addr) (items : Array Value) (n : Nat) (b : Addr) (items2 : Array Value) (n2 : Nat) (dd : Option Addr) (sl : Array (Option Value)) (hs0 : ¬ (!items.isEmpty && Builtin.List.listTooLong (items.size + items2.size)) = true) (hs1 : items.size ≤ sizeLine) (hs2 : items.size + items2.size ≤ sizeLine + 1) :
    Meets (Builtin.«list.extend» ⟨[.ref l, .ref b], []⟩) (fun _ R s => s.heap.get? l = some { cls := .type "list", dict := none, data := .seq items n, slots := #[] } ∧ s.heap.get? b = some { cls := .type "tuple", dict := dd, data := .seq items2 n2, slots := sl } ∧ R (.ok (.ret Value.none)) { s with heap := s.heap.update l (Obj.mapSeq fun x => x ++ items2), toks := s.toks }) :=
  .of_wp fun P W A R s want => by
    obtain ⟨heap, gens, drawn, toks, sys⟩ := s
    obtain ⟨atL, atB, rest⟩ := want
    have s1 := AutoSeq1.idx_int
    have s2 := AutoSeq1.sub_tuple_tuple
    have s3 := AutoSeq1.sub_list_list
    have s4 := AutoSeq1.sub_tuple_list
    have s5 := AutoSeq1.sub_list_tuple
    have room : (items ++ items2).size ≤ sizeLine + 1 := by
      rw [Array.size_append]
      exact hs2
    wp_walk using (wpAny_updateSeq atL rfl (hz := hs1) (_hz' := room)), AutoSeq1.wpAny_loadPart' atL, AutoSeq1.wpAny_loadPart' atB
    exact ⟨_, rfl, rest⟩
/-- xs.extend(a tuple) -/
def rExtendT (K : PySem.W.Frag) : V → List V → Hp → VK → Prop := fun x vs H Q => ∃ l b xs zs, x = .ref l ∧ vs = [.ref b] ∧ H l = some (.lst xs) ∧ SqT K H b zs ∧ xs.length + zs.length ≤ sizeLine ∧ Q .non (upd H l (.lst (xs ++ zs)))
theorem mt_extendT : MtM X "list.extend" (rExtendT X.K) := by
  intro pins s σ H x vs v us Q I rx rv h
  obtain ⟨l, b, xs, zs, rfl, rfl, hl, hb, few, q⟩ := h
  cases rx
  obtain ⟨u, rfl, ru⟩ := rv.one
  cases ru
  obtain ⟨z, its, n, r, len, e⟩ := I.lstM hl
  obtain ⟨its2, r2, tup, _⟩ := I.tuple hb
  obtain ⟨⟨oc, dd, odt, sl⟩, e2, rfl, n2, rfl⟩ := tup
  have len2 := r2.length
  have fits : its.toArray.size + its2.toArray.size ≤ sizeLine := by rw [List.size_toArray, List.size_toArray]; omega
  have short : ¬ (!its.toArray.isEmpty && Builtin.List.listTooLong (its.toArray.size + its2.toArray.size)) = true := by
    rw [notLongL fits, Bool.and_false]
    exact Bool.false_ne_true
  refine call_meets PySem.F.slot_list_extend ⟨_, e, rfl⟩ PySem.F.entry_list_extend (PySem.F.args_list_extend_2 _ _) (ext_tup l its.toArray n b its2.toArray n2 dd sl short (by rw [List.size_toArray]; omega) (by omega)) ⟨e, e2, ?_⟩
  refine ⟨.non, _, I.lset (its' := its ++ its2) hl e (by simp) (r.append r2) ?_, rfl, q⟩
  rw [List.length_append]
  omega
theorem me_extend : MeOk X .extend "list" "list.extend" "extend" (fun x vs H Q => rExtend x vs H Q ∨ rExtendT X.K x vs H Q) := by
  refine ⟨PySem.F.plainAttrs_list, PySem.F.slot_list_extend, PySem.F.type_list_extend, MtR.or mt_extend mt_extendT, fun x v S H Ha r hs h => tyV_list r hs h, fun x v ds vs S0 H0 S H Ha Q QV r rd hs k h po => ?_⟩
  unfold meW at h
  split at h <;> first | (rename_i e; cases e) | skip
  all_goals first | exact h.elim | skip
  · obtain ⟨xs, ys, e, e2, hz, q⟩ := h
    cases (show v = V.ref _ from r)
    obtain ⟨ws, e1, d1⟩ := store_lst hs e
    obtain ⟨ws2, e3, d3⟩ := store_lst hs e2
    simp only [RDs] at rd
    obtain ⟨u, ur, rfl, ru, rfl⟩ := rd
    cases (show u = V.ref _ from ru)
    exact .inl ⟨_, _, ws, ws2, rfl, rfl, e1, e3, by rw [← d1.length, ← d3.length]; exact hz, wrote_lst po k hs e (d1.append d3) rd_non q⟩
  · obtain ⟨xs, e, hz, q⟩ := h
    cases (show v = V.ref _ from r)
    obtain ⟨ws, e1, d1⟩ := store_lst hs e
    simp only [RDs, RD] at rd
    obtain ⟨u, ur, rfl, ⟨b, ws2, rfl, sq, d3⟩, rfl⟩ := rd
    exact .inr ⟨_, _, ws, ws2, rfl, rfl, e1, sq.sq, by rw [← d1.length, ← d3.length]; exact hz, wrote_lst po k hs e (d1.append d3) rd_non q⟩
theorem me_reverse : MeOk X .reverse "list" "list.reverse" "reverse" rReverse := by
  refine ⟨PySem.F.plainAttrs_list, PySem.F.slot_list_reverse, PySem.F.type_list_reverse, mt_reverse, fun x v S H Ha r hs h => tyV_list r hs h, fun x v ds vs S0 H0 S H Ha Q QV r rd hs k h po => ?_⟩
  unfold meW at h
  split at h <;> first | (rename_i e; cases e) | skip
  all_goals first | exact h.elim | skip
  obtain ⟨xs, e, q⟩ := h
  cases (show v = V.ref _ from r)
  obtain ⟨ws, e1, d1⟩ := store_lst hs e
  simp only [RDs] at rd
  exact ⟨_, ws, rfl, rd, e1, wrote_lst po k hs e d1.reverse rd_non q⟩
def rInsert : V → List V → Hp → VK → Prop := fun x vs H Q => ∃ (l : Addr) (xs : List V) (i : Int) (y : V), x = .ref l ∧ vs = [.int i, y] ∧ H l = some (.lst xs) ∧ xs.length < sizeLine ∧ 0 ≤ i ∧ i < 2 ^ 63 ∧
    Q .non (upd H l (.lst (xs.take i.toNat ++ [y] ++ xs.drop i.toNat)))
theorem me_insert : MeOk X .insert "list" "list.insert" "insert" rInsert := by
  refine ⟨PySem.F.plainAttrs_list, PySem.F.slot_list_insert, PySem.F.type_list_insert, mt_insert, fun x v S H Ha r hs h => tyV_list r hs h, fun x v ds vs S0 H0 S H Ha Q QV r rd hs k h po => ?_⟩
  unfold meW at h
  split at h <;> first | (rename_i e; cases e) | skip
  all_goals first | exact h.elim | skip
  obtain ⟨xs, e, hz, h0, h1, q⟩ := h
  cases (show v = V.ref _ from r)
  obtain ⟨ws, e1, d1⟩ := store_lst hs e
  simp only [RDs] at rd
  obtain ⟨u, ur, rfl, ru, u2, ur2, rfl, ru2, rfl⟩ := rd
  cases (show u = V.int _ from ru)
  exact ⟨_, ws, _, u2, rfl, rfl, e1, by rw [← d1.length]; exact hz, h0, h1, wrote_lst po k hs e (((d1.take _).append (.one ru2)).append (d1.drop _)) rd_non q⟩
def rPopA : V → List V → Hp → VK → Prop := fun x vs H Q => rPop x vs H Q ∨ rPopAt x vs H Q
theorem me_pop : MeOk X .pop "list" "list.pop" "pop" rPopA := by
  refine ⟨PySem.F.plainAttrs_list, PySem.F.slot_list_pop, PySem.F.type_list_pop, MtR.or mt_pop mt_popAt, fun x v S H Ha r hs h => tyV_list r hs h, fun x v ds vs S0 H0 S H Ha Q QV r rd hs k h po => ?_⟩
  unfold meW at h
  split at h <;> first | (rename_i e; cases e) | skip
  all_goals first | exact h.elim | skip
  · obtain ⟨xs, d, e, ed, q⟩ := h
    cases (show v = V.ref _ from r)
    obtain ⟨ws, e1, d1⟩ := store_lst hs e
    simp only [RDs] at rd
    obtain ⟨y, ey, ry⟩ := d1.get ed
    rw [d1.length] at ey
    exact .inl ⟨_, ws, y, rfl, rd, e1, ey, wrote_lst po k hs e d1.dropLast ry q⟩
  · obtain ⟨xs, j, d, e, h1, h2, hj, ed, q⟩ := h
    cases (show v = V.ref _ from r)
    obtain ⟨ws, e1, d1⟩ := store_lst hs e
    simp only [RDs] at rd
    obtain ⟨u, ur, rfl, ru, rfl⟩ := rd
    cases (show u = V.int _ from ru)
    obtain ⟨y, ey, ry⟩ := d1.get ed
    exact .inr ⟨_, ws, _, j, y, rfl, rfl, e1, h1, h2, by rw [← d1.length]; exact (ixN_seq hj).1, ey, wrote_lst po k hs e (d1.erase j) ry q⟩
theorem me_upper : MeOk X .upper "str" "str.upper" "upper" (fun x xs H Q => ∃ a, x = .str a ∧ xs = [] ∧ a.length ≤ 5592405 ∧ Q (.str (Txt.upper a)) H) := by
  refine ⟨PySem.F.plainAttrs_str, PySem.F.slot_str_upper, PySem.F.type_str_upper, mt_upper, fun x v S H Ha r hs h => tyV_str r h, fun x v ds vs S0 H0 S H Ha Q QV r rd hs k h po => ?_⟩
  unfold meW at h
  split at h <;> first | (rename_i e; cases e) | skip
  all_goals first | exact h.elim | skip
  cases (show v = V.str _ from r)
  simp only [RDs] at rd
  exact ⟨_, rfl, rd, h.1, po.dat k hs rd_str h.2⟩
theorem me_join : MeOk X .join "str" "str.join" "join" (fun x xs H Q => ∃ a p, ∃ ys : List Str, x = .str a ∧ xs = [.ref p] ∧ (SqL X.K H p (ys.map V.str) ∨ SqT X.K H p (ys.map V.str)) ∧ (ys.map (·.length)).sum + ys.length * a.length ≤ 16777216 ∧ Q (.str (Txt.join a ys)) H) := by
  refine ⟨PySem.F.plainAttrs_str, PySem.F.slot_str_join, PySem.F.type_str_join, mt_join, fun x v S H Ha r hs h => tyV_str r h, fun x v ds vs S0 H0 S H Ha Q QV r rd hs k h po => ?_⟩
  unfold meW at h
  split at h <;> first | (rename_i e; cases e) | skip
  all_goals first | exact h.elim | skip
  obtain ⟨xs, ss, e, es, hz, q⟩ := h
  cases (show v = V.str _ from r)
  simp only [RDs] at rd
  obtain ⟨u, ur, rfl, ru, rfl⟩ := rd
  obtain ⟨l, ws, rfl, sq, d1⟩ := seqOf_sq (H0 := H) (x := .v _) hs ru e
  rw [strsOf_rds es d1] at sq
  exact ⟨_, l, ss, rfl, rfl, sq, hz, po.dat k hs rd_str q⟩
/-! ### defs, called where no repr is under way -/
/-- what a def promises, for callers in no repr -/
structure FnG (P : Program) (w : World) (K : PySem.W.Frag) (mg : Str → Option Value) (base : Heap) (cx : CXT) (k : Nat) (f : Addr) (fd : FuncData) (ps : List Str) (sp : Sp) : Prop where
  many : ∀ vs H Q E, sp vs H Q E → vs.length = ps.length
  go : ∀ (A : Around) (up : List PySem.Env) (s : Shared) (H : Hp) (args : Args) (us : List Value) (vs : List V) (Q : VK) (E : XK), A.guards = some [] → Room k A → Env0 P w K mg base A up s H → BindsTo s fd args (ps.zip us) → Vals vs us → sp vs H Q E →
    codeAny (model P w) A (.call (.ref f) args) (CR cx up P w H s Q E) s
variable {cx : CXT} {k : Nat} {f : Addr} {fd : FuncData} {ps : List Str} {sp : Sp} {E : XK} {x : Str}
theorem go_fn {pins : List (Addr × Obj)} {σ : L2.St} {H : Hp} {s : Shared} {Q : VK} {us : List Value} {vs : List V} (F : FnG X.prog X.w X.K X.mg X.base cx k f fd ps sp) (hg : X.A.guards = some []) (hr : Room k X.A) (hb : Binds X.K fd ps []) (hx : Passes cx X E)
    (I : Inv X pins σ H s) (r : Vals vs us) (h : sp vs H Q E) : wpAny (model X.prog X.w) X.A (call (.ref f) us) (EP X pins σ Q) X.xe s := by
  have hl : (us ++ []).length = ps.length := by rw [List.append_nil, ← r.length]; exact F.many _ _ _ _ h
  have bt := hb s us I.kIn hl
  rw [List.append_nil] at bt
  have run := F.go X.A X.stack s H ⟨us, []⟩ us vs Q E hg hr I.env0 bt r h
  refine wpAny_call (codeAny_mono run fun res s' hq => ?_)
  match res, hq with
  | .ok (.ret u), hq => exact I.after hq
  | .ok .next, hq => exact hq.elim
  | .ok .brk, hq => exact hq.elim
  | .ok .cont, hq => exact hq.elim
  | .error e, hq => exact hx pins σ H s e s' I hq
theorem pe_go (F : FnG X.prog X.w X.K X.mg X.base cx k f fd ps sp) (hg : X.A.guards = some []) (hr : Room k X.A) (hb : Binds X.K fd ps []) (hx : Passes cx X E) (hgl : Gl X x) (hm : X.mg x = some (.ref f)) (hk : PySem.W.keepIn X.K (.ref f) = true)
    {t : TA} (ha : PA X (a :: es) t) (hd : (x == ("__debug__" : Str)) = false) (hn : starEach (a :: es) X.env = (false, eval a X.env) :: starEach es X.env) (hpl : (backTo pos (starEach es X.env)).any (·.1) = false) :
    PE X (.Call (.Name x p) (a :: es) [] pos) (fun σ H Q => t σ H fun vs H1 => sp vs H1 Q E) :=
  ⟨fun pins s σ H Q I h => wpAny_Call_Name_kw (ld_glob I hgl hm (PySem.W.callWith_K (h₀ := X.base) I.ok.mod.kin hk (thn (ha.run pos pins s σ H _ I h) fun us s1 ⟨vs, H1, I1, r, q⟩ => ⟨I1.kIn, go_fn F hg hr hb hx I1 r q⟩) hn hpl) hd)⟩
/-- what a def promises, by data -/
def spD (K : PySem.W.Frag) (w : List D → Sto → PR → Prop) : Sp := fun vs H Q _ => ∃ ds S Qd, RDs K H ds vs ∧ RS K H S ∧ w ds S Qd ∧ Post K S H Qd Q
theorem s_call {w : List D → Sto → PR → Prop} (F : FnG X.prog X.w X.K X.mg X.base CX0 k f fd ps (spD X.K w)) (hg : X.A.guards = some []) (hr : Room k X.A) (hb : Binds X.K fd ps []) (hgl : Gl X x) (hm : X.mg x = some (.ref f)) (hk : PySem.W.keepIn X.K (.ref f) = true)
    (ha : PA X (a :: es) (tDA X.K wes)) (hd : (x == ("__debug__" : Str)) = false) (hn : starEach (a :: es) X.env = (false, eval a X.env) :: starEach es X.env) (hpl : (backTo pos (starEach es X.env)).any (·.1) = false) :
    PE X (.Call (.Name x p) (a :: es) [] pos) (tD X.K fun ρ S Q => wes ρ S fun ds S1 => w ds S1 Q) :=
  (pe_go F hg hr hb (E := E0) pass0 hgl hm hk ha hd hn hpl).weak fun σ H QV ⟨ρ, S, Q, re, hs, h, po⟩ => ⟨ρ, S, _, re, hs, h, fun vs H1 ds S1 rd s1 k1 q => ⟨ds, S1, Q, rd, s1, q, po.sub k1⟩⟩
end
set_option maxRecDepth 100000
set_option maxHeartbeats 1000000
section
variable {K : PySem.W.Frag} {S : Sto} {H0 H : Hp} {xs : List D} {hold : Sto → Prop}
theorem ItOk.list {a : Addr} (f : ∀ S' H', Kq H0 S H S' H' → RS K H' S' → hold S' → ∃ vs, SqL K H' a vs ∧ RDs K H' xs vs) : ItOk K H0 S H (Itl K a) xs hold := fun i S' H' k hs ho => by
  obtain ⟨vs, sq, rd⟩ := f S' H' k hs ho
  refine ⟨fun hi => ⟨vs, sq, by rw [← rd.length]; exact hi⟩, fun d e => ?_⟩
  obtain ⟨v, ev, rv⟩ := rd.get e
  refine ⟨⟨vs, v, sq, ev⟩, fun x H2 ⟨e2, y⟩ => ?_⟩
  subst e2
  have ex : v = x := Option.some.inj (ev.symm.trans (y vs sq))
  rw [← ex]
  exact ⟨rv, hs, Kp.refl⟩
theorem ItOk.tup {a : Addr} (f : ∀ S' H', Kq H0 S H S' H' → RS K H' S' → hold S' → ∃ vs, SqT K H' a vs ∧ RDs K H' xs vs) : ItOk K H0 S H (Itt K a) xs hold := fun i S' H' k hs ho => by
  obtain ⟨vs, sq, rd⟩ := f S' H' k hs ho
  refine ⟨fun hi => ⟨vs, sq, by rw [← rd.length]; exact hi⟩, fun d e => ?_⟩
  obtain ⟨v, ev, rv⟩ := rd.get e
  refine ⟨⟨vs, v, sq, ev⟩, fun x H2 ⟨e2, y⟩ => ?_⟩
  subst e2
  have ex : v = x := Option.some.inj (ev.symm.trans (y vs sq))
  rw [← ex]
  exact ⟨rv, hs, Kp.refl⟩
theorem ItOk.str {z : Str} : ItOk K H0 S H (Its z) (signs z) hold := fun i S' H' k hs ho => by
  have hl : (signs z).length = z.cps.size := by simp [signs]
  refine ⟨fun hi => by rw [hl] at hi; exact hi, fun d e => ?_⟩
  have hi : i < z.cps.size := by rw [← hl]; exact (List.getElem?_eq_some_iff.mp e).1
  refine ⟨hi, fun x H2 ⟨e2, c, ec, ex⟩ => ?_⟩
  subst e2 ex
  refine ⟨?_, hs, Kp.refl⟩
  have e3 : (signs z)[i]? = some (.str ⟨#[c]⟩) := by
    unfold signs
    rw [List.getElem?_map, Array.getElem?_toList, ec]
    rfl
  rw [e3] at e
  cases e
  rfl
theorem ItOk.rng {lo : Int} {n : Nat} : ItOk K H0 S H (Itr lo n) (rngD lo n) hold := fun i S' H' k hs ho => by
  have hl : (rngD lo n).length = n := by simp [rngD]
  refine ⟨fun hi => by rw [hl] at hi; exact hi, fun d e => ?_⟩
  have hi : i < n := by rw [← hl]; exact (List.getElem?_eq_some_iff.mp e).1
  refine ⟨hi, fun x H2 ⟨e2, ex⟩ => ?_⟩
  subst e2 ex
  refine ⟨?_, hs, Kp.refl⟩
  have e3 : (rngD lo n)[i]? = some (.int (lo + i)) := by
    unfold rngD
    rw [List.getElem?_map, List.getElem?_range hi]
    rfl
  rw [e3] at e
  cases e
  rfl
end
section
variable {X : Cx} {tg a b c : Expr} {wa wb wc : Ev} {pos p p2 : Pos}
theorem line_of {pins : List (Addr × Obj)} {σ : L2.St} {H : Hp} {s : Shared} (I : Inv X pins σ H s) {l : Addr} {vs : List V} (h : SqL X.K H l vs ∨ SqT X.K H l vs) : vs.length ≤ sizeLine := by
  rcases h with h | h
  · obtain ⟨_, _, _, hz⟩ := I.list h; exact hz
  · obtain ⟨_, _, _, hz⟩ := I.tuple h; exact hz
/-- a PI whose reading may lean on the state's own bound -/
theorem s_seq (ha : PE X a (tD X.K wa)) : PI X tg a (tDI X.K fun ρ S Kc => wa ρ S fun r S1 => seqW r S1 fun xs hold => Kc xs hold S1) := by
  refine ⟨fun pins s σ H R I ⟨ρ, S, Q, re, hs, h, po⟩ => ?_⟩
  -- the value as it comes, with the bound of its length
  have ev := ha.run pins s σ H (fun v H1 => ∃ r S1, RR X.K H H1 S1 r v ∧ RS X.K H1 S1 ∧ Kp S H S1 H1 ∧ seqW r S1 fun xs hold => Q xs hold S1) I ⟨ρ, S, _, re, hs, h, fun v H1 r S1 a b c d => ⟨r, S1, a, b, c, d⟩⟩
  refine thn ev fun v s1 ⟨y, H1, I1, r1, r, S1, rr, s1', k1, q⟩ => ?_
  have fin : (∃ l, y = .ref l ∧ (∃ xs, SqL X.K H1 l xs) ∧ R (Itl X.K l) H1) ∨ (∃ l, y = .ref l ∧ (∃ xs, SqT X.K H1 l xs) ∧ R (Itt X.K l) H1) ∨ (∃ z, y = .str z ∧ R (Its z) H1) := by
    unfold seqW at q
    split at q
    · obtain ⟨hz, q⟩ := q
      cases (show y = V.str _ from rr)
      exact .inr (.inr ⟨_, rfl, po _ H1 _ _ S1 .str (by simpa [signs, Str.length] using hz) s1' k1 q⟩)
    · have rr : RD X.K H1 (.tup _) y := rr
      simp only [RD] at rr
      obtain ⟨l, vs, rfl, sq, rd⟩ := rr
      have sq := sq.sq (K := X.K)
      exact .inr (.inl ⟨l, rfl, ⟨vs, sq⟩, po _ H1 _ _ S1 (.tup fun S' H' k hs' _ => ⟨vs, SqT.kq k s1' sq, RDs.kq k s1' _ vs rd⟩) (by rw [rd.length]; exact line_of I1 (.inr sq)) s1' k1 q⟩)
    · have rr : RD X.K H1 (.fz _) y := rr
      simp only [RD] at rr
      obtain ⟨l, vs, rfl, sq, rd⟩ := rr
      exact .inl ⟨l, rfl, ⟨vs, sq.sq⟩, po _ H1 _ _ S1 (.list fun S' H' k hs' _ => ⟨vs, (FzL.kq k s1' sq).sq, RDs.kq k s1' _ vs rd⟩) (by rw [rd.length]; exact line_of I1 (.inl sq.sq)) s1' k1 q⟩
    · obtain ⟨l, rfl, h0, hn, ho⟩ := rr
      have ho' := ho
      obtain ⟨vs, e, rd⟩ := ho
      exact .inl ⟨l, rfl, ⟨vs, .inl (.inl e)⟩, po _ H1 _ _ S1 (.list fun S' H' k hs' _ => RO.lst_kq k s1' hn h0 ho') (by rw [rd.length]; exact line_of I1 (.inl (.inl (.inl e)))) s1' k1 q⟩
    · obtain ⟨xs, e, q⟩ := q
      cases (show y = V.ref _ from rr)
      obtain ⟨vs, e1, rd⟩ := s1' _ _ e
      refine .inl ⟨_, rfl, ⟨vs, .inl (.inl e1)⟩, po _ H1 _ _ S1 (.list fun S' H' k hs' ho => ?_) (by rw [rd.length]; exact line_of I1 (.inl (.inl (.inl e1)))) s1' k1 q⟩
      obtain ⟨ws, e2, rd2⟩ := hs' _ _ ho
      exact ⟨ws, .inl (.inl e2), rd2⟩
    · exact q.elim
  exact thn_any I1 r1 fin
where
  thn_any {pins : List (Addr × Obj)} {σ : L2.St} {H1 : Hp} {s1 : Shared} {v : Value} {y : V} {R : It → Hp → Prop} (I1 : Inv X pins σ H1 s1) (r1 : RelV y v)
      (q : (∃ l, y = .ref l ∧ (∃ xs, SqL X.K H1 l xs) ∧ R (Itl X.K l) H1) ∨ (∃ l, y = .ref l ∧ (∃ xs, SqT X.K H1 l xs) ∧ R (Itt X.K l) H1) ∨ (∃ z, y = .str z ∧ R (Its z) H1)) :
      wpAny (model X.prog X.w) X.A (pyIter v) (PIE X pins σ tg R) X.xe s1 := by
    rcases q with ⟨l, rfl, ⟨xs, sq⟩, q⟩ | ⟨l, rfl, ⟨xs, sq⟩, q⟩ | ⟨z, rfl, q⟩
    · cases r1
      obtain ⟨its, rv, pl, hz⟩ := I1.list sq
      exact wpAny_pyIter_list pl.isList (pi_one (tk := s1.toks) I1 _ (turn_list l _) ⟨_, Heap.get?_push_size _ rfl, rfl, rfl⟩ q)
    · cases r1
      obtain ⟨its, rv, pl, hz⟩ := I1.tuple sq
      exact wpAny_pyIter_tuple (show s1.heap.IsTuple l its.toArray from pl) (pi_one (tk := s1.toks) I1 _ (turn_tuple l _) ⟨_, Heap.get?_push_size _ rfl, rfl, rfl⟩ q)
    · obtain ⟨t, rfl⟩ := r1
      cases ha : z.cps.all (· < 128)
      · exact wpAny_pyIter_wide ha (pi_one (tk := s1.toks) I1 _ (turn_str _ z t "str_iterator" (.inr rfl)) ⟨_, Heap.get?_push_size _ rfl, rfl, rfl⟩ q)
      · exact wpAny_pyIter_ascii ha (pi_one (tk := s1.toks) I1 _ (turn_str _ z t "str_ascii_iterator" (.inl rfl)) ⟨_, Heap.get?_push_size _ rfl, rfl, rfl⟩ q)
/-! ranges -/
theorem rngD_len (lo : Int) (n : Nat) : (rngD lo n).length = n := by simp [rngD]
theorem s_rng1 (hg : Gl X "range") (hm : X.mg "range" = none) (ha : PE X a (tD X.K wa)) (hn : starEach [a] X.env = [(false, eval a X.env)]) :
    PI X tg (.Call (.Name "range" p) [a] [] pos) (tDI X.K fun ρ S Kc => wa ρ S fun r S1 => ∃ j, r = .v (.int j) ∧ j ≤ 16777216 ∧ -(2 ^ 62) ≤ j ∧ Kc (rngD 0 j.toNat) (fun _ => True) S1) :=
  (pi_range1 hg hm (pa_cons ha pa_nil hn) hn).weak fun σ H R ⟨ρ, S, Q, re, hs, h, po⟩ => tD1 re hs h fun r v H1 S1 r1 s1 k1 re1 ⟨j, e, h1, h2, q⟩ => by
    subst e
    cases (show v = V.int j from r1)
    exact ⟨j, rfl, h2, by omega, po _ H1 _ _ S1 .rng (by rw [rngD_len, sizeLine_eq]; omega) s1 k1 q⟩
theorem s_rng2 (hg : Gl X "range") (hm : X.mg "range" = none) (ha : PE X a (tD X.K wa)) (hb : PE X b (tD X.K wb)) (hn : starEach [a, b] X.env = [(false, eval a X.env), (false, eval b X.env)]) (hn2 : starEach [b] X.env = [(false, eval b X.env)]) :
    PI X tg (.Call (.Name "range" p) [a, b] [] pos) (tDI X.K fun ρ S Kc => wa ρ S fun r S1 => wb ρ S1 fun q S2 => ∃ i j, r = .v (.int i) ∧ q = .v (.int j) ∧ (-(2 ^ 62) ≤ i ∧ i < 2 ^ 62 ∧ -(2 ^ 62) ≤ j ∧ j < 2 ^ 62) ∧ j - i ≤ 16777216 ∧ Kc (rngD i (j - i).toNat) (fun _ => True) S2) :=
  (pi_range2 hg hm (pa_cons ha (pa_cons hb pa_nil hn2) (by rw [hn, hn2])) hn hn2).weak fun σ H R ⟨ρ, S, Q, re, hs, h, po⟩ => tD2 re hs h fun x y v u H2 S2 r1 r2 s2 k2 ⟨i, j, e1, e2, h1, h2, q⟩ => by
    subst e1 e2
    cases (show v = V.int i from r1)
    cases (show u = V.int j from r2)
    exact ⟨i, j, rfl, h1, po _ H2 _ _ S2 .rng (by rw [rngD_len, sizeLine_eq]; omega) s2 k2 q⟩
end
set_option maxRecDepth 100000
set_option maxHeartbeats 1000000
/-! ### slots wiped -/
theorem wipe_get (σ : L2.St) : ∀ (vs : List Nat) (j : Nat), (L2.wipe σ vs)[j]? = if j ∈ vs then (if j < σ.length then some none else none) else σ[j]?
  | [], j => by simp [L2.wipe]
  | v :: vs, j => by
    unfold L2.wipe
    by_cases h : v = j
    · subst h
      by_cases hl : v < σ.length
      · rw [List.getElem?_set_self (by rw [wipe_length]; exact hl), if_pos List.mem_cons_self, if_pos hl]
      · rw [List.getElem?_eq_none (by rw [List.length_set, wipe_length]; omega), if_pos List.mem_cons_self, if_neg hl]
    · rw [List.getElem?_set_ne h, wipe_get σ vs j]
      have e : (j ∈ v :: vs) ↔ j ∈ vs := by
        rw [List.mem_cons]
        exact ⟨fun q => q.elim (fun z => absurd z.symm h) id, .inr⟩
      simp only [e]
theorem wipe_set {σ : L2.St} {vs : List Nat} {i : Nat} {x : Option V} (h : i ∈ vs) : L2.wipe (σ.set i x) vs = L2.wipe σ vs := by
  refine List.ext_getElem? fun j => ?_
  rw [wipe_get, wipe_get, List.length_set]
  by_cases hj : j ∈ vs
  · rw [if_pos hj, if_pos hj]
  · rw [if_neg hj, if_neg hj, List.getElem?_set_ne (fun e => hj (by rw [← e]; exact h))]
/-! ### targets -/
def tnIds : TN → List Nat
  | .name i => [i]
  | .tup is => is
  | .nest i is => i :: is
def tDG (K : PySem.W.Frag) (tg : TN) : TG := fun v σ H QV => ∃ ρ S d Q, REnv K H σ ρ ∧ RS K H S ∧ RD K H d v ∧ bindN tg d ρ Q ∧
  ∀ σ' ρ', REnv K H σ' ρ' → Q ρ' → (∀ vs, (∀ i ∈ tnIds tg, i ∈ vs) → L2.wipe σ' vs = L2.wipe σ vs) → QV σ' H
theorem _root_.L2.PG.weak {X : Cx} {e : Expr} {t t' : TG} (h : PG X e t) (f : ∀ v σ H Q, t' v σ H Q → t v σ H Q) : PG X e t' := ⟨fun pins s σ H v u Q I r q => h.run pins s σ H v u Q I r (f _ _ _ _ q)⟩
theorem _root_.L2.PGs.weak {X : Cx} {e : List Expr} {t t' : TGs} (h : PGs X e t) (f : ∀ v σ H Q, t' v σ H Q → t v σ H Q) : PGs X e t' := ⟨fun pins s σ H v u Q I r q => h.run pins s σ H v u Q I r (f _ _ _ _ q)⟩
/-- several names -/
def tDGs (K : PySem.W.Frag) (is : List Nat) : TGs := fun vs σ H QV => ∃ ρ S ds, REnv K H σ ρ ∧ RS K H S ∧ RDs K H ds vs ∧ ds.length = is.length ∧
  ∀ σ', REnv K H σ' (bindL is ds ρ) → (∀ ws, (∀ i ∈ is, i ∈ ws) → L2.wipe σ' ws = L2.wipe σ ws) → QV σ' H
section
variable {X : Cx} {tg a b c : Expr} {wa wb wc : Ev} {pos p p2 : Pos}
theorem s_gname {i : Nat} (h : PG X a (gName i)) : PG X a (tDG X.K (.name i)) := h.weak fun v σ H QV ⟨ρ, S, d, Q, re, hs, r, q, po⟩ =>
  po _ _ (re.set r) q fun vs hv => wipe_set (hv i (by simp [tnIds]))
theorem s_gs0 : PGs X [] (tDGs X.K []) := pgs_nil.weak fun vs σ H QV ⟨ρ, S, ds, re, hs, r, hl, po⟩ => by
  have e : ds = [] := List.length_eq_zero_iff.mp hl
  subst e
  simp only [RDs] at r
  exact ⟨r, po σ re fun _ _ => rfl⟩
theorem s_gs1 {i : Nat} {is : List Nat} {es : List Expr} (h : PG X a (gName i)) (hr : PGs X es (tDGs X.K is)) (hn : (assignEach (a :: es) X.env).map (·.2) = assign a X.env :: (assignEach es X.env).map (·.2)) : PGs X (a :: es) (tDGs X.K (i :: is)) :=
  (pgs_cons h hr hn).weak fun vs σ H QV ⟨ρ, S, ds, re, hs, r, hl, po⟩ => by
    cases ds with
    | nil => simp at hl
    | cons d ds =>
      simp only [RDs] at r
      obtain ⟨v, vr, rfl, r1, r2⟩ := r
      refine ⟨v, vr, rfl, ρ.set i (some d), S, ds, re.set r1, hs, r2, by simpa using hl, fun σ' re' hw => po σ' re' fun ws h => ?_⟩
      rw [hw ws fun j hj => h j (List.mem_cons_of_mem _ hj)]
      exact wipe_set (h i List.mem_cons_self)
theorem s_gtup {is : List Nat} {es : List Expr} {j : Nat} (hc : X.calm = true) (h : PGs X es (tDGs X.K is)) (hn : (assignEach es X.env).length = is.length) (hst : (assignEach es X.env).findIdx? (·.1) = none) : PG X (.Tuple es j pos) (tDG X.K (.tup is)) :=
  (pg_tup (n := is.length) hc h hn hst).weak fun v σ H QV ⟨ρ, S, d, Q, re, hs, r, q, po⟩ => by
    unfold bindN at q
    split at q
    · rename_i e; cases e
    · rename_i e
      cases e
      simp only [RD] at r
      obtain ⟨l, vs, rfl, sq, rd⟩ := r
      exact ⟨l, vs, rfl, sq.sq, by rw [← rd.length]; exact q.1, ρ, S, _, re, hs, rd, q.1, fun σ' re' hw => po σ' _ re' q.2 hw⟩
    · rename_i e; cases e
    · exact q.elim
end
/-! ### a list that grows beside the store -/
section
variable {K : PySem.W.Frag} {S S1 : Sto} {H H1 : Hp} {l : Addr} {us ws : List V}
theorem TqT.grown {a : Addr} {vs : List V} (e : H l = some (.lst us)) (h : TqT H a vs) : TqT (upd H l (.lst ws)) a vs := by
  unfold TqT at *
  rw [upd_ne (fun z => by subst z; rw [e] at h; cases h)]
  exact h
theorem SqT.grown {a : Addr} {vs : List V} (e : H l = some (.lst us)) (h : SqT K H a vs) : SqT K (upd H l (.lst ws)) a vs := by
  rcases h with (h | ⟨o, h⟩) | h
  · exact .inl (.inl (by rw [upd_ne (ne_of h e (fun z => nomatch z))]; exact h))
  · exact .inl (.inr ⟨o, by rw [upd_ne (ne_of h e (fun z => nomatch z))]; exact h⟩)
  · exact .inr h
theorem FzL.grown {a : Addr} {vs : List V} (e : H l = some (.lst us)) (h : FzL K H a vs) : FzL K (upd H l (.lst ws)) a vs := by
  rcases h with ⟨o, h⟩ | h
  · exact .inl ⟨o, by rw [upd_ne (ne_of h e (fun z => nomatch z))]; exact h⟩
  · exact .inr h
mutual
theorem RD.grown (e : H l = some (.lst us)) : ∀ (d : D) (v : V), RD K H d v → RD K (upd H l (.lst ws)) d v
  | .non, _, h => h
  | .bl _, _, h => h
  | .int _, _, h => h
  | .str _, _, h => h
  | .tup ds, _, h => by
    simp only [RD] at h ⊢
    obtain ⟨a, vs, q, h1, h2⟩ := h
    exact ⟨a, vs, q, TqT.grown e h1, RDs.grown e ds vs h2⟩
  | .fz ds, _, h => by
    simp only [RD] at h ⊢
    obtain ⟨a, vs, q, h1, h2⟩ := h
    exact ⟨a, vs, q, FzL.grown e h1, RDs.grown e ds vs h2⟩
  | .ref _, _, h => h
theorem RDs.grown (e : H l = some (.lst us)) : ∀ (ds : List D) (vs : List V), RDs K H ds vs → RDs K (upd H l (.lst ws)) ds vs
  | [], _, h => h
  | d :: ds, _, h => by
    simp only [RDs] at h ⊢
    obtain ⟨v, r, q, h1, h2⟩ := h
    exact ⟨v, r, q, RD.grown e d v h1, RDs.grown e ds r h2⟩
end
theorem RS.grown (e : H l = some (.lst us)) (hn : S l = none) (hs : RS K H S) : RS K (upd H l (.lst ws)) S := fun a o q => by
  have r := hs a o q
  have hne : a ≠ l := fun z => by subst z; rw [hn] at q; cases q
  cases o with
  | lst ds => obtain ⟨vs, e1, rd⟩ := r; exact ⟨vs, by rw [upd_ne hne]; exact e1, RDs.grown e ds vs rd⟩
  | dK kvs => obtain ⟨vs, e1, rd⟩ := r; exact ⟨vs, by rw [upd_ne hne]; exact e1, rd.mono (RD.grown e)⟩
  | dT kvs => obtain ⟨vs, e1, rd⟩ := r; exact ⟨vs, by rw [upd_ne hne]; exact e1, rd.mono (RD.grown e)⟩
  | tb q => exact tab_but r hne (fun c q z => by rw [e] at z; unfold LamX.CodeO at z; cases z) fun b o hb e => by rw [upd_ne hb]; exact e
  | lkK kvs o ws => obtain ⟨e1, rd⟩ := r; exact ⟨by rw [upd_ne hne]; exact e1, rd.mono (RD.grown e)⟩
theorem Kp.grown {u : HO} (h1 : H1 l = none) (k : Kp S1 H1 S H) : Kp S1 H1 S (upd H l u) :=
  ⟨fun a o e hn => let ⟨x, y⟩ := k.keep a o e hn; ⟨by rw [upd_ne (fun z => by subst z; rw [h1] at e; cases e)]; exact x, y⟩, fun a h => by
    by_cases z : a = l
    · subst z; exact h1
    · rw [upd_ne z] at h; exact k.dom a h, k.sdom⟩
theorem REnv.grown {σ : L2.St} {ρ : Env} (e : H l = some (.lst us)) (h : REnv K H σ ρ) : REnv K (upd H l (.lst ws)) σ ρ := ⟨h.1, fun i d q => let ⟨v, e', r⟩ := h.2 i d q; ⟨v, e', RD.grown e d v r⟩⟩
end
/-! ### list comprehensions -/
section
variable {X : Cx} {tg iter elt : Expr} {ifs : List Expr} {scope : Scope} {own : List (Str × Nat)} {pos : Pos} {t : TN} {wi : Env → Sto → (List D → (Sto → Prop) → Sto → Prop) → Prop} {wt : Env → Sto → (Bool → Sto → Prop) → Prop} {we : Ev}
/-- one turn -/
def lcStep (t : TN) (wt : Env → Sto → (Bool → Sto → Prop) → Prop) (we : Ev) (ρ : Env) (x : D) (S2 : Sto) (k : Option D → Sto → Prop) : Prop :=
  bindN t x ρ fun ρ' => wt ρ' S2 fun b S3 => if b = true then we ρ' S3 fun r S4 => mat r S4 fun d S5 => k (some d) S5 else k none S3
theorem lc_link {K : PySem.W.Frag} {σ : L2.St} {H : Hp} {QV : VK} {vs : List Nat} (ht : ∀ i ∈ tnIds t, i ∈ vs)
    (h : tD K (fun ρ S Q => wi ρ S fun xs hold S1 => lcL (lcStep t wt we (wipeE ρ vs)) hold xs [] S1 fun ds S2 => Q (.n (.lst ds)) S2) σ H QV) : tLc (tDI K wi) (tDG K t) (tDT K wt) (tD K we) vs σ H QV := by
  obtain ⟨ρ, S, Q, re, hs, h, po⟩ := h
  refine ⟨ρ, S, _, re, hs, h, fun J H1 xs hold S1 it hx s1 k1 q => fun l hl => ?_⟩
  have hl0 : S1 l = none := s1.no hl
  have hH : H l = none := k1.dom l hl
  refine ⟨fun i m G => m = xs.length - i ∧ i ≤ xs.length ∧ ∃ S' acc va, G l = some (.lst va) ∧ RDs K G acc va ∧ acc.length ≤ i ∧ S' l = none ∧ RS K G S' ∧ Kp S1 H1 S' G ∧ lcL (lcStep t wt we (wipeE ρ vs)) hold (xs.drop i) acc S' fun ds S2 => Q (.n (.lst ds)) S2,
    ⟨xs.length, by simp, Nat.zero_le _, S1, [], [], upd_same, by simp [RDs], Nat.zero_le _, hl0, s1.laid hl, Kp.laid hl, q⟩, ?_⟩
  rintro i m G ⟨rfl, hi, S', acc, va, eG, rd, ha, hn, sG, kG, q⟩
  by_cases hlt : i < xs.length
  · rw [List.drop_eq_getElem_cons hlt] at q
    obtain ⟨hh, q⟩ := q
    obtain ⟨_, hgo⟩ := it i S' G kG.q sG hh
    obtain ⟨go, hy⟩ := hgo xs[i] (List.getElem?_eq_getElem hlt)
    refine .inr ⟨go, fun G' => xs.length - (i + 1) < xs.length - i ∧ ∃ S' acc va, G' l = some (.lst va) ∧ RDs K G' acc va ∧ acc.length ≤ i + 1 ∧ S' l = none ∧ RS K G' S' ∧ Kp S1 H1 S' G' ∧ lcL (lcStep t wt we (wipeE ρ vs)) hold (xs.drop (i + 1)) acc S' fun ds S2 => Q (.n (.lst ds)) S2,
      fun G' ⟨hm, w⟩ => ⟨xs.length - (i + 1), hm, rfl, hlt, w⟩, fun x G2 y => ?_⟩
    obtain ⟨rx, s2, k2⟩ := hy x G2 y
    have e2 : G2 l = some (.lst va) := (k2.keep l _ eG hn).1
    have kk : Kp S1 H1 S' G2 := kG.trans k2
    have reW : REnv K G2 (L2.wipe σ vs) (wipeE ρ vs) := ((re.kp k1 hs).kp kk s1).wipe vs
    replace q : bindN t xs[i] (wipeE ρ vs) fun ρ' => wt ρ' S' fun b S3 => if b = true then we ρ' S3 fun r S4 => mat r S4 fun d S5 => lcL (lcStep t wt we (wipeE ρ vs)) hold (xs.drop (i + 1)) (acc ++ [d]) S5 fun ds S2 => Q (.n (.lst ds)) S2
      else lcL (lcStep t wt we (wipeE ρ vs)) hold (xs.drop (i + 1)) (acc ++ []) S3 fun ds S2 => Q (.n (.lst ds)) S2 := q
    rw [List.append_nil] at q
    refine ⟨wipeE ρ vs, S', xs[i], _, reW, s2, rx, q, fun σ3 ρ3 re3 q3 hw => ⟨?_, ?_⟩⟩
    · rw [hw vs ht]
      exact List.ext_getElem? fun j => by
        simp only [wipe_get, wipe_length]
        by_cases hj : j ∈ vs
        · simp [hj]
        · simp [hj]
    · refine tDT1 re3 s2 q3 fun b G3 S3 s3 k3 re4 q4 => ?_
      have e3 : G3 l = some (.lst va) ∧ S3 l = none := k3.keep l _ e2 hn
      cases b with
      | false =>
        exact ⟨by omega, S3, acc, va, e3.1, ((RDs.kp k2 sG acc va rd).kp k3 s2), by omega, e3.2, s3, kk.trans k3, q4⟩
      | true =>
        refine tD1 re4 s3 q4 fun r v G4 S4 r4 s4 k4 re5 q5 => ?_
        obtain ⟨d, S5, rdv, s5, k5, q6⟩ := mat_ok q5 r4 s4 k4
        have e5 : G4 l = some (.lst va) ∧ S5 l = none := k5.keep l _ e3.1 e3.2
        have rdA : RDs K G4 acc va := (((RDs.kp k2 sG acc va rd).kp k3 s2).kp k5 s3)
        refine ⟨va, e5.1, ?_, by omega, S5, acc ++ [d], va ++ [v], upd_same, ?_, by rw [List.length_append]; simpa using ha, e5.2, s5.grown e5.1 e5.2, ((kk.trans k3).trans k5).grown hl, q6⟩
        · have := rdA.length
          omega
        · exact RDs.grown e5.1 _ _ (rdA.append (.one rdv))
  · have e : i = xs.length := by omega
    subst e
    rw [List.drop_length] at q
    obtain ⟨hh, q⟩ := q
    obtain ⟨st, _⟩ := it xs.length S' G kG.q sG hh
    refine .inl ⟨st (Nat.le_refl _), ?_⟩
    have rr : RR K H G S' (.n (.lst acc)) (.ref l) := ⟨l, rfl, hH, hn, va, eG, rd⟩
    exact po _ G _ S' rr sG (k1.trans kG) q
theorem s_lc (hc : X.calm = true) (hN : X.N.Nodup) (hi : PI X tg iter (tDI X.K wi)) (ok : BlkOk X.N X.env.scope scope own) (ht : ∀ i ∈ tnIds t, i ∈ own.map (·.2))
    (hg : ∀ (s : Shared) (H : Hp) (C : Addr) (cl : List (Str × Addr)) (fp : List Addr), PG (X.blk s H scope (compEnvC scope cl C X.env) fp) tg (tDG X.K t)) (htt : ∀ (s : Shared) (H : Hp) (C : Addr) (cl : List (Str × Addr)) (fp : List Addr), PTs (X.blk s H scope (compEnvC scope cl C X.env) fp) ifs (tDT X.K wt))
    (he : ∀ (s : Shared) (H : Hp) (C : Addr) (cl : List (Str × Addr)) (fp : List Addr), PE (X.blk s H scope (compEnvC scope cl C X.env) fp) elt (tD X.K we)) (hf : ∀ x, foldedSetIterable iter X.env x = pure x) :
    PE X (.ListComp elt [⟨tg, iter, ifs, 0⟩] scope pos) (tD X.K fun ρ S Q => wi ρ S fun xs hold S1 => lcL (lcStep t wt we (wipeE ρ (own.map (·.2)))) hold xs [] S1 fun ds S2 => Q (.n (.lst ds)) S2) :=
  (pe_lc hc hN hi ok hg htt he hf).weak fun σ H QV h => lc_link ht h
end
set_option maxRecDepth 100000
set_option maxHeartbeats 1000000
section
variable {X : Cx} {tg iter a b c e o : Expr} {wa wb wc we wo wi0 : Ev} {pos p p2 pos' : Pos}
/-! ### targets of an assignment -/
abbrev Gw := D → Env → Sto → (Env → Sto → Prop) → Prop
def tDGt (K : PySem.W.Frag) (w : Gw) : TG := fun v σ H QV => ∃ ρ S d Q, REnv K H σ ρ ∧ RS K H S ∧ RD K H d v ∧ w d ρ S Q ∧ ∀ σ' H' ρ' S', REnv K H' σ' ρ' → RS K H' S' → Kp S H S' H' → Q ρ' S' → QV σ' H'
theorem s_ttup {is : List Nat} (h : PG X a (tDG X.K (.tup is))) : PG X a (tDGt X.K fun d ρ S k => ∃ ds, d = .tup ds ∧ ds.length = is.length ∧ k (bindL is ds ρ) S) :=
  h.weak fun v σ H QV ⟨ρ, S, d, Q, re, hs, r, ⟨ds, e, hl, q⟩, po⟩ => by
    subst e
    exact ⟨ρ, S, .tup ds, fun ρ' => ρ' = bindL is ds ρ, re, hs, r, ⟨hl, rfl⟩, fun σ' ρ' re' er hw => po σ' H ρ' S re' hs Kp.refl (er ▸ q)⟩
/-! a store into a list or a dict -/
theorem set_dict (hu : X.A.units + 1 < cLine) : PSet X fun o i v H Q => ∃ a H', o = .ref a ∧ DPut H a i v H' ∧ Q H' := by
  intro pins s σ H o i v ov iv u Q I ro ri rv h
  obtain ⟨l, H', rfl, g, q⟩ := h
  cases ro
  exact d_setItem hu I g ri rv fun s' I' => ⟨H', I', q⟩
def rSetA : TSet := fun o i v H Q => rSetL o i v H Q ∨ ∃ a H', o = .ref a ∧ DPut H a i v H' ∧ Q H'
theorem set_all (hu : X.A.units + 1 < cLine) : PSet X rSetA := fun pins s σ H o i v ov iv u Q I ro ri rv h => by
  rcases h with h | h
  · exact set_list pins s σ H o i v ov iv u Q I ro ri rv h
  · exact set_dict hu pins s σ H o i v ov iv u Q I ro ri rv h
theorem RKv.put {K : PySem.W.Frag} {H : Hp} {κ : Type} [DecidableEq κ] {kvs : List (κ × D)} {ws : List (κ × V)} (r : RKv K H kvs ws) {k : κ} {d : D} {v : V} (rd : RD K H d v) : RKv K H (putD kvs k d) (putK ws k v) := by
  have hany : (kvs.any fun kv => decide (kv.1 = k)) = ws.any fun kv => decide (kv.1 = k) := by
    unfold RKv at r
    induction r with
    | nil => rfl
    | cons a t ih => rw [List.any_cons, List.any_cons, ih, a.1]
  unfold putD putK
  rw [hany]
  by_cases h : (ws.any fun kv => decide (kv.1 = k)) = true
  · rw [if_pos h, if_pos h]
    clear h hany
    unfold RKv at r ⊢
    induction r with
    | nil => exact .nil
    | @cons p q ps qs a t ih =>
      rw [List.map_cons, List.map_cons]
      refine .cons ?_ ih
      by_cases hk : q.1 = k
      · rw [if_pos (a.1.trans hk), if_pos hk]
        exact ⟨a.1, rd⟩
      · rw [if_neg (fun z => hk (a.1 ▸ z)), if_neg hk]
        exact a
  · rw [if_neg h, if_neg h]
    have app : ∀ {as : List (κ × D)} {bs : List (κ × V)}, RKv K H as bs → RKv K H (as ++ [(k, d)]) (bs ++ [(k, v)]) := fun {as bs} q => by
      unfold RKv at q ⊢
      induction q with
      | nil => exact .cons ⟨rfl, rd⟩ .nil
      | cons a t ih => exact .cons a ih
    exact app r
theorem setW_link {K : PySem.W.Frag} {S0 S : Sto} {H0 H Ha Hb : Hp} {x y : R} {d : D} {o i v : V} {Q : Sto → Prop} {QV : Hp → Prop} (r1 : RR K Ha H S x o) (r2 : RR K Hb H S y i) (rd : RD K H d v) (hs : RS K H S) (k : Kp S0 H0 S H) (h : setW x y d S Q)
    (po : ∀ H' S', RS K H' S' → Kp S0 H0 S' H' → Q S' → QV H') : rSetA o i v H QV := by
  have dict : ∀ {l : Addr} {kvs : List (Key × D)} {ky : Key}, o = .ref l → i = kV ky → S l = some (.dK kvs) → kvs.length < sizeLine → Q (up S l (.dK (putD kvs ky d))) → rSetA o i v H QV := fun {l kvs ky} eo ei e hz q => by
    subst eo ei
    obtain ⟨ws, e1, rk⟩ := hs l _ e
    have hn : S l ≠ none := by rw [e]; simp
    have el : kvs.length = ws.length := Paired.length rk
    have kk : Kp S H (up S l (.dK (putD kvs ky d))) (upd H l (.dK (putK ws ky v))) := Kp.wrote hs hn
    have ro : RO K (upd H l (.dK (putK ws ky v))) l (.dK (putD kvs ky d)) := ⟨_, upd_same, (rk.put rd).mono (RD.kp kk hs)⟩
    exact .inr ⟨l, _, rfl, DPut.k e1 (by rw [← el]; exact hz), po _ _ (RS.wrote hs hn ro) (k.trans kk) q⟩
  unfold setW at h
  split at h
  · rename_i l ii
    rcases h with ⟨xs, j, e, hj, q⟩ | ⟨kvs, e, hz, q⟩
    · cases (show o = V.ref _ from r1)
      cases (show i = V.int _ from r2)
      obtain ⟨ws, e1, d1⟩ := hs _ _ e
      have hn : S l ≠ none := by rw [e]; simp
      have kk : Kp S H (up S l (.lst (xs.set j d))) (upd H l (.lst (ws.set j v))) := Kp.wrote hs hn
      have ro : RO K (upd H l (.lst (ws.set j v))) l (.lst (xs.set j d)) := ⟨_, upd_same, RDs.kp kk hs _ _ (d1.set rd j)⟩
      exact .inl ⟨l, ws, ii, j, rfl, rfl, e1, by rw [← d1.length]; exact hj, po _ _ (RS.wrote hs hn ro) (k.trans kk) q⟩
    · exact dict (ky := .inl ii) r1 (show i = V.int ii from r2) e hz q
  · rename_i l ii
    obtain ⟨kvs, e, hz, q⟩ := h
    exact dict (ky := .inr ii) r1 (show i = V.str ii from r2) e hz q
  · rename_i l ds
    obtain ⟨kvs, ks, rfl, e, hz, q⟩ := h
    cases (show o = V.ref l from r1)
    obtain ⟨b, rfl, eb⟩ := tup_key (show RD K H (.tup (ks.map keyD)) i from r2)
    obtain ⟨ws, e1, rk⟩ := hs l _ e
    have hn : S l ≠ none := by rw [e]; simp
    have el : kvs.length = ws.length := Paired.length rk
    have kk : Kp S H (up S l (.dT (putD kvs ks d))) (upd H l (.dT (putK ws ks v))) := Kp.wrote hs hn
    have ro : RO K (upd H l (.dT (putK ws ks v))) l (.dT (putD kvs ks d)) := ⟨_, upd_same, (rk.put rd).mono (RD.kp kk hs)⟩
    exact .inr ⟨l, _, rfl, DPut.t e1 eb (by rw [← el]; exact hz), po _ _ (RS.wrote hs hn ro) (k.trans kk) q⟩
  · exact h.elim
theorem s_tsub (hu : X.A.units + 1 < cLine) {i : Expr} (hap : ∀ v, assign (.Subscript o i pos) X.env v = (do
      let ov ← holding [v] (eval o X.env)
      let iv ← holding [v, ov] (eval i X.env)
      standAt pos
      holding [v, ov, iv] (setItem ov iv v)
      release [v, ov, iv] [])) (ho : PE X o (tD X.K wo)) (hi : PE X i (tD X.K wi0)) :
    PG X (.Subscript o i pos) (tDGt X.K fun d ρ S k => wo ρ S fun x S1 => wi0 ρ S1 fun y S2 => setW x y d S2 fun S3 => k ρ S3) :=
  (pg_sub ho hi (set_all hu) hap).weak fun v σ H QV ⟨ρ, S, d, Q, re, hs, r, q, po⟩ => tD2 re hs q fun x y ov iv H2 S2 r1 r2 s2 k2 q =>
    setW_link r1 r2 (RD.kp k2 hs d v r) s2 k2 q fun H' S' s' k' q' => po σ H' ρ S' (re.kp k' hs) s' k' q'
/-! ### statements -/
theorem s_asg {w : Gw} (he : PE X e (tD X.K we)) (hg : PG X tg (tDGt X.K w)) (hs : swapsWithSole [tg] e pos.line X.env = pure false) (hw : swappedStores [tg] e X.env = pure none) (h1 : (assignEach [tg] X.env).map (·.2) = [assign tg X.env]) :
    PS X (.Assign [tg] e pos) (tDS X.K fun ρ S nd => we ρ S fun r S1 => mat r S1 fun d S2 => w d ρ S2 nd.nx) :=
  (ps_asg he hg hs hw h1).weak fun Dn σ H ⟨ρ, S, nd, re, hs, h, nx, _⟩ => tD1 re hs h fun r v H1 S1 r1 s1 k1 re1 q => by
    obtain ⟨d, S2, rd, s2, k2, q⟩ := mat_ok q r1 s1 k1
    exact ⟨ρ, S2, d, nd.nx, re1, s2, rd, q, fun σ' H' ρ' S' a b c d => nx σ' H' ρ' S' a b (k2.trans c) d⟩
theorem s_set {i : Nat} {x : Str} (hN : X.N.Nodup) (hi : X.N[i]? = some x) (hx : Loc X.env.scope x) (he : PE X e (tD X.K we)) (hs : swapsWith e (some (.Name x pos')) pos.line X.env = pure false) (hf : X.fn x = true ∨ X.env.scope.names.lookup x = some .local) :
    PS X (.Assign [.Name x pos'] e pos) (tDS X.K fun ρ S nd => we ρ S fun r S1 => mat r S1 fun d S2 => nd.nx (ρ.set i (some d)) S2) :=
  (ps_set hN hi hx he hs hf).weak fun Dn σ H ⟨ρ, S, nd, re, hs, h, nx, _⟩ => tD1 re hs h fun r v H1 S1 r1 s1 k1 re1 q => by
    obtain ⟨d, S2, rd, s2, k2, q⟩ := mat_ok q r1 s1 k1
    exact nx _ H1 _ S2 (re1.set rd) s2 k2 q
theorem s_setLc {i : Nat} {y : Str} {elt : Expr} {ifs : List Expr} {scope : Scope} {own : List (Str × Nat)} {t : TN} {wi : Env → Sto → (List D → (Sto → Prop) → Sto → Prop) → Prop} {wt : Env → Sto → (Bool → Sto → Prop) → Prop} {spos : Pos} (hc : X.calm = true) (hN : X.N.Nodup) (hy : X.N[i]? = some y) (hyl : X.env.scope.names.lookup y = some .local)
    (hsw : swapsWith (.ListComp elt [⟨tg, iter, ifs, 0⟩] scope pos) (some (.Name y p)) spos.line X.env = pure true) (hi : PI X tg iter (tDI X.K wi)) (ok : BlkOk X.N X.env.scope scope own) (ht : ∀ i ∈ tnIds t, i ∈ own.map (·.2))
    (hg : ∀ (s : Shared) (H : Hp) (C : Addr) (cl : List (Str × Addr)) (fp : List Addr), PG (X.blk s H scope (compEnvC scope cl C X.env) fp) tg (tDG X.K t)) (htt : ∀ (s : Shared) (H : Hp) (C : Addr) (cl : List (Str × Addr)) (fp : List Addr), PTs (X.blk s H scope (compEnvC scope cl C X.env) fp) ifs (tDT X.K wt))
    (he : ∀ (s : Shared) (H : Hp) (C : Addr) (cl : List (Str × Addr)) (fp : List Addr), PE (X.blk s H scope (compEnvC scope cl C X.env) fp) elt (tD X.K we)) (hf : ∀ x, foldedSetIterable iter X.env x = pure x) :
    PS X (.Assign [.Name y p] (.ListComp elt [⟨tg, iter, ifs, 0⟩] scope pos) spos) (tDS X.K fun ρ S nd => wi ρ S fun xs hold S1 => lcL (lcStep t wt we (wipeE ρ (own.map (·.2)))) hold xs [] S1 fun ds S2 => mat (.n (.lst ds)) S2 fun d S3 => nd.nx (ρ.set i (some d)) S3) :=
  (ps_setLc hc hN hy hyl hsw hi ok hg htt he hf).weak fun Dn σ H ⟨ρ, S, nd, re, hs, h, nx, _⟩ =>
    lc_link ht ⟨ρ, S, fun r S2 => mat r S2 fun d S3 => nd.nx (ρ.set i (some d)) S3, re, hs, h, fun v H1 r S1 r1 s1 k1 q => by
      obtain ⟨d, S2, rd, s2, k2, q⟩ := mat_ok q r1 s1 k1
      exact nx _ H1 _ S2 ((re.kp k2 hs).set rd) s2 k2 q⟩
theorem s_exp (he : PE X e (tD X.K we)) (hs : swapsWith e none pos.line X.env = pure false) : PS X (.Expr e pos) (tDS X.K fun ρ S nd => we ρ S fun _ S' => nd.nx ρ S') :=
  (ps_expr he hs).weak fun Dn σ H ⟨ρ, S, nd, re, hs, h, nx, _⟩ => tD1 re hs h fun r v H1 S1 r1 s1 k1 re1 q => nx σ H1 ρ S1 re1 s1 k1 q
theorem s_ret (he : PE X e (tD X.K we)) : PS X (.Return (some e) pos) (tDS X.K fun ρ S nd => we ρ S nd.rt) :=
  (ps_ret he).weak fun Dn σ H ⟨ρ, S, nd, re, hs, h, nx, rt, _⟩ => ⟨ρ, S, nd.rt, re, hs, h, rt⟩
abbrev Sw := Env → Sto → Nd → Prop
theorem s_nil : PSs X [] (tDS X.K fun ρ S nd => nd.nx ρ S) := pss_nil.weak fun Dn σ H ⟨ρ, S, nd, re, hs, h, nx, _⟩ => nx σ H ρ S re hs Kp.refl h
theorem s_cons {st : Stmt} {rest : List Stmt} {w1 w2 : Sw} (h1 : PS X st (tDS X.K w1)) (h2 : PSs X rest (tDS X.K w2)) : PSs X (st :: rest) (tDS X.K fun ρ S nd => w1 ρ S { nd with nx := fun ρ' S' => w2 ρ' S' nd }) :=
  (pss_cons h1 h2).weak fun Dn σ H ⟨ρ, S, nd, re, hs, h, nx, rt, bk, ct⟩ => ⟨ρ, S, { nd with nx := fun ρ' S' => w2 ρ' S' nd }, re, hs, h, fun σ1 H1 ρ1 S1 re1 s1 k1 q =>
    ⟨ρ1, S1, nd, re1, s1, q, fun σ' H' ρ' S' a b c d => nx σ' H' ρ' S' a b (k1.trans c) d, rt.sub k1, fun σ' H' ρ' S' a b c d => bk σ' H' ρ' S' a b (k1.trans c) d, fun σ' H' ρ' S' a b c d => ct σ' H' ρ' S' a b (k1.trans c) d⟩, rt, bk, ct⟩
theorem s_ife {wt : Env → Sto → (Bool → Sto → Prop) → Prop} {as bs : List Stmt} {w1 w2 : Sw} (hc : PT X c (tDT X.K wt)) (h1 : PSs X as (tDS X.K w1)) (h2 : PSs X bs (tDS X.K w2)) : PS X (.If c as bs pos) (tDS X.K fun ρ S nd => wt ρ S fun k S1 => if k = true then w1 ρ S1 nd else w2 ρ S1 nd) :=
  (ps_if hc h1 h2).weak fun Dn σ H ⟨ρ, S, nd, re, hs, h, nx, rt, bk, ct⟩ => tDT1 re hs h fun k H1 S1 s1 k1 re1 q => by
    cases k with
    | true => exact ⟨ρ, S1, nd, re1, s1, q, fun σ' H' ρ' S' a b c d => nx σ' H' ρ' S' a b (k1.trans c) d, rt.sub k1, fun σ' H' ρ' S' a b c d => bk σ' H' ρ' S' a b (k1.trans c) d, fun σ' H' ρ' S' a b c d => ct σ' H' ρ' S' a b (k1.trans c) d⟩
    | false => exact ⟨ρ, S1, nd, re1, s1, q, fun σ' H' ρ' S' a b c d => nx σ' H' ρ' S' a b (k1.trans c) d, rt.sub k1, fun σ' H' ρ' S' a b c d => bk σ' H' ρ' S' a b (k1.trans c) d, fun σ' H' ρ' S' a b c d => ct σ' H' ρ' S' a b (k1.trans c) d⟩
theorem s_whl {wt : Env → Sto → (Bool → Sto → Prop) → Prop} {body : List Stmt} {w1 : Sw} (hp : PassesOwn (model X.prog X.w) X.A X.env X.xe) (hc : PT X c (tDT X.K wt)) (h1 : PSs X body (tDS X.K w1)) :
    PS X (.While c body [] pos) (tDS X.K fun ρ S nd => ∃ J : Nat → Env → Sto → Prop, (∃ m, J m ρ S) ∧ ∀ m ρ' S', J m ρ' S' → wt ρ' S' fun k S1 =>
      if k = true then w1 ρ' S1 { nx := fun ρ2 S2 => ∃ m', m' < m ∧ J m' ρ2 S2, ct := fun ρ2 S2 => ∃ m', m' < m ∧ J m' ρ2 S2, bk := nd.nx, rt := nd.rt } else nd.nx ρ' S1) :=
  (ps_while hp hc h1).weak fun Dn σ H ⟨ρ, S, nd, re, hs, ⟨J, ⟨m0, j0⟩, turn⟩, nx, rt, bk, ct⟩ => by
    refine ⟨fun m σ' H' => ∃ ρ' S', REnv X.K H' σ' ρ' ∧ RS X.K H' S' ∧ Kp S H S' H' ∧ J m ρ' S', ⟨m0, ρ, S, re, hs, Kp.refl, j0⟩, fun m σ' H' ⟨ρ', S', re', hs', k', j⟩ => ?_⟩
    refine tDT1 re' hs' (turn m ρ' S' j) fun b H1 S1 s1 k1 re1 q => ?_
    cases b with
    | false => exact nx σ' H1 ρ' S1 re1 s1 (k'.trans k1) q
    | true =>
      refine ⟨fun σ2 H2 => ∃ m', m' < m ∧ ∃ ρ' S', REnv X.K H2 σ2 ρ' ∧ RS X.K H2 S' ∧ Kp S H S' H2 ∧ J m' ρ' S', fun σ2 H2 ⟨m', hm, w⟩ => ⟨m', hm, w⟩, ρ', S1, _, re1, s1, q, ?_, rt.sub (k'.trans k1), ?_, ?_⟩
      · exact fun σ2 H2 ρ2 S2 a b c ⟨m', hm, j2⟩ => ⟨m', hm, ρ2, S2, a, b, (k'.trans k1).trans c, j2⟩
      · exact fun σ2 H2 ρ2 S2 a b c d => nx σ2 H2 ρ2 S2 a b ((k'.trans k1).trans c) d
      · exact fun σ2 H2 ρ2 S2 a b c ⟨m', hm, j2⟩ => ⟨m', hm, ρ2, S2, a, b, (k'.trans k1).trans c, j2⟩
theorem s_for {t : TN} {wi : Env → Sto → (List D → (Sto → Prop) → Sto → Prop) → Prop} {body : List Stmt} {w1 : Sw} (hp : PassesOwn (model X.prog X.w) X.A X.env X.xe) (hc : X.calm = true) (hi : PI X tg iter (tDI X.K wi)) (hg : PG X tg (tDG X.K t)) (h1 : PSs X body (tDS X.K w1)) (hf : ∀ x, foldedSetIterable iter X.env x = pure x) :
    PS X (.For tg iter body [] pos) (tDS X.K fun ρ S nd => wi ρ S fun xs hold S1 => forL w1 t hold nd xs ρ S1) :=
  (ps_for hp hc hi hg h1 hf).weak fun Dn σ H ⟨ρ, S, nd, re, hs, h, nx, rt, bk, ct⟩ => by
    refine ⟨ρ, S, _, re, hs, h, fun J H1 xs hold S1 it hx s1 k1 q => ?_⟩
    refine ⟨fun i m σ' G => m = xs.length - i ∧ i ≤ xs.length ∧ ∃ ρ' S', REnv X.K G σ' ρ' ∧ RS X.K G S' ∧ Kp S1 H1 S' G ∧ forL w1 t hold nd (xs.drop i) ρ' S', ⟨xs.length, by simp, Nat.zero_le _, ρ, S1, re.kp k1 hs, s1, Kp.refl, q⟩, ?_⟩
    rintro i m σ' G ⟨rfl, hi, ρ', S', re', sG, kG, q⟩
    by_cases hlt : i < xs.length
    · rw [List.drop_eq_getElem_cons hlt] at q
      obtain ⟨hh, q⟩ := q
      obtain ⟨_, hgo⟩ := it i S' G kG.q sG hh
      obtain ⟨go, hy⟩ := hgo xs[i] (List.getElem?_eq_getElem hlt)
      refine .inr ⟨go, fun σ2 H2 => xs.length - (i + 1) < xs.length - i ∧ ∃ ρ' S', REnv X.K H2 σ2 ρ' ∧ RS X.K H2 S' ∧ Kp S1 H1 S' H2 ∧ forL w1 t hold nd (xs.drop (i + 1)) ρ' S', fun σ2 H2 ⟨hm, w⟩ => ⟨_, hm, rfl, hlt, w⟩, fun x G2 y => ?_⟩
      obtain ⟨rx, s2, k2⟩ := hy x G2 y
      have kk : Kp S1 H1 S' G2 := kG.trans k2
      refine ⟨ρ', S', xs[i], _, re'.kp k2 sG, s2, rx, q, fun σ3 ρ3 re3 q3 _ => ⟨ρ3, S', _, re3, s2, q3, ?_, rt.sub (k1.trans kk), ?_, ?_⟩⟩
      · exact fun σ4 H4 ρ4 S4 a b c d => ⟨by omega, ρ4, S4, a, b, kk.trans c, d⟩
      · exact fun σ4 H4 ρ4 S4 a b c d => nx σ4 H4 ρ4 S4 a b ((k1.trans kk).trans c) d
      · exact fun σ4 H4 ρ4 S4 a b c d => ⟨by omega, ρ4, S4, a, b, kk.trans c, d⟩
    · have e : i = xs.length := by omega
      subst e
      rw [List.drop_length] at q
      obtain ⟨hh, q⟩ := q
      obtain ⟨st, _⟩ := it xs.length S' G kG.q sG hh
      exact .inl ⟨st (Nat.le_refl _), nx σ' G ρ' S' re' sG (k1.trans kG) q⟩
end
set_option maxRecDepth 100000
set_option maxHeartbeats 1000000
theorem mergeK_app : ∀ (more kvs : List (Key × V)), (more.map (·.1)).Nodup → (∀ p ∈ more, ∀ q ∈ kvs, q.1 ≠ p.1) → mergeK kvs more = kvs ++ more
  | [], kvs, _, _ => by show kvs = _; rw [List.append_nil]
  | p :: r, kvs, hn, hd => by
    rw [List.map_cons, List.nodup_cons] at hn
    have e : putK kvs p.1 p.2 = kvs ++ [p] := by
      unfold putK
      rw [if_neg]
      intro h
      rw [List.any_eq_true] at h
      obtain ⟨q, hq, e⟩ := h
      exact hd p List.mem_cons_self q hq (of_decide_eq_true e)
    show mergeK (putK kvs p.1 p.2) r = _
    rw [e, mergeK_app r _ hn.2 ?_, List.append_assoc]
    · rfl
    · intro a ha q hq
      rw [List.mem_append] at hq
      rcases hq with hq | hq
      · exact hd a (List.mem_cons_of_mem _ ha) q hq
      · rw [List.mem_singleton] at hq
        subst hq
        exact fun e => hn.1 (e ▸ List.mem_map_of_mem ha)
/-- the pairs of a display, by data -/
def pairTs (K : PySem.W.Frag) : List Key → List Ev → List (TE × TE)
  | k :: ks, w :: ws => (tC (kV k), tD K w) :: pairTs K ks ws
  | _, _ => []
def evs : List Ev → Env → Sto → (List D → Sto → Prop) → Prop
  | [], _, S, Q => Q [] S
  | w :: ws, ρ, S, Q => w ρ S fun r S1 => mat r S1 fun d S2 => evs ws ρ S2 fun ds S3 => Q (d :: ds) S3
theorem disp_link {K : PySem.W.Frag} {σ : L2.St} {ρ : Env} : ∀ (ks : List Key) (ws : List Ev) {S : Sto} {H : Hp} {Q : List D → Sto → Prop} {QV : List (V × V) → Hp → Prop}, ks.length = ws.length → REnv K H σ ρ → RS K H S → evs ws ρ S Q →
    (∀ ds vs S2 H2, RDs K H2 ds vs → ds.length = ks.length → RS K H2 S2 → Kp S H S2 H2 → Q ds S2 → QV ((ks.zip vs).map fun kv => (kV kv.1, kv.2)) H2) → tPairs (pairTs K ks ws) σ H QV
  | [], [], S, H, Q, QV, _, re, hs, h, po => po [] [] S H (by simp [RDs]) rfl hs Kp.refl h
  | k :: ks, w :: ws, S, H, Q, QV, hl, re, hs, h, po => by
    show tPairs ((tC (kV k), tD K w) :: pairTs K ks ws) σ H QV
    unfold tPairs
    show tD K w σ H fun y H2 => tPairs (pairTs K ks ws) σ H2 fun ps H3 => QV ((kV k, y) :: ps) H3
    refine tD1 re hs h fun r v H1 S1 r1 s1 k1 re1 q => ?_
    obtain ⟨d, S2, rd, s2, k2, q⟩ := mat_ok q r1 s1 k1
    refine disp_link ks ws (by simpa using hl) re1 s2 q fun ds vs S3 H3 rds hl3 s3 k3 q3 => ?_
    exact po (d :: ds) (v :: vs) S3 H3 (by simp only [RDs]; exact ⟨v, vs, rfl, RD.kp k3 s2 d v rd, rds⟩) (by simpa using hl3) s3 (k2.trans k3) q3
theorem RKv.zip {K : PySem.W.Frag} {H : Hp} : ∀ {ks : List Key} {ds : List D} {vs : List V}, RDs K H ds vs → RKv K H (ks.zip ds) (ks.zip vs)
  | [], _, _, _ => .nil
  | _ :: _, [], vs, h => by simp only [RDs] at h; subst h; exact .nil
  | k :: ks, d :: ds, vs, h => by
    simp only [RDs] at h
    obtain ⟨v, r, rfl, h1, h2⟩ := h
    exact .cons ⟨rfl, h1⟩ (RKv.zip (ks := ks) h2)
/-! ### a dict that grows beside the store -/
section
variable {K : PySem.W.Frag} {S S1 : Sto} {H H1 : Hp} {l : Addr} {us ws : List (Key × V)}
theorem TqT.grownK {a : Addr} {vs : List V} (e : H l = some (.dK us)) (h : TqT H a vs) : TqT (upd H l (.dK ws)) a vs := by
  unfold TqT at *
  rw [upd_ne (fun z => by subst z; rw [e] at h; cases h)]
  exact h
theorem SqT.grownK {a : Addr} {vs : List V} (e : H l = some (.dK us)) (h : SqT K H a vs) : SqT K (upd H l (.dK ws)) a vs := by
  rcases h with (h | ⟨o, h⟩) | h
  · exact .inl (.inl (by rw [upd_ne (ne_of h e (fun z => nomatch z))]; exact h))
  · exact .inl (.inr ⟨o, by rw [upd_ne (ne_of h e (fun z => nomatch z))]; exact h⟩)
  · exact .inr h
theorem FzL.grownK {a : Addr} {vs : List V} (e : H l = some (.dK us)) (h : FzL K H a vs) : FzL K (upd H l (.dK ws)) a vs := by
  rcases h with ⟨o, h⟩ | h
  · exact .inl ⟨o, by rw [upd_ne (ne_of h e (fun z => nomatch z))]; exact h⟩
  · exact .inr h
mutual
theorem RD.grownK (e : H l = some (.dK us)) : ∀ (d : D) (v : V), RD K H d v → RD K (upd H l (.dK ws)) d v
  | .non, _, h => h
  | .bl _, _, h => h
  | .int _, _, h => h
  | .str _, _, h => h
  | .tup ds, _, h => by
    simp only [RD] at h ⊢
    obtain ⟨a, vs, q, h1, h2⟩ := h
    exact ⟨a, vs, q, TqT.grownK e h1, RDs.grownK e ds vs h2⟩
  | .fz ds, _, h => by
    simp only [RD] at h ⊢
    obtain ⟨a, vs, q, h1, h2⟩ := h
    exact ⟨a, vs, q, FzL.grownK e h1, RDs.grownK e ds vs h2⟩
  | .ref _, _, h => h
theorem RDs.grownK (e : H l = some (.dK us)) : ∀ (ds : List D) (vs : List V), RDs K H ds vs → RDs K (upd H l (.dK ws)) ds vs
  | [], _, h => h
  | d :: ds, _, h => by
    simp only [RDs] at h ⊢
    obtain ⟨v, r, q, h1, h2⟩ := h
    exact ⟨v, r, q, RD.grownK e d v h1, RDs.grownK e ds r h2⟩
end
theorem RS.grownK (e : H l = some (.dK us)) (hn : S l = none) (hs : RS K H S) : RS K (upd H l (.dK ws)) S := fun a o q => by
  have r := hs a o q
  have hne : a ≠ l := fun z => by subst z; rw [hn] at q; cases q
  cases o with
  | lst ds => obtain ⟨vs, e1, rd⟩ := r; exact ⟨vs, by rw [upd_ne hne]; exact e1, RDs.grownK e ds vs rd⟩
  | dK kvs => obtain ⟨vs, e1, rd⟩ := r; exact ⟨vs, by rw [upd_ne hne]; exact e1, rd.mono (RD.grownK e)⟩
  | dT kvs => obtain ⟨vs, e1, rd⟩ := r; exact ⟨vs, by rw [upd_ne hne]; exact e1, rd.mono (RD.grownK e)⟩
  | tb q => exact tab_but r hne (fun c q z => by rw [e] at z; unfold LamX.CodeO at z; cases z) fun b o hb e => by rw [upd_ne hb]; exact e
  | lkK kvs o ws => obtain ⟨e1, rd⟩ := r; exact ⟨by rw [upd_ne hne]; exact e1, rd.mono (RD.grownK e)⟩
theorem REnv.grownK {σ : L2.St} {ρ : Env} (e : H l = some (.dK us)) (h : REnv K H σ ρ) : REnv K (upd H l (.dK ws)) σ ρ := ⟨h.1, fun i d q => let ⟨v, e', r⟩ := h.2 i d q; ⟨v, e', RD.grownK e d v r⟩⟩
end
section
variable {X : Cx} {pos : Pos}
theorem s_dnew : PE X (.Dict [] [] pos) (tD X.K fun _ S Q => Q (.n (.dK [])) S) := pe_dnewK.weak fun σ H QV ⟨ρ, S, Q, re, hs, q, po⟩ p hp =>
  po _ _ (.n (.dK [])) S ⟨p, rfl, hp, hs.no hp, [], upd_same, .nil⟩ (hs.laid hp) (Kp.laid hp) q
theorem s_disp {keys : List (Option Expr)} {values : List Expr} {ks : List Key} {ws : List Ev} (h : PPs X pos keys values (pairTs X.K ks ws)) (hall : keys.all (·.isSome) = true) (hl : keys.length = values.length) (h0 : keys ≠ []) (h15 : keys.length ≤ 15) (hkl : ks.length = ws.length) (hkn : ks.Nodup) (hk15 : ks.length ≤ 15) :
    PE X (.Dict keys values pos) (tD X.K fun ρ S Q => evs ws ρ S fun ds S' => Q (.n (.dK (ks.zip ds))) S') :=
  (pe_disp h hall hl h0 h15).weak fun σ H QV ⟨ρ, S, Q, re, hs, q, po⟩ p hp => by
    have k0 : Kp S H S (upd H p (.dK [])) := Kp.laid hp
    refine disp_link ks ws hkl (re.kp k0 hs) (hs.laid hp) q fun ds vs S2 H2 rd hl2 s2 k2 q2 => ?_
    have e2 := k2.keep p (.dK []) upd_same (hs.no hp)
    have hlen : (ks.zip vs).length ≤ 15 := by rw [List.length_zip]; omega
    refine ⟨e2.1, ks.zip vs, rfl, hlen, ?_⟩
    have hm : mergeK [] (ks.zip vs) = ks.zip vs := by
      rw [mergeK_app _ _ ?_ (by simp), List.nil_append]
      rw [List.map_fst_zip (by rw [← rd.length]; omega)]
      exact hkn
    rw [hm]
    have rdz := RKv.zip (ks := ks) rd
    have rr : RR X.K H (upd H2 p (.dK (ks.zip vs))) S2 (.n (.dK (ks.zip ds))) (.ref p) := ⟨p, rfl, hp, e2.2, _, upd_same, rdz.mono (RD.grownK e2.1)⟩
    exact po _ _ _ S2 rr (s2.grownK e2.1 e2.2) ((k0.trans k2).grown hp) q2
end
end DP
set_option maxRecDepth 100000
set_option maxHeartbeats 1000000
namespace PySem
open Sem (wp)
open AutoSeq1 (wpAny_loadPart')
section
variable {prog : Program} {w : World} {A : Around} {E : Value → Shared → Prop} {s : Shared}
theorem nextOf_tup_item {it l : Addr} {i : Nat} {items} {x : Value} {Q : Value → Shared → Prop} (hit : s.heap.IsTupleIter it l i)
    (hl : s.heap.IsTuple l items) (hx : items[i]? = some x)
    (hQ : ∀ h', h'.IsTupleIter it l (i + 1) → Heap.SameBut it s.heap h' → Q x { s with heap := h' }) :
    wpAny (model prog w) A (Builtin.SmallTypes.nextOf (.ref it)) Q E s := by
  obtain ⟨o, ho, hc, hd⟩ := id hit
  obtain ⟨ol, hol, _, nl, hdl⟩ := hl
  unfold Builtin.SmallTypes.nextOf
  refine wpAny_bind (wpAny_callSpecial?_slot (name := Str.ofString "__next__") hit.typeIs F.slot_tuple_iterator_next
    (wpAny_call_entry F.slot_tuple_iterator_next hit.typeIs F.entry_tuple_iterator_next ?_ (F.args_tuple_iterator_next_1 _)))
  show wpAny _ _ (field (.ref it) 0 >>= _) _ _ s
  refine wpAny_bind (wpAny_field ho hd (x := .ref l) rfl ?_)
  show wpAny _ _ (if (Value.ref l == Value.none) = true then _ else _) _ _ s
  rw [if_neg (show ¬ ((Value.ref l == Value.none) = true) from Bool.false_ne_true)]
  show wpAny _ _ (field (.ref it) 1 >>= _) _ _ s
  refine wpAny_bind (wpAny_field ho hd (x := .int i 0) rfl ?_)
  show wpAny _ _ (seqItems? (.ref l) >>= _) _ _ s
  refine wpAny_bind (wpAny_seqItems hol hdl ?_)
  simp only [Int.toNat_natCast, hx]
  refine wpAny_bind (wpAny_setField ho hd (by simp) (wpAny_pure ⟨x, rfl, wpAny_pure (hQ _ ?_ (Heap.SameBut.update ..))⟩))
  exact ⟨_, Heap.get?_update_self _ ho (Obj.isFreed_of_fields (Obj.data_mapFields hd _)), (Obj.cls_mapFields ..).trans hc, by
    rw [Obj.data_mapFields hd]; simp [rawInt]⟩
theorem nextOf_tup_end {it l : Addr} {i : Nat} {items} {Q : Value → Shared → Prop} (hh : A.handled = none)
    (hit : s.heap.IsTupleIter it l i) (hl : s.heap.IsTuple l items) (hx : items[i]? = none)
    (hE : ∀ h' e, Heap.ExtBut it s.heap h' → (∃ o, h'.get? e = some o ∧ o.cls = .type "StopIteration") → E (.ref e) { s with heap := h' }) :
    wpAny (model prog w) A (Builtin.SmallTypes.nextOf (.ref it)) Q E s := by
  obtain ⟨o, ho, hc, hd⟩ := id hit
  obtain ⟨ol, hol, _, nl, hdl⟩ := hl
  unfold Builtin.SmallTypes.nextOf
  refine wpAny_bind (wpAny_callSpecial?_slot (name := Str.ofString "__next__") hit.typeIs F.slot_tuple_iterator_next
    (wpAny_call_entry F.slot_tuple_iterator_next hit.typeIs F.entry_tuple_iterator_next ?_ (F.args_tuple_iterator_next_1 _)))
  show wpAny _ _ (field (.ref it) 0 >>= _) _ _ s
  refine wpAny_bind (wpAny_field ho hd (x := .ref l) rfl ?_)
  show wpAny _ _ (if (Value.ref l == Value.none) = true then _ else _) _ _ s
  rw [if_neg (show ¬ ((Value.ref l == Value.none) = true) from Bool.false_ne_true)]
  show wpAny _ _ (field (.ref it) 1 >>= _) _ _ s
  refine wpAny_bind (wpAny_field ho hd (x := .int i 0) rfl ?_)
  show wpAny _ _ (seqItems? (.ref l) >>= _) _ _ s
  refine wpAny_bind (wpAny_seqItems hol hdl ?_)
  simp only [Int.toNat_natCast, hx]
  refine wpAny_bind (wpAny_rule (wpAny_bind (wpAny_setField ho hd (by simp) ?_)))
  show wpAny _ _ (newExc (.type "StopIteration") [] >>= _) _ _ _
  refine wpAny_bind ?_
  simp only [newExc, newTuple]
  refine wpAny_bind (wpAny_newObj_type ?_ (by size_fits))
  refine wpAny_bind (m := firstArgMember _ _) (wpAny_of_eq (a := Value.none) (by first | rfl | (simp only [firstArgMember]; rfl)) ?_)
  refine wpAny_newObj_type ?_ (by size_fits)
  simp only [raiseNew]
  refine wpAny_bind (wpAny_handled ?_)
  first | rw [show A.in1.handled = none from hh] | rw [hh]
  refine wpAny_bind (wpAny_pure (wpAny_throw ?_))
  exact hE _ _ (((Heap.SameBut.update ..).extBut.push _).push _) ⟨_, Heap.get?_push_size _ rfl, rfl⟩
end
theorem IsTuple_at {h h' : Heap} {a : Addr} {items : Array Value} (x : h.IsTuple a items) (k : ∀ o, h.get? a = some o → h'.get? a = some o) : h'.IsTuple a items := let ⟨o, e, r⟩ := x; ⟨o, k o e, r⟩
theorem IsTupleIter_at {h h' : Heap} {a t : Addr} {i : Nat} (x : h.IsTupleIter a t i) (k : ∀ o, h.get? a = some o → h'.get? a = some o) : h'.IsTupleIter a t i := let ⟨o, e, r⟩ := x; ⟨o, k o e, r⟩
theorem Draws.tup {prog : Program} {w : World} {A : Around} (hh : A.handled = none) (it l : Addr) (hne : l ≠ it) (items : Array Value) :
    Draws prog w A it [it, l] items.size (fun i v => items[i]? = some v) (fun i h => h.IsTupleIter it l i ∧ h.IsTuple l items) where
  live := fun _ _ st => let ⟨o, ho, _⟩ := st.1; ⟨o, ho⟩
  frame := fun _ _ _ st hk => ⟨IsTupleIter_at st.1 fun o e => hk it (by simp) o e, IsTuple_at st.2 fun o e => hk l (by simp) o e⟩
  item := fun i s Q E hi st hQ => by
    refine nextOf_tup_item st.1 st.2 (x := items[i]) (by simp [hi]) fun h' hit' hs' => ?_
    exact hQ _ h' s.toks (by simp [hi]) ⟨hit', st.2.extBut hs'.extBut hne⟩ hs'
  done := fun s Q E st hE => nextOf_tup_end hh st.1 st.2 (by simp) hE
theorem meets_enumerate_newT (l : Addr) (items : Array Value) (n : Nat) (dct : Option Addr) (sl : Array (Option Value)) :
    Meets (Builtin.«enumerate.__new__» ⟨[.type "enumerate", .ref l], []⟩) (fun _ R s => s.heap.get? l = some { cls := .type "tuple", dict := dct, data := .seq items n, slots := sl } ∧
      R (.ok (.ret (.ref (s.heap.push { cls := .type "tuple_iterator", data := .fields #[.ref l, .int 0 0] }).objs.size)))
        { s with heap := (s.heap.push { cls := .type "tuple_iterator", data := .fields #[.ref l, .int 0 0] }).push { cls := .type "enumerate", data := .fields #[.none, .bool false, .ref s.heap.objs.size, rawInt 0, .none, .none] } }) :=
  .of_wp fun prog w A R s h => by
    obtain ⟨hp, g, d, tk, os⟩ := s; obtain ⟨hl, h⟩ := h
    have hsub := sub_enumerate
    have hL : Heap.IsTuple (Shared.heap ⟨hp, g, d, tk, os⟩) l items := ⟨_, hl, rfl, n, rfl⟩
    wp_walk using wpAny_loadPart' hl
    refine wpAny_stack_any fun st => wpAny_pure ?_
    split
    · rename_i c _ _ _ _ _
      cases (c == Value.type "enumerate")
      · wp_walk using wpAny_loadPart' hl, wpAny_pyIter_tuple hL
        exact ⟨_, rfl, h⟩
      · wp_walk using wpAny_loadPart' hl, wpAny_pyIter_tuple hL
        exact ⟨_, rfl, h⟩
    · wp_walk using wpAny_loadPart' hl, wpAny_pyIter_tuple hL
      exact ⟨_, rfl, h⟩
section
variable {prog : Program} {w : World} {A : Around} {E : Value → Shared → Prop} {s : Shared}
theorem call_enumerate_tup {l : Addr} {items : Array Value} {Q : Value → Shared → Prop} (hL : s.heap.IsTuple l items)
    (h : ∀ h', IsEnum h' (s.heap.objs.size + 1) s.heap.objs.size 0 .none → h'.IsTupleIter s.heap.objs.size l 0 → h'.objs.size = s.heap.objs.size + 2 →
      (∀ b o, s.heap.get? b = some o → h'.get? b = some o) → Q (.ref (s.heap.objs.size + 1)) { s with heap := h' }) :
    wpAny (model prog w) A (call (.type "enumerate") [.ref l]) Q E s := by
  obtain ⟨⟨c, dct, dt, sl⟩, hl, hc, n, hd⟩ := hL
  replace hc : c = .type "tuple" := hc
  replace hd : dt = .seq items n := hd
  subst hc hd
  refine callType_new F.called_enumerate (by decide) (F.typeCall_enumerate_1 _) (F.newCall_enumerate_1 _) (fun obj => F.args_object_init_2 obj _) F.entry_enumerate_new
    (meets_enumerate_newT l items n dct sl) ⟨hl, ?_⟩
  have hz : (s.heap.push { cls := .type "tuple_iterator", data := .fields #[.ref l, .int 0 0] }).objs.size = s.heap.objs.size + 1 := Heap.size_push ..
  show _ ∧ _
  rw [hz]
  have he : IsEnum ((s.heap.push { cls := .type "tuple_iterator", data := .fields #[.ref l, .int 0 0] }).push
      { cls := .type "enumerate", data := .fields #[.none, .bool false, .ref s.heap.objs.size, rawInt 0, .none, .none] }) (s.heap.objs.size + 1) s.heap.objs.size 0 .none := by
    have := Heap.get?_push_size (s.heap.push { cls := .type "tuple_iterator", data := .fields #[.ref l, .int 0 0] })
      (o := { cls := .type "enumerate", data := .fields #[.none, .bool false, .ref s.heap.objs.size, rawInt 0, .none, .none] }) rfl
    rw [hz] at this; exact this
  refine ⟨⟨_, he, rfl⟩, h _ he ⟨_, Heap.get?_push_of_some _ (Heap.get?_push_size _ rfl), rfl, rfl⟩ (by rw [Heap.size_push, hz]) fun b o x => Heap.get?_push_of_some _ (Heap.get?_push_of_some _ x)⟩
end
end PySem
namespace DP
open PySem PySem.Spec PyProof.Rows L2
/-- the tuple at a, each item in a new pair -/
def IteT (K : PySem.W.Frag) (a : Addr) : It :=
  ⟨fun i H => ∃ (xs : List V) (x : V), SqT K H a xs ∧ xs[i]? = some x, fun i H v H' => ∃ T x, v = .ref T ∧ H T = none ∧ H' = upd H T (.tup [.int (i : Nat), x]) ∧ ∀ xs, SqT K H a xs → xs[i]? = some x, fun i H => ∃ xs : List V, SqT K H a xs ∧ xs.length ≤ i⟩
theorem turn_enumT {P : Program} {w : World} {K : PySem.W.Frag} {elts : List Expr} {kk : Nat} {tpos : Pos} (a e it : Addr) :
    Turn P w K (.Tuple elts kk tpos) (IteT K a) [e, it] e (fun i h => (∃ old, IsEnum h e it ((i : Nat) : Int) old) ∧ h.IsTupleIter it a i ∧ e ≠ it ∧ a ≠ it ∧ a ≠ e) where
  mem := by simp
  obj := fun i h st b hb => by
    obtain ⟨⟨old, he⟩, ⟨o, ho, hc, hd⟩, _⟩ := st
    have e' : b = e ∨ b = it := by simpa using hb
    rcases e' with z | z
    · rw [z]; exact ⟨_, he, fun v q => nomatch q⟩
    · rw [z]; exact ⟨o, ho, fun v q => by rw [hd] at q; cases q⟩
  keep := fun i h h' st k => let ⟨⟨old, he⟩, hi, hne⟩ := st; ⟨⟨old, k e (by simp) _ he⟩, IsTupleIter_at hi fun o q => k it (by simp) o q, hne⟩
  item := by
    intro X hP hw hK hc i pins s σ H E I hf st hg
    subst hP hw hK
    obtain ⟨⟨old, he⟩, hit, hne, hai, hae⟩ := st
    obtain ⟨xs, x, hq, hx⟩ := hg
    obtain ⟨its, rv, p, hz⟩ := I.tuple hq
    obtain ⟨u, hu, ru⟩ := rv.get hx
    have hel : e < s.heap.objs.size := Heap.lt_size he
    have hil : it < s.heap.objs.size := by obtain ⟨_, q, _⟩ := hit; exact Heap.lt_size q
    have hlt : i < its.toArray.size := by
      have := (List.getElem?_eq_some_iff.mp hu).1
      simpa using this
    have hp : s.heap.IsTuple a its.toArray := p
    refine wpAny_pyNext_enum_itemD (Draws.tup (A := X.A.in1) (show X.A.in1.handled = none from I.ok.hd hc) it a hai its.toArray) he ⟨hit, hp⟩ hlt hne (by simp [hne, Ne.symm hae]) fun x' h' tk hP' ho hst' hT hsz hk => ?_
    have ex : x' = u := by
      have e1 : its.toArray[i]? = some u := by simpa using hu
      exact Option.some.inj (hP'.symm.trans e1)
    subst ex
    refine ⟨_, rfl, wpAny_letOwnedTupleGo_enum (s := { s with heap := h', toks := tk + 1 }) ho fun h'' he' sb => ?_⟩
    have hT2 : h''.get? s.heap.objs.size = some { cls := .type "tuple", data := .seq #[.int i tk, x'] } := (sb.2 _ (Nat.ne_of_gt hel)).trans hT
    have new : ObjOk X.prog X.w (upd H s.heap.objs.size (.tup [.int (i : Nat), x])) h'' s.heap.objs.size (.tup [.int (i : Nat), x]) :=
      ⟨by show 2 ≤ sizeLine; decide, [.int i tk, x'], .cons ⟨_, rfl⟩ (.cons ru .nil), ⟨_, hT2, rfl, _, rfl⟩⟩
    have I1 : Inv X pins σ (upd H s.heap.objs.size (.tup [.int (i : Nat), x])) { s with heap := h'', toks := tk + 1 } :=
      I.turnedNew (ch := [e, it]) (fun b ob hb q => (sb.2 b (fun z => hb (by simp [z]))).trans (hk b ob (fun z => hb (by simp [z])) (fun z => hb (by simp [z])) q)) hf (Nat.le_refl _) new
    refine ⟨.ref s.heap.objs.size, _, I1, rfl, ⟨_, x, rfl, I.hok.fresh (Nat.le_refl _), rfl, fun ys hy => by rw [I.tuple_inj hy hq]; exact hx⟩, ⟨⟨x', ?_⟩, IsTupleIter_at hst'.1 fun o q => (sb.2 it (Ne.symm hne)).trans q, hne, hai, hae⟩, fun b hb => ?_⟩
    · have e1 : ((i + 1 : Nat) : Int) = (i : Int) + 1 := by omega
      rw [e1]; exact he'
    · have hb' : b < s.heap.objs.size := by
        have e' : b = e ∨ b = it := by simpa using hb
        rcases e' with z | z
        · rw [z]; exact hel
        · rw [z]; exact hil
      rw [upd_ne (Nat.ne_of_lt hb')]
      exact (hf b hb).1
  done := by
    intro X hP hw hK hc i pins s σ H E I hf st hg
    subst hP hw hK
    obtain ⟨⟨old, he⟩, hit, hne, hai, hae⟩ := st
    obtain ⟨xs, hq, hx⟩ := hg
    obtain ⟨its, rv, p, hz⟩ := I.tuple hq
    obtain ⟨f0, f1, f2, f3, f4, f5⟩ := hf it (by simp)
    have hl := rv.length
    have hp : s.heap.IsTuple a its.toArray := p
    have D := Draws.tup (prog := X.prog) (w := X.w) (A := X.A.in1) (show X.A.in1.handled = none from I.ok.hd hc) it a hai its.toArray
    have hT : s.TypeIs (.ref e) "enumerate" := ⟨_, he, rfl⟩
    unfold pyNext
    refine wpAny_bind (wpAny_attempt (wpAny_callSpecial?_slot (name := Str.ofString "__next__") hT F.slot_enumerate_next
      (wpAny_call_entry F.slot_enumerate_next hT F.entry_enumerate_next ?_ (F.args_enumerate_next_1 _))))
    show wpAny _ _ (field (.ref e) 2 >>= _) _ _ _
    refine wpAny_bind (wpAny_field he rfl (x := .ref it) rfl ?_)
    refine wpAny_bind (nextOf_tup_end (show X.A.in1.handled = none from I.ok.hd hc) hit hp (by simp; omega) fun h' x he' hx' => ?_)
    obtain ⟨o, ho, hc'⟩ := hx'
    refine wpAny_bind (wpAny_isInstance (T := "StopIteration") (b := true) ⟨o, ho, hc'⟩ isSubtype_stop ?_)
    exact wpAny_pure ⟨rfl, I.turned (t' := s.toks) (fun b o hb q => he' b o hb q) f0 f1 f3 f4 f5⟩
  self := fun A i s Q E st h => let ⟨⟨_, he⟩, _⟩ := st; wpAny_pyIter_enum he h
def iEnumA (K : PySem.W.Frag) (ta : TA) : TI := fun σ H R => ta σ H fun vs H1 => ∃ a xs, vs = [.ref a] ∧ (SqL K H1 a xs ∧ R (Ite K a) H1 ∨ SqT K H1 a xs ∧ R (IteT K a) H1)
theorem pi_enumA {X : Cx} {e : Expr} {ta : TA} {p pos tpos : Pos} {elts : List Expr} {kk : Nat} (hg : Gl X "enumerate") (hm : X.mg "enumerate" = none) (ha : PA X [e] ta) (hs : starEach [e] X.env = [(false, eval e X.env)] := by rfl) :
    PI X (.Tuple elts kk tpos) (.Call (.Name "enumerate" p) [e] [] pos) (iEnumA X.K ta) := by
  refine ⟨fun pins s σ H R I h => ?_⟩
  refine Call_ (ld_blt I hg hm boot_enumerate (PyProof.Rows.callWith_type1 (thn (ha.run pos pins s σ H _ I h) fun us s1 ⟨vs, H1, I1, r1, q1⟩ => ?_) hs rfl))
  obtain ⟨a, xs, ex, q⟩ := q1
  subst ex
  cases r1 with
  | cons r rr =>
    cases rr
    cases r
    have fp : ∀ b ∈ [s1.heap.objs.size + 1, s1.heap.objs.size], FpOk X pins H1 b := fun b hb => by
      have e' : b = s1.heap.objs.size + 1 ∨ b = s1.heap.objs.size := by simpa using hb
      have hle : s1.heap.objs.size ≤ b := by
        rcases e' with z | z
        · rw [z]; exact Nat.le_add_right _ _
        · rw [z]; exact Nat.le_refl _
      exact I1.fpOk hle (I1.hok.fresh hle)
    rcases q with ⟨hq, q⟩ | ⟨hq, q⟩
    · obtain ⟨its, rv, p', hz⟩ := I1.list hq
      refine call_enumerate_list p'.isList fun h' he hit hsz hk => wpAny_pyIter_enum he ?_
      have I2 : Inv X pins σ H1 { s1 with heap := h' } := I1.kept (t' := s1.toks) hk
      exact ⟨s1.heap.objs.size + 1, [s1.heap.objs.size + 1, s1.heap.objs.size], _, _, H1, rfl, I2, turn_enum a (s1.heap.objs.size + 1) s1.heap.objs.size, ⟨⟨.none, he⟩, hit, Nat.succ_ne_self _⟩, fp, q⟩
    · obtain ⟨its, rv, p', hz⟩ := I1.tuple hq
      have hp : s1.heap.IsTuple a its.toArray := p'
      have la : a < s1.heap.objs.size := by obtain ⟨o, eo, _⟩ := hp; exact Heap.lt_size eo
      refine call_enumerate_tup hp fun h' he hit hsz hk => wpAny_pyIter_enum he ?_
      have I2 : Inv X pins σ H1 { s1 with heap := h' } := I1.kept (t' := s1.toks) hk
      exact ⟨s1.heap.objs.size + 1, [s1.heap.objs.size + 1, s1.heap.objs.size], _, _, H1, rfl, I2, turn_enumT a (s1.heap.objs.size + 1) s1.heap.objs.size, ⟨⟨.none, he⟩, hit, Nat.succ_ne_self _, Nat.ne_of_lt la, Nat.ne_of_lt (Nat.lt_succ_of_lt la)⟩, fp, q⟩
set_option maxRecDepth 100000
set_option maxHeartbeats 1000000
section
variable {K : PySem.W.Frag} {S : Sto} {H0 H : Hp} {xs : List D} {hold : Sto → Prop}
theorem numD_len (xs : List D) : (numD xs).length = xs.length := by simp [numD]
theorem ItOk.num {a : Addr} (f : ∀ S' H', Kq H0 S H S' H' → RS K H' S' → hold S' → ∃ vs, SqL K H' a vs ∧ RDs K H' xs vs) : ItOk K H0 S H (Ite K a) (numD xs) hold := fun i S' H' k hs ho => by
  obtain ⟨vs, sq, rd⟩ := f S' H' k hs ho
  refine ⟨fun hi => ⟨vs, sq, by rw [← rd.length, ← numD_len]; exact hi⟩, fun d e => ?_⟩
  have e' : ∃ d0, xs[i]? = some d0 ∧ d = .tup [.int (i : Nat), d0] := by
    unfold numD at e
    rw [List.getElem?_map, List.getElem?_zipIdx] at e
    cases q : xs[i]? with
    | none => rw [q] at e; cases e
    | some d0 => rw [q] at e; exact ⟨d0, rfl, by simpa using e.symm⟩
  obtain ⟨d0, e0, rfl⟩ := e'
  obtain ⟨v, ev, rv⟩ := rd.get e0
  refine ⟨⟨vs, v, sq, ev⟩, fun x H2 ⟨T, y, ex, hT, eH, hy⟩ => ?_⟩
  subst ex eH
  have e1 : v = y := Option.some.inj (ev.symm.trans (hy vs sq))
  subst e1
  have kk : Kp S' H' S' (upd H' T (.tup [.int (i : Nat), v])) := Kp.laid hT
  refine ⟨?_, hs.laid hT, kk⟩
  simp only [RD]
  refine ⟨T, [.int (i : Nat), v], rfl, upd_same, ?_⟩
  simp only [RDs]
  exact ⟨_, _, rfl, rfl, _, _, rfl, RD.kp kk hs _ _ rv, rfl⟩
theorem ItOk.numT {a : Addr} (f : ∀ S' H', Kq H0 S H S' H' → RS K H' S' → hold S' → ∃ vs, SqT K H' a vs ∧ RDs K H' xs vs) : ItOk K H0 S H (IteT K a) (numD xs) hold := fun i S' H' k hs ho => by
  obtain ⟨vs, sq, rd⟩ := f S' H' k hs ho
  refine ⟨fun hi => ⟨vs, sq, by rw [← rd.length, ← numD_len]; exact hi⟩, fun d e => ?_⟩
  have e' : ∃ d0, xs[i]? = some d0 ∧ d = .tup [.int (i : Nat), d0] := by
    unfold numD at e
    rw [List.getElem?_map, List.getElem?_zipIdx] at e
    cases q : xs[i]? with
    | none => rw [q] at e; cases e
    | some d0 => rw [q] at e; exact ⟨d0, rfl, by simpa using e.symm⟩
  obtain ⟨d0, e0, rfl⟩ := e'
  obtain ⟨v, ev, rv⟩ := rd.get e0
  refine ⟨⟨vs, v, sq, ev⟩, fun x H2 ⟨T, y, ex, hT, eH, hy⟩ => ?_⟩
  subst ex eH
  have e1 : v = y := Option.some.inj (ev.symm.trans (hy vs sq))
  subst e1
  have kk : Kp S' H' S' (upd H' T (.tup [.int (i : Nat), v])) := Kp.laid hT
  refine ⟨?_, hs.laid hT, kk⟩
  simp only [RD]
  refine ⟨T, [.int (i : Nat), v], rfl, upd_same, ?_⟩
  simp only [RDs]
  exact ⟨_, _, rfl, rfl, _, _, rfl, RD.kp kk hs _ _ rv, rfl⟩
end
section
variable {X : Cx} {tg a : Expr} {wa : Ev} {pos p tpos : Pos} {elts : List Expr} {kk : Nat}
theorem s_enum (hg : Gl X "enumerate") (hm : X.mg "enumerate" = none) (ha : PE X a (tD X.K wa)) (hn : starEach [a] X.env = [(false, eval a X.env)]) :
    PI X (.Tuple elts kk tpos) (.Call (.Name "enumerate" p) [a] [] pos) (tDI X.K fun ρ S Kc => wa ρ S fun r S1 => enumW r S1 fun xs hold => Kc (numD xs) hold S1) := by
  refine (pi_enumA hg hm (pa_cons ha pa_nil hn) hn).weak fun σ H R ⟨ρ, S, Q, re, hs, h, po⟩ => tD1 re hs h fun r v H1 S1 r1 s1 k1 re1 q => ?_
  unfold enumW at q
  split at q
  · obtain ⟨hz, q⟩ := q
    have r1 : RD X.K H1 (.tup _) v := r1
    simp only [RD] at r1
    obtain ⟨l, vs, rfl, sq, rd⟩ := r1
    have sq := sq.sq (K := X.K)
    exact ⟨l, vs, rfl, .inr ⟨sq, po _ H1 _ _ S1 (.numT fun S' H' k hs' _ => ⟨vs, SqT.kq k s1 sq, RDs.kq k s1 _ vs rd⟩) (by rw [numD_len]; exact hz) s1 k1 q⟩⟩
  · obtain ⟨hz, q⟩ := q
    have r1 : RD X.K H1 (.fz _) v := r1
    simp only [RD] at r1
    obtain ⟨l, vs, rfl, sq, rd⟩ := r1
    exact ⟨l, vs, rfl, .inl ⟨sq.sq, po _ H1 _ _ S1 (.num fun S' H' k hs' _ => ⟨vs, (FzL.kq k s1 sq).sq, RDs.kq k s1 _ vs rd⟩) (by rw [numD_len]; exact hz) s1 k1 q⟩⟩
  · obtain ⟨hz, q⟩ := q
    obtain ⟨l, rfl, h0, hn, ho⟩ := r1
    have ho' := ho
    obtain ⟨vs, e, rd⟩ := ho
    exact ⟨l, vs, rfl, .inl ⟨.inl (.inl e), po _ H1 _ _ S1 (.num fun S' H' k hs' _ => RO.lst_kq k s1 hn h0 ho') (by rw [numD_len]; exact hz) s1 k1 q⟩⟩
  · obtain ⟨xs, e, hz, q⟩ := q
    cases (show v = V.ref _ from r1)
    obtain ⟨vs, e1, rd⟩ := s1 _ _ e
    refine ⟨_, vs, rfl, .inl ⟨.inl (.inl e1), po _ H1 _ _ S1 (.num fun S' H' k hs' ho => ?_) (by rw [numD_len]; exact hz) s1 k1 q⟩⟩
    obtain ⟨ws, e2, rd2⟩ := hs' _ _ ho
    exact ⟨ws, .inl (.inl e2), rd2⟩
  · exact q.elim
end
/-! ### two fors -/
section
variable {X : Cx} {tg iter elt tg1 iter1 : Expr} {ifs ifs1 : List Expr} {scope : Scope} {own : List (Str × Nat)} {pos : Pos} {t t1 : TN} {wi wi1 : Env → Sto → (List D → (Sto → Prop) → Sto → Prop) → Prop} {wt wt1 : Env → Sto → (Bool → Sto → Prop) → Prop} {we : Ev}
def lcIn (t1 : TN) (wt1 : Env → Sto → (Bool → Sto → Prop) → Prop) (we : Ev) (vs1 : List Nat) (ρ1 : Env) (y : D) (acc : List D) (S5 : Sto) (k1 : List D → Sto → Prop) : Prop :=
  bindN t1 y (wipeE ρ1 vs1) fun ρ2 => wt1 ρ2 S5 fun b S6 => if b = true then we ρ2 S6 fun r S7 => mat r S7 fun d S8 => acc.length < sizeLine ∧ k1 (acc ++ [d]) S8 else k1 acc S6
def lcOut (t : TN) (wt : Env → Sto → (Bool → Sto → Prop) → Prop) (wi1 : Env → Sto → (List D → (Sto → Prop) → Sto → Prop) → Prop) (t1 : TN) (wt1 : Env → Sto → (Bool → Sto → Prop) → Prop) (we : Ev) (vs1 : List Nat) (ρ : Env) (x : D) (acc : List D) (S2 : Sto) (k : List D → Sto → Prop) : Prop :=
  bindN t x ρ fun ρ1 => wt ρ1 S2 fun b S3 => if b = true then wi1 ρ1 S3 fun ys hold1 S4 => accL (lcIn t1 wt1 we vs1 ρ1) hold1 ys acc S4 k else k acc S3
theorem wipe_same {σ σ' : L2.St} {vs : List Nat} (h : L2.wipe σ' vs = L2.wipe (L2.wipe σ vs) vs) : L2.wipe σ' vs = L2.wipe σ vs := by
  rw [h]
  exact List.ext_getElem? fun j => by
    simp only [wipe_get, wipe_length]
    by_cases hj : j ∈ vs
    · simp [hj]
    · simp [hj]
theorem Kq.kp {H0 H H' H2 : Hp} {S S' S2 : Sto} (a : Kq H0 S H S' H') (b : Kp S' H' S2 H2) : Kq H0 S H S2 H2 :=
  ⟨fun c o h h' z => let ⟨x, y⟩ := a.keep c o h h' z; b.keep c o x y, fun c h => a.dom c (b.dom c h), fun c h => a.sdom c (b.sdom c h)⟩
theorem Kq.grown {H0 H H' : Hp} {S S' : Sto} {l : Addr} {vs : List V} {us : List V} (k : Kq H0 S H S' H') (h0 : H0 l ≠ none) (e : H' l = some (.lst us)) : Kq H0 S H S' (upd H' l (.lst vs)) :=
  ⟨fun a o h h' z => by
    obtain ⟨x, y⟩ := k.keep a o h h' z
    refine ⟨?_, y⟩
    have hne : a ≠ l := fun q => by
      subst q
      rcases z with z | z
      · exact h0 z
      · rw [e] at x
        exact z _ (Option.some.inj x).symm
    rw [upd_ne hne]
    exact x, fun a h => k.dom a (by
      by_cases z : a = l
      · subst z; rw [upd_same] at h; cases h
      · rw [upd_ne z] at h; exact h), k.sdom⟩
theorem lc2_link {K : PySem.W.Frag} {σ : L2.St} {H : Hp} {QV : VK} {vs vs1 : List Nat} (ht : ∀ i ∈ tnIds t, i ∈ vs) (ht1 : ∀ i ∈ tnIds t1, i ∈ vs1)
    (h : tD K (fun ρ S Q => wi ρ S fun xs hold S1 => accL (lcOut t wt wi1 t1 wt1 we vs1 (wipeE ρ vs)) hold xs [] S1 fun ds S2 => Q (.n (.lst ds)) S2) σ H QV) :
    tLc2 (tDI K wi) (tDG K t) (tDT K wt) (tDI K wi1) (tDG K t1) (tDT K wt1) (tD K we) vs vs1 σ H QV := by
  obtain ⟨ρ, S, Q, re, hs, h, po⟩ := h
  refine ⟨ρ, S, _, re, hs, h, fun J H1 xs hold S1 it hx s1 k1 q => fun l hl => ?_⟩
  have hl0 : S1 l = none := s1.no hl
  have hH : H l = none := k1.dom l hl
  refine ⟨fun i m G => m = xs.length - i ∧ i ≤ xs.length ∧ ∃ S' acc va, G l = some (.lst va) ∧ RDs K G acc va ∧ S' l = none ∧ RS K G S' ∧ Kp S1 H1 S' G ∧ accL (lcOut t wt wi1 t1 wt1 we vs1 (wipeE ρ vs)) hold (xs.drop i) acc S' fun ds S2 => Q (.n (.lst ds)) S2,
    ⟨xs.length, by simp, Nat.zero_le _, S1, [], [], upd_same, by simp [RDs], hl0, s1.laid hl, Kp.laid hl, q⟩, ?_⟩
  rintro i m G ⟨rfl, hi, S', acc, va, eG, rd, hn, sG, kG, q⟩
  by_cases hlt : i < xs.length
  · rw [List.drop_eq_getElem_cons hlt] at q
    obtain ⟨hh, q⟩ := q
    obtain ⟨_, hgo⟩ := it i S' G kG.q sG hh
    obtain ⟨go, hy⟩ := hgo xs[i] (List.getElem?_eq_getElem hlt)
    refine .inr ⟨go, fun G' => xs.length - (i + 1) < xs.length - i ∧ ∃ S' acc va, G' l = some (.lst va) ∧ RDs K G' acc va ∧ S' l = none ∧ RS K G' S' ∧ Kp S1 H1 S' G' ∧ accL (lcOut t wt wi1 t1 wt1 we vs1 (wipeE ρ vs)) hold (xs.drop (i + 1)) acc S' fun ds S2 => Q (.n (.lst ds)) S2,
      fun G' ⟨hm, w⟩ => ⟨xs.length - (i + 1), hm, rfl, hlt, w⟩, fun x G2 y => ?_⟩
    obtain ⟨rx, s2, k2⟩ := hy x G2 y
    have e2 : G2 l = some (.lst va) := (k2.keep l _ eG hn).1
    have kk : Kp S1 H1 S' G2 := kG.trans k2
    have reW : REnv K G2 (L2.wipe σ vs) (wipeE ρ vs) := ((re.kp k1 hs).kp kk s1).wipe vs
    replace q : bindN t xs[i] (wipeE ρ vs) fun ρ1 => wt ρ1 S' fun b S3 => if b = true then wi1 ρ1 S3 fun ys hold1 S4 => accL (lcIn t1 wt1 we vs1 ρ1) hold1 ys acc S4 fun acc' S' => accL (lcOut t wt wi1 t1 wt1 we vs1 (wipeE ρ vs)) hold (xs.drop (i + 1)) acc' S' fun ds S2 => Q (.n (.lst ds)) S2
      else accL (lcOut t wt wi1 t1 wt1 we vs1 (wipeE ρ vs)) hold (xs.drop (i + 1)) acc S3 fun ds S2 => Q (.n (.lst ds)) S2 := q
    refine ⟨wipeE ρ vs, S', xs[i], _, reW, s2, rx, q, fun σ3 ρ3 re3 q3 hw => ⟨wipe_same (hw vs ht), ?_⟩⟩
    refine tDT1 re3 s2 q3 fun b G3 S3 s3 k3 re4 q4 => ?_
    have e3 : G3 l = some (.lst va) ∧ S3 l = none := k3.keep l _ e2 hn
    have rd3 : RDs K G3 acc va := (RDs.kp k2 sG acc va rd).kp k3 s2
    have e3' := e3
    cases b with
    | false => exact ⟨by omega, S3, acc, va, e3.1, rd3, e3.2, s3, kk.trans k3, q4⟩
    | true =>
      refine ⟨ρ3, S3, _, re4, s3, q4, fun J1 H4 ys hold1 S4 it1 hy1 s4 k4 q5 => ?_⟩
      have e4 : H4 l = some (.lst va) ∧ S4 l = none := k4.keep l _ e3.1 e3.2
      have k14 : Kp S1 H1 S4 H4 := (kk.trans k3).trans k4
      refine ⟨fun j k G => k = ys.length - j ∧ j ≤ ys.length ∧ ∃ S' acc va, G l = some (.lst va) ∧ RDs K G acc va ∧ S' l = none ∧ RS K G S' ∧ Kq G3 S4 H4 S' G ∧ Kp S1 H1 S' G ∧ REnv K G σ3 ρ3 ∧ accL (lcIn t1 wt1 we vs1 ρ3) hold1 (ys.drop j) acc S' fun acc' S' => accL (lcOut t wt wi1 t1 wt1 we vs1 (wipeE ρ vs)) hold (xs.drop (i + 1)) acc' S' fun ds S2 => Q (.n (.lst ds)) S2,
        ⟨ys.length, by simp, Nat.zero_le _, S4, acc, va, e4.1, RDs.kp k4 s3 _ _ rd3, e4.2, s4, Kp.refl.q, k14, re4.kp k4 s3, q5⟩, ?_⟩
      rintro j k G ⟨rfl, hj, S', acc, va, eG, rd, hn, sG, kG, kG1, reG, q⟩
      by_cases hlt1 : j < ys.length
      · rw [List.drop_eq_getElem_cons hlt1] at q
        obtain ⟨hh, q⟩ := q
        obtain ⟨_, hgo⟩ := it1 j S' G kG sG hh
        obtain ⟨go, hy⟩ := hgo ys[j] (List.getElem?_eq_getElem hlt1)
        refine .inr ⟨go, fun G' => ys.length - (j + 1) < ys.length - j ∧ ∃ S' acc va, G' l = some (.lst va) ∧ RDs K G' acc va ∧ S' l = none ∧ RS K G' S' ∧ Kq G3 S4 H4 S' G' ∧ Kp S1 H1 S' G' ∧ REnv K G' σ3 ρ3 ∧ accL (lcIn t1 wt1 we vs1 ρ3) hold1 (ys.drop (j + 1)) acc S' fun acc' S' => accL (lcOut t wt wi1 t1 wt1 we vs1 (wipeE ρ vs)) hold (xs.drop (i + 1)) acc' S' fun ds S2 => Q (.n (.lst ds)) S2,
          fun G' ⟨hm, w⟩ => ⟨ys.length - (j + 1), hm, rfl, hlt1, w⟩, fun x G2 y => ?_⟩
        obtain ⟨rx, s2, k2⟩ := hy x G2 y
        have e2 : G2 l = some (.lst va) := (k2.keep l _ eG hn).1
        have reW : REnv K G2 (L2.wipe σ3 vs1) (wipeE ρ3 vs1) := (reG.kp k2 sG).wipe vs1
        replace q : bindN t1 ys[j] (wipeE ρ3 vs1) fun ρ2 => wt1 ρ2 S' fun b S6 => if b = true then we ρ2 S6 fun r S7 => mat r S7 fun d S8 => acc.length < sizeLine ∧ accL (lcIn t1 wt1 we vs1 ρ3) hold1 (ys.drop (j + 1)) (acc ++ [d]) S8 fun acc' S' => accL (lcOut t wt wi1 t1 wt1 we vs1 (wipeE ρ vs)) hold (xs.drop (i + 1)) acc' S' fun ds S2 => Q (.n (.lst ds)) S2
          else accL (lcIn t1 wt1 we vs1 ρ3) hold1 (ys.drop (j + 1)) acc S6 fun acc' S' => accL (lcOut t wt wi1 t1 wt1 we vs1 (wipeE ρ vs)) hold (xs.drop (i + 1)) acc' S' fun ds S2 => Q (.n (.lst ds)) S2 := q
        refine ⟨wipeE ρ3 vs1, S', ys[j], _, reW, s2, rx, q, fun σ4 ρ4 re4 q3 hw => ⟨wipe_same (hw vs1 ht1), ?_⟩⟩
        refine tDT1 re4 s2 q3 fun b G5 S3 s3 k3 re5 q4 => ?_
        have e3 : G5 l = some (.lst va) ∧ S3 l = none := k3.keep l _ e2 hn
        have rd3 : RDs K G5 acc va := (RDs.kp k2 sG acc va rd).kp k3 s2
        have re33 : REnv K G5 σ3 ρ3 := (reG.kp k2 sG).kp k3 s2
        cases b with
        | false => exact ⟨by omega, S3, acc, va, e3.1, rd3, e3.2, s3, (kG.kp k2).kp k3, (kG1.trans k2).trans k3, re33, q4⟩
        | true =>
          refine tD1 re5 s3 q4 fun r v G4 S4' r4 s4' k4' re6 q5 => ?_
          obtain ⟨d, S5, rdv, s5, k5, hz, q6⟩ := mat_ok q5 r4 s4' k4'
          have e5 : G4 l = some (.lst va) ∧ S5 l = none := k5.keep l _ e3.1 e3.2
          have rdA : RDs K G4 acc va := rd3.kp k5 s3
          have h4l : H4 l ≠ none := by rw [e4.1]; simp
          refine ⟨va, e5.1, by rw [← rdA.length]; exact hz, by omega, S5, acc ++ [d], va ++ [v], upd_same, RDs.grown e5.1 _ _ (rdA.append (.one rdv)), e5.2, s5.grown e5.1 e5.2, (((kG.kp k2).kp k3).kp k5).grown (by rw [e3'.1]; simp) e5.1, (((kG1.trans k2).trans k3).trans k5).grown hl, (re33.kp k5 s3).grown e5.1, q6⟩
      · have e : j = ys.length := by omega
        subst e
        rw [List.drop_length] at q
        obtain ⟨hh, q⟩ := q
        obtain ⟨st, _⟩ := it1 ys.length S' G kG sG hh
        exact .inl ⟨st (Nat.le_refl _), by omega, S', acc, va, eG, rd, hn, sG, kG1, q⟩
  · have e : i = xs.length := by omega
    subst e
    rw [List.drop_length] at q
    obtain ⟨hh, q⟩ := q
    obtain ⟨st, _⟩ := it xs.length S' G kG.q sG hh
    refine .inl ⟨st (Nat.le_refl _), ?_⟩
    have rr : RR K H G S' (.n (.lst acc)) (.ref l) := ⟨l, rfl, hH, hn, va, eG, rd⟩
    exact po _ G _ S' rr sG (k1.trans kG) q
theorem s_lc2 (hc : X.calm = true) (hN : X.N.Nodup) (hi : PI X tg iter (tDI X.K wi)) (ok : BlkOk X.N X.env.scope scope own) (ht : ∀ i ∈ tnIds t, i ∈ own.map (·.2)) (ht1 : ∀ i ∈ tnIds t1, i ∈ own.map (·.2))
    (hg : ∀ (s : Shared) (H : Hp) (C : Addr) (cl : List (Str × Addr)) (fp : List Addr), PG (X.blk s H scope (compEnvC scope cl C X.env) fp) tg (tDG X.K t)) (htt : ∀ (s : Shared) (H : Hp) (C : Addr) (cl : List (Str × Addr)) (fp : List Addr), PTs (X.blk s H scope (compEnvC scope cl C X.env) fp) ifs (tDT X.K wt))
    (hi1 : ∀ (s : Shared) (H : Hp) (C : Addr) (cl : List (Str × Addr)) (fp : List Addr), PI (X.blk s H scope (compEnvC scope cl C X.env) fp) tg1 iter1 (tDI X.K wi1))
    (hg1 : ∀ (s : Shared) (H : Hp) (C : Addr) (cl : List (Str × Addr)) (fp : List Addr), PG (X.blk s H scope (compEnvC scope cl C X.env) fp) tg1 (tDG X.K t1)) (htt1 : ∀ (s : Shared) (H : Hp) (C : Addr) (cl : List (Str × Addr)) (fp : List Addr), PTs (X.blk s H scope (compEnvC scope cl C X.env) fp) ifs1 (tDT X.K wt1))
    (he : ∀ (s : Shared) (H : Hp) (C : Addr) (cl : List (Str × Addr)) (fp : List Addr), PE (X.blk s H scope (compEnvC scope cl C X.env) fp) elt (tD X.K we)) (hf : ∀ x, foldedSetIterable iter X.env x = pure x) (hf1 : ∀ env x, foldedSetIterable iter1 env x = pure x) :
    PE X (.ListComp elt [⟨tg, iter, ifs, 0⟩, ⟨tg1, iter1, ifs1, 0⟩] scope pos) (tD X.K fun ρ S Q => wi ρ S fun xs hold S1 => accL (lcOut t wt wi1 t1 wt1 we (tnIds t1) (wipeE ρ (own.map (·.2)))) hold xs [] S1 fun ds S2 => Q (.n (.lst ds)) S2) :=
  (pe_lc2 (vs1 := tnIds t1) hc hN hi ok ht1 hg htt hi1 hg1 htt1 he hf hf1).weak fun σ H QV h => lc2_link ht (fun _ h => h) h
end
end DP
set_option maxRecDepth 100000
namespace DP.Sets
open PySem PySem.Spec PyProof.Rows L2
section
variable {κ : Type} [DecidableEq κ] [BEq κ] [LawfulBEq κ]
theorem put1_len (l : List κ) (k : κ) : (put1 l k).length = if l.any (· == k) then l.length else l.length + 1 := by
  unfold put1
  cases h : l.any (· == k) <;> simp
theorem met_le (val : Nat → κ) : ∀ i, (met val i).length ≤ i
  | 0 => Nat.le_refl _
  | i + 1 => by
    have := met_le val i
    rw [met, put1_len]
    split <;> omega
end
section
variable {prog : Program} {w : World} {A : Around} {fin : Result → Shared → Prop} {it : Addr} {fp wr : List Addr} {G : Array GenState → Array GenState → Prop} {n : Nat} {P : Nat → Value → Prop} {St : Nat → Shared → Prop}
variable {κ : Type} [DecidableEq κ] [BEq κ] [LawfulBEq κ] {knd : KeyKind prog w κ}
/-- the set at b holds what was met in i turns -/
abbrev Holds (knd : KeyKind prog w κ) (b : Addr) (val : Nat → κ) (i : Nat) (h : Heap) : Prop := h.SetOf knd b (fun x => (met val i).any (· == x)) (met val i).length
theorem Holds.moved {b : Addr} {val : Nat → κ} {i : Nat} {z z' : Shared} (hw : b ∉ wr) (m : Moved wr G z z') (h : Holds knd b val i z.heap) : Holds knd b val i z'.heap := by
  obtain ⟨o, es, ep, tb, e, r⟩ := h
  exact ⟨o, es, ep, tb, m.heap b _ hw e, r⟩
end
section
variable {prog : Program} {w : World} {A : Around} {E : Value → Shared → Prop} {z : Shared} {κ : Type} [DecidableEq κ] [BEq κ] [LawfulBEq κ] {knd : KeyKind prog w κ}
/-- the heap with a new empty set -/
abbrev bare (h : Heap) (led : Bool) : Heap := h.push { cls := .type "set", dict := none, data := .set #[] 0 (.fresh 0 0 led) }
end
end DP.Sets
set_option maxRecDepth 100000
namespace DP
open PySem PySem.Spec PyProof.Rows L2
end DP
set_option maxRecDepth 100000
set_option maxHeartbeats 1000000
namespace DP.Key
open PySem PySem.Spec PyProof.Rows L2 PySem.W
end DP.Key
namespace DP
open PySem PySem.Spec PyProof.Rows L2
end DP
set_option maxRecDepth 100000
namespace DP
open PySem L2
/-- the last parameter of the def x: its name, what stands for it where it is left out -/
structure DCall where
  x : Str
  kn : Str
  dv : Option D
def dnB (l : List DCall) (x : Str) : Bool := l.any fun q => q.x == x
/-- how such a def binds -/
structure KBD (K : PySem.W.Frag) (fd : FuncData) (ps : List Str) (q : DCall) : Prop where
  left : ∀ d, q.dv = some d → ∃ v u, Binds K fd ps [u] ∧ RelV v u ∧ ∀ H, RD K H d v
  named : ∀ (s : Shared) (us : List Value) (w : Value), K.In s.heap → (us ++ [w]).length = ps.length → BindsTo s fd ⟨us, [(q.kn, w)]⟩ (ps.zip (us ++ [w]))
theorem RDs.snoc {K : PySem.W.Frag} {H : Hp} {d : D} {v : V} (h : RD K H d v) : ∀ {ds : List D} {vs : List V}, RDs K H ds vs → RDs K H (ds ++ [d]) (vs ++ [v])
  | [], vs, r => by
    simp only [RDs] at r
    subst r
    simp only [List.nil_append, RDs]
    exact ⟨v, [], rfl, h, rfl⟩
  | e :: ds, vs, r => by
    simp only [RDs] at r
    obtain ⟨w, ws, rfl, h1, h2⟩ := r
    simp only [List.cons_append, RDs]
    exact ⟨w, ws ++ [v], rfl, h1, RDs.snoc h h2⟩
theorem wEs_snoc {F : Fw} {e : E} : ∀ (xs : List E) (ρ : Env) (S : Sto) (Q : List D → Sto → Prop), wEs F (xs ++ [e]) ρ S Q = wEs F xs ρ S fun ds S1 => wE F e ρ S1 fun r S2 => mat r S2 fun d S3 => Q (ds ++ [d]) S3
  | [], ρ, S, Q => by simp only [List.nil_append, wEs]
  | x :: xs, ρ, S, Q => by simp only [List.cons_append, wEs, wEs_snoc xs]
section
variable {X : Cx} {cx : CXT} {k : Nat} {f : Addr} {fd : FuncData} {ps : List Str} {sp : Sp} {E : XK} {x kn : Str} {p pos kpos : Pos} {a e : Expr} {es : List Expr}
theorem go_any {pins : List (Addr × Obj)} {σ : L2.St} {H : Hp} {s : Shared} {Q : VK} {us bs : List Value} {kws : List (Str × Value)} {vs : List V} (F : FnG X.prog X.w X.K X.mg X.base cx k f fd ps sp) (hg : X.A.guards = some []) (hr : Room k X.A) (bt : BindsTo s fd ⟨us, kws⟩ (ps.zip bs)) (hx : Passes cx X E)
    (I : Inv X pins σ H s) (r : Vals vs bs) (h : sp vs H Q E) : wpAny (model X.prog X.w) X.A (call (.ref f) us kws) (EP X pins σ Q) X.xe s := by
  have run := F.go X.A X.stack s H ⟨us, kws⟩ bs vs Q E hg hr I.env0 bt r h
  refine wpAny_call (codeAny_mono run fun res s' hq => ?_)
  match res, hq with
  | .ok (.ret u), hq => exact I.after hq
  | .ok .next, hq => exact hq.elim
  | .ok .brk, hq => exact hq.elim
  | .ok .cont, hq => exact hq.elim
  | .error e, hq => exact hx pins σ H s e s' I hq
theorem vals_snoc {vs : List V} {us : List Value} {v : V} {u : Value} (r : Vals vs us) (h : RelV v u) : Vals (vs ++ [v]) (us ++ [u]) := r.append (.cons h .nil)
/-- the last one left out -/
theorem pe_goD {u : Value} {v : V} (F : FnG X.prog X.w X.K X.mg X.base cx k f fd ps sp) (hg : X.A.guards = some []) (hr : Room k X.A) (hb : Binds X.K fd ps [u]) (rv : RelV v u) (hx : Passes cx X E) (hgl : Gl X x) (hm : X.mg x = some (.ref f)) (hk : PySem.W.keepIn X.K (.ref f) = true)
    {t : TA} (ha : PA X (a :: es) t) (hd : (x == ("__debug__" : Str)) = false) (hn : starEach (a :: es) X.env = (false, eval a X.env) :: starEach es X.env) (hpl : (backTo pos (starEach es X.env)).any (·.1) = false) :
    PE X (.Call (.Name x p) (a :: es) [] pos) (fun σ H Q => t σ H fun vs H1 => sp (vs ++ [v]) H1 Q E) :=
  ⟨fun pins s σ H Q I h => wpAny_Call_Name_kw (ld_glob I hgl hm (PySem.W.callWith_K (h₀ := X.base) I.ok.mod.kin hk (thn (ha.run pos pins s σ H _ I h) fun us s1 ⟨vs, H1, I1, r, q⟩ => ⟨I1.kIn, by
    have hl : (us ++ [u]).length = ps.length := by
      rw [← F.many _ _ _ _ q, List.length_append, List.length_append, ← r.length]; rfl
    exact go_any F hg hr (hb s1 us I1.kIn hl) hx I1 (vals_snoc r rv) q⟩) hn hpl) hd)⟩
/-- the last one by its name -/
theorem pe_goK {te : TE} (F : FnG X.prog X.w X.K X.mg X.base cx k f fd ps sp) (hg : X.A.guards = some []) (hr : Room k X.A) (hb : ∀ (s : Shared) (us : List Value) (w : Value), X.K.In s.heap → (us ++ [w]).length = ps.length → BindsTo s fd ⟨us, [(kn, w)]⟩ (ps.zip (us ++ [w]))) (hx : Passes cx X E) (hgl : Gl X x) (hm : X.mg x = some (.ref f)) (hk : PySem.W.keepIn X.K (.ref f) = true)
    {t : TA} (ha : PA X (a :: es) t) (he : PE X e te) (hd : (x == ("__debug__" : Str)) = false) (hn : starEach (a :: es) X.env = (false, eval a X.env) :: starEach es X.env) (hpl : (backTo pos (starEach (a :: es) X.env)).any (·.1) = false) :
    PE X (.Call (.Name x p) (a :: es) [⟨some kn, e, kpos⟩] pos) (fun σ H Q => t σ H fun vs H1 => te σ H1 fun z H2 => sp (vs ++ [z]) H2 Q E) := by
  refine ⟨fun pins s σ H Q I h => ?_⟩
  refine wpAny_Call_Name_kw (ld_glob I hgl hm ?_ hd)
  refine PySem.W.callWith_KW (h₀ := X.base) I.ok.mod.kin hk rfl (thn (ha.run pos pins s σ H _ I h) fun us s1 ⟨vs, H1, I1, r, q⟩ => ?_) (by rw [hpl]; rfl) hn
  refine thn ((pk_cons (nm := some kn) (kpos := kpos) he pk_nil).run pos pins s1 σ H1 (fun zs H2 => match zs with | [z] => sp (vs ++ [z]) H2 Q E | _ => False) I1 q) fun ws s2 ⟨zs, H2, I2, rz, q2⟩ => ?_
  match zs, q2 with
  | [z], q2 =>
    cases rz with
    | @cons _ u0 _ _ rz rn =>
      cases rn
      have hl : (us ++ [u0]).length = ps.length := by
        rw [← F.many _ _ _ _ q2, List.length_append, List.length_append, ← r.length]; rfl
      exact ⟨I2.kIn, go_any F hg hr (hb s2 us u0 I2.kIn hl) hx I2 (vals_snoc r rz) q2⟩
variable {wes : Env → Sto → (List D → Sto → Prop) → Prop} {we : Ev} {w : List D → Sto → PR → Prop}
theorem s_callD {u : Value} {v : V} {d : D} (F : FnG X.prog X.w X.K X.mg X.base CX0 k f fd ps (spD X.K w)) (hg : X.A.guards = some []) (hr : Room k X.A) (hb : Binds X.K fd ps [u]) (rv : RelV v u) (rd0 : ∀ H, RD X.K H d v) (hgl : Gl X x) (hm : X.mg x = some (.ref f)) (hk : PySem.W.keepIn X.K (.ref f) = true)
    (ha : PA X (a :: es) (tDA X.K wes)) (hd : (x == ("__debug__" : Str)) = false) (hn : starEach (a :: es) X.env = (false, eval a X.env) :: starEach es X.env) (hpl : (backTo pos (starEach es X.env)).any (·.1) = false) :
    PE X (.Call (.Name x p) (a :: es) [] pos) (tD X.K fun ρ S Q => wes ρ S fun ds S1 => w (ds ++ [d]) S1 Q) :=
  (pe_goD F hg hr hb rv (E := E0) pass0 hgl hm hk ha hd hn hpl).weak fun σ H QV ⟨ρ, S, Q, re, hs, h, po⟩ => ⟨ρ, S, _, re, hs, h, fun vs H1 ds S1 rd s1 k1 q => ⟨ds ++ [d], S1, Q, RDs.snoc (rd0 H1) rd, s1, q, po.sub k1⟩⟩
theorem s_callK (F : FnG X.prog X.w X.K X.mg X.base CX0 k f fd ps (spD X.K w)) (hg : X.A.guards = some []) (hr : Room k X.A) (hb : ∀ (s : Shared) (us : List Value) (w : Value), X.K.In s.heap → (us ++ [w]).length = ps.length → BindsTo s fd ⟨us, [(kn, w)]⟩ (ps.zip (us ++ [w]))) (hgl : Gl X x) (hm : X.mg x = some (.ref f)) (hk : PySem.W.keepIn X.K (.ref f) = true)
    (ha : PA X (a :: es) (tDA X.K wes)) (he : PE X e (tD X.K we)) (hd : (x == ("__debug__" : Str)) = false) (hn : starEach (a :: es) X.env = (false, eval a X.env) :: starEach es X.env) (hpl : (backTo pos (starEach (a :: es) X.env)).any (·.1) = false) :
    PE X (.Call (.Name x p) (a :: es) [⟨some kn, e, kpos⟩] pos) (tD X.K fun ρ S Q => wes ρ S fun ds S1 => we ρ S1 fun r S2 => mat r S2 fun d S3 => w (ds ++ [d]) S3 Q) :=
  (pe_goK F hg hr hb (E := E0) pass0 hgl hm hk ha he hd hn hpl).weak fun σ H QV ⟨ρ, S, Q, re, hs, h, po⟩ => ⟨ρ, S, _, re, hs, h, fun vs H1 ds S1 rd s1 k1 q => tD1 (re.kp k1 hs) s1 q fun r v H2 S2 r2 s2 k2 re2 q2 => by
    obtain ⟨d, S3, rd3, s3, k3, q3⟩ := mat_ok q2 r2 s2 k2
    exact ⟨ds ++ [d], S3, Q, RDs.snoc rd3 (RDs.kp k3 s1 _ _ rd), s3, q3, po.sub (k1.trans k3)⟩⟩
end
end DP
set_option maxRecDepth 100000
set_option maxHeartbeats 1000000
namespace PySem
open Sem (wp)
theorem F.args_sum2 (a b : Value) : argsOk "sum" ⟨[a, b], []⟩ := by unfold argsOk; kernel_rfl
section
variable {prog : Program} {w : World} {A : Around} {R : Result → Shared → Prop} {I : Addr} {fp wr : List Addr} {n : Nat} {P : Nat → Value → Prop} {St : Nat → Heap → Prop}
theorem sum_loopC (W : Walks prog w A.in1 I fp wr n P St) (ad : Nat → Addr) (its : Nat → List Value) (cn : Nat → Nat) (hval : ∀ i v, P i v → v = .ref (ad i)) (S : Addr) (hSf : S ∉ fp)
    (hwS : ∀ b ∈ wr, b < S) (hw : ∀ i < n, ad i ∉ wr ∧ ad i ≠ S) :
    ∀ (k i : Nat) (s : Shared) (T : Addr) (tot : List Value) (c ct : Nat), n - i = k → i ≤ n → St i s.heap → s.heap.get? S = some { cls := .type "list", dict := none, data := .seq #[.ref T] c, slots := #[] } →
      T ∉ wr → T ≠ S → IsL s.heap T tot.toArray ct → (∀ j, j < n → IsL s.heap (ad j) (its j).toArray (cn j)) → tot.length + (((List.range n).drop i).map fun j => (its j).length).sum ≤ sizeLine →
      (∀ h' tk T' ct', (∀ b o, b ∉ wr → b ≠ S → s.heap.get? b = some o → h'.get? b = some o) → IsL h' T' (tot ++ (((List.range n).drop i).map its).flatten).toArray ct' → (i = n ∧ T' = T ∨ S < T') → R (.ok (.ret (.ref T'))) { s with heap := h', toks := tk }) →
      codeAny (model prog w) A (.builtin "sum.loop" ⟨[.ref I, .ref S, rawInt 2, rawInt 0], []⟩) R s := by
  have hSw : S ∉ wr := fun h => hSf (W.sub _ h)
  intro k
  induction k with
  | zero =>
    intro i s T tot c ct hk hi hst hS hTw hTS hT hits hsz hR
    have hin : i = n := by omega
    subst hin
    refine codeAny_builtin F.entry_sum_loop ?_
    rw [Around.under_plainId F.plain_sum_loop _]
    show wpAny _ A.in1 (seqItems? (.ref S) >>= _) _ _ s
    refine wpAny_bind (wpAny_seqItems hS rfl ?_)
    show wpAny _ A.in1 (tryCatch (pyNext (.ref I)) _ >>= _) _ _ s
    refine wpAny_bind (wpAny_tryCatch (W.done s _ _ hst fun h' tk hk' => ?_))
    refine wpAny_pure (hR h' tk T ct (fun b o hbw _ e => hk' b o hbw e) ?_ (.inl ⟨rfl, rfl⟩))
    have e0 : (List.range i).drop i = [] := List.drop_eq_nil_of_le (by rw [List.length_range]; exact Nat.le_refl _)
    rw [e0]
    simp only [List.map_nil, List.flatten_nil, List.append_nil]
    exact hk' T _ hTw hT
  | succ k ih =>
    intro i s T tot c ct hk hi hst hS hTw hTS hT hits hsz hR
    have hlt : i < n := by omega
    have ed : (List.range n).drop i = i :: (List.range n).drop (i + 1) := by
      rw [List.drop_eq_getElem_cons (by rw [List.length_range]; exact hlt), List.getElem_range]
    rw [ed, List.map_cons, List.sum_cons] at hsz
    rw [ed, List.map_cons, List.flatten_cons] at hR
    refine codeAny_builtin F.entry_sum_loop ?_
    rw [Around.under_plainId F.plain_sum_loop _]
    show wpAny _ A.in1 (seqItems? (.ref S) >>= _) _ _ s
    refine wpAny_bind (wpAny_seqItems hS rfl ?_)
    show wpAny _ A.in1 (tryCatch (pyNext (.ref I)) _ >>= _) _ _ s
    refine wpAny_bind (wpAny_tryCatch (W.item i s _ _ hlt hst fun v h' tk hP hst' hk' => ?_))
    cases hval i v hP
    have hS' := hk' S _ hSw hS
    have hT' : IsL h' T tot.toArray ct := hk' T _ hTw hT
    have hI' : ∀ j, j < n → IsL h' (ad j) (its j).toArray (cn j) := fun j hj => hk' _ _ (hw j hj).1 (hits j hj)
    show wpAny _ A.in1 ((holding [Value.ref (ad i)] (binaryOp .Add (.ref T) (.ref (ad i)))).attempt >>= _) _ _ _
    refine wpAny_bind (wpAny_attempt (wpAny_holding (PySem.P.add_list hT' (hI' i hlt) ?_ (by rw [List.size_toArray, List.size_toArray]; omega))))
    have ea : tot.toArray ++ (its i).toArray = (tot ++ its i).toArray := by simp
    rw [ea]
    have szS : S < h'.objs.size := Heap.lt_size hS'
    have hnew : (h'.push { cls := .type "list", data := .seq (tot ++ its i).toArray }).get? h'.objs.size = some { cls := .type "list", data := .seq (tot ++ its i).toArray } := Heap.get?_push_size _ rfl
    have hSp : (h'.push { cls := .type "list", data := .seq (tot ++ its i).toArray }).get? S = _ := Heap.get?_push_of_some _ hS'
    show wpAny _ A.in1 (updateSeq S (fun _ => #[.ref h'.objs.size]) >>= _) _ _ _
    refine wpAny_bind ?_
    refine wpAny_updateSeq hSp rfl ?_
    have hS2 := Heap.get?_update_self (Obj.mapSeq fun _ => #[Value.ref h'.objs.size]) hSp rfl
    refine wpAny_bind (wpAny_letGo ?_)
    refine wpAny_bind ?_
    have ups : ∀ b o, b ≠ S → h'.get? b = some o → (((h'.push { cls := .type "list", data := .seq (tot ++ its i).toArray }).update S (Obj.mapSeq fun _ => #[Value.ref h'.objs.size])).update S (Obj.mapSeq fun _ => #[Value.ref h'.objs.size])).get? b = some o := fun b o hb e =>
      (Heap.get?_update_other _ _ (Ne.symm hb)).trans ((Heap.get?_update_other _ _ (Ne.symm hb)).trans (Heap.get?_push_of_some _ e))
    have nS : h'.objs.size ≠ S := Nat.ne_of_gt szS
    have nw : h'.objs.size ∉ wr := fun m => Nat.lt_asymm szS (hwS _ m)
    refine wpAny_updateSeq hS2 rfl (wpAny_pure ⟨plainId_quiet F.plain_sum_loop _, ih (i + 1) _ h'.objs.size (tot ++ its i) _ 0 (by omega) hlt (W.frame _ _ _ hst' fun b hb o e => ups b o (fun z => hSf (z ▸ hb)) e) (Heap.get?_update_self _ hS2 rfl) nw nS ?_ (fun j hj => ups _ _ (hw j hj).2 (hI' j hj)) ?_ fun h2 tk2 T2 c2 hk2 hT2 hle => ?_⟩)
    · exact (Heap.get?_update_other _ _ (Ne.symm nS)).trans ((Heap.get?_update_other _ _ (Ne.symm nS)).trans hnew)
    · rw [List.length_append]; omega
    · refine hR h2 tk2 T2 c2 (fun b o hbw hbS e => hk2 b o hbw hbS (ups b o hbS (hk' b o hbw e))) (by rw [← List.append_assoc]; exact hT2) (.inr ?_)
      rcases hle with ⟨_, e⟩ | e
      · rw [e]; exact szS
      · exact e
end
section
variable {prog : Program} {w : World} {A : Around} {E : Value → Shared → Prop} {s : Shared} {l b : Addr}
/-- sum of n lists, at least one, behind a list -/
theorem sum_lists {Q : Value → Shared → Prop} {n cl ct : Nat} {tot : List Value} (ad : Nat → Addr) (its : Nat → List Value) (cn : Nat → Nat) (hh : A.handled = none)
    (hl : IsL s.heap l ((List.range n).map fun i => Value.ref (ad i)).toArray cl) (hb : IsL s.heap b tot.toArray ct) (hits : ∀ j, j < n → IsL s.heap (ad j) (its j).toArray (cn j))
    (hn : 0 < n) (hsz : tot.length + ((List.range n).map fun j => (its j).length).sum ≤ sizeLine)
    (h : ∀ h' tk T' ct', (∀ b o, s.heap.get? b = some o → h'.get? b = some o) → IsL h' T' (tot ++ ((List.range n).map its).flatten).toArray ct' → s.heap.objs.size ≤ T' → Q (.ref T') { s with heap := h', toks := tk }) :
    wpAny (model prog w) A (call (.builtin "sum") [.ref l, .ref b]) Q E s := by
  have hL : s.heap.IsList l ((List.range n).map fun i => Value.ref (ad i)).toArray := ⟨_, hl, rfl, cl, rfl⟩
  refine call_function_tree F.kind_sum F.plain_sum F.entry_sum (F.args_sum2 _ _) ?_
  unfold Builtin.«sum»
  simp only [List.length_cons, List.length_nil]
  rw [if_neg (by decide)]
  refine wpAny_bind (wpAny_of_eq (show Builtin.Builtins.bindParams "sum" ["start"] 0 ⟨[.ref b], []⟩ = pure [some (.ref b)] from rfl) ?_)
  refine wpAny_bind (wpAny_pyIter_list hL ?_)
  have lt : l < s.heap.objs.size := Heap.lt_size hl
  have ltb : b < s.heap.objs.size := Heap.lt_size hb
  refine wpAny_bind (wpAny_pure ?_)
  simp only [List.forIn_cons, List.forIn_nil]
  have ty : ∀ (h' : Heap), (∀ a o, s.heap.get? a = some o → h'.get? a = some o) → ({ s with heap := h' } : Shared).TypeIs (.ref b) "list" := fun h' k => ⟨_, k _ _ hb, rfl⟩
  have kp : ∀ a o, s.heap.get? a = some o → (s.heap.push { cls := .type "list_iterator", data := .fields #[.ref l, .int 0 0] }).get? a = some o := fun a o e => Heap.get?_push_of_some _ e
  refine wpAny_bind (wpAny_bind (wpAny_bind (wpAny_isInstance (T := "list") (b := false) (ty _ kp) F.sub_list_str ?_)))
  simp only [Bool.false_eq_true, if_false]
  refine wpAny_pure (wpAny_bind (wpAny_bind (wpAny_isInstance (T := "list") (b := false) (ty _ kp) F.sub_list_bytes ?_)))
  simp only [Bool.false_eq_true, if_false]
  refine wpAny_pure (wpAny_bind (wpAny_bind (wpAny_isInstance (T := "list") (b := false) (ty _ kp) F.sub_list_bytearray ?_)))
  simp only [Bool.false_eq_true, if_false]
  refine wpAny_pure (wpAny_pure ?_)
  refine wpAny_bind (wpAny_newObj_type ?_)
  have szN : ((List.range n).map fun i => Value.ref (ad i)).toArray.size = n := by simp
  have sz1 : (s.heap.push { cls := .type "list_iterator", data := .fields #[.ref l, .int 0 0] }).objs.size = s.heap.objs.size + 1 := Heap.size_push _ _
  have itS : (s.heap.push { cls := .type "list_iterator", data := .fields #[.ref l, .int 0 0] }).get? s.heap.objs.size = some { cls := .type "list_iterator", data := .fields #[.ref l, .int 0 0] } := Heap.get?_push_size _ rfl
  have kp2 : ∀ (o2 : Obj) a o, s.heap.get? a = some o → ((s.heap.push { cls := .type "list_iterator", data := .fields #[.ref l, .int 0 0] }).push o2).get? a = some o := fun o2 a o e => Heap.get?_push_of_some _ (kp a o e)
  refine wpAny_pure ⟨plainId_quiet F.plain_sum_loop _, sum_loopC (Walks.list (A := A.in1) hh s.heap.objs.size l (Nat.ne_of_lt lt) ((List.range n).map fun i => Value.ref (ad i)).toArray) ad its cn (fun i v e => ?_) (s.heap.push { cls := .type "list_iterator", data := .fields #[.ref l, .int 0 0] }).objs.size (fun hm => ?_) (fun c hc => ?_) (fun i hi => ?_) n 0 _ b tot 0 ct ?_ (Nat.zero_le _) ⟨⟨_, Heap.get?_push_of_some _ itS, rfl, rfl⟩, ⟨_, kp2 _ _ _ hl, rfl, cl, rfl⟩⟩ (Heap.get?_push_size _ rfl) (fun hm => ?_) ?_ (kp2 _ _ _ hb) (fun j hj => kp2 _ _ _ (hits j ?_)) ?_ fun h' tk T' ct' hk' hT' hle => ?_⟩
  · rw [List.getElem?_toArray, List.getElem?_map, Option.map_eq_some_iff] at e
    obtain ⟨j, hj, ev⟩ := e
    obtain ⟨_, e2⟩ := List.getElem?_eq_some_iff.mp hj
    rw [List.getElem_range] at e2
    rw [e2]; exact ev.symm
  · rw [sz1] at hm
    rcases List.mem_cons.mp hm with z | z
    · exact absurd z (Nat.succ_ne_self _)
    · exact absurd (List.mem_singleton.mp z) (Nat.ne_of_gt (Nat.lt_succ_of_lt lt))
  · rw [sz1, List.mem_singleton.mp hc]
    exact Nat.lt_succ_self _
  · rw [szN] at hi
    have q := Heap.lt_size (hits i hi)
    rw [sz1]
    exact ⟨fun z => absurd (List.mem_singleton.mp z) (Nat.ne_of_lt q), Nat.ne_of_lt (Nat.lt_succ_of_lt q)⟩
  · rw [szN]; rfl
  · exact absurd (List.mem_singleton.mp hm) (Nat.ne_of_lt ltb)
  · rw [sz1]; exact Nat.ne_of_lt (Nat.lt_succ_of_lt ltb)
  · rw [szN] at hj; exact hj
  · rw [szN, List.drop_zero]; exact hsz
  · rw [szN, List.drop_zero] at hT'
    rw [szN] at hle
    have hle' : s.heap.objs.size + 1 < T' := by
      rcases hle with ⟨z, _⟩ | z
      · exact absurd z (Nat.ne_of_lt hn)
      · rwa [sz1] at z
    refine h h' tk T' ct' (fun a o e => hk' a o (fun z => ?_) (fun z => ?_) (kp2 _ a o e)) hT' (Nat.le_of_lt (Nat.lt_of_succ_lt hle'))
    · exact absurd (List.mem_singleton.mp z) (Nat.ne_of_lt (Heap.lt_size e))
    · rw [sz1] at z
      exact absurd z (Nat.ne_of_lt (Nat.lt_succ_of_lt (Heap.lt_size e)))
end
end PySem
namespace DP
open PySem L2
/-- sum(xs, []) -/
def rSumL : List V → Hp → VK → Prop := fun vs H Q => ∃ (a b : Addr) (ads : List Addr) (xss : List (List V)), vs = [.ref a, .ref b] ∧ H a = some (.lst (ads.map V.ref)) ∧ H b = some (.lst []) ∧ 0 < ads.length ∧ ads.length = xss.length ∧
  (∀ (i : Nat) x ys, ads[i]? = some x → xss[i]? = some ys → H x = some (.lst ys)) ∧ (xss.map List.length).sum ≤ sizeLine ∧ ∀ p, H p = none → Q (.ref p) (upd H p (.lst xss.flatten))
theorem range_getD {α : Type} (d : α) (l : List α) : (List.range l.length).map (fun i => l.getD i d) = l := by
  apply List.ext_getElem?
  intro i
  rw [List.getElem?_map]
  by_cases h : i < l.length
  · rw [List.getElem?_range h]
    simp [h]
  · rw [List.getElem?_eq_none (by simpa using h), List.getElem?_eq_none (by simpa using h)]; rfl
theorem vals_flat {f : Nat → List V} {g : Nat → List Value} : ∀ l : List Nat, (∀ i ∈ l, Vals (f i) (g i)) → Vals (l.map f).flatten (l.map g).flatten
  | [], _ => .nil
  | i :: l, h => by
    rw [List.map_cons, List.map_cons, List.flatten_cons, List.flatten_cons]
    exact (h i List.mem_cons_self).append (vals_flat l fun j hj => h j (List.mem_cons_of_mem _ hj))
section
variable {X : Cx}
theorem cr_sumL (hc : X.calm = true) : CallR X (.builtin "sum") rSumL := by
  intro pins s σ H vs us Q I r h
  obtain ⟨a, b, ads, xss, rfl, ha, hb, hpos, hlen, hx, hz, q⟩ := h
  cases r with
  | cons r1 r2 =>
  cases r2 with
  | cons r2 r3 =>
  cases r3
  cases r1
  cases r2
  obtain ⟨_, its, n, rv, hl, e⟩ := I.lstM ha
  obtain ⟨_, its0, n0, rv0, hl0, e0⟩ := I.lstM hb
  cases rv0
  have ei : its = (List.range ads.length).map fun i => Value.ref (ads.getD i 0) := by
    apply List.ext_getElem?
    intro i
    rw [List.getElem?_map]
    by_cases h : i < ads.length
    · obtain ⟨u, hu, ru⟩ := rv.get (i := i) (x := V.ref (ads.getD i 0)) (by rw [List.getElem?_map]; simp [h])
      rw [hu, List.getElem?_range h, ru]; rfl
    · rw [List.getElem?_eq_none (by rw [← hl, List.length_map]; omega), List.getElem?_eq_none (by simpa using h)]; rfl
  rw [ei] at e
  have hch : ∀ i, ∃ t : List Value × Nat, i < ads.length → Vals (xss.getD i []) t.1 ∧ (xss.getD i []).length = t.1.length ∧ s.heap.get? (ads.getD i 0) = some { cls := .type "list", data := .seq t.1.toArray t.2 } := fun i => by
    by_cases h : i < ads.length
    · obtain ⟨_, ts, m, rt, lt, et⟩ := I.lstM (hx i (ads.getD i 0) (xss.getD i []) (by simp [h]) (by have : i < xss.length := by omega
                                                                                                     simp [this]))
      exact ⟨(ts, m), fun _ => ⟨rt, lt, et⟩⟩
    · exact ⟨([], 0), fun z => absurd z h⟩
  obtain ⟨f, hf⟩ := Classical.axiomOfChoice hch
  have ex : (List.range ads.length).map (fun i => xss.getD i []) = xss := by rw [hlen]; exact range_getD [] xss
  have elen : ((List.range ads.length).map fun j => (f j).1.length) = xss.map List.length := by
    rw [← ex, List.map_map]
    refine List.map_congr_left fun i hi => ?_
    rw [← (hf i (List.mem_range.mp hi)).2.1]; rfl
  refine sum_lists (fun i => ads.getD i 0) (fun i => (f i).1) (fun i => (f i).2) (I.ok.hd hc) e e0 (fun j hj => (hf j hj).2.2) hpos (by rw [elen]; simpa using hz) fun h' tk T' ct' k hT hle => ?_
  have vf : Vals xss.flatten ((List.range ads.length).map fun i => (f i).1).flatten := by
    have := vals_flat (f := fun i => xss.getD i []) (g := fun i => (f i).1) (List.range ads.length) fun i hi => (hf i (List.mem_range.mp hi)).1
    rw [ex] at this
    exact this
  exact ⟨.ref T', upd H T' (.lst xss.flatten), I.laid (t' := tk) k hle ⟨by rw [List.length_flatten]; exact hz, _, ct', vf, hT⟩, rfl, q T' (I.hok.fresh hle)⟩
end
end DP
set_option maxRecDepth 100000
set_option maxHeartbeats 1000000
namespace DP.Cnt
open PySem PySem.Spec PyProof.Rows L2
def sameText (z : Str) : Value → Bool
  | .str y _ => y == z
  | _ => false
theorem texts_same {z : Str} {t : Tok} : ∀ {zs : List Str} {us : List Value}, Vals (zs.map V.str) us → (∀ y ∈ us, MeetsSeq.EqGives y (.str z t) (sameText z y)) ∧ us.countP (sameText z) = zs.count z
  | [], us, r => by
    cases r
    exact ⟨(fun y hy => by cases hy), rfl⟩
  | a :: zs, us, r => by
    cases r with
    | cons ra rr =>
      obtain ⟨ta, rfl⟩ := ra
      obtain ⟨h1, h2⟩ := texts_same (z := z) (t := t) rr
      refine ⟨fun y hy => ?_, ?_⟩
      · rcases List.mem_cons.mp hy with e | e
        · subst e
          have e := SeqRoads2.EqGives.str a z ta t
          have b : (a.cps.toList == z.cps.toList) = sameText z (.str a ta) := by
            show _ = (a == z)
            rw [Bool.eq_iff_iff, beq_iff_eq, beq_iff_eq]
            constructor
            · intro h
              exact PySem.W.str_of_cps h
            · rintro rfl
              rfl
          rw [b] at e
          exact e
        · exact h1 y e
      · rw [List.countP_cons, List.count_cons, h2]
        rfl
def rTextCount (K : PySem.W.Frag) : V → List V → Hp → VK → Prop := fun x vs H Q => ∃ (l : Addr) (zs : List Str) (z : Str), x = V.ref l ∧ vs = [V.str z] ∧ SqL K H l (zs.map V.str) ∧ Q (.int (zs.count z : Nat)) H
theorem mt_textCount {X : Cx} : MtR X "list.count" (rTextCount X.K) := by
  intro pins s σ H x vs v us Q I rx rvs ⟨l, zs, z, ex, ev, hs, q⟩
  subst ex ev
  cases rx
  obtain ⟨u, rfl, tz, rfl⟩ := rvs.one
  obtain ⟨its, rv, pl, hlen⟩ := I.list hs
  obtain ⟨⟨cls, dd, data, sl⟩, n, ho, hc, hdn, hd⟩ := pl
  have hc : cls = .type "list" := hc
  have hd : data = .seq its.toArray n := hd
  subst hc hd
  obtain ⟨hg, ec⟩ := texts_same (z := z) (t := tz) rv
  refine call_meets PySem.F.slot_list_count ⟨_, ho, rfl⟩ PySem.F.entry_list_count (PySem.F.args_list_count_2 _ _) (SeqAt.list_countAt l its.toArray n dd sl (.str z tz) (sameText z)) ?_
  refine ⟨ho, fun y hy => (hg y (by simpa using hy)).at _ _, .int (zs.count z : Nat), H, I.tok _, ⟨s.toks, ?_⟩, q⟩
  show Value.int ((its.countP (sameText z) : Nat) : Int) s.toks = _
  rw [ec]
end DP.Cnt
set_option maxRecDepth 100000
set_option maxHeartbeats 2000000
namespace DP
open PySem PySem.Spec PyProof.Rows L2
section
variable {X : Cx}
theorem ints_of_map : ∀ ns : List Int, intsOf (ns.map D.int) = some ns
  | [] => rfl
  | n :: ns => by rw [List.map_cons, intsOf, ints_of_map ns]; rfl
theorem bi_minL : BiOk X .minL (rMin X.K) := ⟨fun rs vs S0 H0 S H Ha Q QV rr hs k h po => by
  unfold biW at h
  split at h <;> first | (rename_i e; cases e) | skip
  all_goals first | exact h.elim | skip
  obtain ⟨v, rfl, r⟩ := rr.one
  obtain ⟨ns, e, hl, q⟩ := h
  obtain ⟨a, ws, rfl, sq, rd⟩ := lstOf_sq hs r e
  rw [intsOf_rds (ints_of_map ns) rd] at sq
  exact ⟨a, ns, rfl, sq, hl, fun m h1 h2 => po.dat k hs rd_int (q m h1 h2)⟩⟩
theorem bi_listD : BiOk X .listD (fun xs H Q => ∃ (a : Addr) (kvs : List (Key × V)), xs = [.ref a] ∧ Rd H a (.dK kvs) ∧ ∀ p, H p = none → Q (.ref p) (upd H p (.lst (kvs.map fun kv => kV kv.1)))) := ⟨fun rs vs S0 H0 S H Ha Q QV rr hs k h po => by
  unfold biW at h
  split at h <;> first | (rename_i e; cases e) | skip
  all_goals first | exact h.elim | skip
  obtain ⟨v, rfl, r⟩ := rr.one
  obtain ⟨kvs, e, q⟩ := h
  obtain ⟨a, ws, rfl, e1, rk⟩ := see_dK hs r e
  have rd : ∀ {kvs : List (Key × D)} {ws : List (Key × V)}, RKv X.K H kvs ws → RDs X.K H (kvs.map fun kv => keyD kv.1) (ws.map fun kv => kV kv.1) := fun {kvs ws} h => by
    unfold RKv at h
    induction h with
    | nil => simp [RDs]
    | @cons p q ps qs a t ih =>
      rw [List.map_cons, List.map_cons]
      simp only [RDs]
      refine ⟨_, _, rfl, ?_, ih⟩
      rw [← a.1]
      cases p.1 <;> rfl
  exact ⟨a, ws, rfl, .inl e1, fun l hl => po.lst k hs hl (rd rk) q⟩⟩
theorem strs_all1 : ∀ zs : List Str, strsOf (zs.map D.str) = some zs
  | [] => rfl
  | n :: ns => by rw [List.map_cons, strsOf, strs_all1 ns]; rfl
theorem bi_str : BiOk X .str (fun xs H Q => (∃ i : Int, xs = [.int i] ∧ i.natAbs.log2 < 1920 ∧ Q (.str ((toString i : String) : Str)) H) ∨ ∃ a, xs = [.str a] ∧ Q (.str a) H) := ⟨fun rs vs S0 H0 S H Ha Q QV rr hs k h po => by
  unfold biW at h
  split at h <;> first | (rename_i e; cases e) | skip
  all_goals first | exact h.elim | skip
  · obtain ⟨v, rfl, r⟩ := rr.one
    cases (show v = V.int _ from r)
    exact .inl ⟨_, rfl, h.1, po.dat k hs rd_str h.2⟩
  · obtain ⟨v, rfl, r⟩ := rr.one
    cases (show v = V.str _ from r)
    exact .inr ⟨_, rfl, po.dat k hs rd_str h⟩⟩
theorem me_count : MeOk X .count "list" "list.count" "count" (DP.Cnt.rTextCount X.K) := by
  refine ⟨PySem.F.plainAttrs_list, PySem.F.slot_list_count, PySem.F.type_list_count, DP.Cnt.mt_textCount, fun x v S H Ha r hs h => tyV_list r hs h, fun x v ds vs S0 H0 S H Ha Q QV r rd hs k h po => ?_⟩
  unfold meW at h
  split at h <;> first | (rename_i e; cases e) | skip
  all_goals first | exact h.elim | skip
  obtain ⟨zs, e, q⟩ := h
  cases (show v = V.ref _ from r)
  obtain ⟨ws, e1, d1⟩ := store_lst hs e
  simp only [RDs] at rd
  obtain ⟨u, ur, rfl, ru, rfl⟩ := rd
  cases (show u = V.str _ from ru)
  have ez := strsOf_rds (strs_all1 zs) d1
  subst ez
  exact ⟨_, zs, _, rfl, rfl, .inl (.inl e1), po.dat k hs rd_int q⟩
theorem RKv.keys1 {K : PySem.W.Frag} {H : Hp} {kvs : List (Key × D)} {ws : List (Key × V)} (h : RKv K H kvs ws) : ws.map (·.1) = kvs.map (·.1) := by
  induction h with
  | nil => rfl
  | cons a _ ih => rw [List.map_cons, List.map_cons, ih, a.1]
theorem rdsI_map {K : PySem.W.Frag} {H : Hp} : ∀ ns : List Int, RDs K H (ns.map D.int) (ns.map V.int)
  | [] => by simp [RDs]
  | n :: ns => by simp only [List.map_cons, RDs]; exact ⟨_, _, rfl, rfl, rdsI_map ns⟩
theorem rdsS_map {K : PySem.W.Frag} {H : Hp} : ∀ ns : List Str, RDs K H (ns.map D.str) (ns.map V.str)
  | [] => by simp [RDs]
  | n :: ns => by simp only [List.map_cons, RDs]; exact ⟨_, _, rfl, rfl, rdsS_map ns⟩
def rSortedI : List V → Hp → VK → Prop := fun xs H Q => ∃ (a : Addr) (kvs : List (Key × V)) (ks : List Int), xs = [.ref a] ∧ Rd H a (.dK kvs) ∧ kvs.map (·.1) = ks.map Sum.inl ∧ ks.length < 64 ∧ ∀ (ys : List Int) (p : Addr), ys.Perm ks → ys.Pairwise (· ≤ ·) → H p = none → Q (.ref p) (upd H p (.lst (ys.map V.int)))
def rSortedT : List V → Hp → VK → Prop := fun xs H Q => ∃ (a : Addr) (kvs : List (Key × V)) (ks : List Str), xs = [.ref a] ∧ Rd H a (.dK kvs) ∧ kvs.map (·.1) = ks.map Sum.inr ∧ ks.length < 64 ∧ ∀ ys p, ys.Perm ks → sortedS ys = true → H p = none → Q (.ref p) (upd H p (.lst (ys.map V.str)))
theorem call_sortedB (hc : X.calm = true) : CallR X (.builtin "sorted") (fun xs H Q => rSortedI xs H Q ∨ rSortedT xs H Q) := CallR.or (call_sortedDI hc) (call_sortedD hc)
theorem bi_sortD : BiOk X .sortD (fun xs H Q => rSortedI xs H Q ∨ rSortedT xs H Q) := ⟨fun rs vs S0 H0 S H Ha Q QV rr hs k h po => by
  unfold biW at h
  split at h <;> first | (rename_i e; cases e) | skip
  all_goals first | exact h.elim | skip
  obtain ⟨v, rfl, r⟩ := rr.one
  rcases h with ⟨kvs, ks, e, ek, hl, q⟩ | ⟨kvs, ks, e, ek, hl, q⟩
  · obtain ⟨a, ws, rfl, e1, rk⟩ := see_dK hs r e
    exact .inl ⟨a, ws, ks, rfl, .inl e1, by rw [rk.keys1]; exact ek, hl, fun ys p h1 h2 hp => po.lst k hs hp (rdsI_map ys) (q ys h1 h2)⟩
  · obtain ⟨a, ws, rfl, e1, rk⟩ := see_dK hs r e
    exact .inr ⟨a, ws, ks, rfl, .inl e1, by rw [rk.keys1]; exact ek, hl, fun ys p h1 h2 hp => po.lst k hs hp (rdsS_map ys) (q ys h1 h2)⟩⟩
/-- a new dict is told -/
theorem Post.dic {K : PySem.W.Frag} {S0 S : Sto} {H0 H : Hp} {Q : PR} {QV : VK} {p : Addr} {kvs : List (Key × D)} {ws : List (Key × V)} (po : Post K S0 H0 Q QV) (k : Kp S0 H0 S H) (hs : RS K H S) (hp : H p = none) (rk : RKv K H kvs ws) (q : Q (.n (.dK kvs)) S) : QV (.ref p) (upd H p (.dK ws)) := by
  have k2 : Kp S H S (upd H p (.dK ws)) := Kp.laid hp
  have rr : RR K H0 (upd H p (.dK ws)) S (.n (.dK kvs)) (.ref p) := ⟨p, rfl, k.dom p hp, hs.no hp, ws, upd_same, rk.mono fun d v => RD.kp k2 hs d v⟩
  exact po _ _ _ S rr (hs.laid hp) (k.trans k2) q
theorem rdk_key {K : PySem.W.Frag} {H : Hp} (ky : Key) : RD K H (keyD ky) (kV ky) := by
  cases ky with
  | inl i => rfl
  | inr x => rfl
theorem rds_pairs {K : PySem.W.Frag} {H : Hp} : ∀ (kvs : List (Key × D)) (ws : List V), RDs K H (kvs.map fun kv => .tup [keyD kv.1, kv.2]) ws → ∃ (ps : List Addr) (kws : List (Key × V)), ws = ps.map V.ref ∧ Paired (fun p (kv : Key × V) => SqT K H p [kV kv.1, kv.2]) ps kws ∧ RKv K H kvs kws
  | [], ws, h => by simp only [List.map_nil, RDs] at h; exact ⟨[], [], h, .nil, .nil⟩
  | (ky, d) :: kvs, ws, h => by
    simp only [List.map_cons, RDs, RD] at h
    obtain ⟨w, r, rfl, ⟨a, vs, rfl, sq, v1, r1, rfl, h1, v2, r2, rfl, h2, rfl⟩, h3⟩ := h
    obtain ⟨ps, kws, e, p, q⟩ := rds_pairs kvs r h3
    have e1 := keyD_rd h1
    subst e1 e
    exact ⟨a :: ps, (ky, v2) :: kws, rfl, .cons sq.sq p, .cons ⟨rfl, h2⟩ q⟩
theorem RKv.merge {K : PySem.W.Frag} {H : Hp} {kvs : List (Key × D)} {ws : List (Key × V)} (h : RKv K H kvs ws) : RKv K H (mergeD kvs) (mergeK [] ws) := by
  have go : ∀ (kvs : List (Key × D)) (ws : List (Key × V)) (acc : List (Key × D)) (bcc : List (Key × V)), RKv K H kvs ws → RKv K H acc bcc → RKv K H (kvs.foldl (fun acc kv => putD acc kv.1 kv.2) acc) (ws.foldl (fun acc kv => putK acc kv.1 kv.2) bcc) := by
    intro kvs ws acc bcc h
    induction h generalizing acc bcc with
    | nil => exact fun r => r
    | @cons p q _ _ a _ ih =>
      intro r
      obtain ⟨p1, p2⟩ := p
      obtain ⟨q1, q2⟩ := q
      obtain ⟨e, rd⟩ := a
      have e : p1 = q1 := e
      subst e
      exact ih _ _ (r.put rd)
  exact go _ _ _ _ h .nil
def rDictP (K : PySem.W.Frag) : List V → Hp → VK → Prop := fun xs H Q => ∃ (a : Addr) (ps : List Addr) (kvs : List (Key × V)), xs = [.ref a] ∧ SqL K H a (ps.map V.ref) ∧ Paired (fun p kv => SqT K H p [kV kv.1, kv.2]) ps kvs ∧ ∀ p, H p = none → Q (.ref p) (upd H p (.dK (mergeK [] kvs)))
theorem bi_dict : BiOk X .dict (rDictP X.K) := ⟨fun rs vs S0 H0 S H Ha Q QV rr hs k h po => by
  unfold biW at h
  split at h <;> first | (rename_i e; cases e) | skip
  all_goals first | exact h.elim | skip
  obtain ⟨v, rfl, r⟩ := rr.one
  obtain ⟨kvs, e, q⟩ := h
  obtain ⟨a, ws, rfl, sq, rd⟩ := lstOf_sq hs r e
  obtain ⟨ps, kws, rfl, pr, rk⟩ := rds_pairs kvs ws rd
  exact ⟨a, ps, kws, rfl, sq, pr, fun p hp => po.dic k hs hp rk.merge q⟩⟩
/-! sum(xs, []) -/
theorem rds_refs {K : PySem.W.Frag} {H : Hp} : ∀ (as : List Addr) {ws : List V}, RDs K H (as.map D.ref) ws → ws = as.map V.ref
  | [], ws, h => by simpa [RDs] using h
  | a :: as, ws, h => by
    rw [List.map_cons] at h
    simp only [RDs] at h
    obtain ⟨v, r, e, e1, e2⟩ := h
    rw [e, rds_refs as e2]
    have : v = .ref a := by simpa only [RD] using e1
    rw [this]; rfl
theorem rds_app {K : PySem.W.Frag} {H : Hp} : ∀ (ds : List D) {es : List D} {vs ws : List V}, RDs K H ds vs → RDs K H es ws → RDs K H (ds ++ es) (vs ++ ws)
  | [], es, vs, ws, h1, h2 => by
    have : vs = [] := by simpa [RDs] using h1
    rw [this]; exact h2
  | d :: ds, es, vs, ws, h1, h2 => by
    simp only [RDs] at h1
    obtain ⟨v, r, e, e1, e2⟩ := h1
    rw [e, List.cons_append, List.cons_append]
    simp only [RDs]
    exact ⟨v, _, rfl, e1, rds_app ds e2 h2⟩
theorem lists_of {K : PySem.W.Frag} {H : Hp} {S : Sto} (hs : RS K H S) : ∀ (as : List Addr) (xss : List (List D)), as.length = xss.length → (∀ (i : Nat) x ys, as[i]? = some x → xss[i]? = some ys → S x = some (.lst ys)) →
    ∃ wss : List (List V), wss.map List.length = xss.map List.length ∧ RDs K H xss.flatten wss.flatten ∧ ∀ (i : Nat) x ws, as[i]? = some x → wss[i]? = some ws → H x = some (.lst ws)
  | [], [], _, _ => ⟨[], rfl, by simp [RDs], fun i x ws e _ => by simp at e⟩
  | [], _ :: _, h, _ => by simp at h
  | _ :: _, [], h, _ => by simp at h
  | a :: as, xs :: xss, h, hx => by
    obtain ⟨wss, e1, e2, e3⟩ := lists_of hs as xss (by simpa using h) fun i x ys p q => hx (i + 1) x ys (by simpa using p) (by simpa using q)
    obtain ⟨vs, f1, f2⟩ := hs a _ (hx 0 a xs rfl rfl)
    refine ⟨vs :: wss, by rw [List.map_cons, List.map_cons, e1, RDs.length f2], by rw [List.flatten_cons, List.flatten_cons]; exact rds_app xs f2 e2, fun i x ws p q => ?_⟩
    cases i with
    | zero => cases p; cases q; exact f1
    | succ i => exact e3 i x ws (by simpa using p) (by simpa using q)
theorem bi_suml : BiOk X .suml rSumL := ⟨fun rs vs S0 H0 S H Ha Q QV rr hs k h po => by
  unfold biW at h
  split at h <;> first | (rename_i e; cases e) | skip
  all_goals first | exact h.elim | skip
  obtain ⟨v, u, rfl, r1, r2⟩ := rr.two
  obtain ⟨as, xss, e1, e2, hp, hl, hx, hz, q⟩ := h
  obtain ⟨a, ws, rfl, ha, rd⟩ := see_lst hs r1 e1
  obtain ⟨b, ws0, rfl, hb, rd0⟩ := see_lst hs r2 e2
  have ew := rds_refs as rd
  subst ew
  have e0 : ws0 = [] := by simpa [RDs] using rd0
  subst e0
  obtain ⟨wss, f1, f2, f3⟩ := lists_of hs as xss hl hx
  exact ⟨a, b, as, wss, rfl, ha, hb, hp, by rw [hl]; have := congrArg List.length f1; simpa using this.symm, f3, by rw [f1]; exact hz, fun l hl => po.lst k hs hl f2 q⟩⟩
end
/-! ### one object of the heap changes that no tuple and no list stands for -/
section
variable {K : PySem.W.Frag} {S : Sto} {H : Hp} {l : Addr} {u u' : HO}
def NoSq (u : HO) : Prop := (∀ xs, u ≠ .tup xs) ∧ (∀ o xs, u ≠ .frz o (.tup xs)) ∧ ∀ o xs, u ≠ .frz o (.lst xs)
theorem TqT.but {a : Addr} {vs : List V} (e : H l = some u) (n : NoSq u) (h : TqT H a vs) : TqT (upd H l u') a vs := by
  unfold TqT at *
  rw [upd_ne (ne_of h e (fun z => (n.1 _ z.symm)))]
  exact h
theorem SqT.but {a : Addr} {vs : List V} (e : H l = some u) (n : NoSq u) (h : SqT K H a vs) : SqT K (upd H l u') a vs := by
  rcases h with (h | ⟨o, h⟩) | h
  · exact .inl (.inl (by rw [upd_ne (ne_of h e (fun z => (n.1 _ z.symm)))]; exact h))
  · exact .inl (.inr ⟨o, by rw [upd_ne (ne_of h e (fun z => (n.2.1 _ _ z.symm)))]; exact h⟩)
  · exact .inr h
theorem FzL.but {a : Addr} {vs : List V} (e : H l = some u) (n : NoSq u) (h : FzL K H a vs) : FzL K (upd H l u') a vs := by
  rcases h with ⟨o, h⟩ | h
  · exact .inl ⟨o, by rw [upd_ne (ne_of h e (fun z => (n.2.2 _ _ z.symm)))]; exact h⟩
  · exact .inr h
mutual
theorem RD.but (e : H l = some u) (n : NoSq u) : ∀ (d : D) (v : V), RD K H d v → RD K (upd H l u') d v
  | .non, _, h => h
  | .bl _, _, h => h
  | .int _, _, h => h
  | .str _, _, h => h
  | .tup ds, _, h => by
    simp only [RD] at h ⊢
    obtain ⟨a, vs, q, h1, h2⟩ := h
    exact ⟨a, vs, q, TqT.but e n h1, RDs.but e n ds vs h2⟩
  | .fz ds, _, h => by
    simp only [RD] at h ⊢
    obtain ⟨a, vs, q, h1, h2⟩ := h
    exact ⟨a, vs, q, FzL.but e n h1, RDs.but e n ds vs h2⟩
  | .ref _, _, h => h
theorem RDs.but (e : H l = some u) (n : NoSq u) : ∀ (ds : List D) (vs : List V), RDs K H ds vs → RDs K (upd H l u') ds vs
  | [], _, h => h
  | d :: ds, _, h => by
    simp only [RDs] at h ⊢
    obtain ⟨v, r, q, h1, h2⟩ := h
    exact ⟨v, r, q, RD.but e n d v h1, RDs.but e n ds r h2⟩
end
theorem RS.but (e : H l = some u) (n : NoSq u) (nc : ∀ c q, u ≠ LamX.CodeO c q) (hn : S l = none) (hs : RS K H S) : RS K (upd H l u') S := fun a o q => by
  have r := hs a o q
  have hne : a ≠ l := fun z => by subst z; rw [hn] at q; cases q
  cases o with
  | lst ds => obtain ⟨vs, e1, rd⟩ := r; exact ⟨vs, by rw [upd_ne hne]; exact e1, RDs.but e n ds vs rd⟩
  | dK kvs => obtain ⟨vs, e1, rd⟩ := r; exact ⟨vs, by rw [upd_ne hne]; exact e1, rd.mono (RD.but e n)⟩
  | dT kvs => obtain ⟨vs, e1, rd⟩ := r; exact ⟨vs, by rw [upd_ne hne]; exact e1, rd.mono (RD.but e n)⟩
  | tb q => exact tab_but r hne (fun c q z => by rw [e] at z; exact nc c q (Option.some.inj z)) fun b o hb e => by rw [upd_ne hb]; exact e
  | lkK kvs o ws => obtain ⟨e1, rd⟩ := r; exact ⟨by rw [upd_ne hne]; exact e1, rd.mono (RD.but e n)⟩
theorem ro_but {a : Addr} {o : Ob} (e : H l = some u) (n : NoSq u) (hne : a ≠ l) (r : RO K H a o) : RO K (upd H l u') a o := by
  cases o with
  | lst ds => obtain ⟨vs, e1, rd⟩ := r; exact ⟨vs, by rw [upd_ne hne]; exact e1, RDs.but e n ds vs rd⟩
  | dK kvs => obtain ⟨vs, e1, rd⟩ := r; exact ⟨vs, by rw [upd_ne hne]; exact e1, rd.mono (RD.but e n)⟩
  | dT kvs => obtain ⟨vs, e1, rd⟩ := r; exact ⟨vs, by rw [upd_ne hne]; exact e1, rd.mono (RD.but e n)⟩
  | tb q => exact r.elim
  | lkK kvs o ws => exact r.elim
theorem RS.offA (a : Addr) (hs : RS K H S) : RS K H (off S a) := fun b o q => by
  unfold off at q
  split at q
  · cases q
  · exact hs b o q
theorem off_self {a : Addr} : off S a a = none := if_pos rfl
theorem REnv.but {σ : L2.St} {ρ : Env} (e : H l = some u) (n : NoSq u) (h : REnv K H σ ρ) : REnv K (upd H l u') σ ρ := ⟨h.1, fun i d q => let ⟨v, e', r⟩ := h.2 i d q; ⟨v, e', RD.but e n d v r⟩⟩
theorem nosq_dK (ws : List (Key × V)) : NoSq (.dK ws) := ⟨(fun _ z => nomatch z), (fun _ _ z => nomatch z), (fun _ _ z => nomatch z)⟩
theorem nosq_fK (o : Obj) (ws : List (Key × V)) : NoSq (.frz o (.dK ws)) := ⟨(fun _ z => nomatch z), (fun _ _ z => nomatch z), (fun _ _ z => nomatch z)⟩
end
section
variable {X : Cx} {tg elt : Expr} {ifs : List Expr} {scope : Scope} {own : List (Str × Nat)} {pos p : Pos} {t : TN} {wt : Env → Sto → (Bool → Sto → Prop) → Prop} {we : Ev} {i : Nat} {x : Str}
/-! range downwards -/
theorem ItOk.rngD {K : PySem.W.Frag} {H0 H : Hp} {S : Sto} {lo : Int} {n : Nat} {hold : Sto → Prop} : ItOk K H0 S H (Itc lo (-1) n) ((List.range n).map fun (k : Nat) => D.int (lo - k)) hold := fun i S' H' k hs ho => by
  have hl : ((List.range n).map fun (k : Nat) => D.int (lo - k)).length = n := by simp
  refine ⟨fun hi => by rw [hl] at hi; exact hi, fun d e => ?_⟩
  have hi : i < n := by rw [← hl]; exact (List.getElem?_eq_some_iff.mp e).1
  refine ⟨hi, fun x H2 ⟨e2, ex⟩ => ?_⟩
  subst e2 ex
  refine ⟨?_, hs, Kp.refl⟩
  rw [List.getElem?_map, List.getElem?_range hi] at e
  cases e
  show V.int (lo + (i : Nat) * -1) = V.int (lo - i)
  congr 1
  omega
end
set_option maxRecDepth 100000
set_option maxHeartbeats 1000000
/-- what is known of the program's names -/
structure Gm where
  F : Fw
  n : Nat
  fns : List Str
  cst : List (Str × D)
  free : List Str
  /-- what else is known where a def's own block runs -/
  xt : Cx → Prop
  /-- the defs whose last parameter goes by its name -/
  dcl : List DCall
/-- a block: its slots, its scope, the scope whose cells are its own (none: all) -/
structure Bk where
  N : List Str
  sc : Scope
  own : Option Scope
def fnB (B : Bk) (x : Str) : Bool := match B.own with
  | none => true
  | some s => s.names.lookup x == some .cell
structure At (G : Gm) (B : Bk) (X : Cx) : Prop where
  calm : X.calm = true
  grd : X.A.guards = some []
  room : Room G.n X.A
  nd : X.N.Nodup
  hN : X.N = B.N
  sc : X.env.scope = B.sc
  fn : ∀ x, fnB B x = true → X.fn x = true
  uq : ∀ y ∈ B.sc.names, B.sc.names.lookup y.1 = some y.2
  nod : ∀ y ∈ B.sc.names, (y.1 == ("__debug__" : Str)) = false ∧ (y.1 == ("__classdict__" : Str)) = false
  call : ∀ f x, G.fns[f]? = some x → ∃ a fd ps, FnG X.prog X.w X.K X.mg X.base CX0 G.n a fd ps (spD X.K (G.F f)) ∧ ((dnB G.dcl x = false → Binds X.K fd ps []) ∧ ∀ q ∈ G.dcl, q.x = x → KBD X.K fd ps q) ∧ X.mg x = some (.ref a) ∧ PySem.W.keepIn X.K (.ref a) = true
  free : ∀ x ∈ G.free, X.mg x = none
  cst : ∀ x c, (x, c) ∈ G.cst → ∃ v u, X.mg x = some u ∧ RelV v u ∧ ∀ H, RD X.K H c v
  slk : X.A.units + 16 * G.n + 213 < cLine
  ext : B.own = none → G.xt X
/-- the names of a scope, looked at -/
def scC (sc : Scope) : Bool := sc.names.all fun y => decide (sc.names.lookup y.1 = some y.2) && !(y.1 == ("__debug__" : Str)) && !(y.1 == ("__classdict__" : Str))
theorem scC_uq {sc : Scope} (h : scC sc = true) : ∀ y ∈ sc.names, sc.names.lookup y.1 = some y.2 := fun y hy => by
  unfold scC at h
  rw [List.all_eq_true] at h
  have := h y hy
  simp only [Bool.and_eq_true, decide_eq_true_eq] at this
  exact this.1.1
theorem scC_nod {sc : Scope} (h : scC sc = true) : ∀ y ∈ sc.names, (y.1 == ("__debug__" : Str)) = false ∧ (y.1 == ("__classdict__" : Str)) = false := fun y hy => by
  unfold scC at h
  rw [List.all_eq_true] at h
  have := h y hy
  simp only [Bool.and_eq_true, Bool.not_eq_true'] at this
  exact ⟨this.1.2, this.2⟩
theorem lookup_keys {f : Str × NameKind → Str × NameKind} (hf : ∀ y, (f y).1 = y.1) (x : Str) : ∀ l : List (Str × NameKind), (l.map f).lookup x = (l.lookup x).map fun k => (f (x, k)).2
  | [] => rfl
  | (n, k) :: r => by
    rw [List.map_cons]
    have e : f (n, k) = (n, (f (n, k)).2) := Prod.ext (hf _) rfl
    rw [e]
    by_cases h : x = n
    · subst h
      simp [List.lookup]
    · have hb : (x == n) = false := beq_eq_false_iff_ne.mpr h
      simp only [List.lookup, hb]
      exact lookup_keys hf x r
def relK (sc : Scope) (y : Str × NameKind) : Str × NameKind := if (y.2 == .free && sc.kind == .function && sc.names.lookup y.1 == some .cell) = true then (y.1, .cell) else y
theorem relS_names (scope sc : Scope) : (relS scope sc).names = scope.names.map (relK sc) := by
  show scope.names.map _ = _
  refine List.map_congr_left fun y _ => ?_
  obtain ⟨n, k⟩ := y
  rfl
theorem relK_fst (sc : Scope) (y : Str × NameKind) : (relK sc y).1 = y.1 := by
  unfold relK
  split <;> rfl
theorem relS_uq {scope sc : Scope} (h : scC scope = true) : ∀ y ∈ (relS scope sc).names, (relS scope sc).names.lookup y.1 = some y.2 := fun y hy => by
  rw [relS_names] at hy ⊢
  obtain ⟨z, hz, rfl⟩ := List.mem_map.mp hy
  rw [lookup_keys (relK_fst sc), relK_fst, scC_uq h z hz]
  rfl
theorem relS_nod {scope sc : Scope} (h : scC scope = true) : ∀ y ∈ (relS scope sc).names, (y.1 == ("__debug__" : Str)) = false ∧ (y.1 == ("__classdict__" : Str)) = false := fun y hy => by
  rw [relS_names] at hy
  obtain ⟨z, hz, rfl⟩ := List.mem_map.mp hy
  rw [relK_fst]
  exact scC_nod h z hz
/-- the context within a comprehension -/
abbrev Bk.blk (B : Bk) (scope : Scope) : Bk := ⟨B.N, relS scope B.sc, some scope⟩
theorem At.blk {G : Gm} {B : Bk} {X : Cx} {scope : Scope} (h : At G B X) (hs : scC scope = true) (s : Shared) (H : Hp) (C : Addr) (cl : List (Str × Addr)) (fp : List Addr) : At G (B.blk scope) (X.blk s H scope (compEnvC scope cl C X.env) fp) :=
  ⟨h.calm, h.grd, h.room, h.nd, h.hN, by show relS scope X.env.scope = _; rw [h.sc], fun x e => e, relS_uq hs, relS_nod hs, h.call, h.free, h.cst, h.slk, fun z => nomatch z⟩
section
variable {G : Gm} {B : Bk}
theorem At.kind {X : Cx} (h : At G B X) {i : Nat} {x : Str} {k : NameKind} (e : B.sc.names[i]? = some (x, k)) : X.env.scope.names.lookup x = some k := by
  rw [h.sc]
  exact h.uq (x, k) (List.mem_of_getElem? e)
theorem At.gl {X : Cx} (h : At G B X) {i : Nat} {x : Str} (e : B.sc.names[i]? = some (x, .globalImplicit)) : Gl X x := h.kind e
theorem At.nd1 {X : Cx} (h : At G B X) {i : Nat} {x : Str} {k : NameKind} (e : B.sc.names[i]? = some (x, k)) : (x == ("__debug__" : Str)) = false ∧ (x == ("__classdict__" : Str)) = false := h.nod (x, k) (List.mem_of_getElem? e)
def visK : NameKind → Bool
  | .local => true
  | .cell => true
  | .free => true
  | _ => false
def locK : NameKind → Bool
  | .local => true
  | .cell => true
  | _ => false
theorem At.vis {X : Cx} (h : At G B X) {i : Nat} {x : Str} {k : NameKind} (e : B.sc.names[i]? = some (x, k)) (hk : visK k = true) : Vis X.env.scope x := by
  have q := h.kind e
  cases k with
  | «local» => exact .inl q
  | cell => exact .inr (.inl q)
  | free => exact .inr (.inr q)
  | _ => cases hk
theorem At.loc {X : Cx} (h : At G B X) {i : Nat} {x : Str} {k : NameKind} (e : B.sc.names[i]? = some (x, k)) (hk : locK k = true) : Loc X.env.scope x := by
  have q := h.kind e
  cases k with
  | «local» => exact .inl q
  | cell => exact .inr q
  | _ => cases hk
def ownK (B : Bk) (x : Str) : NameKind → Bool
  | .local => true
  | .cell => fnB B x
  | _ => false
theorem ownK_loc {x : Str} {k : NameKind} (h : ownK B x k = true) : locK k = true := by cases k <;> first | rfl | cases h
theorem At.own {X : Cx} (h : At G B X) {i : Nat} {x : Str} {k : NameKind} (e : B.sc.names[i]? = some (x, k)) (hk : ownK B x k = true) : X.fn x = true ∨ X.env.scope.names.lookup x = some .local := by
  have q := h.kind e
  cases k with
  | «local» => exact .inr q
  | cell => exact .inl (h.fn x hk)
  | _ => cases hk
theorem At.units {X : Cx} (h : At G B X) : X.A.units + 65 < cLine := by have := h.room.un; omega
theorem At.units1 {X : Cx} (h : At G B X) : X.A.units + 1 < cLine := by have := h.room.un; omega
/-! ### looks at the text -/
/-- no starred argument -/
def nst : Expr → Bool
  | .Starred .. => false
  | _ => true
theorem starEach_one {e : Expr} {es : List Expr} (h : nst e = true) (env : PySem.Env) : starEach (e :: es) env = (false, eval e env) :: starEach es env := by
  cases e <;> first | rfl | cases h
theorem star_plain : ∀ {es : List Expr} (_ : es.all nst = true) (env : PySem.Env), (starEach es env).any (·.1) = false
  | [], _, _ => rfl
  | e :: es, h, env => by
    rw [List.all_cons, Bool.and_eq_true] at h
    rw [starEach_one h.1, List.any_cons, star_plain h.2]
    rfl
theorem backTo_any {pos : Pos} : ∀ (l : List (Bool × Sem Value)), (backTo pos l).any (·.1) = l.any (·.1)
  | [] => rfl
  | a :: r => by
    have := backTo_any (pos := pos) r
    unfold backTo at this ⊢
    first | simp_all | (rw [List.map_cons, List.any_cons, this]; rfl)
/-- no slice, no display -/
def nsl : Expr → Bool
  | .Slice .. => false
  | _ => true
def nset : Expr → Bool
  | .Set .. => false
  | _ => true
theorem nset_in {e : Expr} (h : nset e = true) (op : CmpOp) : behindInMarks op e = false := by cases e <;> first | rfl | cases h
theorem nset_it {e : Expr} (h : nset e = true) (env : PySem.Env) (x : Value) : foldedSetIterable e env x = pure x := by cases e <;> first | rfl | cases h
/-- a test that is a value -/
def tval : Expr → Bool
  | .UnaryOp .Not _ _ => false
  | .BoolOp .. => false
  | .IfExp .. => false
  | .Compare .. => false
  | _ => true
theorem tval_ok {e : Expr} (h : tval e = true) (env : PySem.Env) (whole : Sem Value) : isTrue e env whole = (do let v ← whole; standAt e.pos; holding [v] (truthy v)) := by
  cases e with
  | UnaryOp op a p => cases op <;> first | rfl | cases h
  | _ => first | rfl | cases h
def nbase : Expr → Bool
  | .Call .. => false
  | _ => true
theorem nbase_ok {e : Expr} (h : nbase e = true) (m : Str) (env : PySem.Env) (whole : Sem Value) : attributeBase e m env whole = whole := by cases e <;> first | rfl | cases h
/-- no comprehension: nothing is swapped -/
def ncomp : Expr → Bool
  | .ListComp .. => false
  | .SetComp .. => false
  | .DictComp .. => false
  | _ => true
theorem ncomp_sw {e : Expr} (h : ncomp e = true) (t : Option Expr) (l : Nat) (env : PySem.Env) : swapsWith e t l env = pure false := by cases e <;> first | rfl | cases h
def ntup : Expr → Bool
  | .Tuple .. => false
  | _ => true
/-! ### the rules -/
structure KE (G : Gm) (B : Bk) (a : Expr) (e : E) : Prop where
  p : ∀ X, At G B X → PE X a (tD X.K (wE G.F e))
structure KT (G : Gm) (B : Bk) (a : Expr) (e : E) : Prop where
  p : ∀ X, At G B X → PT X a (tDT X.K (wT G.F e))
structure KW (G : Gm) (B : Bk) (a : Expr) (e : E) : Prop where
  p : ∀ X, At G B X → PW X a (tDT X.K (wT G.F e))
structure KA (G : Gm) (B : Bk) (a : List Expr) (e : List E) : Prop where
  p : ∀ X, At G B X → PA X a (tDA X.K (wEs G.F e))
  n : a.all nst = true
structure KR (G : Gm) (B : Bk) (a : List Expr) (e : List E) : Prop where
  p : ∀ X, At G B X → PA X a (tDR X.K (wRs G.F e))
  n : a.all nst = true
structure KO (G : Gm) (B : Bk) (a : Option Expr) (e : Option E) : Prop where
  p : ∀ X, At G B X → PO X a (tDO X.K (wO G.F e))
structure KI (G : Gm) (B : Bk) (tg a : Expr) (i : I) : Prop where
  p : ∀ X, At G B X → PI X tg a (tDI X.K (wI G.F i))
structure KG (G : Gm) (B : Bk) (a : Expr) (t : TN) : Prop where
  p : ∀ X, At G B X → PG X a (tDG X.K t)
structure KIf (G : Gm) (B : Bk) (a : List Expr) (e : Option E) : Prop where
  p : ∀ X, At G B X → PTs X a (tDT X.K (wOT G.F e))
variable {a b c o : Expr} {ea eb ec eo : E} {pos p p2 apos cpos : Pos} {es : List Expr} {xs : List E}
theorem k_var {i j : Nat} {x : Str} {k : NameKind} (h1 : B.N[i]? = some x) (h2 : B.sc.names[j]? = some (x, k)) (h3 : visK k = true) : KE G B (.Name x pos) (.var i) :=
  ⟨fun X h => s_var (pe_var (by rw [h.hN]; exact h1) (h.vis h2 h3) (h.nd1 h2).1 (h.nd1 h2).2)⟩
theorem k_int {i : Int} {j : Nat} : KE G B (.Constant (.int i) j pos) (.cst (.int i)) := ⟨fun X h => s_cst (fun H => rfl) pe_int⟩
theorem k_str {i : Str} {j : Nat} : KE G B (.Constant (.str i) j pos) (.cst (.str i)) := ⟨fun X h => s_cst (fun H => rfl) pe_str⟩
theorem k_bl {i : Bool} {j : Nat} : KE G B (.Constant (.bool i) j pos) (.cst (.bl i)) := ⟨fun X h => s_cst (fun H => rfl) pe_bl⟩
theorem k_non {j : Nat} : KE G B (.Constant .none j pos) (.cst .non) := ⟨fun X h => s_cst (fun H => rfl) pe_non⟩
theorem k_bin {q : BOp} {op : Operator} (e : (match q, op with | .add, .Add => true | .sub, .Sub => true | .mul, .Mult => true | .fdiv, .FloorDiv => true | .mod, .Mod => true | .pow, .Pow => true | _, _ => false) = true) (ha : KE G B a ea) (hb : KE G B b eb) : KE G B (.BinOp a op b pos) (.bin q ea eb) :=
  ⟨fun X h => s_bin e (ha.p X h) (hb.p X h)⟩
theorem k_neg (ha : KE G B a ea) : KE G B (.UnaryOp .USub a pos) (.neg ea) := ⟨fun X h => s_neg (ha.p X h)⟩
theorem k_cmp {q : COp} (ha : KE G B a ea) (hb : KE G B b eb) (hm : nset b = true) : KE G B (.Compare a [copC q] [b] pos) (.cmp q ea eb) := ⟨fun X h => s_cmpE h.units (ha.p X h) (hb.p X h) (nset_in hm _)⟩
theorem k_cmpT {q : COp} (ha : KE G B a ea) (hb : KE G B b eb) (hm : nset b = true) : KT G B (.Compare a [copC q] [b] pos) (.cmp q ea eb) := ⟨fun X h => s_cmpET h.units (ha.p X h) (hb.p X h) (nset_in hm _)⟩
theorem k_chnT {q r : COp} (ha : KE G B a ea) (hb : KE G B b eb) (hc : KE G B c ec) (hm : nset b = true) (hm2 : nset c = true) : KT G B (.Compare a [copC q, copC r] [b, c] pos) (.chn q r ea eb ec) := ⟨fun X h => s_chnET h.units (ha.p X h) (hb.p X h) (hc.p X h) (nset_in hm _) (nset_in hm2 _)⟩
theorem k_and {rest : List Expr} (ha : KE G B a ea) (hb : KE G B (.BoolOp .And (b :: rest) pos) eb) : KE G B (.BoolOp .And (a :: b :: rest) pos) (.and ea eb) := ⟨fun X h => s_and (ha.p X h) (hb.p X h)⟩
theorem k_one {op : BoolOp} (ha : KE G B a ea) : KE G B (.BoolOp op [a] pos) ea := ⟨fun X h => pe_one (ha.p X h)⟩
theorem k_ite (hc : KT G B c ec) (ha : KE G B a ea) (hb : KE G B b eb) : KE G B (.IfExp c a b pos) (.ite ec ea eb) := ⟨fun X h => s_ite (hc.p X h) (ha.p X h) (hb.p X h)⟩
theorem k_notT (ha : KT G B a ea) : KT G B (.UnaryOp .Not a pos) (.not ea) := ⟨fun X h => s_notT (ha.p X h)⟩
theorem k_andT {rest : List Expr} (ha : KT G B a ea) (hb : KW G B (.BoolOp .And (b :: rest) pos) eb) : KW G B (.BoolOp .And (a :: b :: rest) pos) (.and ea eb) := ⟨fun X h => s_andT (ha.p X h) (hb.p X h)⟩
theorem k_orT {rest : List Expr} (ha : KT G B a ea) (hb : KW G B (.BoolOp .Or (b :: rest) pos) eb) : KW G B (.BoolOp .Or (a :: b :: rest) pos) (.or ea eb) := ⟨fun X h => s_orT (ha.p X h) (hb.p X h)⟩
theorem k_oneA (ha : KT G B a ea) : KW G B (.BoolOp .And [a] pos) ea := ⟨fun X h => pw_and1 (ha.p X h)⟩
theorem k_oneO (ha : KT G B a ea) : KW G B (.BoolOp .Or [a] pos) ea := ⟨fun X h => pw_or1 (ha.p X h)⟩
theorem k_W (h : KW G B a ea) : KT G B a ea := ⟨fun X x => (h.p X x).pt⟩
/-- the terms that are tests by their value -/
def wval : E → Bool
  | .var _ => true
  | .isi _ _ => true
  | .bi _ _ => true
  | .me _ _ _ => true
  | .call _ _ => true
  | .ix _ _ => true
  | _ => false
theorem k_tru (ha : KE G B a ea) (h1 : tval a = true) (h2 : wval ea = true) : KT G B a ea := ⟨fun X h => (s_truth (ha.p X h) (tval_ok h1 _)).weak fun σ H QT ⟨ρ, S, Q, re, hs, q, po⟩ => ⟨ρ, S, Q, re, hs, by
  cases ea <;> first | (cases h2; done) | skip
  · obtain ⟨d, e, k, e2, q⟩ := q
    exact ⟨d, e, k, e2, q⟩
  · exact q
  · exact q
  · exact q
  · exact q
  · exact q, po⟩⟩
theorem k_ix (ha : KE G B a ea) (hb : KE G B b eb) (hp : nsl b = true) : KE G B (.Subscript a b pos) (.ix ea eb) := ⟨fun X h => s_ix h.units (ha.p X h) (hb.p X h) (by cases b <;> first | (intro _ _; rfl) | cases hp)⟩
theorem k_o0 : KO G B none none := ⟨fun X h => s_po0⟩
theorem k_o1 (ha : KE G B a ea) : KO G B (some a) (some ea) := ⟨fun X h => s_po1 (ha.p X h)⟩
theorem k_sl {lo hi : Option Expr} {el eh : Option E} (ha : KE G B a ea) (hl : KO G B lo el) (hh : KO G B hi eh) : KE G B (.Subscript a (.Slice lo hi none p) pos) (.sl ea el eh) := ⟨fun X h => s_sl (ha.p X h) (hl.p X h) (hh.p X h)⟩
theorem k_a0 : KA G B [] [] := ⟨fun X h => s_pa0, rfl⟩
theorem k_a1 (ha : KE G B a ea) (hr : KA G B es xs) (hn : nst a = true) : KA G B (a :: es) (ea :: xs) := ⟨fun X h => s_pa1 (ha.p X h) (hr.p X h) (starEach_one hn _), by rw [List.all_cons, hn, hr.n]; rfl⟩
theorem k_r0 : KR G B [] [] := ⟨fun X h => s_pr0, rfl⟩
theorem k_r1 (ha : KE G B a ea) (hr : KR G B es xs) (hn : nst a = true) : KR G B (a :: es) (ea :: xs) := ⟨fun X h => s_pr1 (ha.p X h) (hr.p X h) (starEach_one hn _), by rw [List.all_cons, hn, hr.n]; rfl⟩
theorem k_tup {j : Nat} (h : KA G B es xs) : KE G B (.Tuple es j pos) (.tup xs) := ⟨fun X x => s_tup (h.p X x)⟩
theorem k_lst (h : KA G B es xs) : KE G B (.List es pos) (.lst xs) := ⟨fun X x => s_lst (h.p X x)⟩
theorem k_isi {t : Ty} {x : Str} {i j k l : Nat} (ha : KE G B a ea) (hn : nst a = true) (h1 : B.sc.names[i]? = some (("isinstance" : Str), .globalImplicit)) (h2 : G.free[j]? = some ("isinstance" : Str)) (ex : x = Str.ofString (tyNm t)) (h3 : B.sc.names[k]? = some (x, .globalImplicit)) (h4 : G.free[l]? = some x) :
    KE G B (.Call (.Name "isinstance" p) [a, .Name x p2] [] pos) (.isi ea t) := ⟨fun X h => s_isi (ha.p X h) (h.gl h1) (h.free _ (List.mem_of_getElem? h2)) ex (h.gl h3) (h.free _ (List.mem_of_getElem? h4)) (starEach_one hn _)⟩
/-- which built-in -/
def biNm : Bi → Str
  | .len => "len"
  | .all => "all"
  | .any => "any"
  | .sorted => "sorted"
  | .tupl => "tuple"
  | .list => "list"
  | .abs => "abs"
  | .int => "int"
  | .min => "min"
  | .max => "max"
  | .sum => "sum"
  | .repr => "repr"
  | .reprM => "repr"
  | .minL => "min"
  | .sortD => "sorted"
  | .dict => "dict"
  | .suml => "sum"
  | .str => "str"
  | .listD => "list"
def noM : Bi → Bool
  | .reprM => false
  | _ => true
theorem k_bi {q : Bi} {i j : Nat} {x : Str} (ex : x = biNm q) (h1 : B.sc.names[i]? = some (x, .globalImplicit)) (h2 : G.free[j]? = some x) (ha : KR G B (a :: es) (ea :: xs)) (hq : noM q = true := by rfl) : KE G B (.Call (.Name x p) (a :: es) [] pos) (.bi q (ea :: xs)) := ⟨fun X h => by
  have hg := h.gl h1
  have hm := h.free _ (List.mem_of_getElem? h2)
  have hd := (h.nd1 h1).1
  have hal := ha.n
  rw [List.all_cons, Bool.and_eq_true] at hal
  have hn := starEach_one (es := es) hal.1 X.env
  have hpl : (backTo pos (starEach es X.env)).any (·.1) = false := by rw [backTo_any]; exact star_plain hal.2 _
  subst ex
  cases q with
  | len => exact s_biB bi_len len_all hg hm (by decide +kernel) (by decide +kernel) hd (ha.p X h) hn hpl
  | all => exact s_biB bi_all (cr_all h.calm) hg hm (by decide +kernel) (by decide +kernel) hd (ha.p X h) hn hpl
  | any => exact s_biB bi_any (cr_any h.calm) hg hm (by decide +kernel) (by decide +kernel) hd (ha.p X h) hn hpl
  | sorted => exact s_biB bi_sorted (call_sortD h.units) hg hm (by decide +kernel) (by decide +kernel) hd (ha.p X h) hn hpl
  | tupl => exact s_biT bi_tupl call_tuple_of hg hm (by decide +kernel) (by decide +kernel) hd (ha.p X h) hn hpl
  | list => exact s_biT bi_list call_list_of hg hm (by decide +kernel) (by decide +kernel) hd (ha.p X h) hn hpl
  | abs => exact s_biB bi_abs call_abs hg hm (by decide +kernel) (by decide +kernel) hd (ha.p X h) hn hpl
  | int => exact s_biT bi_int call_int1 hg hm (by decide +kernel) (by decide +kernel) hd (ha.p X h) hn hpl
  | min => exact s_biB bi_min (call_min2 h.calm) hg hm (by decide +kernel) (by decide +kernel) hd (ha.p X h) hn hpl
  | max => exact s_biB bi_max (call_max2 h.calm) hg hm (by decide +kernel) (by decide +kernel) hd (ha.p X h) hn hpl
  | sum => exact s_biB bi_sum (cr_sum h.calm) hg hm (by decide +kernel) (by decide +kernel) hd (ha.p X h) hn hpl
  | repr => exact s_biB bi_repr (call_repr h.grd h.units) hg hm (by decide +kernel) (by decide +kernel) hd (ha.p X h) hn hpl
  | reprM => cases hq
  | minL => exact s_biB bi_minL (cr_min h.calm) hg hm (by decide +kernel) (by decide +kernel) hd (ha.p X h) hn hpl
  | sortD => exact s_biB bi_sortD (call_sortedB h.calm) hg hm (by decide +kernel) (by decide +kernel) hd (ha.p X h) hn hpl
  | dict => exact s_biT bi_dict (call_dictP h.calm) hg hm (by decide +kernel) (by decide +kernel) hd (ha.p X h) hn hpl
  | suml => exact s_biB bi_suml (cr_sumL h.calm) hg hm (by decide +kernel) (by decide +kernel) hd (ha.p X h) hn hpl
  | str => exact s_biT bi_str (call_str_int.or SkE.call_str_str) hg hm (by decide +kernel) (by decide +kernel) hd (ha.p X h) hn hpl
  | listD => exact s_biT bi_listD (call_listD h.calm) hg hm (by decide +kernel) (by decide +kernel) hd (ha.p X h) hn hpl⟩
def meNm : Me → Str
  | .append => "append"
  | .extend => "extend"
  | .pop => "pop"
  | .reverse => "reverse"
  | .upper => "upper"
  | .join => "join"
  | .insert => "insert"
  | .count => "count"
theorem k_me0 {q : Me} {x : Str} (ex : x = meNm q) (ho : KE G B o eo) (hb : nbase o = true) (hl : (apos.endLine == cpos.line) = true) : KE G B (.Call (.Attribute o x apos) [] [] cpos) (.me q eo []) := ⟨fun X h => by
  subst ex
  have hb := nbase_ok hb (meNm q) X.env (eval o X.env)
  have ho := ho.p X h
  cases q with
  | append => exact s_me0 me_append ho hb hl
  | extend => exact s_me0 me_extend ho hb hl
  | pop => exact s_me0 me_pop ho hb hl
  | reverse => exact s_me0 me_reverse ho hb hl
  | upper => exact s_me0 me_upper ho hb hl
  | join => exact s_me0 me_join ho hb hl
  | insert => exact s_me0 me_insert ho hb hl
  | count => exact s_me0 me_count ho hb hl⟩
theorem few_of {a : Expr} (hn : nst a = true) (env : PySem.Env) : ((backTo cpos (starEach [a] env)).all (fun x => !x.1) && (backToKw cpos (keywordEach [] env)).all (fun x => x.1.isSome) && decide (([a] : List Expr).length + ([] : List Keyword).length + (if ([] : List Keyword).isEmpty then 0 else 1) < 30)) = true := by
  rw [starEach_one hn]
  rfl
theorem k_me1 {q : Me} {x : Str} (ex : x = meNm q) (ho : KE G B o eo) (hb : nbase o = true) (hl : (apos.endLine == cpos.line) = true) (ha : KE G B a ea) (hn : nst a = true) : KE G B (.Call (.Attribute o x apos) [a] [] cpos) (.me q eo [ea]) := ⟨fun X h => by
  subst ex
  have hb := nbase_ok hb (meNm q) X.env (eval o X.env)
  have ho := ho.p X h
  have h1 := few_of (cpos := cpos) hn X.env
  have h2 := starEach_one (es := []) hn X.env
  have hr := (k_a1 ha k_a0 hn).p X h
  have h3 : (backTo cpos (starEach [] X.env)).any (·.1) = false := rfl
  cases q with
  | append => exact s_me1 me_append ho hr hb h1 hl h2 h3
  | extend => exact s_me1 me_extend ho hr hb h1 hl h2 h3
  | pop => exact s_me1 me_pop ho hr hb h1 hl h2 h3
  | reverse => exact s_me1 me_reverse ho hr hb h1 hl h2 h3
  | upper => exact s_me1 me_upper ho hr hb h1 hl h2 h3
  | join => exact s_me1 me_join ho hr hb h1 hl h2 h3
  | insert => exact s_me1 me_insert ho hr hb h1 hl h2 h3
  | count => exact s_me1 me_count ho hr hb h1 hl h2 h3⟩
theorem few_of2 {a b : Expr} (hn : nst a = true) (hn2 : nst b = true) (env : PySem.Env) : ((backTo cpos (starEach [a, b] env)).all (fun x => !x.1) && (backToKw cpos (keywordEach [] env)).all (fun x => x.1.isSome) && decide (([a, b] : List Expr).length + ([] : List Keyword).length + (if ([] : List Keyword).isEmpty then 0 else 1) < 30)) = true := by
  rw [starEach_one hn, starEach_one hn2]
  rfl
theorem k_callD {f i j : Nat} {x : Str} {q : DCall} {d : D} (h1 : G.fns[f]? = some x) (h2 : B.sc.names[i]? = some (x, .globalImplicit)) (h3 : G.dcl[j]? = some q) (h4 : q.x = x) (h5 : q.dv = some d) (ha : KA G B (a :: es) xs) : KE G B (.Call (.Name x p) (a :: es) [] pos) (.call f (xs ++ [.cst d])) := ⟨fun X h => by
  obtain ⟨ad, fd, ps, F, ⟨_, bn⟩, hm, hk⟩ := h.call f x h1
  obtain ⟨v, u, b1, b2, b3⟩ := (bn q (List.mem_of_getElem? h3) h4).left d h5
  have hal := ha.n
  rw [List.all_cons, Bool.and_eq_true] at hal
  refine (s_callD F h.grd h.room b1 b2 b3 (h.gl h2) hm hk (ha.p X h) (h.nd1 h2).1 (starEach_one hal.1 _) (by rw [backTo_any]; exact star_plain hal.2 _)).weak fun σ H QV hq => ?_
  obtain ⟨ρ, S, Q, re, hs, w, po⟩ := hq
  refine ⟨ρ, S, Q, re, hs, ?_, po⟩
  rw [wE, wEs_snoc] at w
  simp only [wE, mat] at w
  exact w⟩
theorem k_callK {f i j : Nat} {x : Str} {q : DCall} {e : Expr} {ee : E} {kp : Pos} (h1 : G.fns[f]? = some x) (h2 : B.sc.names[i]? = some (x, .globalImplicit)) (h3 : G.dcl[j]? = some q) (h4 : q.x = x) (ha : KA G B (a :: es) xs) (he : KE G B e ee) : KE G B (.Call (.Name x p) (a :: es) [⟨some q.kn, e, kp⟩] pos) (.call f (xs ++ [ee])) := ⟨fun X h => by
  obtain ⟨ad, fd, ps, F, ⟨_, bn⟩, hm, hk⟩ := h.call f x h1
  have b := (bn q (List.mem_of_getElem? h3) h4).named
  have hal := ha.n
  have hal2 := hal
  rw [List.all_cons, Bool.and_eq_true] at hal
  refine (s_callK F h.grd h.room b (h.gl h2) hm hk (ha.p X h) (he.p X h) (h.nd1 h2).1 (starEach_one hal.1 _) (by rw [backTo_any]; exact star_plain hal2 _)).weak fun σ H QV hq => ?_
  obtain ⟨ρ, S, Q, re, hs, w, po⟩ := hq
  refine ⟨ρ, S, Q, re, hs, ?_, po⟩
  rw [wE, wEs_snoc] at w
  exact w⟩
theorem k_call {f i : Nat} {x : Str} (h1 : G.fns[f]? = some x) (h2 : B.sc.names[i]? = some (x, .globalImplicit)) (ha : KA G B (a :: es) xs) (h0 : dnB G.dcl x = false := by rfl) : KE G B (.Call (.Name x p) (a :: es) [] pos) (.call f xs) := ⟨fun X h => by
  obtain ⟨ad, fd, ps, F, ⟨bn, _⟩, hm, hk⟩ := h.call f x h1
  have bn := bn h0
  have hal := ha.n
  rw [List.all_cons, Bool.and_eq_true] at hal
  exact s_call F h.grd h.room bn (h.gl h2) hm hk (ha.p X h) (h.nd1 h2).1 (starEach_one hal.1 _) (by rw [backTo_any]; exact star_plain hal.2 _)⟩
theorem evs_wEs {F : Fw} : ∀ (xs : List E) (ρ : Env) (S : Sto) (Q : List D → Sto → Prop), evs (xs.map (wE F)) ρ S Q = wEs F xs ρ S Q
  | [], _, _, _ => by simp only [List.map_nil, evs, wEs]
  | e :: xs, ρ, S, Q => by
    simp only [List.map_cons, evs, wEs]
    congr 1
    funext r S1
    congr 1
    funext d S2
    exact evs_wEs xs ρ S2 _
structure KPs (G : Gm) (B : Bk) (pos : Pos) (keys : List (Option Expr)) (vals : List Expr) (ks : List Key) (xs : List E) : Prop where
  p : ∀ X, At G B X → PPs X pos keys vals (pairTs X.K ks (xs.map (wE G.F)))
  h : keys.all (·.isSome) = true ∧ keys.length = vals.length ∧ ks.length = xs.length ∧ keys.length = ks.length
theorem k_ps0 : KPs G B pos [] [] [] [] := ⟨fun X h => pps_nil, rfl, rfl, rfl, rfl⟩
theorem k_psS {keys : List (Option Expr)} {vals : List Expr} {ks : List Key} {z : Str} {j : Nat} (ha : KE G B a ea) (hr : KPs G B pos keys vals ks xs) : KPs G B pos (some (.Constant (.str z) j p) :: keys) (a :: vals) (.inr z :: ks) (ea :: xs) :=
  ⟨fun X h => pps_cons pe_str (ha.p X h) (hr.p X h), by rw [List.all_cons, hr.h.1]; rfl, by simp [hr.h.2.1], by simp [hr.h.2.2.1], by simp [hr.h.2.2.2]⟩
theorem k_disp {keys : List (Option Expr)} {vals : List Expr} {ks : List Key} (h : KPs G B pos keys vals ks xs) (h0 : keys ≠ []) (hk : decide (ks.length ≤ 15 ∧ ks.Nodup) = true) : KE G B (.Dict keys vals pos) (.dK ks xs) := ⟨fun X x => by
  have hh := of_decide_eq_true hk
  refine (s_disp (h.p X x) h.h.1 h.h.2.1 h0 (by rw [h.h.2.2.2]; exact hh.1) (by rw [List.length_map]; exact h.h.2.2.1) hh.2 hh.1).weak fun σ H QV ⟨ρ, S, Q, re, hs, q, po⟩ => ⟨ρ, S, Q, re, hs, ?_, po⟩
  show evs (xs.map (wE G.F)) ρ S _
  rw [evs_wEs]
  simp only [wE] at q
  exact q⟩
theorem k_dnew : KE G B (.Dict [] [] pos) (.dK [] []) := ⟨fun X h => s_dnew.weak fun σ H QV ⟨ρ, S, Q, re, hs, q, po⟩ => ⟨ρ, S, Q, re, hs, by simp only [wE, wEs] at q; exact q, po⟩⟩
end
set_option maxRecDepth 100000
set_option maxHeartbeats 1000000
section
variable {G : Gm} {B : Bk} {a b c o tg iter elt e : Expr} {ea eb ec eo ee : E} {pos pos' p p2 apos cpos spos : Pos} {es : List Expr} {xs : List E}
theorem k_seq (ha : KE G B a ea) : KI G B tg a (.seq ea) := ⟨fun X h => s_seq (ha.p X h)⟩
theorem k_rng1 {i j : Nat} (h1 : B.sc.names[i]? = some (("range" : Str), .globalImplicit)) (h2 : G.free[j]? = some ("range" : Str)) (ha : KE G B a ea) (hn : nst a = true) : KI G B tg (.Call (.Name "range" p) [a] [] pos) (.rng1 ea) :=
  ⟨fun X h => s_rng1 (h.gl h1) (h.free _ (List.mem_of_getElem? h2)) (ha.p X h) (starEach_one hn _)⟩
theorem k_rng2 {i j : Nat} (h1 : B.sc.names[i]? = some (("range" : Str), .globalImplicit)) (h2 : G.free[j]? = some ("range" : Str)) (ha : KE G B a ea) (hb : KE G B b eb) (hn : nst a = true) (hn2 : nst b = true) : KI G B tg (.Call (.Name "range" p) [a, b] [] pos) (.rng2 ea eb) :=
  ⟨fun X h => s_rng2 (h.gl h1) (h.free _ (List.mem_of_getElem? h2)) (ha.p X h) (hb.p X h) ((starEach_one hn _).trans (by rw [starEach_one hn2]; rfl)) (starEach_one hn2 _)⟩
theorem k_enum {i j kk : Nat} {elts : List Expr} {tpos : Pos} (h1 : B.sc.names[i]? = some (("enumerate" : Str), .globalImplicit)) (h2 : G.free[j]? = some ("enumerate" : Str)) (ha : KE G B a ea) (hn : nst a = true) : KI G B (.Tuple elts kk tpos) (.Call (.Name "enumerate" p) [a] [] pos) (.enum ea) :=
  ⟨fun X h => s_enum (h.gl h1) (h.free _ (List.mem_of_getElem? h2)) (ha.p X h) (starEach_one hn _)⟩
theorem k_gn {i j : Nat} {x : Str} {k : NameKind} (h1 : B.N[i]? = some x) (h2 : B.sc.names[j]? = some (x, k)) (h3 : ownK B x k = true) : KG G B (.Name x pos) (.name i) :=
  ⟨fun X h => s_gname (pg_name h.nd (by rw [h.hN]; exact h1) (h.loc h2 (ownK_loc h3)) (h.own h2 h3))⟩
structure KGs (G : Gm) (B : Bk) (a : List Expr) (t : List Nat) : Prop where
  p : ∀ X, At G B X → PGs X a (tDGs X.K t)
  l : ∀ env, (assignEach a env).length = t.length
  s : ∀ env, (assignEach a env).findIdx? (·.1) = none
theorem k_gs0 : KGs G B [] [] := ⟨fun X h => s_gs0, fun _ => rfl, fun _ => rfl⟩
theorem assignEach_one {e : Expr} {es : List Expr} (h : nst e = true) (env : PySem.Env) : assignEach (e :: es) env = (false, assign e env) :: assignEach es env := by
  cases e <;> first | rfl | cases h
theorem k_gs1 {i j : Nat} {is : List Nat} {x : Str} {k : NameKind} (h1 : B.N[i]? = some x) (h2 : B.sc.names[j]? = some (x, k)) (h3 : ownK B x k = true) (hr : KGs G B es is) : KGs G B (.Name x pos :: es) (i :: is) :=
  ⟨fun X h => s_gs1 (pg_name h.nd (by rw [h.hN]; exact h1) (h.loc h2 (ownK_loc h3)) (h.own h2 h3)) (hr.p X h) (by rw [assignEach_one rfl]; rfl), fun env => by rw [assignEach_one rfl, List.length_cons, hr.l]; rfl, fun env => by
    rw [assignEach_one rfl, List.findIdx?_cons, hr.s]
    rfl⟩
theorem k_gt {is : List Nat} {j : Nat} (h : KGs G B es is) : KG G B (.Tuple es j pos) (.tup is) := ⟨fun X x => s_gtup x.calm (h.p X x) (h.l _) (h.s _)⟩
/-! comprehensions -/
theorem pts_weak {X : Cx} {e : List Expr} {t t' : TT} (h : PTs X e t) (f : ∀ σ H Q, t' σ H Q → t σ H Q) : PTs X e t' := ⟨fun pins s σ H Q I r => h.run pins s σ H Q I (f _ _ _ r)⟩
theorem k_if0 : KIf G B [] none := ⟨fun X h => pts_weak pts_nil fun σ H QT ⟨ρ, S, Q, re, hs, q, po⟩ => po true H S hs Kp.refl q⟩
theorem k_if1 (h : KT G B a ea) : KIf G B [a] (some ea) := ⟨fun X x => pts_one (h.p X x)⟩
theorem k_lc {ifs : List Expr} {scope : Scope} {own : List (Str × Nat)} {vs : List Nat} {t : TN} {it : I} {ei : Option E} (hok : blkC B.N B.sc scope own = true) (hsc : scC scope = true) (hv : own.map (·.2) = vs) (ht : decide (∀ i ∈ tnIds t, i ∈ vs) = true) (hs : nset iter = true)
    (hi : KI G B tg iter it) (hg : KG G (B.blk scope) tg t) (hf : KIf G (B.blk scope) ifs ei) (he : KE G (B.blk scope) elt ee) : KE G B (.ListComp elt [⟨tg, iter, ifs, 0⟩] scope pos) (.lc ee t it ei vs) := ⟨fun X h => by
  subst hv
  refine (s_lc (own := own) (t := t) h.calm h.nd (hi.p X h) (by rw [h.hN, h.sc]; exact blkOk_by hok) (of_decide_eq_true ht) (fun s H C cl fp => hg.p _ (h.blk hsc s H C cl fp)) (fun s H C cl fp => hf.p _ (h.blk hsc s H C cl fp)) (fun s H C cl fp => he.p _ (h.blk hsc s H C cl fp)) (nset_it hs _)).weak fun σ H QV h => h⟩
/-! ### statements -/
structure KS (G : Gm) (B : Bk) (s : Stmt) (c : C) : Prop where
  p : ∀ X, At G B X → PassesOwn (model X.prog X.w) X.A X.env X.xe → PS X s (tDS X.K (wS G.F c))
structure KSs (G : Gm) (B : Bk) (s : List Stmt) (c : List C) : Prop where
  p : ∀ X, At G B X → PassesOwn (model X.prog X.w) X.A X.env X.xe → PSs X s (tDS X.K (wSs G.F c))
theorem k_lc2 {tg1 iter1 : Expr} {ifs ifs1 : List Expr} {scope : Scope} {own : List (Str × Nat)} {vs vs1 : List Nat} {t t1 : TN} {it it1 : I} {ei ei1 : Option E} (hok : blkC B.N B.sc scope own = true) (hsc : scC scope = true) (hv : own.map (·.2) = vs) (ht : decide (∀ i ∈ tnIds t, i ∈ vs) = true) (hv1 : tnIds t1 = vs1) (ht1 : decide (∀ i ∈ tnIds t1, i ∈ vs) = true) (hs : nset iter = true) (hs1 : nset iter1 = true)
    (hi : KI G B tg iter it) (hg : KG G (B.blk scope) tg t) (hf : KIf G (B.blk scope) ifs ei) (hi1 : KI G (B.blk scope) tg1 iter1 it1) (hg1 : KG G (B.blk scope) tg1 t1) (hf1 : KIf G (B.blk scope) ifs1 ei1) (he : KE G (B.blk scope) elt ee) : KE G B (.ListComp elt [⟨tg, iter, ifs, 0⟩, ⟨tg1, iter1, ifs1, 0⟩] scope pos) (.lc2 ee t it ei t1 it1 ei1 vs vs1) := ⟨fun X h => by
  subst hv hv1
  refine (s_lc2 (own := own) (t := t) (t1 := t1) h.calm h.nd (hi.p X h) (by rw [h.hN, h.sc]; exact blkOk_by hok) (of_decide_eq_true ht) (of_decide_eq_true ht1) (fun s H C cl fp => hg.p _ (h.blk hsc s H C cl fp)) (fun s H C cl fp => hf.p _ (h.blk hsc s H C cl fp)) (fun s H C cl fp => hi1.p _ (h.blk hsc s H C cl fp)) (fun s H C cl fp => hg1.p _ (h.blk hsc s H C cl fp)) (fun s H C cl fp => hf1.p _ (h.blk hsc s H C cl fp)) (fun s H C cl fp => he.p _ (h.blk hsc s H C cl fp)) (nset_it hs _) (nset_it hs1)).weak fun σ H QV h => h⟩
theorem k_set {i j : Nat} {x : Str} {k : NameKind} (h1 : B.N[i]? = some x) (h2 : B.sc.names[j]? = some (x, k)) (h3 : ownK B x k = true) (he : KE G B a ea) (hs : ncomp a = true) : KS G B (.Assign [.Name x p] a pos) (.asg (.name i) ea) :=
  ⟨fun X h _ => s_set h.nd (by rw [h.hN]; exact h1) (h.loc h2 (ownK_loc h3)) (he.p X h) (ncomp_sw hs _ _ _) (h.own h2 h3)⟩
theorem k_setLc {i j : Nat} {x : Str} {ifs : List Expr} {scope : Scope} {own : List (Str × Nat)} {vs : List Nat} {t : TN} {it : I} {ei : Option E} (h1 : B.N[i]? = some x) (h2 : B.sc.names[j]? = some (x, .local)) (hk : B.sc.kind = .function) (hl : (p.line == pos.line) = true) (ha : (scope.names.any fun (n, k) => n == x && (k == .local || k == .cell)) = false)
    (hok : blkC B.N B.sc scope own = true) (hsc : scC scope = true) (hv : own.map (·.2) = vs) (ht : decide (∀ i ∈ tnIds t, i ∈ vs) = true) (hs : nset iter = true)
    (hi : KI G B tg iter it) (hg : KG G (B.blk scope) tg t) (hf : KIf G (B.blk scope) ifs ei) (he : KE G (B.blk scope) elt ee) : KS G B (.Assign [.Name x p] (.ListComp elt [⟨tg, iter, ifs, 0⟩] scope pos) spos) (.asg (.name i) (.lc ee t it ei vs)) := ⟨fun X h _ => by
  subst hv
  exact s_setLc (own := own) (t := t) h.calm h.nd (by rw [h.hN]; exact h1) (h.kind h2) (sw_true (by rw [h.sc]; exact hk) (h.kind h2) hl ha) (hi.p X h) (by rw [h.hN, h.sc]; exact blkOk_by hok) (of_decide_eq_true ht) (fun s H C cl fp => hg.p _ (h.blk hsc s H C cl fp)) (fun s H C cl fp => hf.p _ (h.blk hsc s H C cl fp)) (fun s H C cl fp => he.p _ (h.blk hsc s H C cl fp)) (nset_it hs _)⟩
/-- a comprehension to a name on another line, or to a cell: nothing is swapped -/
theorem k_setN {i j : Nat} {x : Str} {k : NameKind} (h1 : B.N[i]? = some x) (h2 : B.sc.names[j]? = some (x, k)) (h3 : ownK B x k = true) (he : KE G B a ea) (hs : (k == .local && p.line == a.pos.line) = false) : KS G B (.Assign [.Name x p] a pos) (.asg (.name i) ea) :=
  ⟨fun X h _ => s_set h.nd (by rw [h.hN]; exact h1) (h.loc h2 (ownK_loc h3)) (he.p X h) (by
    have hk : X.env.kindOf x = some k := h.kind h2
    by_cases hc : ncomp a = true
    · exact ncomp_sw hc _ _ _
    · have hb : (X.env.kindOf x == some .local && p.line == a.pos.line) = false := by
        rw [hk]
        cases k <;> first | exact hs | rfl
      unfold swapsWith
      cases a <;> first | (exact absurd rfl hc) | skip
      all_goals (simp only [Bool.and_assoc]; simp only [Bool.and_eq_false_iff] at hb; rcases hb with hb | hb <;> simp only [hb, Bool.false_and, Bool.and_false])
      all_goals rfl) (h.own h2 h3)⟩
structure KSt (G : Gm) (B : Bk) (tg : Expr) (t : TS) : Prop where
  p : ∀ X, At G B X → PG X tg (tDGt X.K (asgW G.F t))
  h1 : ∀ env, (assignEach [tg] env).map (·.2) = [assign tg env]
theorem k_tsub (ho : KE G B o eo) (hi : KE G B a ea) (hp : nsl a = true) : KSt G B (.Subscript o a pos) (.sub eo ea) :=
  ⟨fun X h => s_tsub h.units1 (by cases a <;> first | (intro _; rfl) | cases hp) (ho.p X h) (hi.p X h), fun env => by rw [assignEach_one rfl]; rfl⟩
theorem k_ttup {is : List Nat} {j : Nat} (h : KGs G B es is) : KSt G B (.Tuple es j pos) (.tup is) :=
  ⟨fun X x => (s_ttup ((k_gt h).p X x)).weak fun v σ H QV ⟨ρ, S, d, Q, re, hs, r, q, po⟩ => ⟨ρ, S, d, Q, re, hs, r, by
    cases d <;> first | exact q.elim | exact ⟨_, rfl, q⟩, po⟩, fun env => by rw [assignEach_one rfl]; rfl⟩
theorem nsw {t v : Expr} (h : ntup v = true) (env : PySem.Env) : swappedStores [t] v env = pure none := by
  cases v <;> first | (cases h; done) | skip
  all_goals (cases t <;> rfl)
theorem nsw2 {t v : Expr} (h : ntup t = true) (h2 : (match t with | .List .. => false | _ => true) = true) (env : PySem.Env) : swappedStores [t] v env = pure none := by
  cases t <;> first | (cases h; done) | (cases h2; done) | skip
  all_goals (cases v <;> rfl)
theorem swapsTup (a : Expr) (ts : List Expr) (j l : Nat) (p : Pos) (env : PySem.Env) : swapsWithSole [.Tuple ts j p] a l env = pure false := by
  show swapsWith a (some (.Tuple ts j p)) l env = pure false
  unfold swapsWith
  cases a <;> rfl
theorem swapsSub (a o i : Expr) (l : Nat) (p : Pos) (env : PySem.Env) : swapsWithSole [.Subscript o i p] a l env = pure false := by
  show swapsWith a (some (.Subscript o i p)) l env = pure false
  unfold swapsWith
  cases a <;> rfl
theorem k_asgTc {is : List Nat} {j : Nat} (h : KGs G B es is) (he : KE G B a ea) (ht : ntup a = true) : KS G B (.Assign [.Tuple es j p] a pos) (.asg (.tup is) ea) :=
  ⟨fun X x _ => s_asg (he.p X x) ((k_ttup h).p X x) (swapsTup _ _ _ _ _ _) (nsw ht _) ((k_ttup (pos := p) (j := j) h).h1 _)⟩
theorem k_asgS {i : Expr} {ei : E} (ho : KE G B o eo) (hi : KE G B i ei) (hp : nsl i = true) (he : KE G B a ea) : KS G B (.Assign [.Subscript o i p] a pos) (.asg (.sub eo ei) ea) :=
  ⟨fun X x _ => s_asg (he.p X x) ((k_tsub ho hi hp).p X x) (swapsSub _ _ _ _ _ _) (nsw2 rfl rfl _) ((k_tsub (pos := p) ho hi hp).h1 _)⟩
theorem k_exp (he : KE G B a ea) (hs : ncomp a = true) : KS G B (.Expr a pos) (.exp ea) := ⟨fun X h _ => s_exp (he.p X h) (ncomp_sw hs _ _ _)⟩
theorem k_ret (he : KE G B a ea) : KS G B (.Return (some a) pos) (.ret ea) := ⟨fun X h _ => s_ret (he.p X h)⟩
theorem k_nil : KSs G B [] [] := ⟨fun X h _ => s_nil⟩
theorem k_cons {s : Stmt} {ss : List Stmt} {x : C} {cs : List C} (h1 : KS G B s x) (h2 : KSs G B ss cs) : KSs G B (s :: ss) (x :: cs) := ⟨fun X h q => (s_cons (h1.p X h q) (h2.p X h q)).weak fun D σ H z => z⟩
theorem k_ife {ss ts : List Stmt} {cs ds : List C} (hc : KT G B c ec) (h1 : KSs G B ss cs) (h2 : KSs G B ts ds) : KS G B (.If c ss ts pos) (.ife ec cs ds) := ⟨fun X h q => s_ife (hc.p X h) (h1.p X h q) (h2.p X h q)⟩
theorem k_whl {ss : List Stmt} {cs : List C} (hc : KT G B c ec) (h1 : KSs G B ss cs) : KS G B (.While c ss [] pos) (.whl ec cs) := ⟨fun X h q => s_whl q (hc.p X h) (h1.p X h q)⟩
theorem k_for {ss : List Stmt} {cs : List C} {t : TN} {it : I} (hi : KI G B tg iter it) (hg : KG G B tg t) (h1 : KSs G B ss cs) (hs : nset iter = true) : KS G B (.For tg iter ss [] pos) (.for t it cs) := ⟨fun X h q => s_for q h.calm (hi.p X h) (hg.p X h) (h1.p X h q) (nset_it hs _)⟩
end
end DP
set_option maxRecDepth 100000
namespace DP.Sets
open PySem PySem.Spec PyProof.Rows L2
section
variable {κ : Type} [DecidableEq κ] [BEq κ] [LawfulBEq κ] [Inhabited κ] {P : Program} {w : World} (knd : KeyKind P w κ)
def GoodK (e : Int × Value) : Prop := ∃ k, knd.is k e.2 = true ∧ e.2.scannable = true ∧ e.1 = knd.hash k
open Classical in
noncomputable def keyK (v : Value) : κ := if h : ∃ k, knd.is k v = true then h.choose else default
theorem keyK_is {v : Value} {k : κ} (h : knd.is k v = true) : keyK knd v = k := by
  have q : ∃ k, knd.is k v = true := ⟨k, h⟩
  unfold keyK
  rw [dif_pos q]
  exact knd.inj v _ _ q.choose_spec h
/-- the set at a: ks its members -/
def SetG (h : Heap) (a : Addr) (ks : List κ) : Prop :=
  ∃ o es ep t, h.get? a = some o ∧ o.ExactSet ∧ o.data = .set es ep t ∧ (∀ e ∈ es.toList, GoodK knd e) ∧ (es.toList.map fun e => keyK knd e.2).Perm ks ∧ ks.Nodup ∧
    es.size < scanBound ∧ t.fits es.size = true ∧ Ris t.place.toList ∧ (w.params.followText "set-order" = true ∨ t.led = true)
variable {knd}
theorem SetG.at {h h' : Heap} {a : Addr} {ks : List κ} (R : SetG knd h a ks) (k : ∀ o, h.get? a = some o → h'.get? a = some o) : SetG knd h' a ks := by
  obtain ⟨o, es, ep, t, ho, r⟩ := R
  exact ⟨o, es, ep, t, k o ho, r⟩
theorem goodK_elems {l : List (Int × Value)} (g : ∀ e ∈ l, GoodK knd e) : ElemsOf knd l := fun e he => by
  obtain ⟨k, h1, h2, h3⟩ := g e he
  exact ⟨⟨k, h1, h3⟩, h2⟩
theorem goodK_is {e : Int × Value} (g : GoodK knd e) (k : κ) : knd.is k e.2 = true ↔ keyK knd e.2 = k := by
  obtain ⟨k0, h1, _, _⟩ := g
  constructor
  · intro h; exact keyK_is knd h
  · intro h; rw [← h, keyK_is knd h1]; exact h1
theorem goodK_mem {l : List (Int × Value)} (g : ∀ e ∈ l, GoodK knd e) (k : κ) : k ∈ (l.map fun e => keyK knd e.2) ↔ ∃ e ∈ l, knd.is k e.2 = true := by
  rw [List.mem_map]
  constructor
  · rintro ⟨e, he, q⟩
    exact ⟨e, he, (goodK_is (g e he) k).2 q⟩
  · rintro ⟨e, he, q⟩
    exact ⟨e, he, (goodK_is (g e he) k).1 q⟩
theorem put1_in {ks : List κ} {k : κ} (h : k ∈ ks) : put1 ks k = ks := by
  unfold put1
  refine if_pos ?_
  rw [List.any_eq_true]
  exact ⟨k, h, by simp⟩
theorem put1_out {ks : List κ} {k : κ} (h : k ∉ ks) : put1 ks k = ks ++ [k] := by
  unfold put1
  rw [if_neg]
  intro z
  obtain ⟨x, hx, e⟩ := List.any_eq_true.mp z
  rw [beq_iff_eq] at e
  subst e
  exact h hx
theorem put1_nd {ks : List κ} (h : ks.Nodup) (k : κ) : (put1 ks k).Nodup := by
  unfold put1
  split
  · exact h
  · rename_i q
    rw [List.nodup_append]
    refine ⟨h, by simp, fun x hx y hy e => ?_⟩
    rw [List.mem_singleton] at hy
    subst hy e
    exact q (List.any_eq_true.mpr ⟨x, hx, beq_self_eq_true x⟩)
end
section
variable {κ : Type} [DecidableEq κ] [BEq κ] [LawfulBEq κ] [Inhabited κ] {P : Program} {w : World} {knd : KeyKind P w κ} {A : Around} {E : Value → Shared → Prop} {s : Shared} {a : Addr} {ks : List κ}
theorem setG_add_tail {g : Bool → Sem Unit} (hg : ∀ (b : Bool) (s₁ : Shared) (Q' : Unit → Shared → Prop), Q' () s₁ → wpAny (model P w) A (g b) Q' E s₁)
    {o : Obj} {es : Array (Int × Value)} {ep : Nat} {t : SetTable} (ho : s.heap.get? a = some o) (hex : o.ExactSet) (hd : o.data = .set es ep t)
    {es1 : Array (Int × Value)} {t2 : SetTable} {ks' : List κ} (g1 : ∀ e ∈ es1.toList, GoodK knd e) (m1 : (es1.toList.map fun e => keyK knd e.2).Perm ks') (nd1 : ks'.Nodup)
    (hb1 : es1.size < scanBound) (hf2 : t2.fits es1.size = true) (hr : Ris t2.place.toList) (hl : w.params.followText "set-order" = true ∨ t2.led = true) {wasDummy : Bool} {R : Option Bool → Shared → Prop}
    (hR : ∀ h', Heap.SameBut a s.heap h' → SetG knd h' a ks' → R (some true) { s with heap := h' }) :
    wpAny (model P w) A (do
        storeSet a es1 t2
        if (!wasDummy && t2.tooFull) = true then do
            g (relayAll t2 es1 (SetTable.grown es1.size)).2.2
            storeSet a (relayAll t2 es1 (SetTable.grown es1.size)).1 (relayAll t2 es1 (SetTable.grown es1.size)).2.1
            pure (some true)
          else pure (some true)) R E s := by
  refine wpAny_bind (wpAny_storeSet_of ho hd ?_ (fits_of_scanBound hb1))
  have ho1 := store_at (es' := es1) (t' := t2) ho hd
  have sb1 := Heap.SameBut.update s.heap a (Obj.putSet es1 t2)
  split
  · have pm := relayAll_perm t2 es1 (SetTable.grown es1.size)
    have hf3 := relayAll_fits t2 es1 (SetTable.grown es1.size)
    have hr3 := relayAll_ris t2 es1 (SetTable.grown es1.size)
    have hl3 := relayAll_led t2 es1 (SetTable.grown es1.size)
    generalize relayAll t2 es1 (SetTable.grown es1.size) = Z at pm hf3 hr3 hl3 ⊢
    obtain ⟨es2, t3, gave⟩ := Z
    dsimp only at pm hf3 hr3 hl3 ⊢
    have hsz : es2.size = es1.size := by rw [← Array.length_toList, pm.length_eq, Array.length_toList]
    have hb2 : es2.size < scanBound := by rw [hsz]; exact hb1
    refine wpAny_bind (hg _ _ _ ?_)
    refine wpAny_bind (wpAny_storeSet_of ho1 rfl ?_ (fits_of_scanBound hb2))
    have ho2 := store_at (es' := es2) (t' := t3) ho1 rfl
    refine wpAny_pure (hR _ (sb1.trans (Heap.SameBut.update _ a _)) ?_)
    exact ⟨_, es2, _, t3, ho2, hex, rfl, fun e he => g1 e (pm.mem_iff.mp he), (pm.map fun e => keyK knd e.2).trans m1, nd1, hb2, hf3, hr3, hl.imp id fun z => by rw [hl3]; exact z⟩
  · exact wpAny_pure (hR _ sb1 ⟨_, es1, _, t2, ho1, hex, rfl, g1, m1, nd1, hb1, hf2, hr, hl⟩)
theorem setG_add_hashed {k : κ} {v : Value} (hk : knd.is k v = true) (hsc : v.scannable = true) {Q : Bool → Shared → Prop} (R : SetG knd s.heap a ks) (room : ks.length + 1 < scanBound)
    (hQ : ∀ b h', Heap.SameBut a s.heap h' → SetG knd h' a (put1 ks k) → Q b { s with heap := h' }) :
    wpAny (model P w) A (setAddHashed a v (knd.hash k)) Q E s := by
  obtain ⟨o, es, ep, t, ho, hex, hd, g, hp, hnd, hb, hf, hr, hl⟩ := R
  have hel : ElemsOf knd es.toList := goodK_elems g
  unfold setAddHashed setAddHashedIn
  refine wpAny_holding (wpAny_bind (wpAny_setState_of ho hd hf ?_))
  dsimp only
  rw [byScan_of hsc hb hel]
  simp only [↓reduceIte]
  unfold setAddByScan
  refine wpAny_bind ?_
  refine wpAny_bind (wpAny_rule ?_)
  refine wpAny_bind (wpAny_setScan_of hk ho hd hf hel ?_)
  cases hfi : List.findIdx? (fun e => knd.is k e.2) es.toList with
  | some j =>
    dsimp only
    obtain ⟨hj, pj, _⟩ := List.findIdx?_eq_some_iff_getElem.mp hfi
    have hin : k ∈ ks := hp.mem_iff.mp ((goodK_mem g k).2 ⟨es.toList[j], List.getElem_mem hj, pj⟩)
    have e : put1 ks k = ks := put1_in hin
    refine wpAny_pure (wpAny_pure ?_)
    exact hQ _ s.heap (Heap.SameBut.refl a s.heap) ⟨o, es, ep, t, ho, hex, hd, g, by rw [e]; exact hp, by rw [e]; exact hnd, hb, hf, hr, hl⟩
  | none =>
    dsimp only
    have hnk : k ∉ (es.toList.map fun e => keyK knd e.2) := fun z => by
      obtain ⟨e, he, q⟩ := (goodK_mem g k).1 z
      have c := List.findIdx?_eq_none_iff.mp hfi e he
      rw [q] at c
      cases c
    have hnks : k ∉ ks := fun z => hnk (hp.mem_iff.mpr z)
    have e1 : put1 ks k = ks ++ [k] := put1_out hnks
    have hgw : ∀ (b : Bool) {s₁ : Shared} {Q' : Unit → Shared → Prop}, Q' () s₁ → wpAny (model P w) A (match b with | true => rule "set.scan.the-table-gave-way" | false => pure ()) Q' E s₁ :=
      fun b s₁ Q' q => by cases b <;> first | exact wpAny_pure q | exact wpAny_rule q
    have pm := layNew_perm t es (knd.hash k) v
    have hf1 := layNew_fits t es (knd.hash k) v
    have hr1 := layNew_ris t es (knd.hash k) v hr
    have hl1 := layNew_led t es (knd.hash k) v
    generalize layNew t es (knd.hash k) v = Z at pm hf1 hr1 hl1 ⊢
    obtain ⟨es1, t1, wasDummy, gave⟩ := Z
    dsimp only at pm hf1 hr1 hl1 ⊢
    rw [Array.toList_push] at pm
    have pc : es1.toList.Perm ((knd.hash k, v) :: es.toList) := pm.trans (List.perm_append_singleton _ _)
    have pk : (es1.toList.map fun e => keyK knd e.2).Perm (put1 ks k) := by
      rw [e1]
      refine (pc.map fun e => keyK knd e.2).trans ?_
      rw [List.map_cons, keyK_is knd hk]
      exact ((hp.cons k).trans (List.perm_append_singleton _ _).symm)
    have g1 : ∀ e ∈ es1.toList, GoodK knd e := fun e he => by
      rcases List.mem_cons.mp (pc.mem_iff.mp he) with z | z
      · rw [z]; exact ⟨k, hk, hsc, rfl⟩
      · exact g e z
    have nd1 := put1_nd hnd k
    have hsz : es1.size = ks.length + 1 := by rw [← Array.length_toList, pc.length_eq, List.length_cons, ← hp.length_eq, List.length_map]
    have hb1 : es1.size < scanBound := by rw [hsz]; exact room
    have hled : w.params.followText "set-order" = true ∨ t1.led = true := hl.imp id fun z => by rw [hl1]; exact z
    have fin : ∀ h', Heap.SameBut a s.heap h' → SetG knd h' a (put1 ks k) → Q true { s with heap := h' } := fun h' sb r => hQ _ h' sb r
    refine wpAny_bind (hgw _ ?_)
    split
    · refine wpAny_bind ?_
      rw [hashByValue_scannable 8 hsc]
      refine wpAny_pure ?_
      refine setG_add_tail ?_ ho hex hd g1 pk nd1 hb1 ?_ ?_ ?_ ?_
      · intro b s₁ Q' q; cases b <;> first | exact wpAny_pure q | exact wpAny_rule q
      · first | (split <;> first | exact hf1 | exact SetTable.fits_plain_off hf1) | exact hf1
      · first | (split <;> exact hr1) | exact hr1
      · first | (split <;> exact hled) | exact hled
      · intro h' sb r; dsimp only; exact wpAny_pure (fin h' sb r)
    · refine wpAny_bind (wpAny_pure ?_)
      simp only [↓reduceIte]
      refine setG_add_tail ?_ ho hex hd g1 pk nd1 hb1 hf1 hr1 hled ?_
      · intro b s₁ Q' q; cases b <;> first | exact wpAny_pure q | exact wpAny_rule q
      · intro h' sb r; dsimp only; exact wpAny_pure (fin h' sb r)
end
section
variable {prog : Program} {w : World} {A : Around} {fin : Result → Shared → Prop} {it : Addr} {fp wr : List Addr} {G : Array GenState → Array GenState → Prop} {n : Nat} {P : Nat → Value → Prop} {St : Nat → Shared → Prop}
variable {κ : Type} [DecidableEq κ] [BEq κ] [LawfulBEq κ] [Inhabited κ] {knd : KeyKind prog w κ}
theorem SetG.moved {b : Addr} {ks : List κ} {z z' : Shared} (hw : b ∉ wr) (m : Moved wr G z z') (h : SetG knd z.heap b ks) : SetG knd z'.heap b ks := h.at fun o e => m.heap b _ hw e
/-- the loop that puts what is walked into the set, from turn i on -/
theorem fillG (Wk : WalksS prog w A.in1 it fp wr G n P St) {b : Addr} (hb : b ∉ fp) {val : Nat → κ} (hv : ∀ i v, P i v → knd.is (val i) v = true ∧ v.scannable = true) (hn : n + 1 < scanBound) (m : Nat) :
    ∀ {i : Nat} {z : Shared}, n - i = m → i ≤ n → St i z → SetG knd z.heap b (met val i) → (∀ z', Moved (b :: wr) G z z' → SetG knd z'.heap b (met val n) → fin (.ok (.ret .none)) z') →
      codeAny (model prog w) A (.builtin "set.update.loop" ⟨[.ref b, .ref it], []⟩) fin z := by
  have out : b ∉ wr := fun q => hb (Wk.sub _ q)
  have wid : ∀ c ∈ wr, c ∈ b :: wr := fun c q => List.mem_cons_of_mem _ q
  induction m with
  | zero =>
    intro i z hm hi st hs q
    obtain rfl : i = n := by omega
    refine codeAny_builtin PyProof.Rows.F.entry_set_update_loop ?_
    rw [Around.under_plainId PyProof.Rows.F.plain_set_update_loop]
    exact wpAny_bind (Wk.done z _ _ st fun z1 mv => wpAny_pure (q z1 (mv.mono wid) (hs.moved out mv)))
  | succ m ih =>
    intro i z hm hi st hs q
    refine codeAny_builtin PyProof.Rows.F.entry_set_update_loop ?_
    rw [Around.under_plainId PyProof.Rows.F.plain_set_update_loop]
    refine wpAny_bind (Wk.item i z _ _ (by omega) st fun v z1 pv st1 mv => ?_)
    obtain ⟨kv, sc⟩ := hv i v pv
    have hs1 := hs.moved out mv
    have room : (met val i).length + 1 < scanBound := by have := met_le val i; omega
    refine wpAny_bind (wpAny_holding ?_)
    unfold setAdd
    refine wpAny_holding (wpAny_bind (knd.pyHash kv ?_))
    refine setG_add_hashed (s := { z1 with toks := z1.toks + 1 }) kv sc hs1 room fun bb g same hs2 => ?_
    refine wpAny_pure ⟨plainId_quiet PyProof.Rows.F.plain_set_update_loop _, ih (by omega) (by omega) (Wk.frame _ z1 _ _ st1 (Nat.le_succ _) fun c hc o e => ?_) hs2 fun z2 mv2 hs4 => ?_⟩
    · exact (same.2 c (fun e' => hb (e' ▸ hc))).trans e
    · exact q z2 (Moved.trans Wk.gtrans ((mv.mono wid).then_heap (Nat.le_succ _) fun c o hc e => (same.2 c (fun e' => hc (e' ▸ List.mem_cons_self))).trans e) mv2) hs4
end
section
variable {prog : Program} {w : World} {A : Around} {E : Value → Shared → Prop} {z : Shared} {κ : Type} [DecidableEq κ] [BEq κ] [LawfulBEq κ] [Inhabited κ] {knd : KeyKind prog w κ}
set_option maxHeartbeats 4000000 in
/-- set(x), x a list or tuple of keys of one kind -/
theorem setG_of {l : Addr} {its : Array Value} {val : Nat → κ} {Q : Value → Shared → Prop} (free : A.handled = none) (hl : z.heap.IsList l its ∨ z.heap.IsTuple l its)
    (hv : ∀ (i : Nat) (v : Value), its[i]? = some v → knd.is (val i) v = true ∧ v.scannable = true) (hn : its.size + 1 < scanBound)
    (q : ∀ (g : Heap) (tk : Nat), SetG knd g z.heap.objs.size (met val its.size) → (∀ b o, b < z.heap.objs.size → z.heap.get? b = some o → g.get? b = some o) → Q (.ref z.heap.objs.size) { z with heap := g, toks := tk }) :
    wpAny (model prog w) A (call (.type "set") [.ref l]) Q E z := by
  obtain ⟨base, tail, order⟩ := PySem.F.called_set.mro
  have c1 := PySem.F.called_set.made
  have c2 := PySem.F.called_set.sub
  have c3 := PySem.F.called_set.notType
  have c4 := PySem.F.called_set.canCreate
  have c5 := PySem.F.typeCall_set_1 (.ref l)
  refine wpAny_call (codeAny_of_tree (wpAny_pure ⟨Code.quiet_builtin _ (by decide +kernel), codeAny_builtin PySem.F.entry_type_call ?_⟩))
  rw [Around.under_plain (weight_type_call_type "set" [.ref l] []) rfl]
  repeat (any_goals (first | assumption | wp_step))
  refine codeAny_mono (code_set_led1 (.ref l) (E := E) (Q₁ := fun v y => v = .ref z.heap.objs.size ∧ y = { z with heap := bare z.heap (!w.params.followText "set-order") }) ⟨rfl, rfl⟩) fun r y hr => ?_
  match r, hr with
  | .error e, hr => exact hr
  | .ok (.ret v), ⟨e1, e2⟩ =>
    subst e1 e2
    generalize hled : (!w.params.followText "set-order") = led
    have at0 : (bare z.heap led).get? z.heap.objs.size = some { cls := .type "set", dict := none, data := .set #[] 0 (.fresh 0 0 led) } := Heap.get?_push_size _ rfl
    have ty0 : Shared.TypeIs { z with heap := bare z.heap led } (.ref z.heap.objs.size) "set" := ⟨_, at0, rfl⟩
    have ledOk : w.params.followText "set-order" = true ∨ led = true := by
      rw [← hled]
      cases w.params.followText "set-order"
      · exact .inr rfl
      · exact .inl rfl
    have new0 : ∀ (h : Heap), h.get? z.heap.objs.size = some { cls := .type "set", dict := none, data := .set #[] 0 (.fresh 0 0 led) } → SetG knd h z.heap.objs.size [] := fun h e =>
      ⟨_, #[], 0, _, e, ⟨rfl, rfl, rfl⟩, rfl, (fun e he => by simp at he), (by simp), (by simp), (by decide), (by rfl), List.Pairwise.nil, ledOk⟩
    have i1 := PySem.F.called_set.init.lookup
    have i2 := PySem.F.called_set.init.bind (.ref z.heap.objs.size)
    repeat (any_goals (first | assumption | wp_step))
    refine codeAny_mono (codeAny_call_builtin (R := wants (fun r y => r = .none ∧ ∃ g tk, y = { z with heap := g, toks := tk } ∧ SetG knd g z.heap.objs.size (met val its.size) ∧ ∀ b o, b < z.heap.objs.size → z.heap.get? b = some o → g.get? b = some o) E)
      PySem.F.called_set.init.plain PySem.F.entry_set_init (check_set_init_1 ty0 ?_)) fun r2 y2 hr2 => ?_
    · have free3 : A.in1.in1.in1.handled = none := by simp [free]
      have size1 : (bare z.heap led).objs.size = z.heap.objs.size + 1 := by rw [Heap.size_push]
      have stop : ∀ (wr : List Addr) (zz : Shared), (∀ c ∈ wr, c = (bare z.heap led).objs.size) → True := fun _ _ _ => trivial
      rcases hl with hl | hl
      · obtain ⟨⟨ocls, odict, odata, oslots⟩, hol, hcl, nl, hdl⟩ := hl
        simp only at hcl hdl
        subst hcl hdl
        have hol' : (bare z.heap led).get? l = some { cls := .type "list", dict := odict, data := .seq its nl, slots := oslots } := Heap.get?_push_of_some _ hol
        have n1 := PySem.F.sub_list_set
        have n2 := PySem.F.sub_list_frozenset
        have n3 : (Value.type "list" == Value.type "dict") = false := by decide
        have hl1 : (bare z.heap led).IsList l its := ⟨_, hol', rfl, nl, rfl⟩
        have lt : l < z.heap.objs.size := Heap.lt_size hol
        unfold Builtin.«set.__init__» noKeywords Builtin.Frozenset.updateFrom
        generalize hPI : pyIter = PI
        wp_walk
        subst hPI
        refine wpAny_pyIter_list hl1 (wpAny_bind (wpAny_runValue ?_))
        have ne1 : l ≠ (bare z.heap led).objs.size := by rw [size1]; exact Nat.ne_of_lt (Nat.lt_succ_of_lt lt)
        have notin : z.heap.objs.size ∉ [(bare z.heap led).objs.size, l] := by
          rw [size1, List.mem_cons, List.mem_singleton, not_or]
          exact ⟨Nat.ne_of_lt (Nat.lt_succ_self _), Nat.ne_of_gt lt⟩
        refine fillG (knd := knd) ((Walks.list free3 _ l ne1 its).toS) notin hv hn _ (i := 0) rfl (Nat.zero_le _) ⟨⟨_, Heap.get?_push_size _ rfl, rfl, rfl⟩, hl1.push _⟩ ?start ?stop
        case start => exact new0 _ (Heap.get?_push_of_some _ at0)
        case stop =>
          rintro ⟨g, gs, dr, tk, os⟩ mv hs
          obtain rfl : gs = z.gens := mv.gens
          obtain rfl : dr = z.drawn := mv.drawn
          obtain rfl : os = z.os := mv.os
          refine wpAny_pure (wpAny_pure ⟨rfl, g, tk, rfl, hs, fun b o hb e => mv.heap b o ?_ (Heap.get?_push_of_some _ (Heap.get?_push_of_some _ e))⟩)
          rw [size1, List.mem_cons, List.mem_singleton, not_or]
          exact ⟨Nat.ne_of_lt hb, Nat.ne_of_lt (Nat.lt_succ_of_lt hb)⟩
      · obtain ⟨⟨ocls, odict, odata, oslots⟩, hol, hcl, nl, hdl⟩ := hl
        simp only at hcl hdl
        subst hcl hdl
        have hol' : (bare z.heap led).get? l = some { cls := .type "tuple", dict := odict, data := .seq its nl, slots := oslots } := Heap.get?_push_of_some _ hol
        have n1 := PySem.F.sub_tuple_set
        have n2 := PySem.F.sub_tuple_frozenset
        have n3 : (Value.type "tuple" == Value.type "dict") = false := by decide
        have hl1 : (bare z.heap led).IsTuple l its := ⟨_, hol', rfl, nl, rfl⟩
        have lt : l < z.heap.objs.size := Heap.lt_size hol
        unfold Builtin.«set.__init__» noKeywords Builtin.Frozenset.updateFrom
        generalize hPI : pyIter = PI
        wp_walk
        subst hPI
        refine wpAny_pyIter_tuple hl1 (wpAny_bind (wpAny_runValue ?_))
        have ne1 : l ≠ (bare z.heap led).objs.size := by rw [size1]; exact Nat.ne_of_lt (Nat.lt_succ_of_lt lt)
        have notin : z.heap.objs.size ∉ [(bare z.heap led).objs.size, l] := by
          rw [size1, List.mem_cons, List.mem_singleton, not_or]
          exact ⟨Nat.ne_of_lt (Nat.lt_succ_self _), Nat.ne_of_gt lt⟩
        refine fillG (knd := knd) ((Walks.tuple free3 _ l ne1 its).toS) notin hv hn _ (i := 0) rfl (Nat.zero_le _) ⟨⟨_, Heap.get?_push_size _ rfl, rfl, rfl⟩, (let ⟨o, ho, r⟩ := hl1; ⟨o, Heap.get?_push_of_some _ ho, r⟩)⟩ ?start ?stop
        case start => exact new0 _ (Heap.get?_push_of_some _ at0)
        case stop =>
          rintro ⟨g, gs, dr, tk, os⟩ mv hs
          obtain rfl : gs = z.gens := mv.gens
          obtain rfl : dr = z.drawn := mv.drawn
          obtain rfl : os = z.os := mv.os
          refine wpAny_pure (wpAny_pure ⟨rfl, g, tk, rfl, hs, fun b o hb e => mv.heap b o ?_ (Heap.get?_push_of_some _ (Heap.get?_push_of_some _ e))⟩)
          rw [size1, List.mem_cons, List.mem_singleton, not_or]
          exact ⟨Nat.ne_of_lt hb, Nat.ne_of_lt (Nat.lt_succ_of_lt hb)⟩
    · match r2, hr2 with
      | .error e, hr2 => exact hr2
      | .ok (.ret v), ⟨e1, g, tk, e2, hs, keep⟩ =>
        subst e1 e2
        repeat (any_goals (first | assumption | wp_step))
        exact q _ _ hs keep
end
set_option maxRecDepth 100000
section
variable {P : Program} {w : World} {A : Around} {E : Value → Shared → Prop} {s : Shared} {a : Addr} {κ : Type} [DecidableEq κ] [BEq κ] [LawfulBEq κ] [Inhabited κ] {knd : KeyKind P w κ}
theorem eachK {R : Value → κ → Prop} : ∀ (vs : List Value), (∀ v ∈ vs, R v (keyK knd v)) → PySem.W.EachIs R vs (vs.map (keyK knd))
  | [], _ => .nil
  | v :: vs, h => .cons (h v List.mem_cons_self) (eachK vs fun u hu => h u (List.mem_cons_of_mem _ hu))
theorem alike_perm {xs ys : List PyData} (h : ∀ d ∈ ys, d ∈ xs) (hal : PySem.W.AllAlike xs) : PySem.W.AllAlike ys := fun d hd d' hd' => hal d (h d hd) d' (h d' hd')
theorem sortable_perm {xs ys : List PyData} (h : ∀ d ∈ ys, d ∈ xs) (hk : PySem.W.Sortable xs) : PySem.W.Sortable ys := hk.imp (fun q d hd => q d (h d hd)) fun q d hd => q d (h d hd)
theorem sortedG {ks : List κ} {enc : κ → PyData} {Q : Value → Shared → Prop} (R : SetG knd s.heap a ks) (hh : A.handled = none) (he : ∀ (k : κ) (v : Value) (h : Heap), knd.is k v = true → v.scannable = true → ∃ as, Reads h v (enc k) as ∧ as = [])
    (hal : PySem.W.AllAlike (ks.map enc)) (hso : PySem.W.Sortable (ks.map enc)) (hL : ks.length ≤ sizeLine) (hu : ∀ k ∈ ks, A.units + 2 + (enc k).depth < cLine)
    (hQ : ∀ s' p (out : Array Value) (c : Nat) (ys : List κ), (∀ b o, s.heap.get? b = some o → s'.heap.get? b = some o) → s'.gens = s.gens → s'.os = s.os → s.heap.objs.size ≤ p →
      s'.heap.get? p = some (seqObj "list" out c) → ys.Perm ks → PySem.W.EachIs (fun v k => knd.is k v = true) out.toList (ys.mergeSort (PySem.W.dataLe false enc)) → Q (.ref p) s') :
    wpAny (model P w) A (call (.builtin "sorted") [.ref a]) Q E s := by
  obtain ⟨o, es, ep, t, ho, hex, hd, g, hp, hnd, hb, hf, hr, hl⟩ := R
  refine Calls.call_function_entry kind_sorted plain_sorted entry_sorted (args_sorted1 _) ?_
  unfold Builtin.«sorted»
  refine wpAny_bind (m := checkCount "sorted" 1 1 _) (wpAny_pure ?_)
  refine wpAny_bind (collect_set (A := A.in1) hh ⟨o, ho, hex.1, hd⟩ hf hb hr hl fun s1 vs k1 hz g1 o1 pm => ?_)
  have gv : ∀ v ∈ vs, ∃ k, knd.is k v = true ∧ v.scannable = true := fun v hv => by
    obtain ⟨e, he, q⟩ := List.mem_map.mp (pm.mem_iff.mp hv)
    obtain ⟨k, h1, h2, _⟩ := g e he
    subst q
    exact ⟨k, h1, h2⟩
  have pk : (vs.map (keyK knd)).Perm ks := by
    refine (pm.map (keyK knd)).trans ?_
    rw [List.map_map]
    exact hp
  have hvl : vs.length = ks.length := by rw [← List.length_map (f := keyK knd) (as := vs), pk.length_eq]
  have mem : ∀ k ∈ vs.map (keyK knd), k ∈ ks := fun k hk => pk.mem_iff.mp hk
  have memE : ∀ d ∈ (vs.map (keyK knd)).map enc, d ∈ ks.map enc := fun d hd => by
    obtain ⟨k, hk, rfl⟩ := List.mem_map.mp hd
    exact List.mem_map.mpr ⟨k, mem k hk, rfl⟩
  refine wpAny_bind (wpAny_newList ?_ (by rw [hvl]; exact hL))
  have hoL : (s1.heap.push (seqObj "list" vs.toArray 0)).get? s1.heap.objs.size = some (seqObj "list" vs.toArray 0) := Heap.get?_push_size _ rfl
  have e1 : PySem.W.EachIs (fun v k => knd.is k v = true) vs (vs.map (keyK knd)) := eachK vs fun v hv => by
    obtain ⟨k, h1, _⟩ := gv v hv
    rw [keyK_is knd h1]; exact h1
  have e2 : PySem.W.EachIs (fun v k => ∃ as, Reads (s1.heap.push (seqObj "list" vs.toArray 0)) v (enc k) as ∧ s1.heap.objs.size ∉ as) vs (vs.map (keyK knd)) := eachK vs fun v hv => by
    obtain ⟨k, h1, h2⟩ := gv v hv
    rw [keyK_is knd h1]
    obtain ⟨as, r, z⟩ := he k v (s1.heap.push (seqObj "list" vs.toArray 0)) h1 h2
    exact ⟨as, r, by rw [z]; simp⟩
  refine wpAny_bind (wpAny_holding (PySem.W.list_sort_data (A := A.in1) (s := { s1 with heap := s1.heap.push (seqObj "list" vs.toArray 0) }) (enc := enc) hoL e1 e2 (alike_perm memE hal) (sortable_perm memE hso) (by rw [List.length_map, hvl]; exact hL) (fun k hk => by
    have := hu k (mem k hk)
    show A.units + 1 + 1 + (enc k).depth < cLine
    omega) fun out ho' eo => ?_))
  obtain ⟨c, hc⟩ := sortedHeap_at (vs := vs) (out := out.toArray) hoL
  refine wpAny_pure ⟨_, rfl, hQ _ s1.heap.objs.size out.toArray c (vs.map (keyK knd)) (fun b u e => ?_) g1 o1 hz hc pk (by simpa using eo)⟩
  have q := k1 b u e
  have hlt := Heap.lt_size q
  show (sortedHeap (s1.heap.push (seqObj "list" vs.toArray 0)) s1.heap.objs.size vs out.toArray).get? b = some u
  rw [sortedHeap_old (Nat.ne_of_lt hlt) (by rw [size_push']; exact Nat.lt_succ_of_lt hlt)]
  exact Heap.get?_push_of_some _ q
end
section
variable {κ : Type} [DecidableEq κ] [BEq κ] [LawfulBEq κ] [Inhabited κ]
theorem met_nd (val : Nat → κ) : ∀ n, (met val n).Nodup
  | 0 => by simp [met]
  | n + 1 => put1_nd (met_nd val n) _
theorem mem_put1 {l : List κ} {k x : κ} : x ∈ put1 l k ↔ x ∈ l ∨ x = k := by
  unfold put1
  split
  · rename_i h
    obtain ⟨y, hy, e⟩ := List.any_eq_true.mp h
    rw [beq_iff_eq] at e
    subst e
    exact ⟨.inl, fun z => z.elim id fun e => e ▸ hy⟩
  · rw [List.mem_append, List.mem_singleton]
theorem mem_met (val : Nat → κ) (x : κ) : ∀ n, x ∈ met val n ↔ ∃ i, i < n ∧ x = val i
  | 0 => by simp [met]
  | n + 1 => by
    show x ∈ put1 (met val n) (val n) ↔ _
    rw [mem_put1, mem_met val x n]
    constructor
    · rintro (⟨i, h, e⟩ | e)
      · exact ⟨i, by omega, e⟩
      · exact ⟨n, by omega, e⟩
    · rintro ⟨i, h, e⟩
      by_cases z : i = n
      · subst z; exact .inr e
      · exact .inl ⟨i, by omega, e⟩
end
section
variable {X : Cx}
theorem mix_of {k : Key} {u : Value} (r : RelV (kV k) u) : (L2.mixKind X.prog X.w).is k u = true ∧ u.scannable = true := ⟨kV_is r, key_scan r⟩
theorem vals_keys : ∀ {xs : List Key} {us : List Value}, Vals (xs.map kV) us → ∀ (i : Nat) (v : Value), us[i]? = some v → RelV (kV (xs.getD i (.inl 0))) v
  | [], us, h, i, v, e => by cases h; simp at e
  | x :: xs, _, h, i, v, e => by
    cases h with
    | cons r rr =>
      cases i with
      | zero => simp at e; subst e; exact r
      | succ i => exact vals_keys rr i v (by simpa using e)
end
end DP.Sets
set_option maxRecDepth 100000
set_option maxHeartbeats 1000000
namespace DP
open PySem PySem.Spec PyProof.Rows L2
/-! ### sorted(set(x)) -/
section
variable {K : PySem.W.Frag} {S : Sto} {H0 H : Hp}
theorem rd_key {k : Key} {v : V} : RD K H (keyD k) v ↔ v = kV k := by
  cases k <;> exact Iff.rfl
theorem rds_keys : ∀ {xs : List Key} {vs : List V}, RDs K H (xs.map keyD) vs ↔ vs = xs.map kV
  | [], vs => by simp only [List.map_nil, RDs]
  | x :: xs, vs => by
    simp only [List.map_cons, RDs]
    constructor
    · rintro ⟨v, r, rfl, h1, h2⟩
      rw [rd_key.mp h1, rds_keys.mp h2]
    · rintro rfl
      exact ⟨_, _, rfl, rd_key.mpr rfl, rds_keys.mpr rfl⟩
theorem sortD_keys (ys : List Key) : sortD (ys.map keyD) = (ys.mergeSort (PySem.W.dataLe false keyP)).map keyD := by
  unfold sortD
  refine (List.map_mergeSort (f := keyD) (r := PySem.W.dataLe false keyP) (s := PySem.W.dataLe false encD) fun a _ b _ => ?_).symm
  cases a <;> cases b <;> rfl
end
section
variable {X : Cx} {a : Expr} {wa : Ev} {p p2 q pos : Pos}
local instance (priority := high) keyBEq : BEq Key := instBEqOfDecidableEq
local instance keyInh : Inhabited Key := ⟨.inl 0⟩
local instance (priority := high) keyLaw : LawfulBEq Key := inferInstanceAs (@LawfulBEq Key instBEqOfDecidableEq)
/-- sorted(set(x)), x a list or tuple of keys -/
def tSSet (K : PySem.W.Frag) (ta : TE) : TE := fun σ H Q => ta σ H fun x H1 => ∃ (l : Addr) (xs : List Key), x = V.ref l ∧ (SqL K H1 l (xs.map kV) ∨ SqT K H1 l (xs.map kV)) ∧ xs.length < 1000 ∧ PySem.W.AllAlike (xs.map keyP) ∧
  ∀ (ys : List Key) (p : Addr), ys.Nodup → (∀ k, k ∈ ys ↔ k ∈ xs) → H1 p = none → Q (.ref p) (upd H1 p (.lst ((ys.mergeSort (PySem.W.dataLe false keyP)).map kV)))
theorem vals_each {P : Program} {w : World} : ∀ {ys : List Key} {us : List Value}, PySem.W.EachIs (fun v k => (L2.mixKind P w).is k v = true) us ys → Vals (ys.map kV) us
  | _, _, .nil => .nil
  | _, _, .cons h t => .cons (by
      rcases keyIs_shape h with ⟨i, t, rfl, rfl⟩ | ⟨x, t, rfl, rfl⟩
      · exact ⟨t, rfl⟩
      · exact ⟨t, rfl⟩) (vals_each t)
theorem pe_sset (hc : X.calm = true) (hu : X.A.units + 65 < cLine) (hg : Gl X "sorted") (hm : X.mg "sorted" = none) (hg2 : Gl X "set") (hm2 : X.mg "set" = none) {ta : TE} (ha : PE X a ta)
    (na : starEach [a] X.env = (false, eval a X.env) :: starEach [] X.env) : PE X (.Call (.Name "sorted" p) [.Call (.Name "set" p2) [a] [] q] [] pos) (tSSet X.K ta) := by
  refine ⟨fun pins s σ H Q I h => Call_ (ld_blt I hg hm boot_sorted (callWith_builtin1 (args_cons (Call_ (ld_blt I hg2 hm2 boot_set (callWith_type1 (args_cons (thn (ha.run pins s σ H _ I h) fun v s1 hv => args_nil ?_) na) na rfl))) rfl) rfl rfl))⟩
  obtain ⟨x, H1, I1, r1, l, xs, rfl, hq, h1, hal, q1⟩ := hv
  cases r1
  have seq : ∃ its, Vals (xs.map kV) its ∧ (s1.heap.IsList l its.toArray ∨ s1.heap.IsTuple l its.toArray) := by
    rcases hq with hq | hq
    · obtain ⟨its, r, pl, hz⟩ := I1.list hq; exact ⟨its, r, .inl pl.isList⟩
    · obtain ⟨its, r, pl, hz⟩ := I1.tuple hq; exact ⟨its, r, .inr pl⟩
  obtain ⟨its, r, pl⟩ := seq
  have hsz : its.toArray.size = xs.length := by rw [List.size_toArray, ← r.length, List.length_map]
  have hbound : ∀ n, ∀ k ∈ met (fun i => xs.getD i (.inl 0)) n, n ≤ xs.length → k ∈ xs := fun n k hk hn => by
    obtain ⟨i, hi, e⟩ := (Sets.mem_met _ k n).mp hk
    subst e
    have : i < xs.length := by omega
    rw [List.getD_eq_getElem?_getD, List.getElem?_eq_getElem this]
    exact List.getElem_mem this
  have hmem : ∀ k, k ∈ met (fun i => xs.getD i (.inl 0)) xs.length ↔ k ∈ xs := fun k => ⟨fun hk => hbound _ k hk (Nat.le_refl _), fun hk => by
    obtain ⟨i, hi, e⟩ := List.getElem_of_mem hk
    refine (Sets.mem_met _ k _).mpr ⟨i, hi, ?_⟩
    rw [List.getD_eq_getElem?_getD, List.getElem?_eq_getElem hi]
    exact e.symm⟩
  refine Sets.setG_of (knd := L2.mixKind X.prog X.w) (val := fun i => xs.getD i (.inl 0)) (I1.ok.hd hc) pl (fun i v e => Sets.mix_of (Sets.vals_keys r i v (by simpa using e))) (by rw [hsz]; unfold scanBound; omega) fun g tk hS keep => args_nil ?_
  rw [hsz] at hS
  have I2 : Inv X pins σ H1 { s1 with heap := g, toks := tk } := I1.kept fun b o e => keep b o (Heap.lt_size e) e
  have hml := Sets.met_le (fun i => xs.getD i (Sum.inl 0 : Key)) xs.length
  have hin : ∀ d ∈ (met (fun i => xs.getD i (Sum.inl 0 : Key)) xs.length).map keyP, d ∈ xs.map keyP := fun d hd => by
    obtain ⟨k, hk, rfl⟩ := List.mem_map.mp hd
    exact List.mem_map.mpr ⟨k, (hmem k).mp hk, rfl⟩
  have hS2 : Sets.SetG (L2.mixKind X.prog X.w) ({ s1 with heap := g, toks := tk } : Shared).heap s1.heap.objs.size (met (fun i => xs.getD i (Sum.inl 0 : Key)) xs.length) := hS
  generalize ({ s1 with heap := g, toks := tk } : Shared) = s2 at I2 hS2 ⊢
  refine Sets.sortedG (s := s2) (enc := keyP) hS2 (I1.ok.hd hc) (fun k v h hk hsc => ?_) (Sets.alike_perm hin hal) (.inr fun d hd => ?_) (by rw [sizeLine_eq]; omega) (fun k hk => ?_) fun s' pp out c ys k g1 o1 hp hc' pm ee => ?_
  · rcases keyIs_shape hk with ⟨i, t, rfl, rfl⟩ | ⟨x, t, rfl, rfl⟩
    · exact ⟨_, .int i t, rfl⟩
    · exact ⟨_, .str x t, rfl⟩
  · obtain ⟨k, _, rfl⟩ := List.mem_map.mp hd
    cases k <;> exact ⟨(fun z => nomatch z), fun _ z => nomatch z⟩
  · have : (keyP k).depth ≤ 1 := by cases k <;> simp [keyP, PyData.depth]
    omega
  · have hn : H1 pp = none := I2.hok.fresh hp
    have hlen : ((ys.mergeSort (PySem.W.dataLe false keyP)).map kV).length ≤ sizeLine := by
      rw [List.length_map, List.length_mergeSort, pm.length_eq, sizeLine_eq]; omega
    have J : Inv X pins σ (upd H1 pp (.lst ((ys.mergeSort (PySem.W.dataLe false keyP)).map kV))) { s2 with heap := s'.heap, gens := s'.gens, drawn := s'.drawn, toks := s'.toks } :=
      I2.call (ch := []) (Un.laid k hp hn) (I2.hok.laid k hp ⟨hlen, out.toList, c, vals_each ee, hc'⟩) (by rw [g1]; exact I2.bare) (fun _ z => nomatch z)
    have e : s' = { s2 with heap := s'.heap, gens := s'.gens, drawn := s'.drawn, toks := s'.toks } := by
      cases s'
      cases s2
      cases o1
      rfl
    rw [e]
    exact ⟨.ref pp, _, J, rfl, q1 ys pp (pm.nodup_iff.mpr (Sets.met_nd _ _)) (fun k => pm.mem_iff.trans (hmem k)) hn⟩
theorem s_sset (hc : X.calm = true) (hu : X.A.units + 65 < cLine) (hg : Gl X "sorted") (hm : X.mg "sorted" = none) (hg2 : Gl X "set") (hm2 : X.mg "set" = none) (ha : PE X a (tD X.K wa)) (na : starEach [a] X.env = (false, eval a X.env) :: starEach [] X.env) :
    PE X (.Call (.Name "sorted" p) [.Call (.Name "set" p2) [a] [] q] [] pos) (tD X.K fun ρ S Q => wa ρ S fun r S1 => ∃ xs : List Key, seqOf S1 r = some (xs.map keyD) ∧ xs.length < 1000 ∧ PySem.W.AllAlike (xs.map keyP) ∧ ∀ ys : List Key, ys.Nodup → (∀ k, k ∈ ys ↔ k ∈ xs) → Q (.n (.lst (sortD (ys.map keyD)))) S1) :=
  (pe_sset hc hu hg hm hg2 hm2 ha na).weak fun σ H QV ⟨ρ, S, Q, re, hs, h, po⟩ => tD1 re hs h fun r v H1 S1 r1 s1 k1 re1 ⟨xs, e, hl, hal, q⟩ => by
    obtain ⟨l, vs, rfl, sq, rd⟩ := seqOf_sq s1 r1 e
    rw [rds_keys.mp rd] at sq
    refine ⟨l, xs, rfl, sq, hl, hal, fun ys pp hnd hm hp => po.lst k1 s1 hp (rds_keys.mpr rfl) (by rw [← sortD_keys]; exact q ys hnd hm)⟩
end
/-! ### beside the empty list, the empty tuple -/
section
variable {X : Cx}
def rEmp (K : PySem.W.Frag) (neg : Bool) : R2 := fun x y H Q => ∃ a b vs, x = .ref a ∧ y = .ref b ∧ ((SqL K H a vs ∧ SqL K H b []) ∨ (SqT K H a vs ∧ SqT K H b [])) ∧ Q (.bl (negB neg vs.isEmpty)) H
theorem emp_core {pins : List (Addr × Obj)} {s : Shared} {σ : L2.St} {H : Hp} {a b : Addr} {vs : List V} (I : Inv X pins σ H s) (h : (SqL X.K H a vs ∧ SqL X.K H b []) ∨ (SqT X.K H a vs ∧ SqT X.K H b [])) :
    ∃ its : List Value, its.isEmpty = vs.isEmpty ∧ ((s.heap.IsList a its.toArray ∧ s.heap.IsList b #[]) ∨ (s.heap.IsTuple a its.toArray ∧ s.heap.IsTuple b #[])) := by
  have em : ∀ {vs : List V} {its : List Value}, Vals vs its → its.isEmpty = vs.isEmpty := fun {vs its} r => by cases r <;> rfl
  rcases h with ⟨h1, h2⟩ | ⟨h1, h2⟩
  · obtain ⟨its, r, l, _⟩ := I.list h1
    obtain ⟨its2, r2, l2, _⟩ := I.list h2
    cases r2
    exact ⟨its, em r, .inl ⟨l.isList, l2.isList⟩⟩
  · obtain ⟨its, r, l, _⟩ := I.tuple h1
    obtain ⟨its2, r2, l2, _⟩ := I.tuple h2
    cases r2
    exact ⟨its, em r, .inr ⟨l, l2⟩⟩
theorem op_eqEmp (hu : X.A.units + 65 < cLine) : OpR X (compareOp .Eq) (rEmp X.K false) := by
  intro pins s σ H x y v u Q I rx ry h
  obtain ⟨a, b, vs, rfl, rfl, hq, q⟩ := h
  cases rx
  cases ry
  obtain ⟨its, e, hl⟩ := emp_core I hq
  have q' : Q (.bl its.isEmpty) H := by rw [e]; exact q
  have hu1 : X.A.units < cLine := by omega
  rcases hl with ⟨l1, l2⟩ | ⟨l1, l2⟩
  · cases its with
    | nil => exact SeqAt.eq_listAt (e := fun _ => true) l1 l2 rfl hu1 (fun j h1 _ => absurd h1 (Nat.not_lt_zero _)) ⟨.bl true, H, I, rfl, q'⟩
    | cons z zs => exact SeqAt.eq_list_lengthsAt l1 l2 (by simp) hu1 ⟨.bl false, H, I, rfl, q'⟩
  · cases its with
    | nil => exact SeqAt.eq_tupleAt (e := fun _ => true) l1 l2 hu1 (fun j h1 _ => absurd h1 (Nat.not_lt_zero _)) ⟨.bl true, H, I, rfl, q'⟩
    | cons z zs => exact SeqAt.eq_tupleAt (e := fun _ => true) l1 l2 hu1 (fun j _ h1 => absurd h1 (Nat.not_lt_zero _)) (by simp; exact ⟨.bl false, H, I, rfl, q'⟩)
theorem op_neEmp (hu : X.A.units + 65 < cLine) : OpR X (compareOp .NotEq) (rEmp X.K true) := by
  intro pins s σ H x y v u Q I rx ry h
  obtain ⟨a, b, vs, rfl, rfl, hq, q⟩ := h
  cases rx
  cases ry
  obtain ⟨its, e, hl⟩ := emp_core I hq
  have q' : Q (.bl (!its.isEmpty)) H := by rw [e]; exact q
  have hu1 : X.A.units < cLine := by omega
  rcases hl with ⟨l1, l2⟩ | ⟨l1, l2⟩
  · cases its with
    | nil => exact SeqAt.RcNeAt.lists (e := fun _ => true) l1 l2 rfl hu1 (fun j h1 _ => absurd h1 (Nat.not_lt_zero _)) _ _ _ _ ⟨.bl false, H, I, rfl, q'⟩
    | cons z zs => exact SeqAt.RcNeAt.lists_lengths l1 l2 (by simp) hu1 _ _ _ _ ⟨.bl true, H, I, rfl, q'⟩
  · cases its with
    | nil => exact SeqAt.RcNeAt.tuples (e := fun _ => true) l1 l2 hu1 (fun j h1 _ => absurd h1 (Nat.not_lt_zero _)) _ _ _ _ ⟨.bl false, H, I, rfl, q'⟩
    | cons z zs => exact SeqAt.RcNeAt.tuples (e := fun _ => true) l1 l2 hu1 (fun j _ h1 => absurd h1 (Nat.not_lt_zero _)) _ _ _ _ (by simp; exact ⟨.bl true, H, I, rfl, q'⟩)
/-- what it is by values -/
def empK (neg tp : Bool) (x y : R) (S : Sto) (Q : PR) : Prop := match tp, y with
  | true, .v (.tup []) => empW true x S fun b => Q (.v (.bl (negB neg b))) S
  | false, .n (.lst []) => empW false x S fun b => Q (.v (.bl (negB neg b))) S
  | _, _ => False
theorem l_emp {neg tp : Bool} {x y : R} {v u : V} {S0 S : Sto} {H0 H : Hp} {Q : PR} {QV : VK} (r1 : RR X.K H0 H S x v) (r2 : RR X.K H0 H S y u) (hs : RS X.K H S) (k : Kp S0 H0 S H) (h : empK neg tp x y S Q) (po : Post X.K S0 H0 Q QV) : rEmp X.K neg v u H QV := by
  unfold empK at h
  split at h
  · obtain ⟨xs, e, q⟩ := h
    subst e
    have r1 : RD X.K H (.tup xs) v := r1
    have r2 : RD X.K H (.tup []) u := r2
    simp only [RD] at r1 r2
    obtain ⟨a, vs, rfl, sq, rd⟩ := r1
    obtain ⟨b, ws, rfl, sq2, rd2⟩ := r2
    simp only [RDs] at rd2
    subst rd2
    refine ⟨a, b, vs, rfl, rfl, .inr ⟨sq.sq, sq2.sq⟩, ?_⟩
    have e : vs.isEmpty = xs.isEmpty := by
      have := rd.length
      cases xs <;> cases vs <;> first | rfl | simp at this
    rw [e]
    exact po.dat k hs rd_bl q
  · obtain ⟨xs, e, q⟩ := h
    obtain ⟨a, vs, rfl, sq, rd⟩ := lstOf_sq hs r1 e
    obtain ⟨b, rfl, _, _, ws, eb, rd2⟩ := r2
    simp only [RDs] at rd2
    subst rd2
    refine ⟨a, b, vs, rfl, rfl, .inl ⟨sq, .inl (.inl eb)⟩, ?_⟩
    have e : vs.isEmpty = xs.isEmpty := by
      have := rd.length
      cases xs <;> cases vs <;> first | rfl | simp at this
    rw [e]
    exact po.dat k hs rd_bl q
  · exact h.elim
end
end DP
set_option maxRecDepth 100000
set_option maxHeartbeats 1000000
namespace DP.Star
open PySem PySem.Spec PyProof.Rows L2
end DP.Star
set_option maxRecDepth 100000
set_option maxHeartbeats 2000000
namespace DP
open PySem PySem.Spec PyProof.Rows L2
set_option maxRecDepth 100000
set_option maxHeartbeats 1000000
section
variable {G : Gm} {B : Bk} {a b c o tg iter elt e o1 i1 o2 i2 : Expr} {ea eb ec eo ee eo1 ei1 eo2 ei2 : E} {pos pos' p p2 apos cpos spos : Pos} {es : List Expr} {xs : List E}
theorem k_sset {i j i2 j2 : Nat} {q : Pos} (h1 : B.sc.names[i]? = some (("sorted" : Str), .globalImplicit)) (h2 : G.free[j]? = some ("sorted" : Str)) (h3 : B.sc.names[i2]? = some (("set" : Str), .globalImplicit)) (h4 : G.free[j2]? = some ("set" : Str)) (ha : KE G B a ea) (hn : nst a = true) :
    KE G B (.Call (.Name "sorted" p) [.Call (.Name "set" p2) [a] [] q] [] pos) (.sset ea) :=
  ⟨fun X h => s_sset h.calm h.units (h.gl h1) (h.free _ (List.mem_of_getElem? h2)) (h.gl h3) (h.free _ (List.mem_of_getElem? h4)) (ha.p X h) ((starEach_one hn _).trans rfl)⟩
def eqC (neg : Bool) : CmpOp := match neg with
  | true => .NotEq
  | false => .Eq
theorem op_emp {X : Cx} (hu : X.A.units + 65 < cLine) : ∀ neg : Bool, OpR X (compareOp (eqC neg)) (rEmp X.K neg)
  | true => op_neEmp hu
  | false => op_eqEmp hu
/-- x == [], x != [] -/
theorem k_empL {neg : Bool} (ha : KE G B a ea) : KE G B (.Compare a [eqC neg] [.List [] p] pos) (.emp neg false ea) := ⟨fun X h =>
  (s_cmp (k := empK neg false) (op_emp h.units neg) (ha.p X h) ((k_lst (G := G) (B := B) (pos := p) k_a0).p X h) (by cases neg <;> rfl) fun x y v u S0 H0 S H Q QV r1 r2 hs k q po => l_emp r1 r2 hs k q po).weak fun σ H QV ⟨ρ, S, Q, re, hs, q, po⟩ => ⟨ρ, S, Q, re, hs, by
    simp only [wE] at q
    simp only [wE, wEs]
    exact q, po⟩⟩
theorem k_empLT {neg : Bool} (ha : KE G B a ea) : KT G B (.Compare a [eqC neg] [.List [] p] pos) (.emp neg false ea) := ⟨fun X h =>
  (s_cmpT (k := empK neg false) (op_emp h.units neg) (ha.p X h) ((k_lst (G := G) (B := B) (pos := p) k_a0).p X h) (by cases neg <;> rfl) fun x y v u S0 H0 S H Q QV r1 r2 hs k q po => l_emp r1 r2 hs k q po).weak fun σ H QV ⟨ρ, S, Q, re, hs, q, po⟩ => ⟨ρ, S, Q, re, hs, by
    simp only [wT] at q
    simp only [wE, wEs]
    exact q, po⟩⟩
theorem k_empTT {neg : Bool} {j : Nat} (ha : KE G B a ea) : KT G B (.Compare a [eqC neg] [.Tuple [] j p] pos) (.emp neg true ea) := ⟨fun X h =>
  (s_cmpT (k := empK neg true) (op_emp h.units neg) (ha.p X h) ((k_tup (G := G) (B := B) (pos := p) k_a0).p X h) (by cases neg <;> rfl) fun x y v u S0 H0 S H Q QV r1 r2 hs k q po => l_emp r1 r2 hs k q po).weak fun σ H QV ⟨ρ, S, Q, re, hs, q, po⟩ => ⟨ρ, S, Q, re, hs, by
    simp only [wT] at q
    simp only [wE, wEs]
    exact q, po⟩⟩
theorem m2_of {X : Cx} {m : Str} {e f : Expr} (hb : nbase o = true) (hl : (apos.endLine == cpos.line) = true) (n1 : nst e = true) (n2 : nst f = true) : M2 X o m apos e f cpos :=
  ⟨nbase_ok hb m X.env (eval o X.env), few_of2 n1 n2 X.env, hl, by rw [starEach_one n1, starEach_one n2]; rfl⟩
/-- two names, of which not both are locals, or constants -/
theorem noSwap {x y : Str} {px py pt pt2 : Pos} {kt k2 : Nat} {env : PySem.Env} (h : (env.kindOf x ≠ some .local ∨ env.kindOf y ≠ some .local) ∨ ([a, b].all (foldedForSure 8)) = true) : swappedStores [.Tuple [.Name x px, .Name y py] kt pt] (.Tuple [a, b] k2 pt2) env = pure none := by
  unfold swappedStores
  dsimp only
  split
  · rfl
  split
  · rfl
  split
  · rfl
  rename_i nn
  rcases h with h | h
  · exfalso
    refine nn ?_
    simp only [List.filterMap_cons, List.filterMap_nil, List.head?_cons, Option.map_some, Option.getD_some]
    rcases h with h | h
    · have e : (env.kindOf x == some .local) = false := by rw [beq_eq_false_iff_ne]; exact h
      simp only [e, Bool.false_and, Bool.false_eq_true, if_false]
      split <;> simp
    · have e : (env.kindOf y == some .local) = false := by rw [beq_eq_false_iff_ne]; exact h
      simp only [e, Bool.false_and, Bool.false_eq_true, if_false]
      split <;> simp
  · rw [if_pos h]
theorem k_asgTT {is : List Nat} {i2 j2 kt k2 : Nat} {x y : Str} {kx ky : NameKind} {px py pt pt2 : Pos} (h : KGs G B [.Name x px, .Name y py] is) (hx : B.sc.names[i2]? = some (x, kx)) (hy : B.sc.names[j2]? = some (y, ky)) (hc : ((kx != .local || ky != .local) || [a, b].all (foldedForSure 8)) = true) (ha : KA G B [a, b] xs) :
    KS G B (.Assign [.Tuple [.Name x px, .Name y py] kt pt] (.Tuple [a, b] k2 pt2) pos) (.asg (.tup is) (.tup xs)) :=
  ⟨fun X z _ => s_asg ((k_tup ha).p X z) ((k_ttup h).p X z) (swapsTup _ _ _ _ _ _) (noSwap (by
    have e1 : X.env.kindOf x = some kx := z.kind hx
    have e2 : X.env.kindOf y = some ky := z.kind hy
    rw [e1, e2]
    simp only [Bool.or_eq_true, bne_iff_ne, ne_eq] at hc
    rcases hc with (hc | hc) | hc
    · exact .inl (.inl fun q => hc (Option.some.inj q))
    · exact .inl (.inr fun q => hc (Option.some.inj q))
    · exact .inr hc)) ((k_ttup (pos := pt) (j := kt) h).h1 _)⟩
end
end DP
set_option maxRecDepth 100000
set_option maxHeartbeats 1000000
namespace DP.Zp
open PySem
def SeqIt (k : Bool) (h : Heap) (it l : Addr) (i : Nat) : Prop := match k with
  | true => h.IsListIter it l i
  | false => h.IsTupleIter it l i
def SeqOf (k : Bool) (h : Heap) (l : Addr) (xs : Array Value) : Prop := match k with
  | true => h.IsList l xs
  | false => h.IsTuple l xs
section
variable {prog : Program} {w : World} {A : Around} {E : Value → Shared → Prop} {s : Shared} {k : Bool} {it l : Addr} {i : Nat} {items : Array Value}
theorem SeqIt.obj {h : Heap} (x : SeqIt k h it l i) : ∃ o, h.get? it = some o := by
  cases k with
  | true => exact ⟨_, x.choose_spec.1⟩
  | false => exact ⟨_, x.choose_spec.1⟩
theorem SeqOf.obj {h : Heap} (x : SeqOf k h l items) : ∃ o, h.get? l = some o := by
  cases k with
  | true => exact ⟨_, x.choose_spec.1⟩
  | false => exact ⟨_, x.choose_spec.1⟩
/-- one more item -/
theorem more {x : Value} {Q : Value → Shared → Prop} (hi : SeqIt k s.heap it l i) (hl : SeqOf k s.heap l items) (hx : items[i]? = some x)
    (hQ : ∀ g, SeqIt k g it l (i + 1) → Heap.SameBut it s.heap g → Q x { s with heap := g }) : wpAny (model prog w) A (Builtin.SmallTypes.nextOf (.ref it)) Q E s := by
  cases k with
  | true => exact wpAny_nextOf_list_item hi hl hx hQ
  | false => exact RZ.nextOf_tuple_item hi hl hx hQ
/-- the zip object -/
abbrev ZObj (h : Heap) (z TI TO : Addr) (f0 : Value) (st : Bool) : Prop :=
  h.get? z = some { cls := .type "zip", dict := none, data := .fields #[f0, .bool false, .bool st, .ref TI, .ref TO], slots := #[] }
end
set_option maxRecDepth 100000
set_option maxHeartbeats 4000000
end DP.Zp
set_option maxRecDepth 100000
set_option maxHeartbeats 4000000
namespace DP.Zp
open PySem PySem.Spec PyProof.Rows L2
def SqK (K : PySem.W.Frag) (k : Bool) (H : Hp) (a : Addr) (xs : List V) : Prop := match k with
  | true => SqL K H a xs
  | false => SqT K H a xs
section
variable {X : Cx} {pins : List (Addr × Obj)} {σ : L2.St} {H : Hp} {s : Shared} {k : Bool} {a : Addr} {xs ys : List V}
theorem SqK.vals (I : Inv X pins σ H s) (h : SqK X.K k H a xs) : ∃ its, Vals xs its ∧ SeqOf k s.heap a its.toArray := by
  cases k with
  | true =>
    obtain ⟨its, rv, p, _⟩ := I.list h
    exact ⟨its, rv, p.isList⟩
  | false =>
    obtain ⟨its, rv, p, _⟩ := I.tuple h
    exact ⟨its, rv, p⟩
theorem SqK.one (I : Inv X pins σ H s) (h : SqK X.K k H a xs) (h2 : SqK X.K k H a ys) : xs = ys := by
  cases k with
  | true => exact I.list_inj h h2
  | false => exact I.tuple_inj h h2
end
/-- two sequences of one length, an item of each, in a new pair -/
def ItM (K : PySem.W.Frag) (k1 k2 : Bool) (a b : Addr) : It where
  go := fun i H => ∃ (xs ys : List V) (x y : V), (SqK K k1 H a xs ∧ xs[i]? = some x) ∧ SqK K k2 H b ys ∧ ys[i]? = some y
  yld := fun i H v H' => ∃ (T : Addr) (x y : V), v = .ref T ∧ (H T = none ∧ H' = upd H T (.tup [x, y])) ∧ (∀ xs, SqK K k1 H a xs → xs[i]? = some x) ∧ ∀ ys, SqK K k2 H b ys → ys[i]? = some y
  stop := fun i H => ∃ xs ys : List V, (SqK K k1 H a xs ∧ xs.length ≤ i) ∧ SqK K k2 H b ys ∧ ys.length ≤ i
def own (z TI TO i1 i2 : Addr) : List Addr := [z, TI, TO, i1, i2]
theorem own_mem {z TI TO i1 i2 c : Addr} (h : c ∈ own z TI TO i1 i2) : c = z ∨ c = TI ∨ c = TO ∨ c = i1 ∨ c = i2 := by simpa [own] using h
structure ZSt (k1 k2 st : Bool) (a b z TI TO i1 i2 : Addr) (i : Nat) (h : Heap) : Prop where
  zo : ZObj h z TI TO .none st
  ti : IsPair h TI (.ref i1) (.ref i2)
  to : ∃ x y, IsPair h TO x y
  j1 : SeqIt k1 h i1 a i
  j2 : SeqIt k2 h i2 b i
theorem SeqIt.raw {k : Bool} {h : Heap} {it l : Addr} {i : Nat} (x : SeqIt k h it l i) : ∃ o, h.get? it = some o ∧ ∀ v, o.data ≠ .cell v := by
  cases k with
  | true =>
    obtain ⟨o, e, _, d⟩ := x
    exact ⟨o, e, fun v q => by rw [d] at q; cases q⟩
  | false =>
    obtain ⟨o, e, _, d⟩ := x
    exact ⟨o, e, fun v q => by rw [d] at q; cases q⟩
theorem ZSt.lt {k1 k2 st : Bool} {a b z TI TO i1 i2 : Addr} {i : Nat} {h : Heap} (q : ZSt k1 k2 st a b z TI TO i1 i2 i h) {c : Addr} (hc : c ∈ own z TI TO i1 i2) : c < h.objs.size := by
  obtain ⟨q1, q2, ⟨x, y, q3⟩, q4, q5⟩ := q
  obtain ⟨_, e4⟩ := q4.obj
  obtain ⟨_, e5⟩ := q5.obj
  rcases own_mem hc with e | e | e | e | e <;> subst e
  · exact Heap.lt_size q1
  · exact Heap.lt_size q2
  · exact Heap.lt_size q3
  · exact Heap.lt_size e4
  · exact Heap.lt_size e5
set_option maxRecDepth 100000
set_option maxHeartbeats 4000000
end DP.Zp
set_option maxRecDepth 100000
set_option maxHeartbeats 4000000
namespace DP
open PySem PySem.Spec PyProof.Rows L2
section
variable {K : PySem.W.Frag} {S : Sto} {H0 H : Hp} {xs ys : List D} {hold : Sto → Prop} {k1 k2 : Bool}
theorem zipD_len (h : xs.length = ys.length) : (zipD xs ys).length = xs.length := by simp [zipD, h]
theorem zipD_get {i : Nat} {d : D} (e : (zipD xs ys)[i]? = some d) : ∃ x y, (xs[i]? = some x ∧ ys[i]? = some y) ∧ d = .tup [x, y] := by
  unfold zipD at e
  rw [List.getElem?_map] at e
  cases q : (xs.zip ys)[i]? with
  | none => rw [q] at e; cases e
  | some p =>
    rw [q] at e
    obtain ⟨h1, h2⟩ := List.getElem?_zip_eq_some.mp q
    exact ⟨p.1, p.2, ⟨h1, h2⟩, (Option.some.inj e).symm⟩
theorem ItOk.zip {a b : Addr} (hl : xs.length = ys.length) (f : ∀ S' H', Kq H0 S H S' H' → RS K H' S' → hold S' → ∃ vs ws, (Zp.SqK K k1 H' a vs ∧ RDs K H' xs vs) ∧ Zp.SqK K k2 H' b ws ∧ RDs K H' ys ws) : ItOk K H0 S H (Zp.ItM K k1 k2 a b) (zipD xs ys) hold := fun i S' H' k hs ho => by
  obtain ⟨vs, ws, ⟨sx, rx⟩, sy, ry⟩ := f S' H' k hs ho
  refine ⟨fun hi => ?_, fun d e => ?_⟩
  · rw [zipD_len hl] at hi
    exact ⟨vs, ws, ⟨sx, by rw [← rx.length]; exact hi⟩, sy, by rw [← ry.length, ← hl]; exact hi⟩
  obtain ⟨x, y, ⟨ex, ey⟩, rfl⟩ := zipD_get e
  obtain ⟨v, ev, rv⟩ := rx.get ex
  obtain ⟨u, eu, ru⟩ := ry.get ey
  refine ⟨⟨vs, ws, v, u, ⟨sx, ev⟩, sy, eu⟩, fun z H2 ⟨T, v', u', ez, ⟨hT, eH⟩, hv, hu⟩ => ?_⟩
  subst ez eH
  have e1 : v = v' := Option.some.inj (ev.symm.trans (hv vs sx))
  have e2 : u = u' := Option.some.inj (eu.symm.trans (hu ws sy))
  subst e1 e2
  have kk : Kp S' H' S' (upd H' T (.tup [v, u])) := Kp.laid hT
  refine ⟨?_, hs.laid hT, kk⟩
  simp only [RD]
  refine ⟨T, [v, u], rfl, upd_same, ?_⟩
  simp only [RDs]
  exact ⟨_, _, rfl, RD.kp kk hs _ _ rv, _, _, rfl, RD.kp kk hs _ _ ru, rfl⟩
end
set_option maxRecDepth 100000
set_option maxHeartbeats 4000000
theorem keyD_kV {K : PySem.W.Frag} {H : Hp} {ky : Key} {y : V} (h : RD K H (keyD ky) y) : y = kV ky := by
  cases ky with
  | inl i => exact h
  | inr z => exact h
section
variable {X : Cx} {tg iter kx vx : Expr} {ifs : List Expr} {scope : Scope} {own : List (Str × Nat)} {pos : Pos} {t : TN} {wi : Env → Sto → (List D → (Sto → Prop) → Sto → Prop) → Prop} {wt : Env → Sto → (Bool → Sto → Prop) → Prop} {wk we : Ev}
def dcStep (l : Addr) (t : TN) (wt : Env → Sto → (Bool → Sto → Prop) → Prop) (wk we : Ev) (ρ : Env) (x : D) (S2 : Sto) (k : Sto → Prop) : Prop :=
  bindN t x ρ fun ρ' => wt ρ' S2 fun b S3 => if b = true then wk ρ' S3 fun rk S4 => we ρ' S4 fun r S5 => mat r S5 fun d S6 => dcPut l rk d S6 k else k S3
def dcW (t : TN) (wi : Env → Sto → (List D → (Sto → Prop) → Sto → Prop) → Prop) (wt : Env → Sto → (Bool → Sto → Prop) → Prop) (wk we : Ev) (vs : List Nat) : Ev :=
  fun ρ S Q => wi ρ S fun xs hold S1 => ∀ l, S1 l = none → dcL (dcStep l t wt wk we (wipeE ρ vs)) hold xs (up S1 l (.dK [])) fun S2 => Q (.v (.ref l)) S2
theorem dc_link {K : PySem.W.Frag} {σ : L2.St} {H : Hp} {QV : VK} {vs : List Nat} (ht : ∀ i ∈ tnIds t, i ∈ vs)
    (h : tD K (dcW t wi wt wk we vs) σ H QV) : tDc (tDI K wi) (tDG K t) (tDT K wt) (tD K wk) (tD K we) vs σ H QV := by
  obtain ⟨ρ, S, Q, re, hs, h, po⟩ := h
  refine ⟨ρ, S, _, re, hs, h, fun J H1 xs hold S1 it hx s1 k1 q => fun l hl => ?_⟩
  have hl0 : S1 l = none := s1.no hl
  have hH : H l = none := k1.dom l hl
  have q := q l hl0
  have kk0 : Kp S1 H1 (up S1 l (.dK [])) (upd H1 l (.dK [])) := (Kp.laid hl).named hl
  have ss0 : RS K (upd H1 l (.dK [])) (up S1 l (.dK [])) := named (s1.laid hl) ⟨[], upd_same, .nil⟩
  refine ⟨fun i m G => m = xs.length - i ∧ i ≤ xs.length ∧ ∃ S', RS K G S' ∧ Kp S1 H1 S' G ∧ dcL (dcStep l t wt wk we (wipeE ρ vs)) hold (xs.drop i) S' fun S2 => Q (.v (.ref l)) S2,
    ⟨xs.length, by simp, Nat.zero_le _, _, ss0, kk0, q⟩, ?_⟩
  rintro i m G ⟨rfl, hi, S', sG, kG, q⟩
  by_cases hlt : i < xs.length
  · rw [List.drop_eq_getElem_cons hlt] at q
    obtain ⟨hh, q⟩ := q
    obtain ⟨_, hgo⟩ := it i S' G kG.q sG hh
    obtain ⟨go, hy⟩ := hgo xs[i] (List.getElem?_eq_getElem hlt)
    refine .inr ⟨go, fun G' => xs.length - (i + 1) < xs.length - i ∧ ∃ S', RS K G' S' ∧ Kp S1 H1 S' G' ∧ dcL (dcStep l t wt wk we (wipeE ρ vs)) hold (xs.drop (i + 1)) S' fun S2 => Q (.v (.ref l)) S2,
      fun G' ⟨hm, w⟩ => ⟨xs.length - (i + 1), hm, rfl, hlt, w⟩, fun x G2 y => ?_⟩
    obtain ⟨rx, s2, k2⟩ := hy x G2 y
    have kk : Kp S1 H1 S' G2 := kG.trans k2
    have reW : REnv K G2 (L2.wipe σ vs) (wipeE ρ vs) := ((re.kp k1 hs).kp kk s1).wipe vs
    refine ⟨wipeE ρ vs, S', xs[i], _, reW, s2, rx, q, fun σ3 ρ3 re3 q3 hw => ⟨?_, ?_⟩⟩
    · rw [hw vs ht]
      exact List.ext_getElem? fun j => by
        simp only [wipe_get, wipe_length]
        by_cases hj : j ∈ vs
        · simp [hj]
        · simp [hj]
    · refine tDT1 re3 s2 q3 fun b G3 S3 s3 k3 re4 q4 => ?_
      cases b with
      | false => exact ⟨by omega, S3, s3, kk.trans k3, q4⟩
      | true =>
        refine tD1 re4 s3 q4 fun rk y G4 S4 rk4 s4 k4 re5 q5 => ?_
        refine tD1 re5 s4 q5 fun r v G5 S5 r5 s5 k5 re6 q6 => ?_
        obtain ⟨d, S6, rdv, s6, k6, q7⟩ := mat_ok q6 r5 s5 k5
        obtain ⟨ky, kvs, rfl, e, hz, q7⟩ := q7
        have rk4 : RD K G4 (keyD ky) y := rk4
        obtain ⟨ws, e6, rr⟩ := (s6 l _ e : RO K G5 l (.dK kvs))
        have hn : S6 l ≠ none := by rw [e]; exact fun z => nomatch z
        have wr : Kp S6 G5 (up S6 l (.dK (putD kvs ky d))) (upd G5 l (.dK (putK ws ky v))) := Kp.wrote s6 hn
        have ro : RO K (upd G5 l (.dK (putK ws ky v))) l (.dK (putD kvs ky d)) := ⟨_, upd_same, (rr.put rdv).mono (RD.kp wr s6)⟩
        refine ⟨ws, ky, keyD_kV rk4, e6, by rw [← rr.length]; exact hz, by omega, _, s6.wrote hn ro, ((kk.trans k3).trans (k4.trans k6)).trans wr, q7⟩
  · have e : i = xs.length := by omega
    subst e
    rw [List.drop_length] at q
    obtain ⟨hh, q⟩ := q
    obtain ⟨st, _⟩ := it xs.length S' G kG.q sG hh
    exact .inl ⟨st (Nat.le_refl _), po _ G (.v (.ref l)) S' (show V.ref l = V.ref l from rfl) sG (k1.trans kG) q⟩
end
set_option maxRecDepth 100000
set_option maxHeartbeats 4000000
end DP
set_option maxRecDepth 100000
set_option maxHeartbeats 4000000
namespace DP.Zp
open PySem
end DP.Zp
namespace DP
open PySem PySem.Spec PyProof.Rows L2
set_option maxRecDepth 100000
set_option maxHeartbeats 4000000
section
variable {X : Cx} {tg iter kx vx : Expr} {ifs : List Expr} {scope : Scope} {own : List (Str × Nat)} {pos spos p : Pos} {t : TN} {wi : Env → Sto → (List D → (Sto → Prop) → Sto → Prop) → Prop} {wt : Env → Sto → (Bool → Sto → Prop) → Prop} {wk we : Ev} {i : Nat} {y : Str}
theorem dc_line {c : L2.TI} {g : TG} {tt : TT} {tk tv : TE} (hc : X.calm = true) (hN : X.N.Nodup) (hy : X.N[i]? = some y) (hl : X.env.scope.names.lookup y = some .local) (hw : swapsWith (.DictComp kx vx [⟨tg, iter, ifs, 0⟩] scope pos) (some (.Name y p)) spos.line X.env = pure true)
    (hi : PI X tg iter c) (ok : BlkOk X.N X.env.scope scope own) (hg : ∀ (s : Shared) (H : Hp) (C : Addr) (cl : List (Str × Addr)) (fp : List Addr), PG (X.blk s H scope (compEnvC scope cl C X.env) fp) tg g)
    (htt : ∀ (s : Shared) (H : Hp) (C : Addr) (cl : List (Str × Addr)) (fp : List Addr), PTs (X.blk s H scope (compEnvC scope cl C X.env) fp) ifs tt) (hk : ∀ (s : Shared) (H : Hp) (C : Addr) (cl : List (Str × Addr)) (fp : List Addr), PE (X.blk s H scope (compEnvC scope cl C X.env) fp) kx tk)
    (he : ∀ (s : Shared) (H : Hp) (C : Addr) (cl : List (Str × Addr)) (fp : List Addr), PE (X.blk s H scope (compEnvC scope cl C X.env) fp) vx tv) (hf : ∀ x, foldedSetIterable iter X.env x = pure x) :
    PS X (.Assign [.Name y p] (.DictComp kx vx [⟨tg, iter, ifs, 0⟩] scope pos) spos) (tAsg (tDc c g tt tk tv (own.map (·.2))) (gName i)) := by
  refine ⟨fun pins s σ H N I h => ?_⟩
  rw [exec_Assign_Name_used _ _ _ _ hw]
  refine wpAny_bind (wpAny_standAt (wpAny_bind (?_ : wpAny _ _ _ _ _ _)))
  have h1 : tDc c g tt tk tv (own.map (·.2)) σ H (fun x H1 => gName i x σ H1 N.nx) := h
  show wpAny _ X.A (comprehension (.DictComp kx vx [⟨tg, iter, ifs, 0⟩] scope pos) scope X.env (firstIterPos [⟨tg, iter, ifs, 0⟩] pos) newDict false (eval iter X.env) (some (assign (.Name y p) X.env)) >>= _) _ _ s
  refine wpAny_bind (thn (dc_core (Qf := fun _ s' => SP X pins N .next s') hc hN I hi ok hg htt hk he hf h1 fun l C s' m H' J q hn f => ?_) fun _ s' hq => wpAny_pure (wpAny_pure hq))
  show wpAny _ _ (assign (.Name y p) X.env (.ref l)) _ _ _
  refine wpAny_assign_Name (store_ok2 (v := V.ref l) J hN hy (.inl hl) rfl (fun s2 J2 ⟨b, sb, hb⟩ => ?_) (.inr hl))
  obtain ⟨f0, f1, f2, f3, f4, f5⟩ := f
  have away : C ≠ b := hb.elim (fun z => by rw [z]; exact f1) fun z q => f4 y b z q.symm
  exact ⟨m, hn.sameBut sb away, fun h3 sb3 => ⟨_, H', J2.turned (t' := s2.toks) (fun d o hd e => (sb3.2 d hd).trans e) f0 f1 f3 f4 f5, q⟩⟩
theorem dc_swaps {gs : List Comprehension} {l : Nat} {env : PySem.Env} (hk : env.scope.kind = .function) (hy : env.scope.names.lookup y = some .local) (hl : (p.line == pos.line) = true)
    (ha : (scope.names.any fun (n, k) => n == y && (k == .local || k == .cell)) = false) : swapsWith (.DictComp kx vx gs scope pos) (some (.Name y p)) l env = pure true := by
  have k1 : env.kindOf y = some .local := hy
  have k2 : env.blockKind = .function := by
    unfold Env.blockKind
    rw [hk]
    rfl
  unfold swapsWith
  simp only [k1, k2, ha, Expr.pos, hl]
  rfl
theorem s_setDc (hc : X.calm = true) (hN : X.N.Nodup) (hy : X.N[i]? = some y) (hl : X.env.scope.names.lookup y = some .local) (hw : swapsWith (.DictComp kx vx [⟨tg, iter, ifs, 0⟩] scope pos) (some (.Name y p)) spos.line X.env = pure true)
    (hi : PI X tg iter (tDI X.K wi)) (ok : BlkOk X.N X.env.scope scope own) (ht : ∀ i ∈ tnIds t, i ∈ own.map (·.2))
    (hg : ∀ (s : Shared) (H : Hp) (C : Addr) (cl : List (Str × Addr)) (fp : List Addr), PG (X.blk s H scope (compEnvC scope cl C X.env) fp) tg (tDG X.K t)) (htt : ∀ (s : Shared) (H : Hp) (C : Addr) (cl : List (Str × Addr)) (fp : List Addr), PTs (X.blk s H scope (compEnvC scope cl C X.env) fp) ifs (tDT X.K wt))
    (hk : ∀ (s : Shared) (H : Hp) (C : Addr) (cl : List (Str × Addr)) (fp : List Addr), PE (X.blk s H scope (compEnvC scope cl C X.env) fp) kx (tD X.K wk))
    (he : ∀ (s : Shared) (H : Hp) (C : Addr) (cl : List (Str × Addr)) (fp : List Addr), PE (X.blk s H scope (compEnvC scope cl C X.env) fp) vx (tD X.K we)) (hf : ∀ x, foldedSetIterable iter X.env x = pure x) :
    PS X (.Assign [.Name y p] (.DictComp kx vx [⟨tg, iter, ifs, 0⟩] scope pos) spos) (tDS X.K fun ρ S nd => dcW t wi wt wk we (own.map (·.2)) ρ S fun r S1 => mat r S1 fun d S2 => nd.nx (ρ.set i (some d)) S2) :=
  (dc_line hc hN hy hl hw hi ok hg htt hk he hf).weak fun Dn σ H ⟨ρ, S, nd, re, hs, h, nx, _⟩ =>
    dc_link ht ⟨ρ, S, fun r S2 => mat r S2 fun d S3 => nd.nx (ρ.set i (some d)) S3, re, hs, h, fun v H1 r S1 r1 s1 k1 q => by
      obtain ⟨d, S2, rd, s2, k2, q⟩ := mat_ok q r1 s1 k1
      exact nx _ H1 _ S2 ((re.kp k2 hs).set rd) s2 k2 q⟩
end
section
variable {G : Gm} {B : Bk} {kx vx tg iter : Expr} {ek ev : E} {pos spos p : Pos}
theorem k_setDc {i j : Nat} {x : Str} {ifs : List Expr} {scope : Scope} {own : List (Str × Nat)} {vs : List Nat} {t : TN} {it : I} {ei : Option E} (h1 : B.N[i]? = some x) (h2 : B.sc.names[j]? = some (x, .local)) (hd : B.sc.kind = .function) (hl : (p.line == pos.line) = true) (ha : (scope.names.any fun (n, k) => n == x && (k == .local || k == .cell)) = false)
    (hok : blkC B.N B.sc scope own = true) (hsc : scC scope = true) (hv : own.map (·.2) = vs) (ht : decide (∀ i ∈ tnIds t, i ∈ vs) = true) (hs : nset iter = true)
    (hi : KI G B tg iter it) (hg : KG G (B.blk scope) tg t) (hf : KIf G (B.blk scope) ifs ei) (hk : KE G (B.blk scope) kx ek) (he : KE G (B.blk scope) vx ev) : KS G B (.Assign [.Name x p] (.DictComp kx vx [⟨tg, iter, ifs, 0⟩] scope pos) spos) (.asg (.name i) (.dc ek ev t it ei vs)) := ⟨fun X h _ => by
  subst hv
  exact s_setDc (own := own) (t := t) h.calm h.nd (by rw [h.hN]; exact h1) (h.kind h2) (dc_swaps (by rw [h.sc]; exact hd) (h.kind h2) hl ha) (hi.p X h) (by rw [h.hN, h.sc]; exact blkOk_by hok) (of_decide_eq_true ht) (fun s H C cl fp => hg.p _ (h.blk hsc s H C cl fp)) (fun s H C cl fp => hf.p _ (h.blk hsc s H C cl fp)) (fun s H C cl fp => hk.p _ (h.blk hsc s H C cl fp)) (fun s H C cl fp => he.p _ (h.blk hsc s H C cl fp)) (nset_it hs _)⟩
end
set_option maxRecDepth 100000
set_option maxHeartbeats 4000000
set_option maxRecDepth 100000
set_option maxHeartbeats 4000000
section
variable {X : Cx}
/-- what an empty dict may be said to be -/
def Empt (o : HO) : Prop := o = .dK [] ∨ o = .dT []
theorem Empt.laid {o0 : HO} (h0 : Empt o0) {pins : List (Addr × Obj)} {σ : L2.St} {H : Hp} {s : Shared} (I : Inv X pins σ H s) : Inv X pins σ (upd H s.heap.objs.size o0) { s with heap := s.heap.push { cls := .type "dict", data := .dict #[] } } := by
  refine I.laid (t' := s.toks) (fun b o e => Heap.get?_push_of_some _ e) (Nat.le_refl _) ?_
  rcases h0 with rfl | rfl
  · exact dk_empty s.heap I.big
  · exact dt_empty s.heap I.big
end
set_option maxRecDepth 100000
set_option maxHeartbeats 4000000
section
variable {K : PySem.W.Frag} {S S' : Sto} {H H' : Hp}
theorem rds_kys (H : Hp) : ∀ ky : List Key, RDs K H (ky.map keyD) (ky.map kV)
  | [] => by simp only [List.map_nil, RDs]
  | k :: ky => by
    simp only [List.map_cons, RDs]
    exact ⟨_, _, rfl, rdk_key k, rds_kys H ky⟩
end
set_option maxRecDepth 100000
set_option maxHeartbeats 4000000
section
variable {K : PySem.W.Frag} {S S' : Sto} {H H' : Hp} {a l : Addr}
theorem RS.lockedOutT {o : Obj} {ws : List (List Key × V)} (hs : RS K H S) (e : H l = some (.frz o (.dT ws))) : S l = none := hs.out e (fun _ z => nomatch z) (fun _ z => nomatch z) (fun _ z => nomatch z) (fun _ z => nomatch z) fun _ _ z => nomatch z
theorem RKv.keysT {kvs : List (List Key × D)} {ws : List (List Key × V)} (h : RKv K H kvs ws) : ws.map (·.1) = kvs.map (·.1) := by
  unfold RKv at h
  induction h with
  | nil => rfl
  | cons r t ih => rw [List.map_cons, List.map_cons, ih, r.1]
/-- the keys of such a dict while it is locked, one by one -/
theorem ItOk.keysT {H0 : Hp} {od : Obj} {ws : List (List Key × V)} {kvs : List (List Key × D)} (ek : ws.map (·.1) = kvs.map (·.1)) (hs : RS K H S) (e : H a = some (.frz od (.dT ws))) : ItOk K H0 S H (Itkt a od ws) (kvs.map fun kv => .tup (kv.1.map keyD)) fun _ => True := fun i S' H' k hs' _ => by
  have e' : H' a = some (.frz od (.dT ws)) := (k.keep a _ e (hs.lockedOutT e) (.inr fun _ z => nomatch z)).1
  have hl : (kvs.map fun kv => D.tup (kv.1.map keyD)).length = ws.length := by
    have := congrArg List.length ek
    simp only [List.length_map] at this ⊢
    omega
  refine ⟨fun hi => ⟨e', by rw [← hl]; exact hi⟩, fun d ed => ?_⟩
  have hi : i < ws.length := by rw [← hl]; exact (List.getElem?_eq_some_iff.mp ed).1
  refine ⟨⟨e', hi⟩, fun x H2 ⟨e2, ky, v, q, ev, ex, hq⟩ => ?_⟩
  subst e2 ex
  have e3 : (ws.map (·.1))[i]? = some ky := by rw [List.getElem?_map, ev]; rfl
  rw [ek, List.getElem?_map] at e3
  rw [List.getElem?_map] at ed
  cases e4 : kvs[i]? with
  | none => rw [e4] at e3; cases e3
  | some kv =>
    rw [e4] at e3 ed
    cases e3
    cases ed
    refine ⟨?_, hs', Kp.refl⟩
    show RD K _ (.tup (kv.1.map keyD)) _
    simp only [RD]
    exact ⟨q, _, rfl, hq, rds_kys _ kv.1⟩
end
set_option maxRecDepth 100000
set_option maxHeartbeats 4000000
set_option maxRecDepth 100000
set_option maxHeartbeats 2000000
theorem _root_.L2.PS.or {X : Cx} {st : Stmt} {t u : L2.TS} (h1 : PS X st t) (h2 : PS X st u) : PS X st fun D σ H => t D σ H ∨ u D σ H := ⟨fun pins s σ H D I q => q.elim (h1.run pins s σ H D I) (h2.run pins s σ H D I)⟩
theorem _root_.L2.PE.or {X : Cx} {e : Expr} {t u : TE} (h1 : PE X e t) (h2 : PE X e u) : PE X e fun σ H Q => t σ H Q ∨ u σ H Q := ⟨fun pins s σ H Q I q => q.elim (h1.run pins s σ H Q I) (h2.run pins s σ H Q I)⟩
section
variable {K : PySem.W.Frag} {S S' S0 : Sto} {H H' H0 : Hp} {a : Addr} {od : Obj} {ws : List (Key × V)} {kvs : List (Key × D)}
theorem RKv.len {κ : Type} {kvs : List (κ × D)} {ws : List (κ × V)} (h : RKv K H kvs ws) : kvs.length = ws.length := Paired.length h
theorem RKv.at {kvs : List (Key × D)} {ws : List (Key × V)} (h : RKv K H kvs ws) : ∀ {i : Nat} {k : Key} {v : V}, ws[i]? = some (k, v) → ∃ d, kvs[i]? = some (k, d) ∧ RD K H d v := by
  unfold RKv at h
  induction h with
  | nil => intro i k v e; simp at e
  | @cons p q ps qs a t ih =>
    intro i k v e
    cases i with
    | zero =>
      have e : q = (k, v) := by simpa using e
      subst e
      have a1 : p.1 = k := a.1
      exact ⟨p.2, by rw [← a1]; rfl, a.2⟩
    | succ i => exact ih (i := i) (by simpa using e)
theorem RS.lock (hs : RS K H S) (ea : S a = some (.dK kvs)) (e : H a = some (.dK ws)) (rk : RKv K H kvs ws) : RS K (upd H a (.frz od (.dK ws))) (up S a (.lkK kvs od ws)) := fun b o q => by
  by_cases h : b = a
  · subst h
    rw [up_same] at q
    cases q
    exact ⟨upd_same, rk.mono (RD.but e (nosq_dK ws))⟩
  · rw [up_ne h] at q
    exact ((hs.offA a).but e (nosq_dK ws) (fun _ _ z => by unfold LamX.CodeO at z; cases z) off_self) b o (by unfold off; rw [if_neg h]; exact q)
theorem RS.unlock (s' : RS K H' S') (e' : S' a = some (.lkK kvs od ws)) : H' a = some (.frz od (.dK ws)) ∧ RS K (upd H' a (.dK ws)) (up S' a (.dK kvs)) := by
  obtain ⟨eH, rk⟩ := s' a _ e'
  refine ⟨eH, fun b o q => ?_⟩
  by_cases h : b = a
  · subst h
    rw [up_same] at q
    cases q
    exact ⟨ws, upd_same, rk.mono (RD.but eH (nosq_fK od ws))⟩
  · rw [up_ne h] at q
    exact ((s'.offA a).but eH (nosq_fK od ws) (fun _ _ z => by unfold LamX.CodeO at z; cases z) off_self) b o (by unfold off; rw [if_neg h]; exact q)
/-- from before the lock to behind it -/
theorem Kp.locked (hs : RS K H S) (ea : S a = some (.dK kvs)) (k : Kp (up S a (.lkK kvs od ws)) (upd H a (.frz od (.dK ws))) S' H') (s' : RS K H' S') (e' : S' a = some (.lkK kvs od ws)) : Kp S H (up S' a (.dK kvs)) (upd H' a (.dK ws)) :=
  ((Kp.wrote hs (by rw [ea]; simp)).trans k).trans (Kp.wrote s' (by rw [e']; simp))
theorem RR.unlock {r : R} {v : V} (eH : H' a = some (.frz od (.dK ws))) (e' : S' a = some (.lkK kvs od ws)) (rr : RR K (upd H a (.frz od (.dK ws))) H' S' r v) : RR K H (upd H' a (.dK ws)) (up S' a (.dK kvs)) r v := by
  cases r with
  | v d => exact RD.but eH (nosq_fK od ws) d v rr
  | n o =>
    obtain ⟨l, rfl, h0, hl, ro⟩ := rr
    have la : l ≠ a := fun z => by rw [z, upd_same] at h0; cases h0
    rw [upd_ne la] at h0
    exact ⟨l, rfl, h0, by rw [up_ne la]; exact hl, ro_but eH (nosq_fK od ws) la ro⟩
theorem Post.lock {Q : PR} {QV : VK} (hs : RS K H S) (ea : S a = some (.dK kvs)) (po : Post K S H Q QV) :
    Post K (up S a (.lkK kvs od ws)) (upd H a (.frz od (.dK ws))) (fun r S2 => S2 a = some (.lkK kvs od ws) ∧ Q r (up S2 a (.dK kvs))) (fun v H' => H' a = some (.frz od (.dK ws)) ∧ QV v (upd H' a (.dK ws))) := fun v H' r S' rr s' k ⟨e', q⟩ => by
  obtain ⟨eH, s2⟩ := s'.unlock e'
  exact ⟨eH, po v _ r _ (RR.unlock eH e' rr) s2 (Kp.locked hs ea k s' e') q⟩
/-! the walks -/
def wLk (w : DW) (i : Nat) (j : Option Nat) : Env → Sto → (List D → (Sto → Prop) → Sto → Prop) → Prop := fun ρ S Kc => ∃ a kvs o ws, dwAt ρ S i j a ∧ S a = some (.lkK kvs o ws) ∧ kvs.length ≤ sizeLine ∧ Kc (dwD w kvs) (fun S' => S' a = some (.lkK kvs o ws)) S
theorem dwD_len (w : DW) (kvs : List (Key × D)) : (dwD w kvs).length = kvs.length := by cases w <;> exact List.length_map _
theorem it_keysL {H0 : Hp} : ItOk K H0 S H (Itk a od ws) (dwD .keys kvs) fun S' => S' a = some (.lkK kvs od ws) := fun i S' H' k hs' hh => by
  obtain ⟨e', rk⟩ := hs' a _ hh
  have hl := rk.len
  rw [dwD_len]
  refine ⟨fun hi => ⟨e', by omega⟩, fun d ed => ?_⟩
  have hi : i < ws.length := by have := (List.getElem?_eq_some_iff.mp ed).1; rw [dwD_len] at this; omega
  refine ⟨⟨e', hi⟩, fun x H2 ⟨e2, ky, v, ev, ex⟩ => ?_⟩
  subst e2 ex
  obtain ⟨d2, e3, _⟩ := rk.at ev
  unfold dwD at ed
  rw [List.getElem?_map, e3] at ed
  cases ed
  exact ⟨rdk_key _, hs', Kp.refl⟩
theorem it_itemsL {H0 : Hp} : ItOk K H0 S H (Iti a od ws) (dwD .items kvs) fun S' => S' a = some (.lkK kvs od ws) := fun i S' H' k hs' hh => by
  obtain ⟨e', rk⟩ := hs' a _ hh
  have hl := rk.len
  rw [dwD_len]
  refine ⟨fun hi => ⟨e', by omega⟩, fun d ed => ?_⟩
  have hi : i < ws.length := by have := (List.getElem?_eq_some_iff.mp ed).1; rw [dwD_len] at this; omega
  refine ⟨⟨e', hi⟩, fun x H2 ⟨T, ky, v, ev, ex, hT, e2⟩ => ?_⟩
  subst e2 ex
  obtain ⟨d2, e3, rd⟩ := rk.at ev
  unfold dwD at ed
  rw [List.getElem?_map, e3] at ed
  cases ed
  have k2 : Kp S' H' S' (upd H' T (.tup [kV ky, v])) := Kp.laid hT
  refine ⟨?_, hs'.laid hT, k2⟩
  simp only [RD, RDs]
  exact ⟨T, _, rfl, upd_same, _, _, rfl, rdk_key _, _, _, rfl, RD.kp k2 hs' _ _ rd, rfl⟩
end
section
variable {X : Cx} {tg e : Expr} {w : DW} {i : Nat} {j : Option Nat} {wd : Ev} {apos cpos : Pos}
/-- what tells the dict -/
def DictAt (wd : Ev) (i : Nat) (j : Option Nat) : Prop := ∀ ρ S a, dwAt ρ S i j a → ∀ Q : PR, Q (.v (.ref a)) S → wd ρ S Q
theorem lk_run {K : PySem.W.Frag} {σ : L2.St} {H : Hp} {R : It → Hp → Prop} {Ik : Addr → Obj → List (Key × V) → It} (hw : DictAt wd i j) (it : ∀ {H0 : Hp} {S : Sto} {H : Hp} {a : Addr} {od : Obj} {ws : List (Key × V)} {kvs : List (Key × D)}, ItOk K H0 S H (Ik a od ws) (dwD w kvs) fun S' => S' a = some (.lkK kvs od ws))
    (h : tDI K (wLk w i j) σ H R) : tD K wd σ H fun x H1 => ∃ d o kvs, x = .ref d ∧ H1 d = some (.frz o (.dK kvs)) ∧ R (Ik d o kvs) H1 := by
  obtain ⟨ρ, S, Q, re, hs, ⟨a, kvs, o, ws, ha, ea, few, h⟩, po⟩ := h
  refine ⟨ρ, S, fun r S' => r = .v (.ref a) ∧ S' = S, re, hs, hw ρ S a ha _ ⟨rfl, rfl⟩, fun v H' r S' rr s' k ⟨er, es⟩ => ?_⟩
  subst er es
  have ev : v = .ref a := rr
  subst ev
  exact ⟨a, o, ws, rfl, (s' a _ ea).1, po (Ik a o ws) H' _ _ S' it (by rw [dwD_len]; exact few) s' k h⟩
theorem pi_lkK (hd : PE X e (tD X.K wd)) (hw : DictAt wd i j) : PI X tg e (tDI X.K (wLk .keys i j)) := (pi_keys hd).weak fun σ H R h => by
  obtain ⟨ρ, S, Q, re, hs, q, po⟩ := lk_run (Ik := Itk) hw it_keysL h
  exact ⟨ρ, S, Q, re, hs, q, fun v H' r S' rr s' k q => let ⟨d, o, kvs, e, ed, q⟩ := po v H' r S' rr s' k q; ⟨d, o, e, .inl ⟨kvs, ed, q⟩⟩⟩
theorem pi_lkI {elts : List Expr} {kk : Nat} {tpos : Pos} (hd : PE X e (tD X.K wd)) (hw : DictAt wd i j) (hbase : attributeBase e "items" X.env (eval e X.env) = eval e X.env) (hline : (apos.endLine == cpos.line) = true) :
    PI X (.Tuple elts kk tpos) (.Call (.Attribute e "items" apos) [] [] cpos) (tDI X.K (wLk .items i j)) :=
  (pi_items hd hbase hline).weak fun σ H R h => lk_run (Ik := Iti) hw it_itemsL h
theorem dwAt.lock {ρ : Env} {S : Sto} {a : Addr} {kvs : List (Key × D)} {u : Ob} (h : dwAt ρ S i j a) (e : S a = some (.dK kvs)) : dwAt ρ (up S a u) i j a := by
  cases j with
  | none => exact h
  | some j =>
    obtain ⟨l, k, h1, h2, h⟩ := h
    rcases h with ⟨xs, h3, h4⟩ | ⟨kvs', h3, h5, h4⟩
    · exact ⟨l, k, h1, h2, .inl ⟨xs, by rw [up_ne (fun z => by subst z; rw [h3] at e; cases e)]; exact h3, h4⟩⟩
    · exact ⟨l, k, h1, h2, .inr ⟨kvs', by rw [up_ne h5]; exact h3, h5, h4⟩⟩
end
section
variable {X : Cx} {tg iter elt kx vx : Expr} {ifs : List Expr} {scope : Scope} {own : List (Str × Nat)} {pos : Pos} {t : TN} {w : DW} {i : Nat} {j : Option Nat} {wt : Env → Sto → (Bool → Sto → Prop) → Prop} {we wk : Ev}
theorem lk_expr {ev : Expr} {W : (List D) → (Sto → Prop) → Sto → (R → Sto → Prop) → Env → Prop} (base : PE X ev (tD X.K fun ρ S Q => wLk w i j ρ S fun xs hold S1 => W xs hold S1 Q ρ)) :
    PE X ev (tD X.K fun ρ S Q => ∃ a, dwAt ρ S i j a ∧ lkW S a fun kvs o ws un S1 => W (dwD w kvs) (fun S' => S' a = some (.lkK kvs o ws)) S1 (fun r S2 => S2 a = some (.lkK kvs o ws) ∧ Q r (un S2)) ρ) :=
  ((pe_lock base).or base).weak fun σ H QV ⟨ρ, S, Q, re, hs, ⟨a, ha, h⟩, po⟩ => by
    rcases h with ⟨kvs, ea, few, h⟩ | ⟨kvs, o, ws, ea, few, h⟩
    · refine .inl ?_
      obtain ⟨ws, e, rk⟩ : ∃ ws, H a = some (.dK ws) ∧ RKv X.K H kvs ws := hs a _ ea
      exact ⟨a, .dK ws, e, trivial, fun od => ⟨ρ, up S a (.lkK kvs od ws), _, re.but e (nosq_dK ws), hs.lock ea e rk, ⟨a, kvs, od, ws, ha.lock ea, up_same, few, h od ws⟩, po.lock hs ea⟩⟩
    · exact .inr ⟨ρ, S, _, re, hs, ⟨a, kvs, o, ws, ha, ea, few, h⟩, fun v H' r S' rr s' k q => po v H' r S' rr s' k q.2⟩
theorem s_lcD (hc : X.calm = true) (hN : X.N.Nodup) (hi : PI X tg iter (tDI X.K (wLk w i j))) (ok : BlkOk X.N X.env.scope scope own) (ht : ∀ i ∈ tnIds t, i ∈ own.map (·.2))
    (hg : ∀ (s : Shared) (H : Hp) (C : Addr) (cl : List (Str × Addr)) (fp : List Addr), PG (X.blk s H scope (compEnvC scope cl C X.env) fp) tg (tDG X.K t)) (htt : ∀ (s : Shared) (H : Hp) (C : Addr) (cl : List (Str × Addr)) (fp : List Addr), PTs (X.blk s H scope (compEnvC scope cl C X.env) fp) ifs (tDT X.K wt))
    (he : ∀ (s : Shared) (H : Hp) (C : Addr) (cl : List (Str × Addr)) (fp : List Addr), PE (X.blk s H scope (compEnvC scope cl C X.env) fp) elt (tD X.K we)) (hf : ∀ x, foldedSetIterable iter X.env x = pure x) :
    PE X (.ListComp elt [⟨tg, iter, ifs, 0⟩] scope pos) (tD X.K fun ρ S Q => ∃ a, dwAt ρ S i j a ∧ lkW S a fun kvs o ws un S1 => lcL (lcStep t wt we (wipeE ρ (own.map (·.2)))) (fun S' => S' a = some (.lkK kvs o ws)) (dwD w kvs) [] S1 fun ds S2 => S2 a = some (.lkK kvs o ws) ∧ Q (.n (.lst ds)) (un S2)) :=
  lk_expr (W := fun xs hold S1 Q ρ => lcL (lcStep t wt we (wipeE ρ (own.map (·.2)))) hold xs [] S1 fun ds S2 => Q (.n (.lst ds)) S2) (s_lc hc hN hi ok ht hg htt he hf)
theorem lk_stmt {st : Stmt} {W : List D → (Sto → Prop) → Sto → Nd → Env → Prop} (base : PS X st (tDS X.K fun ρ S nd => wLk w i j ρ S fun xs hold S1 => W xs hold S1 nd ρ)) :
    PS X st (tDS X.K fun ρ S nd => ∃ a, dwAt ρ S i j a ∧ lkW S a fun kvs o ws un S1 => W (dwD w kvs) (fun S' => S' a = some (.lkK kvs o ws)) S1 (nd.lk a kvs o ws un) ρ) := by
  refine ((ps_lock base).or base).weak fun Dn σ H ⟨ρ, S, nd, re, hs, ⟨a, ha, h⟩, nx, rt, bk, ct⟩ => ?_
  rcases h with ⟨kvs, ea, few, h⟩ | ⟨kvs, o, ws, ea, few, h⟩
  · refine .inl ?_
    obtain ⟨ws, e, rk⟩ : ∃ ws, H a = some (.dK ws) ∧ RKv X.K H kvs ws := hs a _ ea
    refine ⟨a, .dK ws, e, trivial, fun od => ⟨ρ, up S a (.lkK kvs od ws), nd.lk a kvs od ws (fun S' => up S' a (.dK kvs)), re.but e (nosq_dK ws), hs.lock ea e rk, ⟨a, kvs, od, ws, ha.lock ea, up_same, few, h od ws⟩, ?_, rt.lock hs ea, ?_, ?_⟩⟩
    · intro σ' H' ρ' S' re' s' k ⟨e', q⟩
      obtain ⟨eH, s2⟩ := s'.unlock e'
      exact ⟨eH, nx σ' _ ρ' _ (re'.but eH (nosq_fK od ws)) s2 (Kp.locked hs ea k s' e') q⟩
    · intro σ' H' ρ' S' re' s' k ⟨e', q⟩
      obtain ⟨eH, s2⟩ := s'.unlock e'
      exact ⟨eH, bk σ' _ ρ' _ (re'.but eH (nosq_fK od ws)) s2 (Kp.locked hs ea k s' e') q⟩
    · intro σ' H' ρ' S' re' s' k ⟨e', q⟩
      obtain ⟨eH, s2⟩ := s'.unlock e'
      exact ⟨eH, ct σ' _ ρ' _ (re'.but eH (nosq_fK od ws)) s2 (Kp.locked hs ea k s' e') q⟩
  · refine .inr ⟨ρ, S, nd.lk a kvs o ws id, re, hs, ⟨a, kvs, o, ws, ha, ea, few, h⟩, ?_, ?_, ?_, ?_⟩
    · exact fun σ' H' ρ' S' re' s' k q => nx σ' H' ρ' S' re' s' k q.2
    · exact fun v H' r S' rr s' k q => rt v H' r S' rr s' k q.2
    · exact fun σ' H' ρ' S' re' s' k q => bk σ' H' ρ' S' re' s' k q.2
    · exact fun σ' H' ρ' S' re' s' k q => ct σ' H' ρ' S' re' s' k q.2
end
section
variable {X : Cx} {o i e a b : Expr} {wo wi0 we wx : Ev} {pos tpos apos cpos : Pos}
/-- d.pop(k) -/
theorem RKv.drop {K : PySem.W.Frag} {H : Hp} {κ : Type} [DecidableEq κ] {kvs : List (κ × D)} {ws : List (κ × V)} (r : RKv K H kvs ws) (k : κ) : RKv K H (dropD kvs k) (dropK ws k) := by
  unfold RKv dropD dropK at *
  induction r with
  | nil => exact .nil
  | @cons p q ps qs a t ih =>
    rw [List.filter_cons, List.filter_cons, a.1]
    by_cases h : q.1 = k
    · rw [if_neg (by simp [h]), if_neg (by simp [h])]
      exact ih
    · rw [if_pos (decide_eq_true h), if_pos (decide_eq_true h)]
      exact .cons a ih
/-- a subscript of a locked dict -/
theorem s_ixL (hu : X.A.units + 65 < cLine) (ha : PE X a (tD X.K wo)) (hb : PE X b (tD X.K wi0)) (hp : PlainIx b) : PE X (.Subscript a b pos) (tD X.K fun ρ S Q => wo ρ S fun x S1 => wi0 ρ S1 fun y S2 => ∃ (kvs : List (Key × D)) (o : Obj) (ws : List (Key × V)) (ky : Key) (d : D), see S2 x = some (.lkK kvs o ws) ∧ y = .v (keyD ky) ∧ valD kvs ky = some d ∧ Q (.v d) S2) :=
  (pe_ix (ix_all (by omega)) ha hb hp).weak fun σ H QV ⟨ρ, S, Q, re, hs, h, po⟩ => tD2 re hs h fun x y v u H2 S2 r1 r2 s2 k2 ⟨kvs, o, ws, ky, d, e, ey, l, q⟩ => by
    subst ey
    obtain ⟨a, rfl, e1, rk⟩ := see_lkK s2 r1 e
    have eu : u = kV ky := keyD_rd (show RD X.K H2 (keyD ky) u from r2)
    subst eu
    obtain ⟨v', ev, rd⟩ := (rk.val ky).1 d l
    exact .inr ⟨a, v', rfl, .inl ⟨ws, ky, .inr ⟨o, e1⟩, rfl, ev.symm⟩, po.dat k2 s2 rd q⟩
/-! dicts whose keys are tuples -/
theorem s_dnT : PE X (.Dict [] [] pos) (tD X.K fun _ S Q => Q (.n (.dT [])) S) := pe_dnewT.weak fun σ H QV ⟨ρ, S, Q, re, hs, q, po⟩ => fun p hp => by
  have k2 : Kp S H S (upd H p (.dT [])) := Kp.laid hp
  have rr : RR X.K H (upd H p (.dT [])) S (.n (.dT [])) (.ref p) := ⟨p, rfl, hp, hs.no hp, [], upd_same, .nil⟩
  exact po _ _ _ S rr (hs.laid hp) k2 q
end
set_option maxRecDepth 100000
set_option maxHeartbeats 4000000
/-- which dict a term tells -/
def datE : E → Option (Nat × Option Nat)
  | .var i => some (i, none)
  | .ix (.var i) (.var j) => some (i, some j)
  | _ => none
theorem datE_ok {F : Fw} : ∀ {e : E} {i : Nat} {j : Option Nat}, datE e = some (i, j) → DictAt (wE F e) i j
  | .var i, _, _, h => by
    cases h
    intro ρ S a ha Q q
    exact ⟨_, ha, q⟩
  | .ix (.var i) (.var j), _, _, h => by
    cases h
    intro ρ S a ⟨l, k, h1, h2, h⟩ Q q
    rcases h with ⟨xs, h3, h4⟩ | ⟨kvs', h3, _, h4⟩
    · refine ⟨_, h1, _, h2, .inl ⟨xs, .ref a, ?_, h4, q⟩⟩
      show (match S l with | some (.lst xs) => some xs | _ => none) = _
      rw [h3]
    · exact ⟨_, h1, _, h2, .inr ⟨kvs', .ref a, h3, h4, q⟩⟩
structure KL (G : Gm) (B : Bk) (tg iter : Expr) (w : DW) (i : Nat) (j : Option Nat) : Prop where
  p : ∀ X, At G B X → PI X tg iter (tDI X.K (wLk w i j))
section
variable {G : Gm} {B : Bk} {tg iter elt kx vx e a b o : Expr} {ek ev ee ea eb eo ee2 : E} {pos spos p apos cpos tpos : Pos} {w : DW} {i : Nat} {j : Option Nat}
theorem k_lkK (he : KE G B e ee) (hd : datE ee = some (i, j)) : KL G B tg e .keys i j := ⟨fun X h => pi_lkK (he.p X h) (datE_ok hd)⟩
theorem k_lkI {elts : List Expr} {kk : Nat} (he : KE G B e ee) (hd : datE ee = some (i, j)) (hb : nbase e = true) (hl : (apos.endLine == cpos.line) = true) : KL G B (.Tuple elts kk tpos) (.Call (.Attribute e "items" apos) [] [] cpos) .items i j :=
  ⟨fun X h => pi_lkI (he.p X h) (datE_ok hd) (nbase_ok hb "items" X.env (eval e X.env)) hl⟩
theorem k_lcD {ifs : List Expr} {scope : Scope} {own : List (Str × Nat)} {vs : List Nat} {t : TN} {ei : Option E} (hok : blkC B.N B.sc scope own = true) (hsc : scC scope = true) (hv : own.map (·.2) = vs) (ht : decide (∀ i ∈ tnIds t, i ∈ vs) = true) (hs : nset iter = true)
    (hi : KL G B tg iter w i none) (hg : KG G (B.blk scope) tg t) (hf : KIf G (B.blk scope) ifs ei) (he : KE G (B.blk scope) elt ee) : KE G B (.ListComp elt [⟨tg, iter, ifs, 0⟩] scope pos) (.lcD ee t w i ei vs) := ⟨fun X h => by
  subst hv
  exact (s_lcD (own := own) (t := t) h.calm h.nd (hi.p X h) (by rw [h.hN, h.sc]; exact blkOk_by hok) (of_decide_eq_true ht) (fun s H C cl fp => hg.p _ (h.blk hsc s H C cl fp)) (fun s H C cl fp => hf.p _ (h.blk hsc s H C cl fp)) (fun s H C cl fp => he.p _ (h.blk hsc s H C cl fp)) (nset_it hs _)).weak fun σ H QV h => h⟩
theorem k_setDcD {m n : Nat} {x : Str} {ifs : List Expr} {scope : Scope} {own : List (Str × Nat)} {vs : List Nat} {t : TN} {ei : Option E} (h1 : B.N[m]? = some x) (h2 : B.sc.names[n]? = some (x, .local)) (hd : B.sc.kind = .function) (hl : (p.line == pos.line) = true) (ha : (scope.names.any fun (n, k) => n == x && (k == .local || k == .cell)) = false)
    (hok : blkC B.N B.sc scope own = true) (hsc : scC scope = true) (hv : own.map (·.2) = vs) (ht : decide (∀ i ∈ tnIds t, i ∈ vs) = true) (hs : nset iter = true)
    (hi : KL G B tg iter w i none) (hg : KG G (B.blk scope) tg t) (hf : KIf G (B.blk scope) ifs ei) (hk : KE G (B.blk scope) kx ek) (he : KE G (B.blk scope) vx ev) : KS G B (.Assign [.Name x p] (.DictComp kx vx [⟨tg, iter, ifs, 0⟩] scope pos) spos) (.asg (.name m) (.dcD ek ev t w i ei vs)) := ⟨fun X h _ => by
  subst hv
  exact (lk_stmt (w := w) (i := i) (j := none) (W := fun xs hold S1 nd ρ => ∀ l, S1 l = none → dcL (dcStep l t (wOT G.F ei) (wE G.F ek) (wE G.F ev) (wipeE ρ (own.map fun q : Str × Nat => q.2))) hold xs (up S1 l (.dK [])) fun S2 => nd.nx (ρ.set m (some (.ref l))) S2)
    (s_setDc (own := own) (t := t) h.calm h.nd (by rw [h.hN]; exact h1) (h.kind h2) (dc_swaps (by rw [h.sc]; exact hd) (h.kind h2) hl ha) (hi.p X h) (by rw [h.hN, h.sc]; exact blkOk_by hok) (of_decide_eq_true ht) (fun s H C cl fp => hg.p _ (h.blk hsc s H C cl fp)) (fun s H C cl fp => hf.p _ (h.blk hsc s H C cl fp)) (fun s H C cl fp => hk.p _ (h.blk hsc s H C cl fp)) (fun s H C cl fp => he.p _ (h.blk hsc s H C cl fp)) (nset_it hs _))).weak fun Dn σ H h => h⟩
theorem k_ixL (ha : KE G B a ea) (hb : KE G B b eb) (hp : nsl b = true) : KE G B (.Subscript a b pos) (.ixL ea eb) := ⟨fun X h => s_ixL h.units (ha.p X h) (hb.p X h) (by cases b <;> first | (intro _ _; rfl) | cases hp)⟩
theorem k_dnT : KE G B (.Dict [] [] pos) .dnT := ⟨fun X h => s_dnT⟩
end
end DP
set_option maxRecDepth 100000
set_option maxHeartbeats 4000000
namespace PySem.W
open PySem PySem.Spec PyProof.Rows PySem.SeqAt
section
variable {prog : Program} {w : World} {A : Around} {E : Value → Shared → Prop} {s : Shared} {β : Type} {vs : List Value} {bs : List β} {enc : β → PyData} {R : Value → β → Prop}
theorem list_sort_one {a : Addr} {n : Nat} {Q : Value → Shared → Prop} (ho : s.heap.get? a = some (seqObj "list" vs.toArray n)) (e : EachIs R vs bs) (er : EachIs (fun v b => ∃ as, Reads s.heap v (enc b) as ∧ a ∉ as) vs bs) (hal : AllAlike (bs.map enc)) (hn : ∀ d ∈ bs.map enc, d ≠ .none) (h1 : bs.length ≤ 1) (hL : bs.length ≤ sizeLine)
    (hu : ∀ b, b ∈ bs → A.units + 1 + (enc b).depth < cLine) (h : ∀ out, out.length = bs.length → EachIs R out (bs.mergeSort (dataLe false enc)) → Q .none { s with heap := sortedHeap s.heap a vs (List.toArray out) }) :
    wpAny (model prog w) A (call (.builtin "list.sort") [.ref a]) Q E s := by
  have er' : EachIs (fun v b => ∃ as, Reads (sortingHeap s.heap a vs) v (enc b) as) vs bs := each_keepBut (h' := sortingHeap s.heap a vs) (fun _ _ hb q => sortingHeap_old hb q) (fun o q => by rw [ho] at q; rw [← Option.some.inj q]) hal er
  refine wpAny_call_entry slot_list_sort ⟨_, ho, rfl⟩ entry_list_sort (list_sort_vals (κ := dataKind (sortingHeap s.heap a vs) (bs.map enc)) ho (SortsAt.one (s := { s with heap := sortingHeap s.heap a vs }) (each_map (R := fun v d => ∃ as, Reads (sortingHeap s.heap a vs) v d as) enc er') hal hn (by rw [e.length]; exact h1) (bound_map hu)) (by rw [e.length]; exact hL) ⟨.none, rfl, ?_⟩) (args_list_sort _)
  exact h _ (by rw [sortVals_length false rfl]; exact e.length) (sortVals_data false e er' hal)
end
end PySem.W
namespace DP
open PySem PySem.Spec PyProof.Rows L2
section
variable {prog : Program} {w : World} {κ : Type} {d : Addr} {xs : List (κ × Addr × Value)} {es : Array DictEntry} {ep : Nat}
theorem kdl_dictH (lo : (d == sysModules) = false) (hx : ∀ i (hi : i < es.size), ∃ y, xs[i]? = some y ∧ es[i].key = .ref y.2.1 ∧ es[i].val = y.2.2) :
    PySem.W.KdlSrc prog w "dict" d d es.size (fun i v => ∃ y, xs[i]? = some y ∧ v = .ref y.2.1) (fun h => h.DictRaw d es ep) where
  type := fun _ hm => hm.typeIs
  there := fun _ hm => by
    obtain ⟨o, ho, _⟩ := hm
    exact ⟨Heap.lt_size ho, Heap.lt_size ho⟩
  keep := fun _ _ hm hk => hm.at fun o e => hk d (.inl rfl) o e
  notList := by decide
  notTuple := by decide
  hint := fun _ _ _ _ hm hq => PySem.W.kdl_hint_dict hm.typeIs hq
  iter := fun A s hh hm => by
    have hlt : d < s.heap.objs.size := by
      obtain ⟨o, ho, _⟩ := hm
      exact Heap.lt_size ho
    exact ⟨_, _, (fun _ _ hq => wpAny_pyIter_dict_raw lo hm hq), Walks.keysH hh _ d (Nat.ne_of_lt hlt) es ep hx, ⟨⟨_, Heap.get?_push_size _ rfl, rfl, rfl⟩, hm.at fun o e => Heap.get?_push_of_some _ e⟩⟩
end
section
variable {X : Cx} {pins : List (Addr × Obj)} {σ : L2.St} {H : Hp} {s : Shared}
theorem reads_keys {h : Heap} : ∀ {ks : List Key} {us : List Value}, Vals (ks.map kV) us → ReadsAll h us (encDs (ks.map keyD)) []
  | [], _, r => by cases r; rw [List.map_nil, encDs]; exact .nil
  | .inl i :: ks, _, r => by
    cases r with
    | cons a b =>
      obtain ⟨t, rfl⟩ := a
      rw [List.map_cons, encDs]
      exact .cons (.int i t) (reads_keys b)
  | .inr x :: ks, _, r => by
    cases r with
    | cons a b =>
      obtain ⟨t, rfl⟩ := a
      rw [List.map_cons, encDs]
      exact .cons (.str x t) (reads_keys b)
theorem reads_ktup {P : Program} {w : World} {h h' : Heap} {q : Addr} {ks : List Key} (ok : HOk P w H h) (e : H q = some (.tup (ks.map kV))) (k : ∀ b o, h.get? b = some o → h'.get? b = some o) : Reads h' (.ref q) (encD (.tup (ks.map keyD))) [] := by
  obtain ⟨_, its, r, o, h1, h2, n, h3⟩ := (show ObjOk P w H h q (.tup (ks.map kV)) from ok q _ e)
  rw [encD]
  exact .tuple (k _ _ h1) h2 h3 (by simpa using reads_keys r)
/-- what is gathered of the keys -/
theorem each_keysT {kvs : List (List Key × V)} {xs : List (List Key × Addr × Value)} {K : PySem.W.Frag} (rel : L2.KT H kvs xs) : ∀ {acc : List Value}, acc.length = kvs.length → (∀ (j : Nat) (v : Value), acc[j]? = some v → ∃ y : List Key × Addr × Value, xs[j]? = some y ∧ v = Value.ref y.2.1) →
    PySem.W.EachIs (fun u d => ∃ (q : Addr) (ks : List Key), u = Value.ref q ∧ d = D.tup (ks.map keyD) ∧ H q = some (.tup (ks.map kV))) acc (kvs.map fun kv => D.tup (kv.1.map keyD)) := by
  unfold L2.KT at rel
  induction rel with
  | nil =>
    intro acc hl h
    cases acc with
    | nil => exact .nil
    | cons a b => simp at hl
  | @cons p y ps ys a t ih =>
    intro acc hl h
    cases acc with
    | nil => simp at hl
    | cons u us =>
      obtain ⟨y', e1, e2⟩ := h 0 u rfl
      cases e1
      rw [List.map_cons]
      exact .cons ⟨_, p.1, e2, rfl, a.2.1⟩ (ih (by simpa using hl) fun j v e => h (j + 1) v e)
theorem back_keysT {K : PySem.W.Frag} : ∀ {ds : List D} {us : List Value}, PySem.W.EachIs (fun u d => ∃ (q : Addr) (ks : List Key), u = Value.ref q ∧ d = D.tup (ks.map keyD) ∧ H q = some (.tup (ks.map kV))) us ds → ∃ vs, RDs K H ds vs ∧ Vals vs us
  | _, _, .nil => ⟨[], by simp only [RDs], .nil⟩
  | _, _, .cons ⟨q, ks, e1, e2, e3⟩ t => by
    obtain ⟨vs, h1, h2⟩ := back_keysT t
    subst e1 e2
    exact ⟨.ref q :: vs, by simp only [RDs, RD]; exact ⟨.ref q, vs, rfl, ⟨q, _, rfl, e3, rds_kys _ ks⟩, h1⟩, .cons rfl h2⟩
/-- sorted(d), the keys tuples -/
theorem call_sortedDT (hc : X.calm = true) (hu : X.A.units + 65 < cLine) : CallR X (.builtin "sorted") (fun xs H Q => ∃ (a : Addr) (kvs : List (List Key × V)), xs = [.ref a] ∧ Rd H a (.dT kvs) ∧ PySem.W.AllAlike ((kvs.map fun kv => D.tup (kv.1.map keyD)).map encD) ∧
    Srt ((kvs.map fun kv => D.tup (kv.1.map keyD)).map encD) ∧ ∀ p ws, H p = none → RDs X.K H (sortD (kvs.map fun kv => D.tup (kv.1.map keyD))) ws → Q (.ref p) (upd H p (.lst ws))) := by
  intro pins s σ H args us Q I r q
  obtain ⟨a, kvs, ex, hd, hal, hso, q⟩ := q
  subst ex
  obtain ⟨u, eu, rx⟩ := vals1 r
  subst eu
  cases rx
  obtain ⟨z, lo, xs, rel, dd⟩ := dt_rd I.hok hd
  obtain ⟨es, ep, raw, hsz, hx⟩ := dd.raw
  have hl : xs.length = kvs.length := (Paired.length rel).symm
  refine Calls.call_function_entry PyProof.Rows.kind_sorted PyProof.Rows.plain_sorted PyProof.Rows.entry_sorted (PyProof.Rows.args_sorted1 _) ?_
  unfold Builtin.«sorted»
  refine wpAny_bind (m := checkCount "sorted" 1 1 _) (wpAny_pure ?_)
  refine wpAny_bind (PySem.W.kdu_collect (A := X.A.in1) (kdl_dictH (prog := X.prog) (w := X.w) (ep := ep) lo fun i hi => let ⟨y, h1, h2, h3, _⟩ := hx i hi; ⟨y, h1, h2, h3⟩) (I.ok.hd hc) raw (by omega) fun h' tk acc hk hacc => ?_)
  have hal' : acc.toList.length = kvs.length := by rw [Array.length_toList, hacc.1, hsz, hl]
  have each := each_keysT (K := X.K) rel hal' fun j v e => hacc.2 j v (by rw [← Array.getElem?_toList]; exact e)
  have I1 : Inv X pins σ H { s with heap := h', toks := tk } := I.kept hk
  refine wpAny_bind (wpAny_newList ?_ (by rw [hal']; exact z))
  have hoL : (h'.push (seqObj "list" acc.toList.toArray 0)).get? h'.objs.size = some (seqObj "list" acc.toList.toArray 0) := Heap.get?_push_size _ rfl
  have er : PySem.W.EachIs (fun v d => ∃ as, Reads (h'.push (seqObj "list" acc.toList.toArray 0)) v (encD d) as ∧ h'.objs.size ∉ as) acc.toList (kvs.map fun kv => D.tup (kv.1.map keyD)) := each.mono fun u d ⟨qq, ks, e1, e2, e3⟩ => by
    subst e1 e2
    exact ⟨[], reads_ktup I1.hok e3 fun b o e => Heap.get?_push_of_some _ e, by simp⟩
  have dep : ∀ ks : List Key, (encD (D.tup (ks.map keyD))).depth ≤ 2 := fun ks => by
    have h1 : ∀ ks : List Key, PyData.depthAll (encDs (ks.map keyD)) ≤ 1 := fun ks => by
      induction ks with
      | nil => simp [encDs, PyData.depthAll]
      | cons k ks ih =>
        cases k <;> simp [encDs, keyD, encD, PyData.depthAll, PyData.depth] <;> omega
    rw [encD, PyData.depth]
    have := h1 ks
    omega
  have dep2 : ∀ b ∈ (kvs.map fun kv => D.tup (kv.1.map keyD)), X.A.in1.units + 1 + (encD b).depth < cLine := fun b hb => by
    obtain ⟨kv, _, rfl⟩ := List.mem_map.mp hb
    have := dep kv.1
    show X.A.units + 1 + 1 + _ < cLine
    omega
  have hsort : ∀ (Qs : Value → Shared → Prop), (∀ out : List Value, out.length = (kvs.map fun kv => D.tup (kv.1.map keyD)).length → PySem.W.EachIs (fun u d => ∃ (q : Addr) (ks : List Key), u = Value.ref q ∧ d = D.tup (ks.map keyD) ∧ H q = some (.tup (ks.map kV))) out ((kvs.map fun kv => D.tup (kv.1.map keyD)).mergeSort (PySem.W.dataLe false encD)) →
      Qs .none { s with heap := sortedHeap (h'.push (seqObj "list" acc.toList.toArray 0)) h'.objs.size acc.toList out.toArray, toks := tk }) → wpAny (model X.prog X.w) X.A.in1 (call (.builtin "list.sort") [.ref h'.objs.size]) Qs X.xe { s with heap := h'.push (seqObj "list" acc.toList.toArray 0), toks := tk } := fun Qs hQs => by
    rcases hso with hso | hso | ⟨hso, hn⟩
    · exact PySem.W.list_sort_data (A := X.A.in1) (s := { s with heap := h'.push (seqObj "list" acc.toList.toArray 0), toks := tk }) (enc := encD) hoL each er hal (.inl hso) (by rw [List.length_map]; exact z) dep2 hQs
    · exact PySem.W.list_sort_data (A := X.A.in1) (s := { s with heap := h'.push (seqObj "list" acc.toList.toArray 0), toks := tk }) (enc := encD) hoL each er hal (.inr hso) (by rw [List.length_map]; exact z) dep2 hQs
    · exact PySem.W.list_sort_one (A := X.A.in1) (s := { s with heap := h'.push (seqObj "list" acc.toList.toArray 0), toks := tk }) (enc := encD) hoL each er hal hn (by rw [List.length_map] at hso; exact hso) (by rw [List.length_map]; exact z) dep2 hQs
  refine wpAny_bind (wpAny_holding (hsort _ fun out ho eo => ?_))
  obtain ⟨c, hc'⟩ := sortedHeap_at (vs := acc.toList) (out := out.toArray) hoL
  obtain ⟨ws, h1, h2⟩ := back_keysT (K := X.K) eo
  have hfr := I1.hok.fresh (Nat.le_refl h'.objs.size)
  refine wpAny_pure ⟨_, rfl, .ref h'.objs.size, upd H h'.objs.size (.lst ws), I1.laid (t' := tk) (fun b u e => ?_) (Nat.le_refl _)
    (show ObjOk X.prog X.w _ _ _ (.lst ws) from ⟨?_, out, c, h2, hc'⟩), rfl, q _ ws hfr h1⟩
  · have hb : b < h'.objs.size := Heap.lt_size e
    show (sortedHeap (h'.push (seqObj "list" acc.toList.toArray 0)) h'.objs.size acc.toList out.toArray).get? b = some u
    rw [sortedHeap_old (Nat.ne_of_lt hb) (by rw [size_push']; exact Nat.lt_succ_of_lt hb)]
    exact Heap.get?_push_of_some _ e
  · have e1 := h1.length
    rw [List.length_mergeSort, List.length_map] at e1
    omega
end
section
variable {X : Cx} {a : Expr} {p p2 pos pos2 : Pos} {i : Nat} {F : Fw} {x y : Str}
theorem keysT_eq {kvs : List (List Key × D)} {ws : List (List Key × V)} {K : PySem.W.Frag} {H : Hp} (rk : RKv K H kvs ws) : (ws.map fun kv => D.tup (kv.1.map keyD)) = kvs.map fun kv => D.tup (kv.1.map keyD) := by
  have e := congrArg (List.map fun k : List Key => D.tup (k.map keyD)) rk.keysT
  rw [List.map_map, List.map_map] at e
  exact e
theorem s_sortDT (hc : X.calm = true) (hu : X.A.units + 65 < cLine) (hg : Gl X x) (hm : X.mg x = none) (hv : bootBuiltins x = some (.builtin "sorted")) (hn1 : x ≠ "__name__") (hd : (x == ("__debug__" : Str)) = false)
    (ha : PE X a (tD X.K (wE F (.var i)))) (hn : starEach [a] X.env = (false, eval a X.env) :: starEach [] X.env) : PE X (.Call (.Name x p) [a] [] pos) (tD X.K (wE F (.sortDT i))) :=
  (pe_callB (call_sortedDT hc hu) hg hm hv (s_pr1 ha s_pr0 hn) hn1 hd hn (by rfl)).weak fun σ H QV ⟨ρ, S, Q, re, hs, ⟨a, kvs, e1, e2, hal, hso, q⟩, po⟩ => ⟨ρ, S, fun rs S1 => rs = [.v (.ref a)] ∧ S1 = S, re, hs, ⟨.ref a, e1, rfl, rfl⟩, fun vs H1 rs S1 rr s1 k1 ⟨er, eS⟩ => by
    subst er eS
    obtain ⟨v, rfl, r⟩ := rr.one
    obtain ⟨a', ws, rfl, e3, rk⟩ := see_dT (x := .v (.ref a)) s1 r e2
    have em := keysT_eq rk
    exact ⟨a', ws, rfl, .inl e3, by rw [em]; exact hal, by rw [em]; exact hso, fun p ys hp rd => po.lst k1 s1 hp (em ▸ rd) q⟩⟩
end
set_option maxRecDepth 100000
set_option maxHeartbeats 4000000
section
variable {G : Gm} {B : Bk} {a : Expr} {p p2 pos pos2 : Pos} {m i j i2 j2 : Nat} {x y : Str}
theorem k_sortDT (ex : x = "sorted") (h1 : B.sc.names[i]? = some (x, .globalImplicit)) (h2 : G.free[j]? = some x) (ha : KE G B a (.var m)) (n1 : nst a = true) : KE G B (.Call (.Name x p) [a] [] pos) (.sortDT m) := ⟨fun X h => by
  have hg := h.gl h1
  have hm := h.free _ (List.mem_of_getElem? h2)
  have hd := (h.nd1 h1).1
  have hn := starEach_one (es := []) n1 X.env
  subst ex
  exact s_sortDT h.calm h.units hg hm (by decide +kernel) (by decide +kernel) hd (ha.p X h) hn⟩
end
end DP
set_option maxRecDepth 100000
set_option maxHeartbeats 1000000
namespace DP.Star
open PySem PySem.Spec PyProof.Rows L2
end DP.Star
set_option maxRecDepth 100000
set_option maxHeartbeats 4000000
namespace DP
open PySem PySem.Spec PyProof.Rows L2
/-! ### f-strings -/
set_option maxRecDepth 100000
set_option maxHeartbeats 4000000
end DP
set_option maxRecDepth 100000
set_option maxHeartbeats 2000000
namespace DP
open PySem PySem.Spec PyProof.Rows L2 LamX
/-- behind the making of a lambda: nothing, or a new code object and the grown table -/
def Grow (H : Hp) (P : Addr) (H1 : Hp) : Prop := H1 = H ∨ ∃ (ps : Array Value) (c : Addr) (q : Str), H c = none ∧ H1 = upd (upd H P (.tbl ps)) c (CodeO c q)
section
variable {K : PySem.W.Frag} {S : Sto} {H H1 : Hp} {P : Addr} {q : Str}
theorem Grow.kp (g : Grow H P H1) (hs : RS K H S) (hP : S P = some (.tb q)) : Kp S H S H1 := by
  rcases g with rfl | ⟨ps, c, q, hc, rfl⟩
  · exact Kp.refl
  · refine ⟨fun b o e n => ⟨?_, n⟩, fun b e => ?_, fun _ h => h⟩
    · rw [upd_ne (ne_of_none e hc), upd_ne (fun z => by rw [z, hP] at n; cases n)]; exact e
    · by_cases hb : b = c
      · subst hb; exact hc
      · rw [upd_ne hb] at e
        by_cases hb2 : b = P
        · subst hb2; rw [upd_same] at e; cases e
        · rw [upd_ne hb2] at e; exact e
end
set_option maxRecDepth 100000
set_option maxHeartbeats 2000000
set_option maxRecDepth 100000
set_option maxHeartbeats 4000000
end DP
set_option maxRecDepth 100000
set_option maxHeartbeats 4000000
namespace DP
open PySem PySem.Spec PyProof.Rows L2
set_option maxRecDepth 100000
set_option maxHeartbeats 1000000
/-- a tuple of whole numbers that the module keeps -/
def TupK (K : PySem.W.Frag) (a : Addr) (is : List Int) : Prop := ∃ (o : Obj) (its : Array Value) (n : Nat), K.lookup a = some o ∧ o.cls = .type "tuple" ∧ o.data = .seq its n ∧ its.size ≤ sizeLine ∧ Vals (is.map V.int) its.toList
theorem TupK.sq {K : PySem.W.Frag} {a : Addr} {is : List Int} (h : TupK K a is) (H : Hp) : SqT K H a (is.map V.int) := .inr h
/-! ### such a tuple, looked at -/
set_option maxRecDepth 100000
set_option maxHeartbeats 4000000
/-! the rules beside the text -/
set_option maxRecDepth 100000
set_option maxHeartbeats 1000000
theorem kbd_of0 {K : PySem.W.Frag} {x y qual kn : Str} {params : Arguments} {body : List Stmt} {scope : Scope} {f : Addr} {fd : FuncData} {ps : List Str} {n : Nat} {kws : List (Str × V)} (F : FunD K x qual params body scope [] kws f fd) (hn : n + 1 = ps.length)
    (h2 : ∀ (kV doc pm : Value) (an : Option Addr) (cdv ct : Value) (us : List Value) (w : Value), us.length = n → bindArgs (PySem.W.fnOf x qual params body scope .none kV doc pm an cdv ct) ⟨us, [(kn, w)]⟩ = pure (ps.zip (us ++ [w]))) : KBD K fd ps ⟨y, kn, none⟩ := by
  refine ⟨fun d e => (nomatch e), fun s us w _ hl => ?_⟩
  obtain ⟨oc, od, dV, kV, doc, pm, an, cdv, ct, osl, rfl, lk, hcd, hD, hK⟩ := F.ex
  rcases hD with ⟨_, rfl⟩ | ⟨e, _⟩
  · rw [List.length_append, List.length_singleton] at hl
    exact .of_eq (h2 kV doc pm an cdv ct us w (by omega))
  · exact absurd rfl e
/-- a def with one parameter by name, for which a value stands -/
theorem kbd_of {K : PySem.W.Frag} {x y qual kn : Str} {params : Arguments} {body : List Stmt} {scope : Scope} {f : Addr} {fd : FuncData} {ps : List Str} {n : Nat} {v : V} {d : D} (F : FunD K x qual params body scope [] [(kn, v)] f fd) (hd : ∀ H, RD K H d v) (hn : n + 1 = ps.length)
    (h1 : ∀ (D : Addr) (doc pm : Value) (an : Option Addr) (cdv ct : Value) (us ks : List Value), us.length = n → ks.length = 1 →
      KwChain D ([kn].zip ks) (bindArgs (PySem.W.fnOf x qual params body scope .none (.ref D) doc pm an cdv ct) ⟨us, []⟩) (ps.zip (us ++ ks)))
    (h2 : ∀ (kV doc pm : Value) (an : Option Addr) (cdv ct : Value) (us : List Value) (w : Value), us.length = n → bindArgs (PySem.W.fnOf x qual params body scope .none kV doc pm an cdv ct) ⟨us, [(kn, w)]⟩ = pure (ps.zip (us ++ [w]))) : KBD K fd ps ⟨y, kn, some d⟩ := by
  refine ⟨fun d' e => ?_, (kbd_of0 (y := y) F hn h2).named⟩
  cases e
  obtain ⟨ds, r, b⟩ := F.binds0 n (by simp) (by simpa using hn) h1
  cases r with
  | @cons _ u _ us r rn =>
    cases rn
    exact ⟨v, u, b, r, hd⟩
section
variable {P : Program} {w : World} {K : PySem.W.Frag} {mg : Str → Option Value} {base : Heap}
theorem env_start {H : Hp} {N : List Str} {b : Fn} {ds : List D} {vs : List V} (hN : N.length = b.ns) (r : RDs K H ds vs) : REnv K H (start N vs) (startE b ds) := by
  have hl := r.length
  refine ⟨?_, fun i d e => ?_⟩
  · show (vs.map some ++ List.replicate (N.length - vs.length) none).length = (ds.map some ++ List.replicate (b.ns - ds.length) none).length
    simp only [List.length_append, List.length_map, List.length_replicate]
    omega
  · have e' : (ds.map some ++ List.replicate (b.ns - ds.length) none)[i]? = some (some d) := e
    by_cases hi : i < ds.length
    · rw [List.getElem?_append_left (by rw [List.length_map]; exact hi), List.getElem?_map] at e'
      obtain ⟨d', e1, e2⟩ := Option.map_eq_some_iff.mp e'
      cases e2
      obtain ⟨v, e3, rv⟩ := r.get e1
      refine ⟨v, ?_, rv⟩
      show (vs.map some ++ List.replicate (N.length - vs.length) none)[i]? = _
      rw [List.getElem?_append_left (by rw [List.length_map]; omega), List.getElem?_map, e3]
      rfl
    · rw [List.getElem?_append_right (by rw [List.length_map]; omega)] at e'
      rw [List.getElem?_replicate] at e'
      split at e' <;> cases e'
/-- what is known of a def of the text -/
structure DefOkD (dcl : List DCall) (P : Program) (K : PySem.W.Frag) (mg : Str → Option Value) (fns : List Str) (cst : List (Str × D)) (free : List Str) (xt : Str → Fw → Nat → Cx → Prop) (x : Str) (b : Fn) : Prop where
  ex : ∃ (params : Arguments) (body : List Stmt) (scope : Scope) (N ps : List Str) (a : Addr) (fd : FuncData) (dvs : List V) (kws : List (Str × V)) (y : Str), FunD K y y params body scope dvs kws a fd ∧ FnScope N ps scope ∧ ps.length = b.np ∧ N.length = b.ns ∧ scC scope = true ∧
    ((dnB dcl x = false → Binds K fd ps []) ∧ ∀ q ∈ dcl, q.x = x → KBD K fd ps q) ∧ mg x = some (.ref a) ∧ ∀ (F : Fw) (n : Nat), KSs ⟨F, n, fns, cst, free, xt x F n, dcl⟩ ⟨N, scope, none⟩ body b.body
/-- a def without such a parameter -/
theorem defOk {dcl : List DCall} {fns : List Str} {cst : List (Str × D)} {free : List Str} {xt : Str → Fw → Nat → Cx → Prop} {x : Str} {b : Fn} (h : ∃ (params : Arguments) (body : List Stmt) (scope : Scope) (N ps : List Str) (a : Addr) (fd : FuncData) (y : Str), FunD K y y params body scope [] [] a fd ∧ FnScope N ps scope ∧ ps.length = b.np ∧ N.length = b.ns ∧ scC scope = true ∧
    Binds K fd ps [] ∧ mg x = some (.ref a) ∧ ∀ (F : Fw) (n : Nat), KSs ⟨F, n, fns, cst, free, xt x F n, dcl⟩ ⟨N, scope, none⟩ body b.body) (h0 : dnB dcl x = false := by rfl) : DefOkD dcl P K mg fns cst free xt x b := by
  obtain ⟨params, body, scope, N, ps, a, fd, y, F, S, h1, h2, h3, bn, hm, hk⟩ := h
  refine ⟨params, body, scope, N, ps, a, fd, [], [], y, F, S, h1, h2, h3, ⟨fun _ => bn, fun q hq e => ?_⟩, hm, hk⟩
  have : dnB dcl x = true := List.any_eq_true.mpr ⟨q, hq, by rw [e]; exact beq_self_eq_true x⟩
  rw [h0] at this
  cases this
end
/-! ### the law's end -/
/-- a law's promise by data: the script's whole numbers in a list that is never written -/
theorem end_call {P : Program} {w : World} {K : PySem.W.Frag} {mg mb : Str → Option Value} {k : Nat} {fa a : Addr} {fd : FuncData} {x : Str} {wl : List D → Sto → PR → Prop} {t : Shared} {vs : List Value} {ns : List Int}
    (inK : K.In t.heap) (gl : t.heap.Ns mainGlobals mg) (bl : t.heap.Ns builtinsNs mb) (boot : ∀ x : Str, x ≠ "__name__" → mb x = bootBuiltins x) (nolim : t.heap.NoLimit) (nogen : t.gens = #[])
    (at_a : t.heap.get? a = some { cls := .type "list", data := .seq vs.toArray }) (wholes : IntsAre vs ns) (few : ns.length ≤ sizeLine) (room : Room k callerA)
    (F : ∀ base : Heap, K.In base → base.Ns mainGlobals mg → FnG P w K mg base CX0 k fa fd [x] (spD K wl)) (bind1 : ∀ (s : Shared) (u : Value), BindsTo s fd ⟨[u], []⟩ [(x, u)])
    (law : wl [.fz (ns.map D.int)] (fun _ => none) fun r _ => r = .v (.bl true)) :
    codeAny (model P w) callerA (.call (.ref fa) ⟨[.ref a], []⟩) (fun r s' => r = .ok (.ret (.bool true)) ∧ OldK t.heap s'.heap ∧ s'.os = t.os ∧ AllBare s'.gens) t := by
  have vals := vals_ints wholes
  have size := wholes.length
  have rdI : ∀ (H : Hp) (l : List Int), RDs K H (l.map D.int) (l.map V.int) := fun H l => by
    induction l with
    | nil => simp only [List.map_nil, RDs]
    | cons i l ih => simp only [List.map_cons, RDs]; exact ⟨_, _, rfl, rfl, ih⟩
  have main : ∀ H : Hp, FzL K H a (ns.map V.int) → HOk P w H t.heap → (∀ b, H b ≠ none → b = a ∧ ∃ o u, H b = some (.frz o (.lst u)) ∧ K.lookup a = none) →
      codeAny (model P w) callerA (.call (.ref fa) ⟨[.ref a], []⟩) (fun r s' => r = .ok (.ret (.bool true)) ∧ OldK t.heap s'.heap ∧ s'.os = t.os ∧ AllBare s'.gens) t := by
    intro H fz ok only
    have keeps : ∀ {b : Addr} {o : Obj}, t.heap.get? b = some o → (H b = none ∨ b ≠ a) → (hidT t.heap H).get? b = some o := fun {b o} e n => hidT_get e (n.elim id fun ne => by
      cases q : H b with
      | none => rfl
      | some u => exact absurd (only b (by rw [q]; simp)).1 ne)
    have keepNs : ∀ {b : Addr} {m : Str → Option Value}, t.heap.Ns b m → (hidT t.heap H).Ns b m := fun {b m} h => by
      obtain ⟨o, es, ep, e, d, r⟩ := h
      refine ⟨o, es, ep, keeps e (.inr fun z => ?_), d, r⟩
      subst z
      have e2 := e.symm.trans at_a
      cases e2
      cases d
    have inB : K.In (hidT t.heap H) := fun b o e => keeps (inK b o e) (by
      cases q : H b with
      | none => exact .inl rfl
      | some u =>
        refine .inr fun z => ?_
        obtain ⟨_, _, _, _, z2⟩ := only b (by rw [q]; simp)
        subst z
        rw [z2] at e
        cases e)
    have modu : Mod K mg (hidT t.heap H) := by
      obtain ⟨mc, c1, c2⟩ := nolim
      exact ⟨inB, keepNs gl, ⟨mb, keepNs bl, boot⟩, mc, keepNs c1, c2⟩
    have env : Env0 P w K mg (hidT t.heap H) callerA [] t H := by
      refine ⟨rfl, modu, fun b o e => of_hidT e, Nat.le_of_eq (hidT_size _ _), trivial, fun b hb => ?_, ok, .of_eq nogen⟩
      exact absurd (show b ∈ ([] : List Addr) from hb) List.not_mem_nil
    have sp : spD K wl [.ref a] H (fun v _ => v = .bl true) E0 := by
      refine ⟨[.fz (ns.map D.int)], fun _ => none, _, ?_, fun b o e => (nomatch e), law, fun v H' r S' rr _ _ q => ?_⟩
      · simp only [RDs, RD]
        exact ⟨_, _, rfl, ⟨a, _, rfl, fz, rdI H ns⟩, rfl⟩
      · subst q
        exact rr
    refine codeAny_mono ((F _ inB (keepNs gl)).go callerA [] t H ⟨[.ref a], []⟩ [.ref a] [.ref a] _ E0 rfl room env (bind1 t (.ref a)) (.cons rfl .nil) sp) fun r s' h => ?_
    match r, h with
    | .error _, h => exact h.elim
    | .ok .next, h => exact h.elim
    | .ok .brk, h => exact h.elim
    | .ok .cont, h => exact h.elim
    | .ok (.ret u), h =>
      obtain ⟨v, H', e1, e2, un, ok2, rv, q⟩ := h
      have q : v = .bl true := q
      subst q
      cases (show u = Value.bool true from rv)
      refine ⟨rfl, .of_keep fun b o e => ?_, e1, e2⟩
      cases q : H b with
      | none => exact un.keep b o e q (fun z => absurd (show b ∈ ([] : List Addr) from z) List.not_mem_nil) List.not_mem_nil
      | some u =>
        obtain ⟨_, ob, us, z, _⟩ := only b (by rw [q]; simp)
        obtain ⟨g1, _⟩ := ok b _ z
        obtain ⟨g2, _⟩ := ok2 b _ (un.frzs b ob _ z)
        cases e.symm.trans g1
        exact g2
  cases hk : K.lookup a with
  | some o =>
    cases (inK a o hk).symm.trans at_a
    refine main (fun _ => none) (.inr ⟨_, vs.toArray, _, hk, rfl, rfl, rfl, ?_, by simpa using vals⟩) (fun b u z => by cases (show (none : Option HO) = some u from z)) fun b z => (z rfl).elim
    rw [List.size_toArray, size]
    exact few
  | none =>
    let H : Hp := fun b => if b = a then some (.frz { cls := .type "list", data := .seq vs.toArray } (.lst (ns.map V.int))) else none
    have Ha : H a = some (.frz { cls := .type "list", data := .seq vs.toArray } (.lst (ns.map V.int))) := if_pos rfl
    have Hn : ∀ b, H b ≠ none → b = a := fun b z => Classical.byContradiction fun ne => z (if_neg ne)
    refine main H (.inl ⟨_, Ha⟩) (fun b u z => ?_) fun b z => ?_
    · cases Hn b (by rw [z]; simp)
      cases Ha.symm.trans z
      exact ⟨at_a, by rw [List.length_map]; exact few, vs, _, vals, at_a⟩
    · cases Hn b z
      exact ⟨rfl, _, _, Ha, hk⟩
/-- the goal that the head leaves -/
theorem end_walk {l : PySem.W.OpenLaw} {n k : Nat} {q : Program} {loose : List Str} {XP : (Str → Option Value) → Heap → Prop} {YP : World → Heap → Prop} {d : DefRec} {x : Str} (most : l.most = some n) (few : n ≤ sizeLine) (nodefs : d.params.defaults = []) (room : Room k callerA)
    (F : ∀ (w : World) (mg : Str → Option Value) (fa : Addr) (h : Heap), YP w h → h.Ns mainGlobals mg → mg d.name = some (.ref fa) → ∃ (K : PySem.W.Frag) (fd : FuncData) (wl : List D → Sto → PR → Prop), K.In h ∧ (∀ (s : Shared) (u : Value), BindsTo s fd ⟨[u], []⟩ [(x, u)]) ∧
        (∀ ns : List Int, ns.length ≤ n → wl [.fz (ns.map D.int)] (fun _ => none) fun r _ => r = .v (.bl true)) ∧ ∀ base : Heap, K.In base → base.Ns mainGlobals mg → FnG l.prog w K mg base CX0 k fa fd [x] (spD K wl)) :
    PySem.W.WalkO q loose XP YP l.row.toRowW d [] (fun f vs => PySem.call f vs) := by
  refine Att.attach_call most nodefs fun w s0 t mg mb fa o pm cd doc a vs ns G Y _ _ _ hmg at_a wholes len nogen => ?_
  obtain ⟨K, fd, wl, inK, bind1, law, FG⟩ := F w mg fa _ Y G.T.g hmg
  exact end_call inK G.T.g G.T.b G.T.builtins G.T.nolimit nogen at_a wholes (Nat.le_trans len few) room FG bind1 (law ns len)
set_option maxRecDepth 100000
set_option maxHeartbeats 2000000
/-- an exception by its data -/
def ExcIs (K : PySem.W.Frag) (mg : Str → Option Value) (c : Str) (fs : List D) (cls : Value) (d : Option Addr) (H : Hp) : Prop :=
  ∃ C : Addr, mg c = some (.ref C) ∧ cls = .ref C ∧ ((fs = [] ∧ d = none) ∨ ∃ f x v dd, fs = [.str f, x] ∧ d = some dd ∧ H dd = some (.xd [(f, v)]) ∧ RD K H x v)
/-- what is wished of a def that may raise -/
structure PostX (K : PySem.W.Frag) (mg : Str → Option Value) (S : Sto) (H : Hp) (Qd : PR) (Q : VK) (E : XK) : Prop where
  ret : ∀ v H' d S', RD K H' d v → RS K H' S' → Kp S H S' H' → Qd (.v (.tup [.non, d])) S' → Q v H'
  non : ∀ H' S', RS K H' S' → Kp S H S' H' → Qd (.v .non) S' → Q .non H'
  exc : ∀ cls dd H' S' c fs, ExcIs K mg c fs cls dd H' → RS K H' S' → Kp S H S' H' → Qd (.v (.tup (.str c :: fs))) S' → E cls dd H'
theorem PostX.sub {K : PySem.W.Frag} {mg : Str → Option Value} {S S1 : Sto} {H H1 : Hp} {Qd : PR} {Q : VK} {E : XK} (p : PostX K mg S H Qd Q E) (k : Kp S H S1 H1) : PostX K mg S1 H1 Qd Q E :=
  ⟨fun v H' d S' a b c e => p.ret v H' d S' a b (k.trans c) e, fun H' S' b c e => p.non H' S' b (k.trans c) e, fun cls dd H' S' c fs a b kk e => p.exc cls dd H' S' c fs a b (k.trans kk) e⟩
/-- what a def that may raise promises, by data -/
def spX (K : PySem.W.Frag) (mg : Str → Option Value) (w : List D → Sto → PR → Prop) : Sp := fun vs H Q E => ∃ ds S Qd, RDs K H ds vs ∧ RS K H S ∧ w ds S Qd ∧ PostX K mg S H Qd Q E
/-- the end of a statement that may raise -/
def tXS (K : PySem.W.Frag) (mg : Str → Option Value) (W : XK) (w : Sw) : L2.TS := fun Dn σ H => ∃ ρ S nd, REnv K H σ ρ ∧ RS K H S ∧ w ρ S nd ∧
  (∀ σ' H' ρ' S', REnv K H' σ' ρ' → RS K H' S' → Kp S H S' H' → nd.nx ρ' S' → Dn.nx σ' H') ∧ PostX K mg S H nd.rt Dn.rt W ∧
  (∀ σ' H' ρ' S', REnv K H' σ' ρ' → RS K H' S' → Kp S H S' H' → nd.bk ρ' S' → Dn.bk σ' H') ∧ (∀ σ' H' ρ' S', REnv K H' σ' ρ' → RS K H' S' → Kp S H S' H' → nd.ct ρ' S' → Dn.ct σ' H')
abbrev wx (W : XK) : WX := fun cls d _ H => W cls d H
structure XSs (G : Gm) (B : Bk) (s : List Stmt) (c : List C) : Prop where
  p : ∀ X W, At G B X → PassesOwn (model X.prog X.w) X.A X.env X.xe → Takes X (wx W) → PSs X s (tXS X.K X.mg W (wSs G.F c))
set_option maxRecDepth 100000
set_option maxHeartbeats 2000000
set_option maxRecDepth 100000
set_option maxHeartbeats 1000000
set_option maxRecDepth 100000
set_option maxHeartbeats 2000000
/-- new objects laid, one by one -/
inductive Lay : Hp → Hp → Prop
  | refl {H : Hp} : Lay H H
  | step {H H1 : Hp} {p : Addr} {u : HO} : Lay H H1 → H1 p = none → Lay H (upd H1 p u)
theorem Lay.trans {H H1 H2 : Hp} (a : Lay H H1) (b : Lay H1 H2) : Lay H H2 := by
  induction b with
  | refl => exact a
  | step _ h ih => exact .step ih h
theorem Lay.keep {H H1 : Hp} (a : Lay H H1) : ∀ b u, H b = some u → H1 b = some u := by
  induction a with
  | refl => exact fun _ _ h => h
  | step _ h ih => exact fun b u e => by rw [upd_ne (ne_of_none (ih b u e) h)]; exact ih b u e
theorem Lay.kp {K : PySem.W.Frag} {S : Sto} {H H1 : Hp} (a : Lay H H1) : Kp S H S H1 := by
  induction a with
  | refl => exact Kp.refl
  | step _ h ih => exact ih.trans (Kp.laid h)
set_option maxRecDepth 100000
set_option maxHeartbeats 2000000
set_option maxRecDepth 100000
set_option maxHeartbeats 2000000
section
variable {P : Program} {w : World} {K : PySem.W.Frag} {mg : Str → Option Value} {base : Heap}
/-- the code value of the def at a -/
def CodeAt (K : PySem.W.Frag) (a : Addr) (cdv : Value) : Prop := ∃ (oc : Value) (od : Option Addr) (fd : FuncData) (osl : Array (Option Value)) (q : Str), K.lookup a = some ⟨oc, od, .func fd, osl⟩ ∧ fd.code = cdv ∧ PySem.W.codeIn K cdv q = true
/-- the own name of the def at a -/
def NameAt (K : PySem.W.Frag) (a : Addr) (y : Str) : Prop := ∃ (params : Arguments) (body : List Stmt) (scope : Scope) (dvs : List V) (kws : List (Str × V)) (fd : FuncData), FunD K y y params body scope dvs kws a fd
theorem nameAt {y : Str} {params : Arguments} {body : List Stmt} {scope : Scope} {dvs : List V} {kws : List (Str × V)} {a : Addr} {fd : FuncData} (F : FunD K y y params body scope dvs kws a fd) : NameAt K a y := ⟨_, _, _, _, _, _, F⟩
theorem NameAt.eq {y z : Str} {params : Arguments} {body : List Stmt} {scope : Scope} {dvs : List V} {kws : List (Str × V)} {a : Addr} {fd : FuncData} (h : NameAt K a y) (F : FunD K z z params body scope dvs kws a fd) : y = z := by
  obtain ⟨_, _, _, _, _, _, G⟩ := h
  obtain ⟨_, _, _, _, _, _, _, _, _, _, e1, l1, _⟩ := F.ex
  obtain ⟨_, _, _, _, _, _, _, _, _, _, e2, l2, _⟩ := G.ex
  rw [l1] at l2
  have e3 := Option.some.inj l2
  simp only [Obj.mk.injEq, Data.func.injEq] at e3
  have e4 := e3.2.2.1
  rw [e1, e2] at e4
  exact (congrArg (fun f : FuncData => f.name) e4).symm
/-- fnG_of, the def's code told -/
theorem fnG_code {qn nm : Str} {params : Arguments} {body : List Stmt} {scope : Scope} {f : Addr} {fd : FuncData} {cx : CXT} {N ps : List Str} {k : Nat} {sp : Sp} {dvs : List V} {kws : List (Str × V)} (F : FunD K nm qn params body scope dvs kws f fd) (S : FnScope N ps scope) (many : ∀ vs H Q E, sp vs H Q E → vs.length = ps.length)
    (inside : ∀ (cdv : Value) (A : Around) (up : List PySem.Env) (s : Shared) (H : Hp) (vs : List V) (Q : VK) (E : XK), CodeAt K f cdv → A.guards = some [] → Room k (A.deeper (envOfC qn scope s.heap.objs.size f cdv)) → (A.deeper (envOfC qn scope s.heap.objs.size f cdv)).units + 16 * k + 213 < cLine → sp vs H Q E →
      ∃ t, PSs (cxOf cx P w K mg base N qn scope f cdv A up s H E) body t ∧ t { nx := fun _ H' => Q .non H', rt := Q } (start N vs) H) : FnG P w K mg base cx (k + 1) f fd ps sp := by
  obtain ⟨oc, od, dV, kV, doc, pm, an, cdv, ct, osl, rfl, lk, hcd, _, _⟩ := F.ex
  refine ⟨many, fun A up s H args us vs Q E hg hr e0 hb r hsp => ?_⟩
  have hl := many _ _ _ _ hsp
  have inK : K.In s.heap := e0.mod.kin.keeps fun b o e => (e0.bs b o e).1
  have nolim : s.heap.NoLimit := e0.mod.nolimit.keeps fun b o e => (e0.bs b o e).1
  refine codeAny_call_function hr.depth (inK _ _ lk) rfl S.co S.gen rfl (PySem.W.codeRec_of inK hcd) (hb _ _ _ _ ?_)
  have kinds : ∀ y ∈ ps.zip us, scope.names.lookup y.1 = some .local ∨ (scope.names.lookup y.1 = some .cell ∧ ((cellsFrom (s.heap.objs.size + 1) scope.names []).lookup y.1).isSome = true) := by
    rintro ⟨n, v⟩ hy
    rcases S.par n (List.of_mem_zip hy).1 with q | q
    · exact .inl q
    · exact .inr ⟨q, PySem.W.cellsFrom_some _ _ _ (.inl q)⟩
  refine wpAny_newFunctionEnv_cells S.kind kinds fun env he s1 x => ?_
  subst he
  obtain ⟨t, ht, hq⟩ := inside cdv A up s H vs Q E ⟨oc, od, _, osl, _, lk, rfl, hcd⟩ hg (hr.deeper _) (by have := hr.un; show A.units + 3 + 16 * k + 213 < cLine; omega) hsp
  have I : Inv (cxOf cx P w K mg base N qn scope f cdv A up s H E) [] (start N vs) H s1 := inv_start S hr.hd e0 hl r x
  refine ⟨nolim.keeps x.toInCall.keep, codeAny_func (wpAny_mono (ht.run [] s1 (start N vs) H _ I hq) (fun fl s' hfl => ?_) fun _ _ hx => hx)⟩
  match fl, hfl with
  | .ret u, ⟨v, σ', H', J, rv, q⟩ => exact ⟨v, H', J.os, J.bare, J.base, J.hok, rv, q⟩
  | .next, ⟨σ', H', J, q⟩ => exact ⟨.non, H', J.os, J.bare, J.base, J.hok, rfl, q⟩
  | .brk, ⟨_, _, _, q⟩ => exact q.elim
  | .cont, ⟨_, _, _, q⟩ => exact q.elim
/-- what is known of a def of the text that may raise -/
structure XefOk (dcl : List DCall) (P : Program) (K : PySem.W.Frag) (mg : Str → Option Value) (fns : List Str) (cst : List (Str × D)) (free : List Str) (xt : Str → Fw → Nat → Cx → Prop) (x : Str) (b : Fn) : Prop where
  ex : ∃ (params : Arguments) (body : List Stmt) (scope : Scope) (N ps : List Str) (a : Addr) (fd : FuncData), FunD K x x params body scope [] [] a fd ∧ FnScope N ps scope ∧ ps.length = b.np ∧ N.length = b.ns ∧ scC scope = true ∧
    Binds K fd ps [] ∧ mg x = some (.ref a) ∧ ∀ (F : Fw) (n : Nat), XSs ⟨F, n, fns, cst, free, xt x F n, dcl⟩ ⟨N, scope, none⟩ body b.body
/-- the promises of the defs at level n -/
def FP (P : Program) (w : World) (K : PySem.W.Frag) (mg : Str → Option Value) (base : Heap) (T : List Fn) (dcl : List DCall) (n f : Nat) (x : Str) : Prop := ∃ a fd ps, FnG P w K mg base CX0 (n + 2) a fd ps (spD K (W T n f)) ∧ ((dnB dcl x = false → Binds K fd ps []) ∧ ∀ q ∈ dcl, q.x = x → KBD K fd ps q) ∧ mg x = some (.ref a) ∧ PySem.W.keepIn K (.ref a) = true
def XP (P : Program) (w : World) (K : PySem.W.Frag) (mg : Str → Option Value) (base : Heap) (T : List Fn) (n f : Nat) (x : Str) : Prop := ∃ a fd ps, FnG P w K mg base (L2.CX P w) (n + 2) a fd ps (spX K mg (W T n f)) ∧ Binds K fd ps [] ∧ mg x = some (.ref a) ∧ PySem.W.keepIn K (.ref a) = true
variable {T : List Fn} {dcl : List DCall} {fns : List Str} {rx : List (Nat × Str)} {cst : List (Str × D)} {free : List Str} {xt : Str → Fw → Nat → Cx → Prop}
/-- what is known besides, where a def's block runs at level n -/
def XtOk (P : Program) (w : World) (K : PySem.W.Frag) (mg : Str → Option Value) (base : Heap) (T : List Fn) (dcl : List DCall) (fns : List Str) (rx : List (Nat × Str)) (xt : Str → Fw → Nat → Cx → Prop) : Prop :=
  ∀ n, (∀ m, m ≤ n → (∀ f x, fns[f]? = some x → FP P w K mg base T dcl m f x) ∧ ∀ f x, (f, x) ∈ rx → XP P w K mg base T m f x) → ∀ (cx : CXT) (N : List Str) (x y : Str) (scope : Scope) (a : Addr) (cdv : Value) (A : Around) (up : List PySem.Env) (s : Shared) (H : Hp) (E : XK), mg x = some (.ref a) → NameAt K a y → CodeAt K a cdv → A.guards = some [] →
    Room (n + 2) (A.deeper (envOfC y scope s.heap.objs.size a cdv)) → xt x (W T n) (n + 2) (cxOf cx P w K mg base N y scope a cdv A up s H E)
theorem all_ok (hd : ∀ (f : Nat) (x : Str), fns[f]? = some x → ∃ b, T[f]? = some b ∧ DefOkD dcl P K mg fns cst free xt x b) (hr : ∀ (f : Nat) (x : Str), (f, x) ∈ rx → ∃ b, T[f]? = some b ∧ XefOk dcl P K mg fns cst free xt x b) (hfree : ∀ x ∈ free, mg x = none)
    (hcst : ∀ x c, (x, c) ∈ cst → ∃ v u, mg x = some u ∧ RelV v u ∧ ∀ H, RD K H c v) (hxt : XtOk P w K mg base T dcl fns rx xt) : ∀ n m, m ≤ n → (∀ f x, fns[f]? = some x → FP P w K mg base T dcl m f x) ∧ ∀ f x, (f, x) ∈ rx → XP P w K mg base T m f x
  | n, 0, _ => by
    refine ⟨fun f x e => ?_, fun f x e => ?_⟩
    · obtain ⟨b, eb, params, body, scope, N, ps, a, fd, dvs, kws, y, F, S, h1, h2, h3, bn, hm, hk⟩ := hd f x e
      refine ⟨a, fd, ps, ⟨fun vs H Q E h => ?_, fun A up s H args us vs Q E _ _ _ _ _ h => ?_⟩, bn, hm, F.kp⟩
      · obtain ⟨_, _, _, _, _, z, _⟩ := h; exact z.elim
      · obtain ⟨_, _, _, _, _, z, _⟩ := h; exact z.elim
    · obtain ⟨b, eb, params, body, scope, N, ps, a, fd, F, S, h1, h2, h3, bn, hm, hk⟩ := hr f x e
      refine ⟨a, fd, ps, ⟨fun vs H Q E h => ?_, fun A up s H args us vs Q E _ _ _ _ _ h => ?_⟩, bn, hm, F.kp⟩
      · obtain ⟨_, _, _, _, _, z, _⟩ := h; exact z.elim
      · obtain ⟨_, _, _, _, _, z, _⟩ := h; exact z.elim
  | 0, m + 1, h => by omega
  | n + 1, m + 1, hle => by
    have ih := all_ok hd hr hfree hcst hxt n
    have hm0 : m ≤ n := by omega
    refine ⟨fun f x e => ?_, fun f x e => ?_⟩
    · obtain ⟨b, eb, params, body, scope, N, ps, a, fd, dvs, kws, y, F, S, h1, h2, h3, bn, hm, hk⟩ := hd f x e
      refine ⟨a, fd, ps, fnG_code F S (fun vs H Q E h => ?_) (fun cdv A up s H vs Q E hc hg hr hsl h => ?_), bn, hm, F.kp⟩
      · obtain ⟨ds, S0, Qd, rd, rs, z, po⟩ := h
        rw [W_def eb] at z
        rw [← rd.length, z.1, h1]
      · obtain ⟨ds, S0, Qd, rd, rs, z, po⟩ := h
        rw [W_def eb] at z
        have at' : At ⟨W T m, m + 2, fns, cst, free, xt x (W T m) (m + 2), dcl⟩ ⟨N, scope, none⟩ (cxOf CX0 P w K mg base N y scope a cdv A up s H E) :=
          ⟨rfl, hg, hr, S.nd, rfl, rfl, fun _ _ => rfl, scC_uq h3, scC_nod h3, fun f x e => (ih m hm0).1 f x e, hfree, hcst, hsl, fun _ => hxt m (fun l hl => ih l (Nat.le_trans hl hm0)) _ _ _ _ _ _ _ _ _ _ _ _ hm (nameAt F) hc hg hr⟩
        refine ⟨_, (hk (W T m) (m + 2)).p _ at' PassesOwn.leaving, startE b ds, S0, _, env_start h2 rd, rs, z.2, fun σ' H' ρ' S' _ s' k' q => ?_, po, fun _ _ _ _ _ _ _ q => q.elim, fun _ _ _ _ _ _ _ q => q.elim⟩
        exact po .non H' (.v .non) S' rfl s' k' q
    · obtain ⟨b, eb, params, body, scope, N, ps, a, fd, F, S, h1, h2, h3, bn, hm, hk⟩ := hr f x e
      refine ⟨a, fd, ps, fnG_code F S (fun vs H Q E h => ?_) (fun cdv A up s H vs Q E hc hg hr hsl h => ?_), bn, hm, F.kp⟩
      · obtain ⟨ds, S0, Qd, rd, rs, z, po⟩ := h
        rw [W_def eb] at z
        rw [← rd.length, z.1, h1]
      · obtain ⟨ds, S0, Qd, rd, rs, z, po⟩ := h
        rw [W_def eb] at z
        have at' : At ⟨W T m, m + 2, fns, cst, free, xt x (W T m) (m + 2), dcl⟩ ⟨N, scope, none⟩ (cxOf (L2.CX P w) P w K mg base N x scope a cdv A up s H E) :=
          ⟨rfl, hg, hr, S.nd, rfl, rfl, fun _ _ => rfl, scC_uq h3, scC_nod h3, fun f x e => (ih m hm0).1 f x e, hfree, hcst, hsl, fun _ => hxt m (fun l hl => ih l (Nat.le_trans hl hm0)) _ _ _ _ _ _ _ _ _ _ _ _ hm (nameAt F) hc hg hr⟩
        refine ⟨_, (hk (W T m) (m + 2)).p _ E at' PassesOwn.leaving (takes_of rfl rfl rfl rfl), startE b ds, S0, _, env_start h2 rd, rs, z.2, fun σ' H' ρ' S' _ s' k' q => ?_, po, fun _ _ _ _ _ _ _ q => q.elim, fun _ _ _ _ _ _ _ q => q.elim⟩
        exact po.non H' S' s' k' q
/-- the law's own def -/
theorem law_ok (hd : ∀ (f : Nat) (x : Str), fns[f]? = some x → ∃ b, T[f]? = some b ∧ DefOkD dcl P K mg fns cst free xt x b) (hr : ∀ (f : Nat) (x : Str), (f, x) ∈ rx → ∃ b, T[f]? = some b ∧ XefOk dcl P K mg fns cst free xt x b) (hfree : ∀ x ∈ free, mg x = none)
    (hcst : ∀ x c, (x, c) ∈ cst → ∃ v u, mg x = some u ∧ RelV v u ∧ ∀ H, RD K H c v) (hxt : XtOk P w K mg base T dcl fns rx xt) {n f : Nat} {x : Str} {b : Fn} {params : Arguments} {body : List Stmt} {scope : Scope} {N ps : List Str} {a : Addr} {fd : FuncData} (eb : T[f]? = some b)
    (F : FunD K x x params body scope [] [] a fd) (S : FnScope N ps scope) (h1 : ps.length = b.np) (h2 : N.length = b.ns) (h3 : scC scope = true) (hm : mg x = some (.ref a)) (hk : ∀ (F : Fw) (n : Nat), KSs ⟨F, n, fns, cst, free, xt x F n, dcl⟩ ⟨N, scope, none⟩ body b.body) : FnG P w K mg base CX0 (n + 3) a fd ps (spD K (W T (n + 1) f)) := by
  have ih := all_ok hd hr hfree hcst hxt n
  refine fnG_code F S (fun vs H Q E h => ?_) fun cdv A up s H vs Q E hc hg hr hsl h => ?_
  · obtain ⟨ds, S0, Qd, rd, rs, z, po⟩ := h
    rw [W_def eb] at z
    rw [← rd.length, z.1, h1]
  · obtain ⟨ds, S0, Qd, rd, rs, z, po⟩ := h
    rw [W_def eb] at z
    have at' : At ⟨W T n, n + 2, fns, cst, free, xt x (W T n) (n + 2), dcl⟩ ⟨N, scope, none⟩ (cxOf CX0 P w K mg base N x scope a cdv A up s H E) :=
      ⟨rfl, hg, hr, S.nd, rfl, rfl, fun _ _ => rfl, scC_uq h3, scC_nod h3, fun f x e => (ih n (Nat.le_refl _)).1 f x e, hfree, hcst, hsl, fun _ => hxt n (fun l hl => ih l hl) _ _ _ _ _ _ _ _ _ _ _ _ hm (nameAt F) hc hg hr⟩
    refine ⟨_, (hk (W T n) (n + 2)).p _ at' PassesOwn.leaving, startE b ds, S0, _, env_start h2 rd, rs, z.2, fun σ' H' ρ' S' _ s' k' q => ?_, po, fun _ _ _ _ _ _ _ q => q.elim, fun _ _ _ _ _ _ _ q => q.elim⟩
    exact po .non H' (.v .non) S' rfl s' k' q
end
set_option maxRecDepth 100000
set_option maxHeartbeats 2000000
/-- y stands before m (max: behind it) -/
def bef (mx : Bool) (y m : Str) : Bool := if mx = true then decide (m.cps.toList < y.cps.toList) else decide (y.cps.toList < m.cps.toList)
theorem bef_trans {mx : Bool} {x y z : Str} (h1 : bef mx x y = true) (h2 : bef mx y z = true) : bef mx x z = true := by
  cases mx <;> simp only [bef, if_true, if_false, Bool.false_eq_true, decide_eq_true_eq] at h1 h2 ⊢
  · exact List.lt_trans h1 h2
  · exact List.lt_trans h2 h1
theorem argBest_bef {mx : Bool} {f : Nat → Str} : ∀ k, PySem.argBest (fun i j => bef mx (f i) (f j)) k ≤ k ∧ ∀ j, j ≤ k → bef mx (f j) (f (PySem.argBest (fun i j => bef mx (f i) (f j)) k)) = false
  | 0 => ⟨Nat.le_refl _, fun j hj => by
    obtain rfl : j = 0 := Nat.le_zero.mp hj
    show bef mx (f 0) (f 0) = false
    cases mx <;> simp [bef, List.lt_irrefl]⟩
  | k + 1 => by
    obtain ⟨h1, h2⟩ := argBest_bef (mx := mx) (f := f) k
    simp only [PySem.argBest]
    by_cases hb : bef mx (f (k + 1)) (f (PySem.argBest (fun i j => bef mx (f i) (f j)) k)) = true
    · rw [if_pos hb]
      refine ⟨Nat.le_refl _, fun j hj => ?_⟩
      rcases Nat.lt_or_ge j (k + 1) with h | h
      · cases hc : bef mx (f j) (f (k + 1)) with
        | false => rfl
        | true => rw [← h2 j (by omega)]; exact (bef_trans hc hb).symm
      · obtain rfl : j = k + 1 := by omega
        cases mx <;> simp [bef, List.lt_irrefl]
    · rw [if_neg hb]
      refine ⟨by omega, fun j hj => ?_⟩
      rcases Nat.lt_or_ge j (k + 1) with h | h
      · exact h2 j (by omega)
      · obtain rfl : j = k + 1 := by omega
        exact Bool.eq_false_iff.mpr hb
section
variable {prog : Program} {w : World} {A : Around} {E : Value → Shared → Prop} {s : Shared}
theorem lt_strR {x y : Str} {t u : Tok} {Q : Value → Shared → Prop} (h : Q (.bool (bef false x y)) s) : wpAny (model prog w) A (richCompare .Lt (.str x t) (.str y u)) Q E s :=
  PySem.P.lt_str (by simpa [bef] using h)
theorem gt_strR {x y : Str} {t u : Tok} {Q : Value → Shared → Prop} (h : Q (.bool (bef true x y)) s) : wpAny (model prog w) A (richCompare .Gt (.str x t) (.str y u)) Q E s :=
  PySem.wpAny_richCompare_same (op := .Gt) (T := "str") (typeIs_str s x t) (typeIs_str s y u) PyProof.Rows.slot_str_gt (wpAny_call_entry PyProof.Rows.slot_str_gt (typeIs_str s x t) PyProof.Rows.entry_str_gt (show wpAny _ _ (ret (.bool (y.cps.toList < x.cps.toList))) _ _ s from wpAny_pure ⟨_, rfl, by simp, by simpa [bef] using h⟩) (PyProof.Rows.args_str_gt _ _))
end
/-- the k-th text -/
def tx (xs : List Str) (k : Nat) : Str := xs.getD k (Str.mk #[])
theorem tx_at {xs : List Str} {its : List Value} (r : Vals (xs.map V.str) its) : ∀ {i : Nat} {v : Value}, its[i]? = some v → ∃ t, v = .str (tx xs i) t ∧ i < xs.length := by
  induction xs generalizing its with
  | nil => cases r; intro i v e; simp at e
  | cons x xs ih =>
    cases r with
    | cons h t =>
      intro i v e
      cases i with
      | zero =>
        obtain ⟨tk, rfl⟩ := h
        cases e
        exact ⟨tk, rfl, Nat.succ_pos _⟩
      | succ i =>
        obtain ⟨tk, e1, hl⟩ := ih t (i := i) (v := v) (by simpa using e)
        exact ⟨tk, by simpa [tx] using e1, Nat.succ_lt_succ hl⟩
theorem tx_mem {xs : List Str} {i : Nat} (h : i < xs.length) : tx xs i ∈ xs := by
  unfold tx
  rw [List.getD_eq_getElem?_getD, List.getElem?_eq_getElem h]
  exact List.getElem_mem h
theorem mem_tx {xs : List Str} {x : Str} (h : x ∈ xs) : ∃ i, i < xs.length ∧ tx xs i = x := by
  obtain ⟨i, hi, e⟩ := List.getElem_of_mem h
  refine ⟨i, hi, ?_⟩
  unfold tx
  rw [List.getD_eq_getElem?_getD, List.getElem?_eq_getElem hi]
  exact e
def mnId : Bool → String
  | true => "max"
  | false => "min"
def mnNm : Bool → Str
  | true => "max"
  | false => "min"
section
variable {prog : Program} {w : World} {A : Around} {E : Value → Shared → Prop} {s : Shared} {Q : Value → Shared → Prop} {its : List Value} {xs : List Str} {l : Addr}
theorem cmp_tx {H : Heap} (r : Vals (xs.map V.str) its) : PySem.CmpIn prog w A .Lt H (fun i v => its.toArray[i]? = some v) (fun i j => bef false (tx xs i) (tx xs j)) := fun i j vi vj s Q E _ hi hj h => by
  obtain ⟨t, rfl, _⟩ := tx_at r (by simpa using hi)
  obtain ⟨u, rfl, _⟩ := tx_at r (by simpa using hj)
  exact lt_strR h
theorem cmp_txG {H : Heap} (r : Vals (xs.map V.str) its) : PySem.CmpIn prog w A .Gt H (fun i v => its.toArray[i]? = some v) (fun i j => bef true (tx xs i) (tx xs j)) := fun i j vi vj s Q E _ hi hj h => by
  obtain ⟨t, rfl, _⟩ := tx_at r (by simpa using hi)
  obtain ⟨u, rfl, _⟩ := tx_at r (by simpa using hj)
  exact gt_strR h
end
section
variable {prog : Program} {w : World} {A : Around} {E : Value → Shared → Prop} {s : Shared} {Q : Value → Shared → Prop} {its : List Value} {xs : List Str} {l : Addr}
theorem best_tx {mx : Bool} (hne : 0 < xs.length) : tx xs (PySem.argBest (fun i j => bef mx (tx xs i) (tx xs j)) (xs.length - 1)) ∈ xs ∧ ∀ y, y ∈ xs → bef mx y (tx xs (PySem.argBest (fun i j => bef mx (tx xs i) (tx xs j)) (xs.length - 1))) = false := by
  obtain ⟨h1, h2⟩ := argBest_bef (mx := mx) (f := tx xs) (xs.length - 1)
  refine ⟨tx_mem (by omega), fun y hy => ?_⟩
  obtain ⟨j, hj, rfl⟩ := mem_tx hy
  exact h2 j (by omega)
theorem mns_raw {mx : Bool} (hh : A.handled = none) (hl : s.heap.IsList l its.toArray ∨ s.heap.IsTuple l its.toArray) (r : Vals (xs.map V.str) its) (hne : 0 < xs.length)
    (h : ∀ h' tk m t', (∀ b o, s.heap.get? b = some o → h'.get? b = some o) → m ∈ xs → (∀ y, y ∈ xs → bef mx y m = false) → Q (.str m t') { s with heap := h', toks := tk }) : wpAny (model prog w) A (call (.builtin (mnId mx)) [.ref l]) Q E s := by
  have hn : its.toArray.size = xs.length := by rw [List.size_toArray, ← r.length, List.length_map]
  have fin : ∀ (s₂ : Shared) (o : Obj), s₂ = { s with heap := s.heap.push o } → ∀ (bt : Nat → Nat → Bool), bt = (fun i j => bef mx (tx xs i) (tx xs j)) → ∀ v s', its.toArray[PySem.argBest bt (its.toArray.size - 1)]? = some v → Moved [s.heap.objs.size] (fun a b => b = a) s₂ s' → Q v s' := fun s₂ o e bt eb v s' hP m => by
    subst eb
    obtain ⟨h', tk, rfl, hk'⟩ := PySem.W.moved_old e rfl m
    rw [hn] at hP
    obtain ⟨t, rfl, _⟩ := tx_at r (by simpa using hP)
    obtain ⟨h1, h2⟩ := best_tx (mx := mx) hne
    exact h h' tk _ t hk' h1 h2
  cases mx with
  | false =>
    show wpAny _ A (call (.builtin "min") [.ref l]) Q E s
    rcases hl with hl | hl
    · refine PySem.call_min_walkH (PySem.W.iter_listW (A := A.in1) hh hl fun s₂ e W st hfp hw hk => ?_)
      exact ⟨_, _, _, _, _, _, _, s.heap, _, rfl, W, st, hfp, by omega, hw, hk, cmp_tx r, fin s₂ _ e _ rfl⟩
    · refine PySem.call_min_walkH (PySem.W.iter_tupleW (A := A.in1) hh hl fun s₂ e W st hfp hw hk => ?_)
      exact ⟨_, _, _, _, _, _, _, s.heap, _, rfl, W, st, hfp, by omega, hw, hk, cmp_tx r, fin s₂ _ e _ rfl⟩
  | true =>
    show wpAny _ A (call (.builtin "max") [.ref l]) Q E s
    rcases hl with hl | hl
    · refine PySem.call_max_walkH (PySem.W.iter_listW (A := A.in1) hh hl fun s₂ e W st hfp hw hk => ?_)
      exact ⟨_, _, _, _, _, _, _, s.heap, _, rfl, W, st, hfp, by omega, hw, hk, cmp_txG r, fin s₂ _ e _ rfl⟩
    · refine PySem.call_max_walkH (PySem.W.iter_tupleW (A := A.in1) hh hl fun s₂ e W st hfp hw hk => ?_)
      exact ⟨_, _, _, _, _, _, _, s.heap, _, rfl, W, st, hfp, by omega, hw, hk, cmp_txG r, fin s₂ _ e _ rfl⟩
theorem mn2_raw {mx : Bool} {x y : Str} {t u : Tok} (hh : A.handled = none)
    (h : ∀ h' tk t', (∀ b o, s.heap.get? b = some o → h'.get? b = some o) → Q (.str (if bef mx y x = true then y else x) t') { s with heap := h', toks := tk }) : wpAny (model prog w) A (call (.builtin (mnId mx)) [.str x t, .str y u]) Q E s := by
  have hT : (s.heap.push { cls := .type "tuple", data := .seq #[.str x t, .str y u] }).IsTuple s.heap.objs.size #[.str x t, .str y u] := ⟨_, Heap.get?_push_size _ rfl, rfl, 0, rfl⟩
  have hsz : (s.heap.push { cls := .type "tuple", data := .seq #[.str x t, .str y u] }).objs.size = s.heap.objs.size + 1 := Heap.size_push ..
  have r : Vals ([x, y].map V.str) [.str x t, .str y u] := .cons ⟨t, rfl⟩ (.cons ⟨u, rfl⟩ .nil)
  have fp : ∀ c ∈ [(s.heap.push { cls := .type "tuple", data := .seq #[.str x t, .str y u] }).objs.size, s.heap.objs.size], c < ((s.heap.push { cls := .type "tuple", data := .seq #[.str x t, .str y u] }).push { cls := .type "tuple_iterator", data := .fields #[.ref s.heap.objs.size, .int 0 0] }).objs.size := fun c hc => by
    rw [Heap.size_push, hsz]
    rcases List.mem_cons.mp hc with rfl | hc
    · rw [hsz]; exact Nat.lt_succ_self _
    · rcases List.mem_cons.mp hc with rfl | hc
      · exact Nat.lt_succ_of_lt (Nat.lt_succ_self _)
      · cases hc
  have fin : ∀ v h' tk, #[Value.str x t, .str y u][PySem.argBest (fun i j => bef mx (tx [x, y] i) (tx [x, y] j)) 1]? = some v →
      (∀ b o, b ∉ [(s.heap.push { cls := .type "tuple", data := .seq #[.str x t, .str y u] }).objs.size] → ((s.heap.push { cls := .type "tuple", data := .seq #[.str x t, .str y u] }).push { cls := .type "tuple_iterator", data := .fields #[.ref s.heap.objs.size, .int 0 0] }).get? b = some o → h'.get? b = some o) → Q v { s with heap := h', toks := tk } := fun v h' tk hP hk => by
    have hold : ∀ c o, s.heap.get? c = some o → h'.get? c = some o := fun c o e => by
      refine hk c o (fun hm => ?_) (Heap.get?_push_of_some _ (Heap.get?_push_of_some _ e))
      rcases List.mem_cons.mp hm with e1 | hm
      · have := Heap.lt_size e; rw [e1, hsz] at this; exact Nat.lt_irrefl _ (Nat.lt_of_succ_lt this)
      · cases hm
    have hv : ∃ t', v = .str (if bef mx y x = true then y else x) t' := by
      cases hc : bef mx y x <;> simp [PySem.argBest, tx, hc] at hP <;> simp [← hP]
    obtain ⟨t', rfl⟩ := hv
    exact h h' tk t' hold
  cases mx with
  | false =>
    refine PySem.call_min_two (PySem.wpAny_pyIter_tuple hT ?_)
    exact ⟨_, [_, s.heap.objs.size], [_], _, _, _, _, rfl, Walks.tuple (A := A.in1) hh _ s.heap.objs.size (by rw [hsz]; exact Nat.ne_of_lt (Nat.lt_succ_self _)) #[.str x t, .str y u],
      ⟨⟨_, Heap.get?_push_size _ rfl, rfl, rfl⟩, hT.push _⟩, fp, by simp, fun i j vi vj s Q E hi hj h => cmp_tx (its := [.str x t, .str y u]) (H := s.heap) r i j vi vj s Q E (fun _ _ e => e) hi hj h, fin⟩
  | true =>
    refine PySem.call_max_two (PySem.wpAny_pyIter_tuple hT ?_)
    exact ⟨_, [_, s.heap.objs.size], [_], _, _, _, _, rfl, Walks.tuple (A := A.in1) hh _ s.heap.objs.size (by rw [hsz]; exact Nat.ne_of_lt (Nat.lt_succ_self _)) #[.str x t, .str y u],
      ⟨⟨_, Heap.get?_push_size _ rfl, rfl, rfl⟩, hT.push _⟩, fp, by simp, fun i j vi vj s Q E hi hj h => cmp_txG (its := [.str x t, .str y u]) (H := s.heap) r i j vi vj s Q E (fun _ _ e => e) hi hj h, fin⟩
end
section
variable {X : Cx} {a b e f o : Expr} {wa wb wo we wx : Ev} {p pos apos cpos : Pos} {x : Str}
theorem cr_mn2 (mx : Bool) (hc : X.calm = true) : CallR X (.builtin (mnId mx)) (fun vs H Q => ∃ x y, vs = [.str x, .str y] ∧ Q (.str (if bef mx y x = true then y else x)) H) := by
  intro pins s σ H vs us Q I r h
  obtain ⟨x, y, rfl, q⟩ := h
  obtain ⟨u, w', rfl, ⟨t, rfl⟩, ⟨t', rfl⟩⟩ := vals2 r
  exact mn2_raw (I.ok.hd hc) fun h1 tk t1 k => ⟨.str _, H, I.kept k, ⟨_, rfl⟩, q⟩
theorem cr_mnS (mx : Bool) (hc : X.calm = true) : CallR X (.builtin (mnId mx)) (fun vs H Q => ∃ (l : Addr) (xs : List Str), vs = [.ref l] ∧ (SqL X.K H l (xs.map V.str) ∨ SqT X.K H l (xs.map V.str)) ∧ 0 < xs.length ∧ ∀ m, m ∈ xs → (∀ y, y ∈ xs → bef mx y m = false) → Q (.str m) H) := by
  intro pins s σ H vs us Q I r h
  obtain ⟨l, xs, rfl, hs, hne, q⟩ := h
  rw [Vals.ref1 r]
  have : ∃ its, Vals (xs.map V.str) its ∧ (s.heap.IsList l its.toArray ∨ s.heap.IsTuple l its.toArray) := by
    rcases hs with hs | hs
    · obtain ⟨its, r, pl, hz⟩ := I.list hs; exact ⟨its, r, .inl pl.isList⟩
    · obtain ⟨its, r, pl, hz⟩ := I.tuple hs; exact ⟨its, r, .inr pl⟩
  obtain ⟨its, rv, hl⟩ := this
  exact mns_raw (I.ok.hd hc) hl rv hne fun h' tk m t' hk h1 h2 => ⟨.str m, H, I.kept hk, ⟨_, rfl⟩, q m h1 h2⟩
theorem rds_strsV {K : PySem.W.Frag} {H : Hp} : ∀ {xs : List Str} {vs : List V}, RDs K H (xs.map D.str) vs → vs = xs.map V.str
  | [], vs, h => h
  | x :: xs, vs, ⟨v, vs', e, h, t⟩ => by
    subst e
    rw [rds_strsV t]
    cases (show v = V.str x from h)
    rfl
theorem boot_mn (mx : Bool) : bootBuiltins (mnNm mx) = some (.builtin (mnId mx)) := by cases mx <;> decide +kernel
theorem mn_nm (mx : Bool) : mnNm mx ≠ "__name__" := by cases mx <;> decide +kernel
theorem s_mn2 {mx : Bool} (hc : X.calm = true) (hg : Gl X (mnNm mx)) (hm : X.mg (mnNm mx) = none) (hd : (mnNm mx == ("__debug__" : Str)) = false) (ha : PE X a (tD X.K wa)) (hb : PE X b (tD X.K wb))
    (n1 : starEach [a, b] X.env = (false, eval a X.env) :: starEach [b] X.env) (n2 : starEach [b] X.env = (false, eval b X.env) :: starEach [] X.env) (hpl : (backTo pos (starEach [b] X.env)).any (·.1) = false) :
    PE X (.Call (.Name (mnNm mx) p) [a, b] [] pos) (tD X.K fun ρ S Q => wa ρ S fun r S1 => wb ρ S1 fun q S2 => ∃ x y : Str, r = .v (.str x) ∧ q = .v (.str y) ∧ Q (.v (.str (if bef mx y x = true then y else x))) S2) :=
  (pe_callB (cr_mn2 mx hc) hg hm (boot_mn mx) (pa_cons ha (pa_cons hb pa_nil n2) n1) (mn_nm mx) hd n1 hpl).weak fun σ H QV ⟨ρ, S, Q, re, hs, h, po⟩ =>
    tD1 re hs h fun r v H1 S1 r1 s1 k1 re1 h => tD1 re1 s1 h fun q u H2 S2 r2 s2 k2 re2 ⟨x, y, e1, e2, z⟩ => by
      subst e1 e2
      cases (show v = V.str x from r1)
      cases (show u = V.str y from r2)
      exact ⟨x, y, rfl, po.dat (k1.trans k2) s2 rd_str z⟩
theorem s_mnS {mx : Bool} (hc : X.calm = true) (hg : Gl X (mnNm mx)) (hm : X.mg (mnNm mx) = none) (hd : (mnNm mx == ("__debug__" : Str)) = false) (ha : PE X a (tD X.K wa))
    (n1 : starEach [a] X.env = (false, eval a X.env) :: starEach [] X.env) (hpl : (backTo pos (starEach [] X.env)).any (·.1) = false) :
    PE X (.Call (.Name (mnNm mx) p) [a] [] pos) (tD X.K fun ρ S Q => wa ρ S fun r S1 => ∃ xs : List Str, seqOf S1 r = some (xs.map .str) ∧ 0 < xs.length ∧ xs.length ≤ 1000 ∧ ∀ m, m ∈ xs → (∀ y, y ∈ xs → (if mx = true then ¬ m.cps.toList < y.cps.toList else ¬ y.cps.toList < m.cps.toList)) → Q (.v (.str m)) S1) :=
  (pe_callB (cr_mnS mx hc) hg hm (boot_mn mx) (pa_cons ha pa_nil n1) (mn_nm mx) hd n1 hpl).weak fun σ H QV ⟨ρ, S, Q, re, hs, h, po⟩ =>
    tD1 re hs h fun r v H1 S1 r1 s1 k1 re1 ⟨xs, e, h0, _, q⟩ => by
      obtain ⟨l, vs, rfl, sq, rd⟩ := seqOf_sq s1 r1 e
      rw [rds_strsV rd] at sq
      refine ⟨l, xs, rfl, sq, h0, fun m hm hy => po.dat k1 s1 rd_str (q m hm fun y h2 => ?_)⟩
      have := hy y h2
      cases mx <;> simpa [bef] using this
/-- list(e) -/
theorem s_lstK {Ps : List Addr} (hP : ∀ P ∈ Ps, TupK X.K P []) (hg : Gl X "list") (hm : X.mg "list" = none) (hd : ((("list" : Str)) == ("__debug__" : Str)) = false) (ha : PE X a (tD X.K wa))
    (n1 : starEach [a] X.env = (false, eval a X.env) :: starEach [] X.env) (hpl : (backTo pos (starEach [] X.env)).any (·.1) = false) :
    PE X (.Call (.Name "list" p) [a] [] pos) (tD X.K fun ρ S Q => wa ρ S fun r S1 => (∃ P, P ∈ Ps ∧ r = .v (.ref P) ∧ Q (.n (.lst [])) S1) ∨ biW .list [r] S1 Q) :=
  (pe_callTy call_list_of hg hm (by decide +kernel) (pa_cons ha pa_nil n1) (by decide +kernel) hd n1 hpl).weak fun σ H QV ⟨ρ, S, Q, re, hs, h, po⟩ =>
    tD1 re hs h fun r v H1 S1 r1 s1 k1 re1 h => by
      rcases h with ⟨P, hp, er, q⟩ | h
      · subst er
        obtain rfl : v = V.ref P := r1
        exact ⟨P, [], rfl, .inr ((hP P hp).sq H1), fun l hl => po.lst k1 s1 hl (by simp only [RDs]) q⟩
      · obtain ⟨xs, e, q⟩ := h
        obtain ⟨l, ws, rfl, sq, rd⟩ := seqOf_sq s1 r1 e
        exact ⟨l, ws, rfl, sq, fun l hl => po.lst k1 s1 hl rd q⟩
/-- d.setdefault(k, x) -/
theorem s_sdf (ho : PE X o (tD X.K wo)) (he : PE X e (tD X.K we)) (hf : PE X f (tD X.K wx)) (m : M2 X o "setdefault" apos e f cpos) :
    PE X (.Call (.Attribute o "setdefault" apos) [e, f] [] cpos) (tD X.K fun ρ S Q => wo ρ S fun r S1 => (∃ l kvs, r = .v (.ref l) ∧ S1 l = some (.dK kvs)) ∧ we ρ S1 fun y S2 => wx ρ S2 fun z S3 => mat z S3 fun dx S4 => ∃ (l : Addr) (kvs : List (Key × D)) (ky : Key), r = .v (.ref l) ∧ S4 l = some (.dK kvs) ∧ kvs.length < sizeLine ∧ y = .v (keyD ky) ∧
      (∀ d, valD kvs ky = some d → Q (.v d) S4) ∧ (valD kvs ky = none → Q (.v dx) (up S4 l (.dK (putD kvs ky dx))))) :=
  (pe_dsetd ho he hf m).weak fun σ H QV ⟨ρ, S, Q, re, hs, h, po⟩ => tD1 re hs h fun r v H1 S1 r1 s1 k1 re1 ⟨⟨l, kvs, er, e1⟩, h⟩ => by
    subst er
    obtain rfl : v = .ref l := r1
    obtain ⟨ws, e2, _⟩ := s1 l _ e1
    refine ⟨l, rfl, .inl ⟨ws, .inl e2⟩, tD1 re1 s1 h fun y u H2 S2 r2 s2 k2 re2 h => tD1 re2 s2 h fun z w H3 S3 r3 s3 k3 re3 h => ?_⟩
    obtain ⟨dx, S4, rdx, s4, k4, l2, kvs2, ky, er, el, hlen, ey, q1, q2⟩ := mat_ok h r3 s3 k3
    cases er
    subst ey
    have eu : u = kV ky := keyD_rd (show RD X.K H2 (keyD ky) u from r2)
    subst eu
    obtain ⟨ws2, e3, rk⟩ := s4 l _ el
    have k14 := k1.trans (k2.trans k4)
    refine ⟨ws2, ky, e3, rfl, by rw [← RKv.len rk]; exact hlen, fun v' ev' => ?_, fun hn => ?_⟩
    · cases ev : valD kvs2 ky with
      | none =>
        rw [(rk.val ky).2 ev] at ev'
        cases ev'
      | some d =>
        obtain ⟨v2, e6, rv⟩ := (rk.val ky).1 d ev
        rw [e6] at ev'
        cases ev'
        exact po v' _ (.v d) _ rv s4 k14 (q1 d ev)
    · have ev : valD kvs2 ky = none := by
        cases ev : valD kvs2 ky with
        | none => rfl
        | some d =>
          obtain ⟨v2, e6, rv⟩ := (rk.val ky).1 d ev
          rw [e6] at hn
          cases hn
      have hn : S4 l ≠ none := by rw [el]; simp
      have kk : Kp S4 H3 (up S4 l (.dK (putD kvs2 ky dx))) (upd H3 l (.dK (putK ws2 ky w))) := Kp.wrote s4 hn
      have ro : RO X.K (upd H3 l (.dK (putK ws2 ky w))) l (.dK (putD kvs2 ky dx)) := ⟨_, upd_same, (rk.put rdx).mono (RD.kp kk s4)⟩
      exact po w _ (.v dx) _ (RD.kp kk s4 dx w rdx) (RS.wrote s4 hn ro) (k14.trans kk) (q2 ev)
end
section
variable {G : Gm} {B : Bk} {a b e f o : Expr} {ea eb ee ef eo : E} {p pos apos cpos : Pos} {i j : Nat} {x : Str}
theorem k_mn2 {mx : Bool} (ex : x = mnNm mx) (h1 : B.sc.names[i]? = some (x, .globalImplicit)) (h2 : G.free[j]? = some x) (ha : KE G B a ea) (hb : KE G B b eb) (n1 : nst a = true) (n2 : nst b = true) :
    KE G B (.Call (.Name x p) [a, b] [] pos) (.mn2 mx ea eb) := ⟨fun X h => by
  subst ex
  exact (s_mn2 (mx := mx) h.calm (h.gl h1) (h.free _ (List.mem_of_getElem? h2)) (h.nd1 h1).1 (ha.p X h) (hb.p X h) (starEach_one n1 _) (starEach_one n2 _) (by rw [backTo_any]; exact star_plain (es := [b]) (by rw [List.all_cons, n2]; rfl) _)).weak fun σ H QV w => w⟩
theorem k_mnS {mx : Bool} (ex : x = mnNm mx) (h1 : B.sc.names[i]? = some (x, .globalImplicit)) (h2 : G.free[j]? = some x) (ha : KE G B a ea) (n1 : nst a = true) :
    KE G B (.Call (.Name x p) [a] [] pos) (.mnS mx ea) := ⟨fun X h => by
  subst ex
  exact (s_mnS (mx := mx) h.calm (h.gl h1) (h.free _ (List.mem_of_getElem? h2)) (h.nd1 h1).1 (ha.p X h) (starEach_one n1 _) (by rw [backTo_any]; rfl)).weak fun σ H QV w => w⟩
theorem k_lstK {Ps : List Addr} (ex : x = "list") (h1 : B.sc.names[i]? = some (x, .globalImplicit)) (h2 : G.free[j]? = some x) (ho : B.own = none) (hx : ∀ X, G.xt X → ∀ P ∈ Ps, TupK X.K P []) (ha : KE G B a ea) (n1 : nst a = true) :
    KE G B (.Call (.Name x p) [a] [] pos) (.lstK Ps ea) := ⟨fun X h => by
  subst ex
  exact (s_lstK (hx X (h.ext ho)) (h.gl h1) (h.free _ (List.mem_of_getElem? h2)) (h.nd1 h1).1 (ha.p X h) (starEach_one n1 _) (by rw [backTo_any]; rfl)).weak fun σ H QV w => w⟩
theorem k_sdf (ho : KE G B o eo) (hb : nbase o = true) (hl : (apos.endLine == cpos.line) = true) (he : KE G B e ee) (n1 : nst e = true) (hf : KE G B f ef) (n2 : nst f = true) : KE G B (.Call (.Attribute o "setdefault" apos) [e, f] [] cpos) (.sdf eo ee ef) :=
  ⟨fun X h => s_sdf (ho.p X h) (he.p X h) (hf.p X h) (m2_of hb hl n1 n2)⟩
/-- a call's list, appended to -/
theorem k_meC {m : Str} {es : List Expr} {o2 : Expr} {p1 p2 : Pos} (ho : KE G B (.Call (.Attribute o2 m p1) es [] p2) eo) (hl : (apos.endLine == cpos.line) = true) (ha : KE G B a ea) (hn : nst a = true) : KE G B (.Call (.Attribute (.Call (.Attribute o2 m p1) es [] p2) "append" apos) [a] [] cpos) (.me .append eo [ea]) := ⟨fun X h =>
  s_me1 me_append (ho.p X h) ((k_a1 ha k_a0 hn).p X h) rfl (few_of (cpos := cpos) hn X.env) hl (starEach_one (es := []) hn X.env) rfl⟩
end
set_option maxRecDepth 100000
theorem emB_ok {K : PySem.W.Frag} {a : Addr} (h : emB K a = true) : TupK K a [] := by
  unfold emB at h
  split at h
  · rename_i o c od its n osl q
    rw [Bool.and_eq_true, decide_eq_true_eq, decide_eq_true_eq] at h
    obtain ⟨rfl, h2⟩ := h
    refine ⟨_, its, n, q, rfl, rfl, by rw [h2]; exact Nat.zero_le _, ?_⟩
    have : its.toList = [] := by
      apply List.eq_nil_of_length_eq_zero
      simpa using h2
    rw [this]
    exact .nil
  · cases h
set_option maxRecDepth 100000
set_option maxHeartbeats 2000000
theorem op_leS {X : Cx} : OpR X (compareOp .LtE) (fun x y H Q => ∃ i j, x = .str i ∧ y = .str j ∧ Q (.bl (!decide (j.cps.toList < i.cps.toList))) H) := by
  intro pins s σ H x y v u Q I rx ry h
  obtain ⟨i, j, rfl, rfl, q⟩ := h
  obtain ⟨t, rfl⟩ := rx
  obtain ⟨t', rfl⟩ := ry
  show wpAny _ _ (richCompare .LtE (.str i t) (.str j t')) _ _ _
  refine wpAny_richCompare_same (op := .LtE) (T := "str") (typeIs_str s i t) (typeIs_str s j t') PyProof.Rows.slot_str_le (wpAny_call_entry PyProof.Rows.slot_str_le (typeIs_str s i t) PyProof.Rows.entry_str_le (show wpAny _ _ (ret (.bool (!decide (j.cps.toList < i.cps.toList)))) _ _ s from wpAny_pure ?_) (PyProof.Rows.args_str_le _ _))
  exact ⟨_, rfl, by simp, ⟨.bl _, H, I, rfl, q⟩⟩
section
variable {G : Gm} {B : Bk} {a b : Expr} {pos : Pos} {i j : Nat} {mx : Bool}
theorem k_leMn (ha : KE G B a (.mnS mx (.var i))) (hb : KE G B b (.var j)) (hm : nset b = true) : KT G B (.Compare a [.LtE] [b] pos) (.not (.cmp .lt (.var j) (.mnS mx (.var i)))) := ⟨fun X h =>
  (s_cmpT (k := fun x y S Q => ∃ i j : Str, x = .v (.str i) ∧ y = .v (.str j) ∧ Q (.v (.bl (!decide (j.cps.toList < i.cps.toList)))) S) op_leS (ha.p X h) (hb.p X h) (nset_in hm _) (fun x y v u S0 H0 S H Q QV r1 r2 hs k ⟨i, j, e1, e2, q⟩ po => by
    subst e1 e2
    cases (show v = V.str i from r1)
    cases (show u = V.str j from r2)
    exact ⟨i, j, rfl, rfl, po.dat k hs rd_bl q⟩)).weak fun σ H QT ⟨ρ, S, Q, re, hs, h, po⟩ => by
    refine ⟨ρ, S, Q, re, hs, ?_, po⟩
    obtain ⟨d, ed, d2, ed2, xs, e1, h0, h1, h⟩ := h
    refine ⟨d2, ed2, xs, e1, h0, h1, fun m hm hy => ⟨d, ed, ?_⟩⟩
    have q := h m hm hy
    cases d with
    | str z =>
      obtain ⟨k, e, q⟩ := q
      cases e
      exact ⟨m, z, rfl, rfl, _, rfl, q⟩
    | _ => exact q.elim⟩
end
end DP
set_option maxRecDepth 100000
set_option maxHeartbeats 0
namespace Dp_k09
open PySem PySem.Spec PyProof.Rows L2 DP
def c_all_names (D0 : Addr) : List C := [.ret (.bi .tupl [(.sset (.bin .add (.lc2 (.var 3) (.name 2) (.seq (.var 0)) none (.name 3) (.seq (.var 2)) none [2, 3] [3]) (.lstK [D0] (.var 1))))])]
def c_groups_of : List C := [.asg (.name 3) (.dc (.var 2) (.var 2) (.name 2) (.seq (.var 0)) none [2]), .for (.tup [4, 5, 6]) (.seq (.var 1)) [.ife (.and (.cmp .isin (.var 4) (.var 3)) (.and (.cmp .isin (.var 5) (.var 3)) (.and (.cmp .isin (.var 6) (.var 3)) (.cmp .ne (.ix (.var 3) (.var 4)) (.ix (.var 3) (.var 5)))))) [.asg (.tup [7, 8]) (.tup [(.mn2 false (.ix (.var 3) (.var 4)) (.ix (.var 3) (.var 5))), (.mn2 true (.ix (.var 3) (.var 4)) (.ix (.var 3) (.var 5)))]), .asg (.name 3) (.dcD (.var 2) (.ite (.cmp .eq (.var 10) (.var 8)) (.var 7) (.var 10)) (.tup [2, 10]) .items 3 none [2, 10])] []], .asg (.name 9) (.dK [] []), .for (.name 2) (.seq (.var 0)) [.exp (.me .append (.sdf (.var 9) (.ix (.var 3) (.var 2)) (.lst [])) [(.var 2)])], .ret (.lcD (.bi .tupl [(.ixL (.var 9) (.var 10))]) (.name 10) .keys 9 none [10])]
def c_built : List C := [.ife (.cmp .eq (.bi .len [(.var 0)]) (.cst (.int 1))) [.ret (.tup [(.cst (.str "tree")), (.ix (.var 0) (.cst (.int 0)))])] [], .asg (.name 2) (.call 1 [(.var 0), (.var 1)]), .ife (.cmp .eq (.bi .len [(.var 2)]) (.cst (.int 1))) [.ret (.tup [(.cst (.str "lot")), (.var 0)])] [], .asg (.name 3) (.lst []), .for (.name 4) (.seq (.var 2)) [.asg (.tup [5, 6]) (.call 2 [(.var 4), (.var 1)]), .ife (.cmp .eq (.var 5) (.cst (.str "lot"))) [.ret (.tup [(.var 5), (.var 6)])] [], .exp (.me .append (.var 3) [(.var 6)])], .ret (.tup [(.cst (.str "tree")), (.bi .tupl [(.var 3)])])]
def c_agreed : List C := [.ret (.call 2 [(.call 0 [(.var 0), (.var 1)]), (.var 0)])]
def c__law_pen : List C := [.ret (.dK [.inr "cells", .inr "at", .inr "left"] [(.bi .list [(.sl (.var 0) none (some (.cst (.int 63))))]), (.cst (.int 0)), (.cst (.int 0))])]
def c__law_draw : List C := [.ife (.cmp .gt (.ix (.var 0) (.cst (.str "left"))) (.cst (.int 0))) [.asg (.name 2) (.bin .mod (.ix (.var 0) (.cst (.str "left"))) (.var 1)), .asg (.sub (.var 0) (.cst (.str "left"))) (.bin .fdiv (.ix (.var 0) (.cst (.str "left"))) (.var 1)), .ret (.var 2)] [], .asg (.name 3) (.ix (.var 0) (.cst (.str "at"))), .asg (.sub (.var 0) (.cst (.str "at"))) (.bin .add (.var 3) (.cst (.int 1))), .asg (.name 4) (.bin .add (.bin .mul (.cst (.int 2113)) (.var 3)) (.cst (.int 601))), .ife (.cmp .ne (.ix (.var 0) (.cst (.str "cells"))) (.lst [])) [.asg (.name 4) (.ix (.ix (.var 0) (.cst (.str "cells"))) (.bin .mod (.var 3) (.bi .len [(.ix (.var 0) (.cst (.str "cells")))])))] [], .ife (.and (.cmp .lt (.var 3) (.bi .len [(.ix (.var 0) (.cst (.str "cells")))])) (.cmp .ge (.bi .abs [(.var 4)]) (.bin .pow (.cst (.int 10)) (.cst (.int 18))))) [.asg (.name 5) (.bin .add (.bin .mul (.cst (.int 2)) (.bi .abs [(.var 4)])) (.bi .int [(.cmp .lt (.var 4) (.cst (.int 0)))])), .asg (.sub (.var 0) (.cst (.str "left"))) (.bin .fdiv (.var 5) (.var 1)), .ret (.bin .mod (.var 5) (.var 1))] [], .asg (.name 6) (.bin .mod (.bin .pow (.bin .add (.bin .add (.bin .mod (.var 4) (.cst (.int 2147483549))) (.bin .mul (.cst (.int 73009)) (.var 3))) (.cst (.int 71))) (.cst (.int 5))) (.cst (.int 2147483647))), .asg (.name 7) (.bin .mod (.bin .pow (.bin .add (.bin .mul (.var 6) (.bin .add (.var 3) (.cst (.int 65557)))) (.bin .mul (.bin .mul (.cst (.int 84991)) (.var 3)) (.var 3))) (.cst (.int 3))) (.cst (.int 2147483423))), .ret (.bin .mod (.bin .fdiv (.var 7) (.cst (.int 32))) (.var 1))]
def c__law_names : List C := [.asg (.name 2) (.lst [(.cst (.str "a")), (.cst (.str "aa")), (.cst (.str "ab")), (.cst (.str "b")), (.cst (.str "ba")), (.cst (.str "c")), (.cst (.str "d")), (.cst (.str "e")), (.cst (.str "zz")), (.cst (.str "zzzzzzzz")), (.cst (.str "m")), (.cst (.str "ma")), (.cst (.str "n"))]), .ret (.bi .sorted [(.lc (.me .pop (.var 2) [(.call 5 [(.var 0), (.bi .len [(.var 2)])])]) (.name 3) (.rng1 (.var 1)) none [3])])]
def c__law_least : List C := [.whl (.not (.isi (.var 0) .str)) [.asg (.name 0) (.ix (.var 0) (.cst (.int 0)))], .ret (.var 0)]
def c__law_fork : List C := [.ife (.cmp .eq (.bi .len [(.var 0)]) (.cst (.int 1))) [.ret (.ix (.var 0) (.cst (.int 0)))] [], .asg (.name 1) (.bi .sorted [(.lc (.tup [(.call 7 [(.var 3)]), (.var 2)]) (.tup [2, 3]) (.enum (.var 0)) none [2, 3])]), .ret (.bi .tupl [(.lc (.ix (.var 0) (.var 2)) (.tup [4, 2]) (.seq (.var 1)) none [4, 2])])]
def c__law_tree : List C := [.asg (.name 3) (.bi .list [(.var 1)]), .whl (.cmp .gt (.bi .len [(.var 3)]) (.cst (.int 1))) [.asg (.name 4) (.bin .add (.cst (.int 2)) (.bin .mul (.var 2) (.ix (.lst [(.cst (.int 0)), (.cst (.int 0)), (.cst (.int 1)), (.call 5 [(.var 0), (.cst (.int 3))])]) (.call 5 [(.var 0), (.cst (.int 4))])))), .asg (.name 5) (.lst []), .for (.name 6) (.rng1 (.bi .min [(.var 4), (.bi .len [(.var 3)])])) [.exp (.me .append (.var 5) [(.me .pop (.var 3) [(.ix (.lst [(.call 5 [(.var 0), (.bi .len [(.var 3)])]), (.neg (.cst (.int 1)))]) (.call 5 [(.var 0), (.cst (.int 2))]))])])], .exp (.me .append (.var 3) [(.call 8 [(.var 5)])])], .ret (.ix (.var 3) (.cst (.int 0)))]
def c__law_below : List C := [.asg (.name 1) (.lst []), .asg (.name 2) (.lst [(.var 0)]), .whl (.cmp .ne (.var 2) (.lst [])) [.asg (.name 3) (.me .pop (.var 2) []), .ife (.isi (.var 3) .str) [.exp (.me .append (.var 1) [(.var 3)])] [.exp (.me .extend (.var 2) [(.bi .list [(.var 3)])])]], .ret (.bi .tupl [(.bi .sorted [(.var 1)])])]
def c__law_lots : List C := [.asg (.name 1) (.lst []), .asg (.name 2) (.lst [(.var 0)]), .whl (.cmp .ne (.var 2) (.lst [])) [.asg (.name 3) (.me .pop (.var 2) []), .ife (.not (.isi (.var 3) .str)) [.exp (.me .append (.var 1) [(.call 10 [(.var 3)])]), .exp (.me .extend (.var 2) [(.bi .list [(.var 3)])])] []], .ret (.bi .sorted [(.var 1)])]
def c__law_has : List C := [.for (.name 2) (.seq (.call 11 [(.var 0)])) [.ife (.and (.cmp .isin (.ix (.var 1) (.cst (.int 0))) (.var 2)) (.and (.cmp .isin (.ix (.var 1) (.cst (.int 1))) (.var 2)) (.cmp .notin (.ix (.var 1) (.cst (.int 2))) (.var 2)))) [.ret (.cst (.bl true))] []], .ret (.cst (.bl false))]
def c__law_all_of : List C := [.asg (.name 1) (.lst []), .for (.name 2) (.seq (.var 0)) [.for (.name 3) (.seq (.var 0)) [.exp (.me .extend (.var 1) [(.lc (.tup [(.var 2), (.var 3), (.var 4)]) (.name 4) (.seq (.var 0)) (some (.and (.cmp .lt (.var 2) (.var 3)) (.and (.cmp .ne (.var 4) (.var 2)) (.cmp .ne (.var 4) (.var 3))))) [4])])]], .ret (.bi .sorted [(.var 1)])]
def c__law_any_triple : List C := [.asg (.name 2) (.bi .list [(.var 1)]), .asg (.name 3) (.lc (.me .pop (.var 2) [(.call 5 [(.var 0), (.bi .len [(.var 2)])])]) (.name 4) (.rng1 (.cst (.int 3))) none [4]), .ret (.tup [(.mnS false (.sl (.var 3) none (some (.cst (.int 2))))), (.mnS true (.sl (.var 3) none (some (.cst (.int 2))))), (.ix (.var 3) (.cst (.int 2)))])]
def c__law_triples : List C := [.asg (.name 3) (.call 5 [(.var 0), (.cst (.int 5))]), .asg (.name 4) (.call 5 [(.var 0), (.bin .add (.var 2) (.cst (.int 1)))]), .asg (.name 6) (.lc (.call 9 [(.var 0), (.var 1), (.call 5 [(.var 0), (.cst (.int 2))])]) (.name 5) (.rng1 (.cst (.int 2))) none [5]), .asg (.name 7) (.lc (.lc (.var 10) (.name 10) (.seq (.call 13 [(.var 1)])) (some (.call 12 [(.var 11), (.var 10)])) [10]) (.name 11) (.seq (.var 6)) none [11]), .asg (.name 8) .dnT, .for (.name 5) (.rng1 (.var 4)) [.asg (.name 9) (.ix (.var 7) (.ix (.lst [(.cst (.int 0)), (.bin .mod (.var 5) (.cst (.int 2))), (.cst (.int 0)), (.cst (.int 0)), (.cst (.int 0))]) (.var 3))), .ife (.and (.emp true false (.var 9)) (.or (.cmp .lt (.var 3) (.cst (.int 2))) (.and (.cmp .gt (.var 3) (.cst (.int 2))) (.cmp .gt (.call 5 [(.var 0), (.cst (.int 4))]) (.cst (.int 0)))))) [.asg (.sub (.var 8) (.ix (.var 9) (.call 5 [(.var 0), (.bi .len [(.var 9)])]))) (.cst (.bl true))] [.ife (.cmp .gt (.bi .len [(.var 1)]) (.cst (.int 2))) [.asg (.sub (.var 8) (.call 14 [(.var 0), (.var 1)])) (.cst (.bl true))] []]], .ret (.bi .tupl [(.sortDT 8)])]
def c__law_beside : List C := [.asg (.name 2) (.call 5 [(.var 0), (.cst (.int 4))]), .ret (.bi .tupl [(.lc (.var 3) (.name 3) (.seq (.var 1)) (some (.or (.cmp .eq (.var 2) (.cst (.int 0))) (.and (.cmp .gt (.var 2) (.cst (.int 1))) (.cmp .eq (.call 5 [(.var 0), (.cst (.int 2))]) (.cst (.int 0)))))) [3])])]
def c__law_every : List C := [.asg (.name 2) (.bi .list [(.var 1)]), .for (.name 3) (.seq (.var 0)) [.exp (.me .extend (.var 2) [(.bi .list [(.var 3)])])], .ret (.bi .tupl [(.sset (.var 2))])]
def c__law_group : List C := [.asg (.name 3) (.lst [(.var 2)]), .for (.name 4) (.rng1 (.bi .len [(.var 0)])) [.for (.tup [5, 6, 7]) (.seq (.var 1)) [.ife (.and (.cmp .isin (.var 5) (.var 0)) (.and (.cmp .isin (.var 6) (.var 0)) (.and (.cmp .isin (.var 7) (.var 0)) (.cmp .ne (.cmp .isin (.var 5) (.var 3)) (.cmp .isin (.var 6) (.var 3)))))) [.asg (.name 3) (.bin .add (.var 3) (.lst [(.ix (.lst [(.var 5), (.var 6)]) (.bi .int [(.cmp .isin (.var 5) (.var 3))]))]))] []]], .ret (.bi .sorted [(.var 3)])]
def c__law_agree : List C := [.ife (.cmp .lt (.bi .len [(.var 0)]) (.cst (.int 3))) [.ret (.cst (.bl true))] [], .asg (.name 2) (.bi .list [(.var 0)]), .ife (.cmp .eq (.bi .len [(.call 18 [(.var 0), (.var 1), (.ix (.var 2) (.cst (.int 0)))])]) (.bi .len [(.var 0)])) [.ret (.cst (.bl false))] [], .whl (.emp true false (.var 2)) [.asg (.name 3) (.call 18 [(.var 0), (.var 1), (.ix (.var 2) (.cst (.int 0)))]), .ife (.not (.call 19 [(.var 3), (.var 1)])) [.ret (.cst (.bl false))] [], .asg (.name 2) (.lc (.var 4) (.name 4) (.seq (.var 2)) (some (.cmp .notin (.var 4) (.var 3))) [4])], .ret (.cst (.bl true))]
def c__law_is_name : List C := [.ife (.or (.not (.isi (.var 0) .str)) (.not (.chn .le .le (.cst (.int 1)) (.bi .len [(.var 0)]) (.cst (.int 8))))) [.ret (.cst (.bl false))] [], .ret (.cmp .eq (.lc (.var 1) (.name 1) (.seq (.var 0)) (some (.cmp .notin (.var 1) (.cst (.str "abcdefghijklmnopqrstuvwxyz")))) [1]) (.lst []))]
def c__law_names_told : List C := [.ife (.isi (.var 0) .str) [.ret (.ite (.call 20 [(.var 0)]) (.lst [(.var 0)]) (.cst .non))] [], .ife (.or (.not (.isi (.var 0) .tup)) (.or (.cmp .lt (.bi .len [(.var 0)]) (.cst (.int 2))) (.cmp .eq (.var 1) (.cst (.int 0))))) [.ret (.cst .non)] [], .asg (.name 2) (.lst []), .asg (.name 3) (.cst (.str "")), .for (.name 4) (.seq (.var 0)) [.asg (.name 5) (.call 21 [(.var 4), (.bin .sub (.var 1) (.cst (.int 1)))]), .ife (.or (.cmp .is (.var 5) (.cst .non)) (.not (.cmp .lt (.var 3) (.mnS false (.var 5))))) [.ret (.cst .non)] [], .asg (.name 3) (.mnS false (.var 5)), .asg (.name 2) (.bin .add (.var 2) (.var 5))], .ret (.var 2)]
def c__law_is_tree_of : List C := [.asg (.name 2) (.call 21 [(.var 0), (.cst (.int 12))]), .ret (.and (.cmp .isnot (.var 2) (.cst .non)) (.cmp .eq (.bi .sorted [(.var 2)]) (.bi .list [(.var 1)])))]
def c__law_right : List C := [.ife (.or (.not (.isi (.var 2) .tup)) (.or (.cmp .ne (.bi .len [(.var 2)]) (.cst (.int 2))) (.not (.isi (.ix (.var 2) (.cst (.int 0))) .str)))) [.ret (.cst (.bl false))] [], .ife (.cmp .eq (.ix (.var 2) (.cst (.int 0))) (.cst (.str "tree"))) [.ret (.and (.call 22 [(.ix (.var 2) (.cst (.int 1))), (.var 1)]) (.emp false false (.lc (.var 3) (.name 3) (.seq (.var 0)) (some (.not (.call 12 [(.ix (.var 2) (.cst (.int 1))), (.var 3)]))) [3])))] [], .ife (.or (.cmp .ne (.ix (.var 2) (.cst (.int 0))) (.cst (.str "lot"))) (.or (.not (.isi (.ix (.var 2) (.cst (.int 1))) .tup)) (.cmp .lt (.bi .len [(.ix (.var 2) (.cst (.int 1)))]) (.cst (.int 3))))) [.ret (.cst (.bl false))] [], .ife (.emp true false (.lc (.var 4) (.name 4) (.seq (.ix (.var 2) (.cst (.int 1)))) (some (.or (.not (.isi (.var 4) .str)) (.cmp .notin (.var 4) (.var 1)))) [4])) [.ret (.cst (.bl false))] [], .ife (.cmp .ne (.sset (.ix (.var 2) (.cst (.int 1)))) (.bi .list [(.ix (.var 2) (.cst (.int 1)))])) [.ret (.cst (.bl false))] [], .ret (.cmp .eq (.bi .len [(.call 18 [(.ix (.var 2) (.cst (.int 1))), (.var 0), (.ix (.ix (.var 2) (.cst (.int 1))) (.cst (.int 0)))])]) (.bi .len [(.ix (.var 2) (.cst (.int 1)))]))]
def c__law_chain : List C := [.asg (.name 1) (.call 6 [(.var 0), (.cst (.int 10))]), .asg (.name 2) (.lc (.me .pop (.var 1) [(.call 5 [(.var 0), (.bi .len [(.var 1)])])]) (.name 4) (.rng1 (.cst (.int 10))) none [4]), .asg (.name 3) (.lc (.tup [(.ix (.var 2) (.cst (.int 0))), (.ix (.var 2) (.var 4)), (.ix (.var 2) (.bin .add (.var 4) (.cst (.int 1))))]) (.name 4) (.rng2 (.cst (.int 1)) (.cst (.int 9))) none [4]), .ret (.bi .tupl [(.bi .sorted [(.lc (.tup [(.mnS false (.sl (.var 5) none (some (.cst (.int 2))))), (.mnS true (.sl (.var 5) none (some (.cst (.int 2))))), (.ix (.var 5) (.cst (.int 2)))]) (.name 5) (.seq (.var 3)) none [5])])])]
def c_law (D0 : Addr) : List C := [.asg (.name 1) (.call 4 [(.var 0)]), .for (.name 2) (.rng1 (.cst (.int 5))) [.asg (.name 3) (.ix (.lst [(.bin .add (.cst (.int 3)) (.call 5 [(.var 1), (.cst (.int 5))])), (.cst (.int 10))]) (.bi .int [(.cmp .eq (.call 5 [(.var 1), (.cst (.int 8))]) (.cst (.int 0)))])), .asg (.name 4) (.bi .tupl [(.call 6 [(.var 1), (.var 3)])]), .asg (.name 5) (.call 15 [(.var 1), (.var 4), (.cst (.int 12))]), .asg (.name 6) (.call 16 [(.var 1), (.var 4)]), .asg (.name 7) (.call 17 [(.var 5), (.var 6)]), .ife (.emp true true (.var 7)) [.asg (.name 8) (.bi .repr [(.tup [(.var 5), (.var 6)])]), .asg (.name 9) (.call 3 [(.var 5), (.var 6)]), .asg (.name 10) (.ix (.lst [(.cst (.str "lot")), (.cst (.str "tree"))]) (.bi .int [(.call 19 [(.var 7), (.var 5)])])), .ife (.or (.not (.call 23 [(.var 5), (.var 7), (.var 9)])) (.or (.cmp .ne (.ix (.var 9) (.cst (.int 0))) (.var 10)) (.cmp .ne (.bi .repr [(.tup [(.var 5), (.var 6)])]) (.var 8)))) [.ret (.cst (.bl false))] [], .ife (.cmp .ne (.bi .repr [(.call 3 [(.var 5), (.var 6)])]) (.bi .repr [(.var 9)])) [.ret (.cst (.bl false))] [], .asg (.name 11) (.call 17 [(.var 5), (.tup [])]), .ife (.and (.emp true true (.var 11)) (.not (.call 23 [(.var 5), (.var 11), (.call 3 [(.var 5), (.cst (.ref D0))])]))) [.ret (.cst (.bl false))] []] []], .asg (.name 5) (.call 24 [(.var 1)]), .ife (.or (.cmp .ne (.ix (.call 3 [(.var 5), (.cst (.ref D0))]) (.cst (.int 0))) (.cst (.str "tree"))) (.not (.call 23 [(.var 5), (.call 17 [(.var 5), (.tup [])]), (.call 3 [(.var 5), (.cst (.ref D0))])]))) [.ret (.cst (.bl false))] [], .ret (.and (.cmp .eq (.call 3 [(.tup []), (.tup [(.cst (.str "a"))])]) (.tup [(.cst (.str "tree")), (.cst (.str "a"))])) (.cmp .eq (.call 3 [(.tup []), (.tup [(.cst (.str "a")), (.cst (.str "b"))])]) (.tup [(.cst (.str "tree")), (.tup [(.cst (.str "a")), (.cst (.str "b"))])])))]
def fns : List Str := "all_names" :: "groups_of" :: "built" :: "agreed" :: "_law_pen" :: "_law_draw" :: "_law_names" :: "_law_least" :: "_law_fork" :: "_law_tree" :: "_law_below" :: "_law_lots" :: "_law_has" :: "_law_all_of" :: "_law_any_triple" :: "_law_triples" :: "_law_beside" :: "_law_every" :: "_law_group" :: "_law_agree" :: "_law_is_name" :: "_law_names_told" :: "_law_is_tree_of" :: "_law_right" :: "_law_chain" :: "law" :: []
def bodies (D0 : Addr) : List Fn := ⟨2, 4, (c_all_names D0)⟩ :: ⟨2, 11, c_groups_of⟩ :: ⟨2, 7, c_built⟩ :: ⟨2, 2, c_agreed⟩ :: ⟨1, 1, c__law_pen⟩ :: ⟨2, 8, c__law_draw⟩ :: ⟨2, 4, c__law_names⟩ :: ⟨1, 1, c__law_least⟩ :: ⟨1, 5, c__law_fork⟩ :: ⟨3, 7, c__law_tree⟩ :: ⟨1, 4, c__law_below⟩ :: ⟨1, 4, c__law_lots⟩ :: ⟨2, 3, c__law_has⟩ :: ⟨1, 5, c__law_all_of⟩ :: ⟨2, 5, c__law_any_triple⟩ :: ⟨3, 12, c__law_triples⟩ :: ⟨2, 4, c__law_beside⟩ :: ⟨2, 4, c__law_every⟩ :: ⟨3, 8, c__law_group⟩ :: ⟨2, 5, c__law_agree⟩ :: ⟨1, 2, c__law_is_name⟩ :: ⟨2, 6, c__law_names_told⟩ :: ⟨2, 3, c__law_is_tree_of⟩ :: ⟨3, 5, c__law_right⟩ :: ⟨1, 6, c__law_chain⟩ :: ⟨1, 12, (c_law D0)⟩ :: []
def cst : List (Str × D) := []
def free : List Str := ["list", "sorted", "set", "tuple", "max", "min", "len", "abs", "int", "range", "isinstance", "str", "enumerate", "repr"]
def dcl (D0 : Addr) : List DCall := [⟨"agreed", "names", some (.ref D0)⟩]
/-- what is known besides -/
def xt (D0 : Addr) : Str → Fw → Nat → Cx → Prop := fun _ _ _ X => ∀ P ∈ [D0], TupK X.K P []
abbrev gm (D0 : Addr) (x : Str) (F : Fw) (n : Nat) : Gm := ⟨F, n, fns, cst, free, xt D0 x F n, dcl D0⟩
def n_all_names : List Str := ["triples", "names", "triple", "name"]
theorem k_all_names (D0 : Addr) (F : Fw) (n : Nat) : KSs (gm D0 "all_names" F n) ⟨n_all_names, defScope (top 1), none⟩ (defBody (top 1)) (c_all_names D0) :=
  (k_cons (k_ret (k_bi (q := .tupl) (i := 2) (j := 3) rfl rfl rfl (k_r1 (k_sset (i := 3) (j := 1) (i2 := 4) (j2 := 2) rfl rfl rfl rfl (k_bin rfl (k_lc2 (own := [("triple", 2), ("name", 3)]) (by decide +kernel) (by decide +kernel) rfl (by decide +kernel) rfl (by decide +kernel) rfl rfl (k_seq (k_var (j := 0) rfl rfl rfl)) (k_gn (j := 1) rfl rfl rfl) k_if0 (k_seq (k_var (j := 1) rfl rfl rfl)) (k_gn (j := 2) rfl rfl rfl) k_if0 (k_var (j := 2) rfl rfl rfl)) (k_lstK (Ps := [D0]) (i := 5) (j := 0) rfl rfl rfl rfl (fun X h => h) (k_var (j := 1) rfl rfl rfl) rfl)) rfl) k_r0 rfl))) k_nil)
def n_groups_of : List Str := ["lot", "triples", "name", "marks", "a", "b", "c", "kept", "gone", "groups", "mark"]
theorem k_groups_of (D0 : Addr) (F : Fw) (n : Nat) : KSs (gm D0 "groups_of" F n) ⟨n_groups_of, defScope (top 2), none⟩ (defBody (top 2)) c_groups_of :=
  (k_cons (k_setDc (j := 3) (own := [("name", 2)]) rfl rfl rfl rfl (by decide +kernel) (by decide +kernel) (by decide +kernel) rfl (by decide +kernel) rfl (k_seq (k_var (j := 0) rfl rfl rfl)) (k_gn (j := 1) rfl rfl rfl) k_if0 (k_var (j := 1) rfl rfl rfl) (k_var (j := 1) rfl rfl rfl)) (k_cons (k_for (k_seq (k_var (j := 1) rfl rfl rfl)) (k_gt (k_gs1 (j := 4) rfl rfl rfl (k_gs1 (j := 5) rfl rfl rfl (k_gs1 (j := 6) rfl rfl rfl k_gs0)))) (k_cons (k_ife (k_W (k_andT (k_cmpT (q := .isin) (k_var (j := 4) rfl rfl rfl) (k_var (j := 3) rfl rfl rfl) rfl) (k_andT (k_cmpT (q := .isin) (k_var (j := 5) rfl rfl rfl) (k_var (j := 3) rfl rfl rfl) rfl) (k_andT (k_cmpT (q := .isin) (k_var (j := 6) rfl rfl rfl) (k_var (j := 3) rfl rfl rfl) rfl) (k_oneA (k_cmpT (q := .ne) (k_ix (k_var (j := 3) rfl rfl rfl) (k_var (j := 4) rfl rfl rfl) rfl) (k_ix (k_var (j := 3) rfl rfl rfl) (k_var (j := 5) rfl rfl rfl) rfl) rfl)))))) (k_cons (k_asgTT (i2 := 7) (j2 := 8) (k_gs1 (j := 7) rfl rfl rfl (k_gs1 (j := 8) rfl rfl rfl k_gs0)) rfl rfl rfl (k_a1 (k_mn2 (mx := false) (i := 10) (j := 5) rfl rfl rfl (k_ix (k_var (j := 3) rfl rfl rfl) (k_var (j := 4) rfl rfl rfl) rfl) (k_ix (k_var (j := 3) rfl rfl rfl) (k_var (j := 5) rfl rfl rfl) rfl) rfl rfl) (k_a1 (k_mn2 (mx := true) (i := 11) (j := 4) rfl rfl rfl (k_ix (k_var (j := 3) rfl rfl rfl) (k_var (j := 4) rfl rfl rfl) rfl) (k_ix (k_var (j := 3) rfl rfl rfl) (k_var (j := 5) rfl rfl rfl) rfl) rfl rfl) k_a0 rfl) rfl)) (k_cons (k_setDcD (n := 3) (own := [("name", 2), ("mark", 10)]) rfl rfl rfl rfl (by decide +kernel) (by decide +kernel) (by decide +kernel) rfl (by decide +kernel) rfl (k_lkI (k_var (j := 3) rfl rfl rfl) rfl rfl rfl) (k_gt (k_gs1 (j := 1) rfl rfl rfl (k_gs1 (j := 2) rfl rfl rfl k_gs0))) k_if0 (k_var (j := 1) rfl rfl rfl) (k_ite (k_cmpT (q := .eq) (k_var (j := 2) rfl rfl rfl) (k_var (j := 3) rfl rfl rfl) rfl) (k_var (j := 4) rfl rfl rfl) (k_var (j := 2) rfl rfl rfl))) k_nil)) k_nil) k_nil) rfl) (k_cons (k_set (j := 9) rfl rfl rfl k_dnew rfl) (k_cons (k_for (k_seq (k_var (j := 0) rfl rfl rfl)) (k_gn (j := 2) rfl rfl rfl) (k_cons (k_exp (k_meC (k_sdf (k_var (j := 9) rfl rfl rfl) rfl rfl (k_ix (k_var (j := 3) rfl rfl rfl) (k_var (j := 2) rfl rfl rfl) rfl) rfl (k_lst k_a0) rfl) rfl (k_var (j := 2) rfl rfl rfl) rfl) rfl) k_nil) rfl) (k_cons (k_ret (k_lcD (own := [("mark", 10)]) (by decide +kernel) (by decide +kernel) rfl (by decide +kernel) rfl (k_lkK (k_var (j := 9) rfl rfl rfl) rfl) (k_gn (j := 1) rfl rfl rfl) k_if0 (k_bi (q := .tupl) (i := 2) (j := 3) rfl rfl rfl (k_r1 (k_ixL (k_var (j := 3) rfl rfl rfl) (k_var (j := 1) rfl rfl rfl) rfl) k_r0 rfl)))) k_nil)))))
def n_built : List Str := ["lot", "triples", "groups", "parts", "group", "word", "told"]
theorem k_built (D0 : Addr) (F : Fw) (n : Nat) : KSs (gm D0 "built" F n) ⟨n_built, defScope (top 3), none⟩ (defBody (top 3)) c_built :=
  (k_cons (k_ife (k_cmpT (q := .eq) (k_bi (q := .len) (i := 7) (j := 6) rfl rfl rfl (k_r1 (k_var (j := 0) rfl rfl rfl) k_r0 rfl)) k_int rfl) (k_cons (k_ret (k_tup (k_a1 k_str (k_a1 (k_ix (k_var (j := 0) rfl rfl rfl) k_int rfl) k_a0 rfl) rfl))) k_nil) k_nil) (k_cons (k_set (j := 2) rfl rfl rfl (k_call (i := 8) rfl rfl (k_a1 (k_var (j := 0) rfl rfl rfl) (k_a1 (k_var (j := 1) rfl rfl rfl) k_a0 rfl) rfl)) rfl) (k_cons (k_ife (k_cmpT (q := .eq) (k_bi (q := .len) (i := 7) (j := 6) rfl rfl rfl (k_r1 (k_var (j := 2) rfl rfl rfl) k_r0 rfl)) k_int rfl) (k_cons (k_ret (k_tup (k_a1 k_str (k_a1 (k_var (j := 0) rfl rfl rfl) k_a0 rfl) rfl))) k_nil) k_nil) (k_cons (k_set (j := 3) rfl rfl rfl (k_lst k_a0) rfl) (k_cons (k_for (k_seq (k_var (j := 2) rfl rfl rfl)) (k_gn (j := 4) rfl rfl rfl) (k_cons (k_asgTc (k_gs1 (j := 5) rfl rfl rfl (k_gs1 (j := 6) rfl rfl rfl k_gs0)) (k_call (i := 9) rfl rfl (k_a1 (k_var (j := 4) rfl rfl rfl) (k_a1 (k_var (j := 1) rfl rfl rfl) k_a0 rfl) rfl)) rfl) (k_cons (k_ife (k_cmpT (q := .eq) (k_var (j := 5) rfl rfl rfl) k_str rfl) (k_cons (k_ret (k_tup (k_a1 (k_var (j := 5) rfl rfl rfl) (k_a1 (k_var (j := 6) rfl rfl rfl) k_a0 rfl) rfl))) k_nil) k_nil) (k_cons (k_exp (k_me1 (q := .append) rfl (k_var (j := 3) rfl rfl rfl) rfl rfl (k_var (j := 6) rfl rfl rfl) rfl) rfl) k_nil))) rfl) (k_cons (k_ret (k_tup (k_a1 k_str (k_a1 (k_bi (q := .tupl) (i := 10) (j := 3) rfl rfl rfl (k_r1 (k_var (j := 3) rfl rfl rfl) k_r0 rfl)) k_a0 rfl) rfl))) k_nil))))))
def n_agreed : List Str := ["triples", "names"]
theorem k_agreed (D0 : Addr) (F : Fw) (n : Nat) : KSs (gm D0 "agreed" F n) ⟨n_agreed, defScope (top 4), none⟩ (defBody (top 4)) c_agreed :=
  (k_cons (k_ret (k_call (i := 2) rfl rfl (k_a1 (k_call (i := 3) rfl rfl (k_a1 (k_var (j := 0) rfl rfl rfl) (k_a1 (k_var (j := 1) rfl rfl rfl) k_a0 rfl) rfl)) (k_a1 (k_var (j := 0) rfl rfl rfl) k_a0 rfl) rfl))) k_nil)
def n__law_pen : List Str := ["_law_script"]
theorem k__law_pen (D0 : Addr) (F : Fw) (n : Nat) : KSs (gm D0 "_law_pen" F n) ⟨n__law_pen, defScope (top 6), none⟩ (defBody (top 6)) c__law_pen :=
  (k_cons (k_ret (k_disp (k_psS (k_bi (q := .list) (i := 1) (j := 0) rfl rfl rfl (k_r1 (k_sl (k_var (j := 0) rfl rfl rfl) k_o0 (k_o1 k_int)) k_r0 rfl)) (k_psS k_int (k_psS k_int k_ps0))) (by simp) (by decide +kernel))) k_nil)
def n__law_draw : List Str := ["_law_pen_here", "_law_many", "_law_found", "_law_at", "_law_cell", "_law_whole", "_law_one", "_law_two"]
theorem k__law_draw (D0 : Addr) (F : Fw) (n : Nat) : KSs (gm D0 "_law_draw" F n) ⟨n__law_draw, defScope (top 7), none⟩ (defBody (top 7)) c__law_draw :=
  (k_cons (k_ife (k_cmpT (q := .gt) (k_ix (k_var (j := 0) rfl rfl rfl) k_str rfl) k_int rfl) (k_cons (k_set (j := 2) rfl rfl rfl (k_bin rfl (k_ix (k_var (j := 0) rfl rfl rfl) k_str rfl) (k_var (j := 1) rfl rfl rfl)) rfl) (k_cons (k_asgS (k_var (j := 0) rfl rfl rfl) k_str rfl (k_bin rfl (k_ix (k_var (j := 0) rfl rfl rfl) k_str rfl) (k_var (j := 1) rfl rfl rfl))) (k_cons (k_ret (k_var (j := 2) rfl rfl rfl)) k_nil))) k_nil) (k_cons (k_set (j := 3) rfl rfl rfl (k_ix (k_var (j := 0) rfl rfl rfl) k_str rfl) rfl) (k_cons (k_asgS (k_var (j := 0) rfl rfl rfl) k_str rfl (k_bin rfl (k_var (j := 3) rfl rfl rfl) k_int)) (k_cons (k_set (j := 4) rfl rfl rfl (k_bin rfl (k_bin rfl k_int (k_var (j := 3) rfl rfl rfl)) k_int) rfl) (k_cons (k_ife (k_cmpT (q := .ne) (k_ix (k_var (j := 0) rfl rfl rfl) k_str rfl) (k_lst k_a0) rfl) (k_cons (k_set (j := 4) rfl rfl rfl (k_ix (k_ix (k_var (j := 0) rfl rfl rfl) k_str rfl) (k_bin rfl (k_var (j := 3) rfl rfl rfl) (k_bi (q := .len) (i := 8) (j := 6) rfl rfl rfl (k_r1 (k_ix (k_var (j := 0) rfl rfl rfl) k_str rfl) k_r0 rfl))) rfl) rfl) k_nil) k_nil) (k_cons (k_ife (k_W (k_andT (k_cmpT (q := .lt) (k_var (j := 3) rfl rfl rfl) (k_bi (q := .len) (i := 8) (j := 6) rfl rfl rfl (k_r1 (k_ix (k_var (j := 0) rfl rfl rfl) k_str rfl) k_r0 rfl)) rfl) (k_oneA (k_cmpT (q := .ge) (k_bi (q := .abs) (i := 9) (j := 7) rfl rfl rfl (k_r1 (k_var (j := 4) rfl rfl rfl) k_r0 rfl)) (k_bin rfl k_int k_int) rfl)))) (k_cons (k_set (j := 5) rfl rfl rfl (k_bin rfl (k_bin rfl k_int (k_bi (q := .abs) (i := 9) (j := 7) rfl rfl rfl (k_r1 (k_var (j := 4) rfl rfl rfl) k_r0 rfl))) (k_bi (q := .int) (i := 10) (j := 8) rfl rfl rfl (k_r1 (k_cmp (q := .lt) (k_var (j := 4) rfl rfl rfl) k_int rfl) k_r0 rfl))) rfl) (k_cons (k_asgS (k_var (j := 0) rfl rfl rfl) k_str rfl (k_bin rfl (k_var (j := 5) rfl rfl rfl) (k_var (j := 1) rfl rfl rfl))) (k_cons (k_ret (k_bin rfl (k_var (j := 5) rfl rfl rfl) (k_var (j := 1) rfl rfl rfl))) k_nil))) k_nil) (k_cons (k_set (j := 6) rfl rfl rfl (k_bin rfl (k_bin rfl (k_bin rfl (k_bin rfl (k_bin rfl (k_var (j := 4) rfl rfl rfl) k_int) (k_bin rfl k_int (k_var (j := 3) rfl rfl rfl))) k_int) k_int) k_int) rfl) (k_cons (k_set (j := 7) rfl rfl rfl (k_bin rfl (k_bin rfl (k_bin rfl (k_bin rfl (k_var (j := 6) rfl rfl rfl) (k_bin rfl (k_var (j := 3) rfl rfl rfl) k_int)) (k_bin rfl (k_bin rfl k_int (k_var (j := 3) rfl rfl rfl)) (k_var (j := 3) rfl rfl rfl))) k_int) k_int) rfl) (k_cons (k_ret (k_bin rfl (k_bin rfl (k_var (j := 7) rfl rfl rfl) k_int) (k_var (j := 1) rfl rfl rfl))) k_nil)))))))))
def n__law_names : List Str := ["_law_pen_here", "_law_many", "_law_some", "_law_k"]
theorem k__law_names (D0 : Addr) (F : Fw) (n : Nat) : KSs (gm D0 "_law_names" F n) ⟨n__law_names, defScope (top 8), none⟩ (defBody (top 8)) c__law_names :=
  (k_cons (k_set (j := 2) rfl rfl rfl (k_lst (k_a1 k_str (k_a1 k_str (k_a1 k_str (k_a1 k_str (k_a1 k_str (k_a1 k_str (k_a1 k_str (k_a1 k_str (k_a1 k_str (k_a1 k_str (k_a1 k_str (k_a1 k_str (k_a1 k_str k_a0 rfl) rfl) rfl) rfl) rfl) rfl) rfl) rfl) rfl) rfl) rfl) rfl) rfl)) rfl) (k_cons (k_ret (k_bi (q := .sorted) (i := 3) (j := 1) rfl rfl rfl (k_r1 (k_lc (own := [("_law_k", 3)]) (by decide +kernel) (by decide +kernel) rfl (by decide +kernel) rfl (k_rng1 (i := 4) (j := 9) rfl rfl (k_var (j := 1) rfl rfl rfl) rfl) (k_gn (j := 1) rfl rfl rfl) k_if0 (k_me1 (q := .pop) rfl (k_var (j := 5) rfl rfl rfl) rfl rfl (k_call (i := 2) rfl rfl (k_a1 (k_var (j := 4) rfl rfl rfl) (k_a1 (k_bi (q := .len) (i := 3) (j := 6) rfl rfl rfl (k_r1 (k_var (j := 5) rfl rfl rfl) k_r0 rfl)) k_a0 rfl) rfl)) rfl)) k_r0 rfl))) k_nil))
def n__law_least : List Str := ["_law_tree_here"]
theorem k__law_least (D0 : Addr) (F : Fw) (n : Nat) : KSs (gm D0 "_law_least" F n) ⟨n__law_least, defScope (top 9), none⟩ (defBody (top 9)) c__law_least :=
  (k_cons (k_whl (k_notT (k_tru (k_isi (i := 1) (j := 10) (k := 2) (l := 11) (k_var (j := 0) rfl rfl rfl) rfl rfl rfl rfl rfl rfl) rfl rfl)) (k_cons (k_set (j := 0) rfl rfl rfl (k_ix (k_var (j := 0) rfl rfl rfl) k_int rfl) rfl) k_nil)) (k_cons (k_ret (k_var (j := 0) rfl rfl rfl)) k_nil))
def n__law_fork : List Str := ["_law_parts", "_law_order", "_law_k", "_law_part", "_law_least_here"]
theorem k__law_fork (D0 : Addr) (F : Fw) (n : Nat) : KSs (gm D0 "_law_fork" F n) ⟨n__law_fork, defScope (top 10), none⟩ (defBody (top 10)) c__law_fork :=
  (k_cons (k_ife (k_cmpT (q := .eq) (k_bi (q := .len) (i := 2) (j := 6) rfl rfl rfl (k_r1 (k_var (j := 0) rfl rfl rfl) k_r0 rfl)) k_int rfl) (k_cons (k_ret (k_ix (k_var (j := 0) rfl rfl rfl) k_int rfl)) k_nil) k_nil) (k_cons (k_set (j := 1) rfl rfl rfl (k_bi (q := .sorted) (i := 3) (j := 1) rfl rfl rfl (k_r1 (k_lc (own := [("_law_k", 2), ("_law_part", 3)]) (by decide +kernel) (by decide +kernel) rfl (by decide +kernel) rfl (k_enum (i := 4) (j := 12) rfl rfl (k_var (j := 0) rfl rfl rfl) rfl) (k_gt (k_gs1 (j := 1) rfl rfl rfl (k_gs1 (j := 2) rfl rfl rfl k_gs0))) k_if0 (k_tup (k_a1 (k_call (i := 3) rfl rfl (k_a1 (k_var (j := 2) rfl rfl rfl) k_a0 rfl)) (k_a1 (k_var (j := 1) rfl rfl rfl) k_a0 rfl) rfl))) k_r0 rfl)) rfl) (k_cons (k_ret (k_bi (q := .tupl) (i := 5) (j := 3) rfl rfl rfl (k_r1 (k_lc (own := [("_law_least_here", 4), ("_law_k", 2)]) (by decide +kernel) (by decide +kernel) rfl (by decide +kernel) rfl (k_seq (k_var (j := 1) rfl rfl rfl)) (k_gt (k_gs1 (j := 1) rfl rfl rfl (k_gs1 (j := 2) rfl rfl rfl k_gs0))) k_if0 (k_ix (k_var (j := 3) rfl rfl rfl) (k_var (j := 2) rfl rfl rfl) rfl)) k_r0 rfl))) k_nil)))
def n__law_tree : List Str := ["_law_pen_here", "_law_terms", "_law_wide", "_law_left", "_law_many", "_law_parts", "_law_k"]
theorem k__law_tree (D0 : Addr) (F : Fw) (n : Nat) : KSs (gm D0 "_law_tree" F n) ⟨n__law_tree, defScope (top 11), none⟩ (defBody (top 11)) c__law_tree :=
  (k_cons (k_set (j := 3) rfl rfl rfl (k_bi (q := .list) (i := 7) (j := 0) rfl rfl rfl (k_r1 (k_var (j := 1) rfl rfl rfl) k_r0 rfl)) rfl) (k_cons (k_whl (k_cmpT (q := .gt) (k_bi (q := .len) (i := 8) (j := 6) rfl rfl rfl (k_r1 (k_var (j := 3) rfl rfl rfl) k_r0 rfl)) k_int rfl) (k_cons (k_set (j := 4) rfl rfl rfl (k_bin rfl k_int (k_bin rfl (k_var (j := 2) rfl rfl rfl) (k_ix (k_lst (k_a1 k_int (k_a1 k_int (k_a1 k_int (k_a1 (k_call (i := 9) rfl rfl (k_a1 (k_var (j := 0) rfl rfl rfl) (k_a1 k_int k_a0 rfl) rfl)) k_a0 rfl) rfl) rfl) rfl)) (k_call (i := 9) rfl rfl (k_a1 (k_var (j := 0) rfl rfl rfl) (k_a1 k_int k_a0 rfl) rfl)) rfl))) rfl) (k_cons (k_set (j := 5) rfl rfl rfl (k_lst k_a0) rfl) (k_cons (k_for (k_rng1 (i := 10) (j := 9) rfl rfl (k_bi (q := .min) (i := 11) (j := 5) rfl rfl rfl (k_r1 (k_var (j := 4) rfl rfl rfl) (k_r1 (k_bi (q := .len) (i := 8) (j := 6) rfl rfl rfl (k_r1 (k_var (j := 3) rfl rfl rfl) k_r0 rfl)) k_r0 rfl) rfl)) rfl) (k_gn (j := 6) rfl rfl rfl) (k_cons (k_exp (k_me1 (q := .append) rfl (k_var (j := 5) rfl rfl rfl) rfl rfl (k_me1 (q := .pop) rfl (k_var (j := 3) rfl rfl rfl) rfl rfl (k_ix (k_lst (k_a1 (k_call (i := 9) rfl rfl (k_a1 (k_var (j := 0) rfl rfl rfl) (k_a1 (k_bi (q := .len) (i := 8) (j := 6) rfl rfl rfl (k_r1 (k_var (j := 3) rfl rfl rfl) k_r0 rfl)) k_a0 rfl) rfl)) (k_a1 (k_neg k_int) k_a0 rfl) rfl)) (k_call (i := 9) rfl rfl (k_a1 (k_var (j := 0) rfl rfl rfl) (k_a1 k_int k_a0 rfl) rfl)) rfl) rfl) rfl) rfl) k_nil) rfl) (k_cons (k_exp (k_me1 (q := .append) rfl (k_var (j := 3) rfl rfl rfl) rfl rfl (k_call (i := 12) rfl rfl (k_a1 (k_var (j := 5) rfl rfl rfl) k_a0 rfl)) rfl) rfl) k_nil))))) (k_cons (k_ret (k_ix (k_var (j := 3) rfl rfl rfl) k_int rfl)) k_nil)))
def n__law_below : List Str := ["_law_tree_here", "_law_found", "_law_left", "_law_one"]
theorem k__law_below (D0 : Addr) (F : Fw) (n : Nat) : KSs (gm D0 "_law_below" F n) ⟨n__law_below, defScope (top 12), none⟩ (defBody (top 12)) c__law_below :=
  (k_cons (k_set (j := 1) rfl rfl rfl (k_lst k_a0) rfl) (k_cons (k_set (j := 2) rfl rfl rfl (k_lst (k_a1 (k_var (j := 0) rfl rfl rfl) k_a0 rfl)) rfl) (k_cons (k_whl (k_cmpT (q := .ne) (k_var (j := 2) rfl rfl rfl) (k_lst k_a0) rfl) (k_cons (k_set (j := 3) rfl rfl rfl (k_me0 (q := .pop) rfl (k_var (j := 2) rfl rfl rfl) rfl rfl) rfl) (k_cons (k_ife (k_tru (k_isi (i := 4) (j := 10) (k := 5) (l := 11) (k_var (j := 3) rfl rfl rfl) rfl rfl rfl rfl rfl rfl) rfl rfl) (k_cons (k_exp (k_me1 (q := .append) rfl (k_var (j := 1) rfl rfl rfl) rfl rfl (k_var (j := 3) rfl rfl rfl) rfl) rfl) k_nil) (k_cons (k_exp (k_me1 (q := .extend) rfl (k_var (j := 2) rfl rfl rfl) rfl rfl (k_bi (q := .list) (i := 6) (j := 0) rfl rfl rfl (k_r1 (k_var (j := 3) rfl rfl rfl) k_r0 rfl)) rfl) rfl) k_nil)) k_nil))) (k_cons (k_ret (k_bi (q := .tupl) (i := 7) (j := 3) rfl rfl rfl (k_r1 (k_bi (q := .sorted) (i := 8) (j := 1) rfl rfl rfl (k_r1 (k_var (j := 1) rfl rfl rfl) k_r0 rfl)) k_r0 rfl))) k_nil))))
def n__law_lots : List Str := ["_law_tree_here", "_law_found", "_law_left", "_law_one"]
theorem k__law_lots (D0 : Addr) (F : Fw) (n : Nat) : KSs (gm D0 "_law_lots" F n) ⟨n__law_lots, defScope (top 13), none⟩ (defBody (top 13)) c__law_lots :=
  (k_cons (k_set (j := 1) rfl rfl rfl (k_lst k_a0) rfl) (k_cons (k_set (j := 2) rfl rfl rfl (k_lst (k_a1 (k_var (j := 0) rfl rfl rfl) k_a0 rfl)) rfl) (k_cons (k_whl (k_cmpT (q := .ne) (k_var (j := 2) rfl rfl rfl) (k_lst k_a0) rfl) (k_cons (k_set (j := 3) rfl rfl rfl (k_me0 (q := .pop) rfl (k_var (j := 2) rfl rfl rfl) rfl rfl) rfl) (k_cons (k_ife (k_notT (k_tru (k_isi (i := 4) (j := 10) (k := 5) (l := 11) (k_var (j := 3) rfl rfl rfl) rfl rfl rfl rfl rfl rfl) rfl rfl)) (k_cons (k_exp (k_me1 (q := .append) rfl (k_var (j := 1) rfl rfl rfl) rfl rfl (k_call (i := 6) rfl rfl (k_a1 (k_var (j := 3) rfl rfl rfl) k_a0 rfl)) rfl) rfl) (k_cons (k_exp (k_me1 (q := .extend) rfl (k_var (j := 2) rfl rfl rfl) rfl rfl (k_bi (q := .list) (i := 7) (j := 0) rfl rfl rfl (k_r1 (k_var (j := 3) rfl rfl rfl) k_r0 rfl)) rfl) rfl) k_nil)) k_nil) k_nil))) (k_cons (k_ret (k_bi (q := .sorted) (i := 8) (j := 1) rfl rfl rfl (k_r1 (k_var (j := 1) rfl rfl rfl) k_r0 rfl))) k_nil))))
def n__law_has : List Str := ["_law_tree_here", "_law_triple", "_law_lot"]
theorem k__law_has (D0 : Addr) (F : Fw) (n : Nat) : KSs (gm D0 "_law_has" F n) ⟨n__law_has, defScope (top 14), none⟩ (defBody (top 14)) c__law_has :=
  (k_cons (k_for (k_seq (k_call (i := 3) rfl rfl (k_a1 (k_var (j := 0) rfl rfl rfl) k_a0 rfl))) (k_gn (j := 2) rfl rfl rfl) (k_cons (k_ife (k_W (k_andT (k_cmpT (q := .isin) (k_ix (k_var (j := 1) rfl rfl rfl) k_int rfl) (k_var (j := 2) rfl rfl rfl) rfl) (k_andT (k_cmpT (q := .isin) (k_ix (k_var (j := 1) rfl rfl rfl) k_int rfl) (k_var (j := 2) rfl rfl rfl) rfl) (k_oneA (k_cmpT (q := .notin) (k_ix (k_var (j := 1) rfl rfl rfl) k_int rfl) (k_var (j := 2) rfl rfl rfl) rfl))))) (k_cons (k_ret k_bl) k_nil) k_nil) k_nil) rfl) (k_cons (k_ret k_bl) k_nil))
def n__law_all_of : List Str := ["_law_terms", "_law_found", "_law_a", "_law_b", "_law_c"]
theorem k__law_all_of (D0 : Addr) (F : Fw) (n : Nat) : KSs (gm D0 "_law_all_of" F n) ⟨n__law_all_of, defScope (top 15), none⟩ (defBody (top 15)) c__law_all_of :=
  (k_cons (k_set (j := 1) rfl rfl rfl (k_lst k_a0) rfl) (k_cons (k_for (k_seq (k_var (j := 0) rfl rfl rfl)) (k_gn (j := 2) rfl rfl rfl) (k_cons (k_for (k_seq (k_var (j := 0) rfl rfl rfl)) (k_gn (j := 3) rfl rfl rfl) (k_cons (k_exp (k_me1 (q := .extend) rfl (k_var (j := 1) rfl rfl rfl) rfl rfl (k_lc (own := [("_law_c", 4)]) (by decide +kernel) (by decide +kernel) rfl (by decide +kernel) rfl (k_seq (k_var (j := 0) rfl rfl rfl)) (k_gn (j := 1) rfl rfl rfl) (k_if1 (k_W (k_andT (k_cmpT (q := .lt) (k_var (j := 2) rfl rfl rfl) (k_var (j := 3) rfl rfl rfl) rfl) (k_andT (k_cmpT (q := .ne) (k_var (j := 1) rfl rfl rfl) (k_var (j := 2) rfl rfl rfl) rfl) (k_oneA (k_cmpT (q := .ne) (k_var (j := 1) rfl rfl rfl) (k_var (j := 3) rfl rfl rfl) rfl)))))) (k_tup (k_a1 (k_var (j := 2) rfl rfl rfl) (k_a1 (k_var (j := 3) rfl rfl rfl) (k_a1 (k_var (j := 1) rfl rfl rfl) k_a0 rfl) rfl) rfl))) rfl) rfl) k_nil) rfl) k_nil) rfl) (k_cons (k_ret (k_bi (q := .sorted) (i := 4) (j := 1) rfl rfl rfl (k_r1 (k_var (j := 1) rfl rfl rfl) k_r0 rfl))) k_nil)))
def n__law_any_triple : List Str := ["_law_pen_here", "_law_terms", "_law_left", "_law_three", "_law_k"]
theorem k__law_any_triple (D0 : Addr) (F : Fw) (n : Nat) : KSs (gm D0 "_law_any_triple" F n) ⟨n__law_any_triple, defScope (top 16), none⟩ (defBody (top 16)) c__law_any_triple :=
  (k_cons (k_set (j := 2) rfl rfl rfl (k_bi (q := .list) (i := 4) (j := 0) rfl rfl rfl (k_r1 (k_var (j := 1) rfl rfl rfl) k_r0 rfl)) rfl) (k_cons (k_setLc (j := 3) (own := [("_law_k", 4)]) rfl rfl rfl rfl (by decide +kernel) (by decide +kernel) (by decide +kernel) rfl (by decide +kernel) rfl (k_rng1 (i := 5) (j := 9) rfl rfl k_int rfl) (k_gn (j := 1) rfl rfl rfl) k_if0 (k_me1 (q := .pop) rfl (k_var (j := 4) rfl rfl rfl) rfl rfl (k_call (i := 2) rfl rfl (k_a1 (k_var (j := 5) rfl rfl rfl) (k_a1 (k_bi (q := .len) (i := 3) (j := 6) rfl rfl rfl (k_r1 (k_var (j := 4) rfl rfl rfl) k_r0 rfl)) k_a0 rfl) rfl)) rfl)) (k_cons (k_ret (k_tup (k_a1 (k_mnS (mx := false) (i := 6) (j := 5) rfl rfl rfl (k_sl (k_var (j := 3) rfl rfl rfl) k_o0 (k_o1 k_int)) rfl) (k_a1 (k_mnS (mx := true) (i := 7) (j := 4) rfl rfl rfl (k_sl (k_var (j := 3) rfl rfl rfl) k_o0 (k_o1 k_int)) rfl) (k_a1 (k_ix (k_var (j := 3) rfl rfl rfl) k_int rfl) k_a0 rfl) rfl) rfl))) k_nil)))
def n__law_triples : List Str := ["_law_pen_here", "_law_terms", "_law_most", "_law_way", "_law_many", "_law_k", "_law_trees", "_law_pools", "_law_found", "_law_pool", "_law_triple", "_law_tree_here"]
theorem k__law_triples (D0 : Addr) (F : Fw) (n : Nat) : KSs (gm D0 "_law_triples" F n) ⟨n__law_triples, defScope (top 17), none⟩ (defBody (top 17)) c__law_triples :=
  (k_cons (k_set (j := 3) rfl rfl rfl (k_call (i := 10) rfl rfl (k_a1 (k_var (j := 0) rfl rfl rfl) (k_a1 k_int k_a0 rfl) rfl)) rfl) (k_cons (k_set (j := 4) rfl rfl rfl (k_call (i := 10) rfl rfl (k_a1 (k_var (j := 0) rfl rfl rfl) (k_a1 (k_bin rfl (k_var (j := 2) rfl rfl rfl) k_int) k_a0 rfl) rfl)) rfl) (k_cons (k_setLc (j := 6) (own := [("_law_k", 5)]) rfl rfl rfl rfl (by decide +kernel) (by decide +kernel) (by decide +kernel) rfl (by decide +kernel) rfl (k_rng1 (i := 11) (j := 9) rfl rfl k_int rfl) (k_gn (j := 1) rfl rfl rfl) k_if0 (k_call (i := 2) rfl rfl (k_a1 (k_var (j := 4) rfl rfl rfl) (k_a1 (k_var (j := 5) rfl rfl rfl) (k_a1 (k_call (i := 3) rfl rfl (k_a1 (k_var (j := 4) rfl rfl rfl) (k_a1 k_int k_a0 rfl) rfl)) k_a0 rfl) rfl) rfl))) (k_cons (k_setLc (j := 7) (own := [("_law_tree_here", 11)]) rfl rfl rfl rfl (by decide +kernel) (by decide +kernel) (by decide +kernel) rfl (by decide +kernel) rfl (k_seq (k_var (j := 6) rfl rfl rfl)) (k_gn (j := 1) rfl rfl rfl) k_if0 (k_lc (own := [("_law_triple", 10)]) (by decide +kernel) (by decide +kernel) rfl (by decide +kernel) rfl (k_seq (k_call (i := 2) rfl rfl (k_a1 (k_var (j := 3) rfl rfl rfl) k_a0 rfl))) (k_gn (j := 1) rfl rfl rfl) (k_if1 (k_tru (k_call (i := 2) rfl rfl (k_a1 (k_var (j := 3) rfl rfl rfl) (k_a1 (k_var (j := 1) rfl rfl rfl) k_a0 rfl) rfl)) rfl rfl)) (k_var (j := 1) rfl rfl rfl))) (k_cons (k_set (j := 8) rfl rfl rfl k_dnT rfl) (k_cons (k_for (k_rng1 (i := 11) (j := 9) rfl rfl (k_var (j := 4) rfl rfl rfl) rfl) (k_gn (j := 5) rfl rfl rfl) (k_cons (k_set (j := 9) rfl rfl rfl (k_ix (k_var (j := 7) rfl rfl rfl) (k_ix (k_lst (k_a1 k_int (k_a1 (k_bin rfl (k_var (j := 5) rfl rfl rfl) k_int) (k_a1 k_int (k_a1 k_int (k_a1 k_int k_a0 rfl) rfl) rfl) rfl) rfl)) (k_var (j := 3) rfl rfl rfl) rfl) rfl) rfl) (k_cons (k_ife (k_W (k_andT (k_empLT (neg := true) (k_var (j := 9) rfl rfl rfl)) (k_oneA (k_W (k_orT (k_cmpT (q := .lt) (k_var (j := 3) rfl rfl rfl) k_int rfl) (k_oneO (k_W (k_andT (k_cmpT (q := .gt) (k_var (j := 3) rfl rfl rfl) k_int rfl) (k_oneA (k_cmpT (q := .gt) (k_call (i := 10) rfl rfl (k_a1 (k_var (j := 0) rfl rfl rfl) (k_a1 k_int k_a0 rfl) rfl)) k_int rfl)))))))))) (k_cons (k_asgS (k_var (j := 8) rfl rfl rfl) (k_ix (k_var (j := 9) rfl rfl rfl) (k_call (i := 10) rfl rfl (k_a1 (k_var (j := 0) rfl rfl rfl) (k_a1 (k_bi (q := .len) (i := 12) (j := 6) rfl rfl rfl (k_r1 (k_var (j := 9) rfl rfl rfl) k_r0 rfl)) k_a0 rfl) rfl)) rfl) rfl k_bl) k_nil) (k_cons (k_ife (k_cmpT (q := .gt) (k_bi (q := .len) (i := 12) (j := 6) rfl rfl rfl (k_r1 (k_var (j := 1) rfl rfl rfl) k_r0 rfl)) k_int rfl) (k_cons (k_asgS (k_var (j := 8) rfl rfl rfl) (k_call (i := 13) rfl rfl (k_a1 (k_var (j := 0) rfl rfl rfl) (k_a1 (k_var (j := 1) rfl rfl rfl) k_a0 rfl) rfl)) rfl k_bl) k_nil) k_nil) k_nil)) k_nil)) rfl) (k_cons (k_ret (k_bi (q := .tupl) (i := 14) (j := 3) rfl rfl rfl (k_r1 (k_sortDT (i := 15) (j := 1) rfl rfl rfl (k_var (j := 8) rfl rfl rfl) rfl) k_r0 rfl))) k_nil)))))))
def n__law_beside : List Str := ["_law_pen_here", "_law_terms", "_law_way", "_law_name"]
theorem k__law_beside (D0 : Addr) (F : Fw) (n : Nat) : KSs (gm D0 "_law_beside" F n) ⟨n__law_beside, defScope (top 18), none⟩ (defBody (top 18)) c__law_beside :=
  (k_cons (k_set (j := 2) rfl rfl rfl (k_call (i := 3) rfl rfl (k_a1 (k_var (j := 0) rfl rfl rfl) (k_a1 k_int k_a0 rfl) rfl)) rfl) (k_cons (k_ret (k_bi (q := .tupl) (i := 4) (j := 3) rfl rfl rfl (k_r1 (k_lc (own := [("_law_name", 3)]) (by decide +kernel) (by decide +kernel) rfl (by decide +kernel) rfl (k_seq (k_var (j := 1) rfl rfl rfl)) (k_gn (j := 1) rfl rfl rfl) (k_if1 (k_W (k_orT (k_cmpT (q := .eq) (k_var (j := 4) rfl rfl rfl) k_int rfl) (k_oneO (k_W (k_andT (k_cmpT (q := .gt) (k_var (j := 4) rfl rfl rfl) k_int rfl) (k_oneA (k_cmpT (q := .eq) (k_call (i := 2) rfl rfl (k_a1 (k_var (j := 3) rfl rfl rfl) (k_a1 k_int k_a0 rfl) rfl)) k_int rfl)))))))) (k_var (j := 1) rfl rfl rfl)) k_r0 rfl))) k_nil))
def n__law_every : List Str := ["_law_threes", "_law_more", "_law_found", "_law_triple"]
theorem k__law_every (D0 : Addr) (F : Fw) (n : Nat) : KSs (gm D0 "_law_every" F n) ⟨n__law_every, defScope (top 19), none⟩ (defBody (top 19)) c__law_every :=
  (k_cons (k_set (j := 2) rfl rfl rfl (k_bi (q := .list) (i := 4) (j := 0) rfl rfl rfl (k_r1 (k_var (j := 1) rfl rfl rfl) k_r0 rfl)) rfl) (k_cons (k_for (k_seq (k_var (j := 0) rfl rfl rfl)) (k_gn (j := 3) rfl rfl rfl) (k_cons (k_exp (k_me1 (q := .extend) rfl (k_var (j := 2) rfl rfl rfl) rfl rfl (k_bi (q := .list) (i := 4) (j := 0) rfl rfl rfl (k_r1 (k_var (j := 3) rfl rfl rfl) k_r0 rfl)) rfl) rfl) k_nil) rfl) (k_cons (k_ret (k_bi (q := .tupl) (i := 5) (j := 3) rfl rfl rfl (k_r1 (k_sset (i := 6) (j := 1) (i2 := 7) (j2 := 2) rfl rfl rfl rfl (k_var (j := 2) rfl rfl rfl) rfl) k_r0 rfl))) k_nil)))
def n__law_group : List Str := ["_law_lot", "_law_threes", "_law_name", "_law_found", "_law_turn", "_law_a", "_law_b", "_law_c"]
theorem k__law_group (D0 : Addr) (F : Fw) (n : Nat) : KSs (gm D0 "_law_group" F n) ⟨n__law_group, defScope (top 20), none⟩ (defBody (top 20)) c__law_group :=
  (k_cons (k_set (j := 3) rfl rfl rfl (k_lst (k_a1 (k_var (j := 2) rfl rfl rfl) k_a0 rfl)) rfl) (k_cons (k_for (k_rng1 (i := 8) (j := 9) rfl rfl (k_bi (q := .len) (i := 9) (j := 6) rfl rfl rfl (k_r1 (k_var (j := 0) rfl rfl rfl) k_r0 rfl)) rfl) (k_gn (j := 4) rfl rfl rfl) (k_cons (k_for (k_seq (k_var (j := 1) rfl rfl rfl)) (k_gt (k_gs1 (j := 5) rfl rfl rfl (k_gs1 (j := 6) rfl rfl rfl (k_gs1 (j := 7) rfl rfl rfl k_gs0)))) (k_cons (k_ife (k_W (k_andT (k_cmpT (q := .isin) (k_var (j := 5) rfl rfl rfl) (k_var (j := 0) rfl rfl rfl) rfl) (k_andT (k_cmpT (q := .isin) (k_var (j := 6) rfl rfl rfl) (k_var (j := 0) rfl rfl rfl) rfl) (k_andT (k_cmpT (q := .isin) (k_var (j := 7) rfl rfl rfl) (k_var (j := 0) rfl rfl rfl) rfl) (k_oneA (k_cmpT (q := .ne) (k_cmp (q := .isin) (k_var (j := 5) rfl rfl rfl) (k_var (j := 3) rfl rfl rfl) rfl) (k_cmp (q := .isin) (k_var (j := 6) rfl rfl rfl) (k_var (j := 3) rfl rfl rfl) rfl) rfl)))))) (k_cons (k_set (j := 3) rfl rfl rfl (k_bin rfl (k_var (j := 3) rfl rfl rfl) (k_lst (k_a1 (k_ix (k_lst (k_a1 (k_var (j := 5) rfl rfl rfl) (k_a1 (k_var (j := 6) rfl rfl rfl) k_a0 rfl) rfl)) (k_bi (q := .int) (i := 10) (j := 8) rfl rfl rfl (k_r1 (k_cmp (q := .isin) (k_var (j := 5) rfl rfl rfl) (k_var (j := 3) rfl rfl rfl) rfl) k_r0 rfl)) rfl) k_a0 rfl))) rfl) k_nil) k_nil) k_nil) rfl) k_nil) rfl) (k_cons (k_ret (k_bi (q := .sorted) (i := 11) (j := 1) rfl rfl rfl (k_r1 (k_var (j := 3) rfl rfl rfl) k_r0 rfl))) k_nil)))
def n__law_agree : List Str := ["_law_lot", "_law_threes", "_law_left", "_law_group_here", "_law_name"]
theorem k__law_agree (D0 : Addr) (F : Fw) (n : Nat) : KSs (gm D0 "_law_agree" F n) ⟨n__law_agree, defScope (top 21), none⟩ (defBody (top 21)) c__law_agree :=
  (k_cons (k_ife (k_cmpT (q := .lt) (k_bi (q := .len) (i := 4) (j := 6) rfl rfl rfl (k_r1 (k_var (j := 0) rfl rfl rfl) k_r0 rfl)) k_int rfl) (k_cons (k_ret k_bl) k_nil) k_nil) (k_cons (k_set (j := 2) rfl rfl rfl (k_bi (q := .list) (i := 5) (j := 0) rfl rfl rfl (k_r1 (k_var (j := 0) rfl rfl rfl) k_r0 rfl)) rfl) (k_cons (k_ife (k_cmpT (q := .eq) (k_bi (q := .len) (i := 4) (j := 6) rfl rfl rfl (k_r1 (k_call (i := 6) rfl rfl (k_a1 (k_var (j := 0) rfl rfl rfl) (k_a1 (k_var (j := 1) rfl rfl rfl) (k_a1 (k_ix (k_var (j := 2) rfl rfl rfl) k_int rfl) k_a0 rfl) rfl) rfl)) k_r0 rfl)) (k_bi (q := .len) (i := 4) (j := 6) rfl rfl rfl (k_r1 (k_var (j := 0) rfl rfl rfl) k_r0 rfl)) rfl) (k_cons (k_ret k_bl) k_nil) k_nil) (k_cons (k_whl (k_empLT (neg := true) (k_var (j := 2) rfl rfl rfl)) (k_cons (k_set (j := 3) rfl rfl rfl (k_call (i := 6) rfl rfl (k_a1 (k_var (j := 0) rfl rfl rfl) (k_a1 (k_var (j := 1) rfl rfl rfl) (k_a1 (k_ix (k_var (j := 2) rfl rfl rfl) k_int rfl) k_a0 rfl) rfl) rfl)) rfl) (k_cons (k_ife (k_notT (k_tru (k_call (i := 7) rfl rfl (k_a1 (k_var (j := 3) rfl rfl rfl) (k_a1 (k_var (j := 1) rfl rfl rfl) k_a0 rfl) rfl)) rfl rfl)) (k_cons (k_ret k_bl) k_nil) k_nil) (k_cons (k_setLc (j := 2) (own := [("_law_name", 4)]) rfl rfl rfl rfl (by decide +kernel) (by decide +kernel) (by decide +kernel) rfl (by decide +kernel) rfl (k_seq (k_var (j := 2) rfl rfl rfl)) (k_gn (j := 1) rfl rfl rfl) (k_if1 (k_cmpT (q := .notin) (k_var (j := 1) rfl rfl rfl) (k_var (j := 2) rfl rfl rfl) rfl)) (k_var (j := 1) rfl rfl rfl)) k_nil)))) (k_cons (k_ret k_bl) k_nil)))))
def n__law_is_name : List Str := ["_law_given", "_law_sign"]
theorem k__law_is_name (D0 : Addr) (F : Fw) (n : Nat) : KSs (gm D0 "_law_is_name" F n) ⟨n__law_is_name, defScope (top 22), none⟩ (defBody (top 22)) c__law_is_name :=
  (k_cons (k_ife (k_W (k_orT (k_notT (k_tru (k_isi (i := 1) (j := 10) (k := 2) (l := 11) (k_var (j := 0) rfl rfl rfl) rfl rfl rfl rfl rfl rfl) rfl rfl)) (k_oneO (k_notT (k_chnT (q := .le) (r := .le) k_int (k_bi (q := .len) (i := 3) (j := 6) rfl rfl rfl (k_r1 (k_var (j := 0) rfl rfl rfl) k_r0 rfl)) k_int rfl rfl))))) (k_cons (k_ret k_bl) k_nil) k_nil) (k_cons (k_ret (k_cmp (q := .eq) (k_lc (own := [("_law_sign", 1)]) (by decide +kernel) (by decide +kernel) rfl (by decide +kernel) rfl (k_seq (k_var (j := 0) rfl rfl rfl)) (k_gn (j := 1) rfl rfl rfl) (k_if1 (k_cmpT (q := .notin) (k_var (j := 1) rfl rfl rfl) k_str rfl)) (k_var (j := 1) rfl rfl rfl)) (k_lst k_a0) rfl)) k_nil))
def n__law_names_told : List Str := ["_law_given", "_law_deep", "_law_found", "_law_ahead", "_law_part", "_law_mine"]
theorem k__law_names_told (D0 : Addr) (F : Fw) (n : Nat) : KSs (gm D0 "_law_names_told" F n) ⟨n__law_names_told, defScope (top 23), none⟩ (defBody (top 23)) c__law_names_told :=
  (k_cons (k_ife (k_tru (k_isi (i := 6) (j := 10) (k := 7) (l := 11) (k_var (j := 0) rfl rfl rfl) rfl rfl rfl rfl rfl rfl) rfl rfl) (k_cons (k_ret (k_ite (k_tru (k_call (i := 8) rfl rfl (k_a1 (k_var (j := 0) rfl rfl rfl) k_a0 rfl)) rfl rfl) (k_lst (k_a1 (k_var (j := 0) rfl rfl rfl) k_a0 rfl)) k_non)) k_nil) k_nil) (k_cons (k_ife (k_W (k_orT (k_notT (k_tru (k_isi (i := 6) (j := 10) (k := 9) (l := 3) (k_var (j := 0) rfl rfl rfl) rfl rfl rfl rfl rfl rfl) rfl rfl)) (k_orT (k_cmpT (q := .lt) (k_bi (q := .len) (i := 10) (j := 6) rfl rfl rfl (k_r1 (k_var (j := 0) rfl rfl rfl) k_r0 rfl)) k_int rfl) (k_oneO (k_cmpT (q := .eq) (k_var (j := 1) rfl rfl rfl) k_int rfl))))) (k_cons (k_ret k_non) k_nil) k_nil) (k_cons (k_set (j := 2) rfl rfl rfl (k_lst k_a0) rfl) (k_cons (k_set (j := 3) rfl rfl rfl k_str rfl) (k_cons (k_for (k_seq (k_var (j := 0) rfl rfl rfl)) (k_gn (j := 4) rfl rfl rfl) (k_cons (k_set (j := 5) rfl rfl rfl (k_call (i := 11) rfl rfl (k_a1 (k_var (j := 4) rfl rfl rfl) (k_a1 (k_bin rfl (k_var (j := 1) rfl rfl rfl) k_int) k_a0 rfl) rfl)) rfl) (k_cons (k_ife (k_W (k_orT (k_cmpT (q := .is) (k_var (j := 5) rfl rfl rfl) k_non rfl) (k_oneO (k_leMn (k_mnS (mx := false) (i := 12) (j := 5) rfl rfl rfl (k_var (j := 5) rfl rfl rfl) rfl) (k_var (j := 3) rfl rfl rfl) rfl)))) (k_cons (k_ret k_non) k_nil) k_nil) (k_cons (k_set (j := 3) rfl rfl rfl (k_mnS (mx := false) (i := 12) (j := 5) rfl rfl rfl (k_var (j := 5) rfl rfl rfl) rfl) rfl) (k_cons (k_set (j := 2) rfl rfl rfl (k_bin rfl (k_var (j := 2) rfl rfl rfl) (k_var (j := 5) rfl rfl rfl)) rfl) k_nil)))) rfl) (k_cons (k_ret (k_var (j := 2) rfl rfl rfl)) k_nil))))))
def n__law_is_tree_of : List Str := ["_law_given", "_law_terms", "_law_found"]
theorem k__law_is_tree_of (D0 : Addr) (F : Fw) (n : Nat) : KSs (gm D0 "_law_is_tree_of" F n) ⟨n__law_is_tree_of, defScope (top 24), none⟩ (defBody (top 24)) c__law_is_tree_of :=
  (k_cons (k_set (j := 2) rfl rfl rfl (k_call (i := 3) rfl rfl (k_a1 (k_var (j := 0) rfl rfl rfl) (k_a1 k_int k_a0 rfl) rfl)) rfl) (k_cons (k_ret (k_and (k_cmp (q := .isnot) (k_var (j := 2) rfl rfl rfl) k_non rfl) (k_one (k_cmp (q := .eq) (k_bi (q := .sorted) (i := 4) (j := 1) rfl rfl rfl (k_r1 (k_var (j := 2) rfl rfl rfl) k_r0 rfl)) (k_bi (q := .list) (i := 5) (j := 0) rfl rfl rfl (k_r1 (k_var (j := 1) rfl rfl rfl) k_r0 rfl)) rfl)))) k_nil))
def n__law_right : List Str := ["_law_threes", "_law_terms", "_law_given", "_law_one", "_law_name"]
theorem k__law_right (D0 : Addr) (F : Fw) (n : Nat) : KSs (gm D0 "_law_right" F n) ⟨n__law_right, defScope (top 25), none⟩ (defBody (top 25)) c__law_right :=
  (k_cons (k_ife (k_W (k_orT (k_notT (k_tru (k_isi (i := 3) (j := 10) (k := 4) (l := 3) (k_var (j := 2) rfl rfl rfl) rfl rfl rfl rfl rfl rfl) rfl rfl)) (k_orT (k_cmpT (q := .ne) (k_bi (q := .len) (i := 5) (j := 6) rfl rfl rfl (k_r1 (k_var (j := 2) rfl rfl rfl) k_r0 rfl)) k_int rfl) (k_oneO (k_notT (k_tru (k_isi (i := 3) (j := 10) (k := 6) (l := 11) (k_ix (k_var (j := 2) rfl rfl rfl) k_int rfl) rfl rfl rfl rfl rfl rfl) rfl rfl)))))) (k_cons (k_ret k_bl) k_nil) k_nil) (k_cons (k_ife (k_cmpT (q := .eq) (k_ix (k_var (j := 2) rfl rfl rfl) k_int rfl) k_str rfl) (k_cons (k_ret (k_and (k_call (i := 7) rfl rfl (k_a1 (k_ix (k_var (j := 2) rfl rfl rfl) k_int rfl) (k_a1 (k_var (j := 1) rfl rfl rfl) k_a0 rfl) rfl)) (k_one (k_empL (neg := false) (k_lc (own := [("_law_one", 3)]) (by decide +kernel) (by decide +kernel) rfl (by decide +kernel) rfl (k_seq (k_var (j := 0) rfl rfl rfl)) (k_gn (j := 1) rfl rfl rfl) (k_if1 (k_notT (k_tru (k_call (i := 2) rfl rfl (k_a1 (k_ix (k_var (j := 3) rfl rfl rfl) k_int rfl) (k_a1 (k_var (j := 1) rfl rfl rfl) k_a0 rfl) rfl)) rfl rfl))) (k_var (j := 1) rfl rfl rfl)))))) k_nil) k_nil) (k_cons (k_ife (k_W (k_orT (k_cmpT (q := .ne) (k_ix (k_var (j := 2) rfl rfl rfl) k_int rfl) k_str rfl) (k_orT (k_notT (k_tru (k_isi (i := 3) (j := 10) (k := 4) (l := 3) (k_ix (k_var (j := 2) rfl rfl rfl) k_int rfl) rfl rfl rfl rfl rfl rfl) rfl rfl)) (k_oneO (k_cmpT (q := .lt) (k_bi (q := .len) (i := 5) (j := 6) rfl rfl rfl (k_r1 (k_ix (k_var (j := 2) rfl rfl rfl) k_int rfl) k_r0 rfl)) k_int rfl))))) (k_cons (k_ret k_bl) k_nil) k_nil) (k_cons (k_ife (k_empLT (neg := true) (k_lc (own := [("_law_name", 4)]) (by decide +kernel) (by decide +kernel) rfl (by decide +kernel) rfl (k_seq (k_ix (k_var (j := 2) rfl rfl rfl) k_int rfl)) (k_gn (j := 1) rfl rfl rfl) (k_if1 (k_W (k_orT (k_notT (k_tru (k_isi (i := 2) (j := 10) (k := 3) (l := 11) (k_var (j := 1) rfl rfl rfl) rfl rfl rfl rfl rfl rfl) rfl rfl)) (k_oneO (k_cmpT (q := .notin) (k_var (j := 1) rfl rfl rfl) (k_var (j := 4) rfl rfl rfl) rfl))))) (k_var (j := 1) rfl rfl rfl))) (k_cons (k_ret k_bl) k_nil) k_nil) (k_cons (k_ife (k_cmpT (q := .ne) (k_sset (i := 8) (j := 1) (i2 := 9) (j2 := 2) rfl rfl rfl rfl (k_ix (k_var (j := 2) rfl rfl rfl) k_int rfl) rfl) (k_bi (q := .list) (i := 10) (j := 0) rfl rfl rfl (k_r1 (k_ix (k_var (j := 2) rfl rfl rfl) k_int rfl) k_r0 rfl)) rfl) (k_cons (k_ret k_bl) k_nil) k_nil) (k_cons (k_ret (k_cmp (q := .eq) (k_bi (q := .len) (i := 5) (j := 6) rfl rfl rfl (k_r1 (k_call (i := 11) rfl rfl (k_a1 (k_ix (k_var (j := 2) rfl rfl rfl) k_int rfl) (k_a1 (k_var (j := 0) rfl rfl rfl) (k_a1 (k_ix (k_ix (k_var (j := 2) rfl rfl rfl) k_int rfl) k_int rfl) k_a0 rfl) rfl) rfl)) k_r0 rfl)) (k_bi (q := .len) (i := 5) (j := 6) rfl rfl rfl (k_r1 (k_ix (k_var (j := 2) rfl rfl rfl) k_int rfl) k_r0 rfl)) rfl)) k_nil))))))
def n__law_chain : List Str := ["_law_pen_here", "_law_left", "_law_order", "_law_some", "_law_k", "_law_one"]
theorem k__law_chain (D0 : Addr) (F : Fw) (n : Nat) : KSs (gm D0 "_law_chain" F n) ⟨n__law_chain, defScope (top 26), none⟩ (defBody (top 26)) c__law_chain :=
  (k_cons (k_set (j := 1) rfl rfl rfl (k_call (i := 4) rfl rfl (k_a1 (k_var (j := 0) rfl rfl rfl) (k_a1 k_int k_a0 rfl) rfl)) rfl) (k_cons (k_setN (j := 2) rfl rfl rfl (k_lc (own := [("_law_k", 4)]) (by decide +kernel) (by decide +kernel) rfl (by decide +kernel) rfl (k_rng1 (i := 5) (j := 9) rfl rfl k_int rfl) (k_gn (j := 1) rfl rfl rfl) k_if0 (k_me1 (q := .pop) rfl (k_var (j := 4) rfl rfl rfl) rfl rfl (k_call (i := 2) rfl rfl (k_a1 (k_var (j := 5) rfl rfl rfl) (k_a1 (k_bi (q := .len) (i := 3) (j := 6) rfl rfl rfl (k_r1 (k_var (j := 4) rfl rfl rfl) k_r0 rfl)) k_a0 rfl) rfl)) rfl)) rfl) (k_cons (k_setLc (j := 3) (own := [("_law_k", 4)]) rfl rfl rfl rfl (by decide +kernel) (by decide +kernel) (by decide +kernel) rfl (by decide +kernel) rfl (k_rng2 (i := 5) (j := 9) rfl rfl k_int k_int rfl rfl) (k_gn (j := 1) rfl rfl rfl) k_if0 (k_tup (k_a1 (k_ix (k_var (j := 2) rfl rfl rfl) k_int rfl) (k_a1 (k_ix (k_var (j := 2) rfl rfl rfl) (k_var (j := 1) rfl rfl rfl) rfl) (k_a1 (k_ix (k_var (j := 2) rfl rfl rfl) (k_bin rfl (k_var (j := 1) rfl rfl rfl) k_int) rfl) k_a0 rfl) rfl) rfl))) (k_cons (k_ret (k_bi (q := .tupl) (i := 6) (j := 3) rfl rfl rfl (k_r1 (k_bi (q := .sorted) (i := 7) (j := 1) rfl rfl rfl (k_r1 (k_lc (own := [("_law_one", 5)]) (by decide +kernel) (by decide +kernel) rfl (by decide +kernel) rfl (k_seq (k_var (j := 3) rfl rfl rfl)) (k_gn (j := 1) rfl rfl rfl) k_if0 (k_tup (k_a1 (k_mnS (mx := false) (i := 2) (j := 5) rfl rfl rfl (k_sl (k_var (j := 1) rfl rfl rfl) k_o0 (k_o1 k_int)) rfl) (k_a1 (k_mnS (mx := true) (i := 3) (j := 4) rfl rfl rfl (k_sl (k_var (j := 1) rfl rfl rfl) k_o0 (k_o1 k_int)) rfl) (k_a1 (k_ix (k_var (j := 1) rfl rfl rfl) k_int rfl) k_a0 rfl) rfl) rfl))) k_r0 rfl)) k_r0 rfl))) k_nil))))
def n_law : List Str := ["_law_script", "_law_pen_here", "_law_turn", "_law_many", "_law_terms", "_law_threes", "_law_more", "_law_every_here", "_law_kept", "_law_found", "_law_due", "_law_own"]
theorem k_law (D0 : Addr) (F : Fw) (n : Nat) : KSs (gm D0 "law" F n) ⟨n_law, defScope (top 27), none⟩ (defBody (top 27)) (c_law D0) :=
  (k_cons (k_set (j := 1) rfl rfl rfl (k_call (i := 12) rfl rfl (k_a1 (k_var (j := 0) rfl rfl rfl) k_a0 rfl)) rfl) (k_cons (k_for (k_rng1 (i := 13) (j := 9) rfl rfl k_int rfl) (k_gn (j := 2) rfl rfl rfl) (k_cons (k_set (j := 3) rfl rfl rfl (k_ix (k_lst (k_a1 (k_bin rfl k_int (k_call (i := 14) rfl rfl (k_a1 (k_var (j := 1) rfl rfl rfl) (k_a1 k_int k_a0 rfl) rfl))) (k_a1 k_int k_a0 rfl) rfl)) (k_bi (q := .int) (i := 15) (j := 8) rfl rfl rfl (k_r1 (k_cmp (q := .eq) (k_call (i := 14) rfl rfl (k_a1 (k_var (j := 1) rfl rfl rfl) (k_a1 k_int k_a0 rfl) rfl)) k_int rfl) k_r0 rfl)) rfl) rfl) (k_cons (k_set (j := 4) rfl rfl rfl (k_bi (q := .tupl) (i := 16) (j := 3) rfl rfl rfl (k_r1 (k_call (i := 17) rfl rfl (k_a1 (k_var (j := 1) rfl rfl rfl) (k_a1 (k_var (j := 3) rfl rfl rfl) k_a0 rfl) rfl)) k_r0 rfl)) rfl) (k_cons (k_set (j := 5) rfl rfl rfl (k_call (i := 18) rfl rfl (k_a1 (k_var (j := 1) rfl rfl rfl) (k_a1 (k_var (j := 4) rfl rfl rfl) (k_a1 k_int k_a0 rfl) rfl) rfl)) rfl) (k_cons (k_set (j := 6) rfl rfl rfl (k_call (i := 19) rfl rfl (k_a1 (k_var (j := 1) rfl rfl rfl) (k_a1 (k_var (j := 4) rfl rfl rfl) k_a0 rfl) rfl)) rfl) (k_cons (k_set (j := 7) rfl rfl rfl (k_call (i := 20) rfl rfl (k_a1 (k_var (j := 5) rfl rfl rfl) (k_a1 (k_var (j := 6) rfl rfl rfl) k_a0 rfl) rfl)) rfl) (k_cons (k_ife (k_empTT (neg := true) (k_var (j := 7) rfl rfl rfl)) (k_cons (k_set (j := 8) rfl rfl rfl (k_bi (q := .repr) (i := 21) (j := 13) rfl rfl rfl (k_r1 (k_tup (k_a1 (k_var (j := 5) rfl rfl rfl) (k_a1 (k_var (j := 6) rfl rfl rfl) k_a0 rfl) rfl)) k_r0 rfl)) rfl) (k_cons (k_set (j := 9) rfl rfl rfl (k_callK (i := 22) (j := 0) (q := ⟨"agreed", "names", some (.ref D0)⟩) rfl rfl rfl rfl (k_a1 (k_var (j := 5) rfl rfl rfl) k_a0 rfl) (k_var (j := 6) rfl rfl rfl)) rfl) (k_cons (k_set (j := 10) rfl rfl rfl (k_ix (k_lst (k_a1 k_str (k_a1 k_str k_a0 rfl) rfl)) (k_bi (q := .int) (i := 15) (j := 8) rfl rfl rfl (k_r1 (k_call (i := 23) rfl rfl (k_a1 (k_var (j := 7) rfl rfl rfl) (k_a1 (k_var (j := 5) rfl rfl rfl) k_a0 rfl) rfl)) k_r0 rfl)) rfl) rfl) (k_cons (k_ife (k_W (k_orT (k_notT (k_tru (k_call (i := 24) rfl rfl (k_a1 (k_var (j := 5) rfl rfl rfl) (k_a1 (k_var (j := 7) rfl rfl rfl) (k_a1 (k_var (j := 9) rfl rfl rfl) k_a0 rfl) rfl) rfl)) rfl rfl)) (k_orT (k_cmpT (q := .ne) (k_ix (k_var (j := 9) rfl rfl rfl) k_int rfl) (k_var (j := 10) rfl rfl rfl) rfl) (k_oneO (k_cmpT (q := .ne) (k_bi (q := .repr) (i := 21) (j := 13) rfl rfl rfl (k_r1 (k_tup (k_a1 (k_var (j := 5) rfl rfl rfl) (k_a1 (k_var (j := 6) rfl rfl rfl) k_a0 rfl) rfl)) k_r0 rfl)) (k_var (j := 8) rfl rfl rfl) rfl))))) (k_cons (k_ret k_bl) k_nil) k_nil) (k_cons (k_ife (k_cmpT (q := .ne) (k_bi (q := .repr) (i := 21) (j := 13) rfl rfl rfl (k_r1 (k_callK (i := 22) (j := 0) (q := ⟨"agreed", "names", some (.ref D0)⟩) rfl rfl rfl rfl (k_a1 (k_var (j := 5) rfl rfl rfl) k_a0 rfl) (k_var (j := 6) rfl rfl rfl)) k_r0 rfl)) (k_bi (q := .repr) (i := 21) (j := 13) rfl rfl rfl (k_r1 (k_var (j := 9) rfl rfl rfl) k_r0 rfl)) rfl) (k_cons (k_ret k_bl) k_nil) k_nil) (k_cons (k_set (j := 11) rfl rfl rfl (k_call (i := 20) rfl rfl (k_a1 (k_var (j := 5) rfl rfl rfl) (k_a1 (k_tup k_a0) k_a0 rfl) rfl)) rfl) (k_cons (k_ife (k_W (k_andT (k_empTT (neg := true) (k_var (j := 11) rfl rfl rfl)) (k_oneA (k_notT (k_tru (k_call (i := 24) rfl rfl (k_a1 (k_var (j := 5) rfl rfl rfl) (k_a1 (k_var (j := 11) rfl rfl rfl) (k_a1 (k_callD (i := 22) (j := 0) (x := "agreed") (q := ⟨"agreed", "names", some (.ref D0)⟩) (d := .ref D0) rfl rfl rfl rfl rfl (k_a1 (k_var (j := 5) rfl rfl rfl) k_a0 rfl)) k_a0 rfl) rfl) rfl)) rfl rfl))))) (k_cons (k_ret k_bl) k_nil) k_nil) k_nil))))))) k_nil) k_nil)))))) rfl) (k_cons (k_set (j := 5) rfl rfl rfl (k_call (i := 25) rfl rfl (k_a1 (k_var (j := 1) rfl rfl rfl) k_a0 rfl)) rfl) (k_cons (k_ife (k_W (k_orT (k_cmpT (q := .ne) (k_ix (k_callD (i := 22) (j := 0) (x := "agreed") (q := ⟨"agreed", "names", some (.ref D0)⟩) (d := .ref D0) rfl rfl rfl rfl rfl (k_a1 (k_var (j := 5) rfl rfl rfl) k_a0 rfl)) k_int rfl) k_str rfl) (k_oneO (k_notT (k_tru (k_call (i := 24) rfl rfl (k_a1 (k_var (j := 5) rfl rfl rfl) (k_a1 (k_call (i := 20) rfl rfl (k_a1 (k_var (j := 5) rfl rfl rfl) (k_a1 (k_tup k_a0) k_a0 rfl) rfl)) (k_a1 (k_callD (i := 22) (j := 0) (x := "agreed") (q := ⟨"agreed", "names", some (.ref D0)⟩) (d := .ref D0) rfl rfl rfl rfl rfl (k_a1 (k_var (j := 5) rfl rfl rfl) k_a0 rfl)) k_a0 rfl) rfl) rfl)) rfl rfl))))) (k_cons (k_ret k_bl) k_nil) k_nil) (k_cons (k_ret (k_and (k_cmp (q := .eq) (k_callK (i := 22) (j := 0) (q := ⟨"agreed", "names", some (.ref D0)⟩) rfl rfl rfl rfl (k_a1 (k_tup k_a0) k_a0 rfl) (k_tup (k_a1 k_str k_a0 rfl))) (k_tup (k_a1 k_str (k_a1 k_str k_a0 rfl) rfl)) rfl) (k_one (k_cmp (q := .eq) (k_callK (i := 22) (j := 0) (q := ⟨"agreed", "names", some (.ref D0)⟩) rfl rfl rfl rfl (k_a1 (k_tup k_a0) k_a0 rfl) (k_tup (k_a1 k_str (k_a1 k_str k_a0 rfl) rfl))) (k_tup (k_a1 k_str (k_a1 (k_tup (k_a1 k_str (k_a1 k_str k_a0 rfl) rfl)) k_a0 rfl) rfl)) rfl)))) k_nil)))))
section
variable {P : Program} {K : PySem.W.Frag} {mg : Str → Option Value} {a D0 : Addr} {fd : FuncData}
theorem s_all_names : FnScope n_all_names ["triples", "names"] (defScope (top 1)) := ⟨rfl, rfl, rfl, by decide +kernel, rfl, by decide +kernel, by decide +kernel⟩
theorem d_all_names (F : FunD K "all_names" "all_names" (defArgs (top 1)) (defBody (top 1)) (defScope (top 1)) [] [] a fd) (h : mg "all_names" = some (.ref a)) : DefOkD (dcl D0) P K mg fns cst free (xt D0) "all_names" ⟨2, 4, (c_all_names D0)⟩ :=
  defOk ⟨_, _, _, n_all_names, ["triples", "names"], a, fd, _, F, s_all_names, rfl, rfl, by decide +kernel, F.bindsN fun _ _ _ _ _ _ us hl => (match us, hl with | [_, _], _ => rfl), h, k_all_names D0⟩
theorem s_groups_of : FnScope n_groups_of ["lot", "triples"] (defScope (top 2)) := ⟨rfl, rfl, rfl, by decide +kernel, rfl, by decide +kernel, by decide +kernel⟩
theorem d_groups_of (F : FunD K "groups_of" "groups_of" (defArgs (top 2)) (defBody (top 2)) (defScope (top 2)) [] [] a fd) (h : mg "groups_of" = some (.ref a)) : DefOkD (dcl D0) P K mg fns cst free (xt D0) "groups_of" ⟨2, 11, c_groups_of⟩ :=
  defOk ⟨_, _, _, n_groups_of, ["lot", "triples"], a, fd, _, F, s_groups_of, rfl, rfl, by decide +kernel, F.bindsN fun _ _ _ _ _ _ us hl => (match us, hl with | [_, _], _ => rfl), h, k_groups_of D0⟩
theorem s_built : FnScope n_built ["lot", "triples"] (defScope (top 3)) := ⟨rfl, rfl, rfl, by decide +kernel, rfl, by decide +kernel, by decide +kernel⟩
theorem d_built (F : FunD K "built" "built" (defArgs (top 3)) (defBody (top 3)) (defScope (top 3)) [] [] a fd) (h : mg "built" = some (.ref a)) : DefOkD (dcl D0) P K mg fns cst free (xt D0) "built" ⟨2, 7, c_built⟩ :=
  defOk ⟨_, _, _, n_built, ["lot", "triples"], a, fd, _, F, s_built, rfl, rfl, by decide +kernel, F.bindsN fun _ _ _ _ _ _ us hl => (match us, hl with | [_, _], _ => rfl), h, k_built D0⟩
theorem s_agreed : FnScope n_agreed ["triples", "names"] (defScope (top 4)) := ⟨rfl, rfl, rfl, by decide +kernel, rfl, by decide +kernel, by decide +kernel⟩
theorem d_agreed (F : FunD K "agreed" "agreed" (defArgs (top 4)) (defBody (top 4)) (defScope (top 4)) [] [("names", .ref D0)] a fd) (h : mg "agreed" = some (.ref a)) : DefOkD (dcl D0) P K mg fns cst free (xt D0) "agreed" ⟨2, 2, c_agreed⟩ := by
  have kb : KBD K fd ["triples", "names"] ⟨"agreed", "names", some (.ref D0)⟩ := kbd_of F (fun _ => rfl) (n := 1) rfl (fun _ _ _ _ _ _ us ks hl hk => match us, ks, hl, hk with | [_], [_], _, _ => ⟨_, _, _, _, _, _, rfl, rfl, rfl⟩) (fun _ _ _ _ _ _ us w hl => match us, hl with | [_], _ => rfl)
  refine ⟨_, _, _, n_agreed, ["triples", "names"], a, fd, _, _, _, F, s_agreed, rfl, rfl, by decide +kernel, ⟨fun z => absurd z (by have e : dnB (dcl D0) "agreed" = true := rfl; rw [e]; decide), fun q hq e => ?_⟩, h, k_agreed D0⟩
  simp only [dcl, List.mem_cons, List.not_mem_nil, or_false] at hq
  rcases hq with rfl <;> first | exact kb | exact absurd e (by decide)
theorem s__law_pen : FnScope n__law_pen ["_law_script"] (defScope (top 6)) := ⟨rfl, rfl, rfl, by decide +kernel, rfl, by decide +kernel, by decide +kernel⟩
theorem d__law_pen (F : FunD K "_law_pen" "_law_pen" (defArgs (top 6)) (defBody (top 6)) (defScope (top 6)) [] [] a fd) (h : mg "_law_pen" = some (.ref a)) : DefOkD (dcl D0) P K mg fns cst free (xt D0) "_law_pen" ⟨1, 1, c__law_pen⟩ :=
  defOk ⟨_, _, _, n__law_pen, ["_law_script"], a, fd, _, F, s__law_pen, rfl, rfl, by decide +kernel, F.bindsN fun _ _ _ _ _ _ us hl => (match us, hl with | [_], _ => rfl), h, k__law_pen D0⟩
theorem s__law_draw : FnScope n__law_draw ["_law_pen_here", "_law_many"] (defScope (top 7)) := ⟨rfl, rfl, rfl, by decide +kernel, rfl, by decide +kernel, by decide +kernel⟩
theorem d__law_draw (F : FunD K "_law_draw" "_law_draw" (defArgs (top 7)) (defBody (top 7)) (defScope (top 7)) [] [] a fd) (h : mg "_law_draw" = some (.ref a)) : DefOkD (dcl D0) P K mg fns cst free (xt D0) "_law_draw" ⟨2, 8, c__law_draw⟩ :=
  defOk ⟨_, _, _, n__law_draw, ["_law_pen_here", "_law_many"], a, fd, _, F, s__law_draw, rfl, rfl, by decide +kernel, F.bindsN fun _ _ _ _ _ _ us hl => (match us, hl with | [_, _], _ => rfl), h, k__law_draw D0⟩
theorem s__law_names : FnScope n__law_names ["_law_pen_here", "_law_many"] (defScope (top 8)) := ⟨rfl, rfl, rfl, by decide +kernel, rfl, by decide +kernel, by decide +kernel⟩
theorem d__law_names (F : FunD K "_law_names" "_law_names" (defArgs (top 8)) (defBody (top 8)) (defScope (top 8)) [] [] a fd) (h : mg "_law_names" = some (.ref a)) : DefOkD (dcl D0) P K mg fns cst free (xt D0) "_law_names" ⟨2, 4, c__law_names⟩ :=
  defOk ⟨_, _, _, n__law_names, ["_law_pen_here", "_law_many"], a, fd, _, F, s__law_names, rfl, rfl, by decide +kernel, F.bindsN fun _ _ _ _ _ _ us hl => (match us, hl with | [_, _], _ => rfl), h, k__law_names D0⟩
theorem s__law_least : FnScope n__law_least ["_law_tree_here"] (defScope (top 9)) := ⟨rfl, rfl, rfl, by decide +kernel, rfl, by decide +kernel, by decide +kernel⟩
theorem d__law_least (F : FunD K "_law_least" "_law_least" (defArgs (top 9)) (defBody (top 9)) (defScope (top 9)) [] [] a fd) (h : mg "_law_least" = some (.ref a)) : DefOkD (dcl D0) P K mg fns cst free (xt D0) "_law_least" ⟨1, 1, c__law_least⟩ :=
  defOk ⟨_, _, _, n__law_least, ["_law_tree_here"], a, fd, _, F, s__law_least, rfl, rfl, by decide +kernel, F.bindsN fun _ _ _ _ _ _ us hl => (match us, hl with | [_], _ => rfl), h, k__law_least D0⟩
theorem s__law_fork : FnScope n__law_fork ["_law_parts"] (defScope (top 10)) := ⟨rfl, rfl, rfl, by decide +kernel, rfl, by decide +kernel, by decide +kernel⟩
theorem d__law_fork (F : FunD K "_law_fork" "_law_fork" (defArgs (top 10)) (defBody (top 10)) (defScope (top 10)) [] [] a fd) (h : mg "_law_fork" = some (.ref a)) : DefOkD (dcl D0) P K mg fns cst free (xt D0) "_law_fork" ⟨1, 5, c__law_fork⟩ :=
  defOk ⟨_, _, _, n__law_fork, ["_law_parts"], a, fd, _, F, s__law_fork, rfl, rfl, by decide +kernel, F.bindsN fun _ _ _ _ _ _ us hl => (match us, hl with | [_], _ => rfl), h, k__law_fork D0⟩
theorem s__law_tree : FnScope n__law_tree ["_law_pen_here", "_law_terms", "_law_wide"] (defScope (top 11)) := ⟨rfl, rfl, rfl, by decide +kernel, rfl, by decide +kernel, by decide +kernel⟩
theorem d__law_tree (F : FunD K "_law_tree" "_law_tree" (defArgs (top 11)) (defBody (top 11)) (defScope (top 11)) [] [] a fd) (h : mg "_law_tree" = some (.ref a)) : DefOkD (dcl D0) P K mg fns cst free (xt D0) "_law_tree" ⟨3, 7, c__law_tree⟩ :=
  defOk ⟨_, _, _, n__law_tree, ["_law_pen_here", "_law_terms", "_law_wide"], a, fd, _, F, s__law_tree, rfl, rfl, by decide +kernel, F.bindsN fun _ _ _ _ _ _ us hl => (match us, hl with | [_, _, _], _ => rfl), h, k__law_tree D0⟩
theorem s__law_below : FnScope n__law_below ["_law_tree_here"] (defScope (top 12)) := ⟨rfl, rfl, rfl, by decide +kernel, rfl, by decide +kernel, by decide +kernel⟩
theorem d__law_below (F : FunD K "_law_below" "_law_below" (defArgs (top 12)) (defBody (top 12)) (defScope (top 12)) [] [] a fd) (h : mg "_law_below" = some (.ref a)) : DefOkD (dcl D0) P K mg fns cst free (xt D0) "_law_below" ⟨1, 4, c__law_below⟩ :=
  defOk ⟨_, _, _, n__law_below, ["_law_tree_here"], a, fd, _, F, s__law_below, rfl, rfl, by decide +kernel, F.bindsN fun _ _ _ _ _ _ us hl => (match us, hl with | [_], _ => rfl), h, k__law_below D0⟩
theorem s__law_lots : FnScope n__law_lots ["_law_tree_here"] (defScope (top 13)) := ⟨rfl, rfl, rfl, by decide +kernel, rfl, by decide +kernel, by decide +kernel⟩
theorem d__law_lots (F : FunD K "_law_lots" "_law_lots" (defArgs (top 13)) (defBody (top 13)) (defScope (top 13)) [] [] a fd) (h : mg "_law_lots" = some (.ref a)) : DefOkD (dcl D0) P K mg fns cst free (xt D0) "_law_lots" ⟨1, 4, c__law_lots⟩ :=
  defOk ⟨_, _, _, n__law_lots, ["_law_tree_here"], a, fd, _, F, s__law_lots, rfl, rfl, by decide +kernel, F.bindsN fun _ _ _ _ _ _ us hl => (match us, hl with | [_], _ => rfl), h, k__law_lots D0⟩
theorem s__law_has : FnScope n__law_has ["_law_tree_here", "_law_triple"] (defScope (top 14)) := ⟨rfl, rfl, rfl, by decide +kernel, rfl, by decide +kernel, by decide +kernel⟩
theorem d__law_has (F : FunD K "_law_has" "_law_has" (defArgs (top 14)) (defBody (top 14)) (defScope (top 14)) [] [] a fd) (h : mg "_law_has" = some (.ref a)) : DefOkD (dcl D0) P K mg fns cst free (xt D0) "_law_has" ⟨2, 3, c__law_has⟩ :=
  defOk ⟨_, _, _, n__law_has, ["_law_tree_here", "_law_triple"], a, fd, _, F, s__law_has, rfl, rfl, by decide +kernel, F.bindsN fun _ _ _ _ _ _ us hl => (match us, hl with | [_, _], _ => rfl), h, k__law_has D0⟩
theorem s__law_all_of : FnScope n__law_all_of ["_law_terms"] (defScope (top 15)) := ⟨rfl, rfl, rfl, by decide +kernel, rfl, by decide +kernel, by decide +kernel⟩
theorem d__law_all_of (F : FunD K "_law_all_of" "_law_all_of" (defArgs (top 15)) (defBody (top 15)) (defScope (top 15)) [] [] a fd) (h : mg "_law_all_of" = some (.ref a)) : DefOkD (dcl D0) P K mg fns cst free (xt D0) "_law_all_of" ⟨1, 5, c__law_all_of⟩ :=
  defOk ⟨_, _, _, n__law_all_of, ["_law_terms"], a, fd, _, F, s__law_all_of, rfl, rfl, by decide +kernel, F.bindsN fun _ _ _ _ _ _ us hl => (match us, hl with | [_], _ => rfl), h, k__law_all_of D0⟩
theorem s__law_any_triple : FnScope n__law_any_triple ["_law_pen_here", "_law_terms"] (defScope (top 16)) := ⟨rfl, rfl, rfl, by decide +kernel, rfl, by decide +kernel, by decide +kernel⟩
theorem d__law_any_triple (F : FunD K "_law_any_triple" "_law_any_triple" (defArgs (top 16)) (defBody (top 16)) (defScope (top 16)) [] [] a fd) (h : mg "_law_any_triple" = some (.ref a)) : DefOkD (dcl D0) P K mg fns cst free (xt D0) "_law_any_triple" ⟨2, 5, c__law_any_triple⟩ :=
  defOk ⟨_, _, _, n__law_any_triple, ["_law_pen_here", "_law_terms"], a, fd, _, F, s__law_any_triple, rfl, rfl, by decide +kernel, F.bindsN fun _ _ _ _ _ _ us hl => (match us, hl with | [_, _], _ => rfl), h, k__law_any_triple D0⟩
theorem s__law_triples : FnScope n__law_triples ["_law_pen_here", "_law_terms", "_law_most"] (defScope (top 17)) := ⟨rfl, rfl, rfl, by decide +kernel, rfl, by decide +kernel, by decide +kernel⟩
theorem d__law_triples (F : FunD K "_law_triples" "_law_triples" (defArgs (top 17)) (defBody (top 17)) (defScope (top 17)) [] [] a fd) (h : mg "_law_triples" = some (.ref a)) : DefOkD (dcl D0) P K mg fns cst free (xt D0) "_law_triples" ⟨3, 12, c__law_triples⟩ :=
  defOk ⟨_, _, _, n__law_triples, ["_law_pen_here", "_law_terms", "_law_most"], a, fd, _, F, s__law_triples, rfl, rfl, by decide +kernel, F.bindsN fun _ _ _ _ _ _ us hl => (match us, hl with | [_, _, _], _ => rfl), h, k__law_triples D0⟩
theorem s__law_beside : FnScope n__law_beside ["_law_pen_here", "_law_terms"] (defScope (top 18)) := ⟨rfl, rfl, rfl, by decide +kernel, rfl, by decide +kernel, by decide +kernel⟩
theorem d__law_beside (F : FunD K "_law_beside" "_law_beside" (defArgs (top 18)) (defBody (top 18)) (defScope (top 18)) [] [] a fd) (h : mg "_law_beside" = some (.ref a)) : DefOkD (dcl D0) P K mg fns cst free (xt D0) "_law_beside" ⟨2, 4, c__law_beside⟩ :=
  defOk ⟨_, _, _, n__law_beside, ["_law_pen_here", "_law_terms"], a, fd, _, F, s__law_beside, rfl, rfl, by decide +kernel, F.bindsN fun _ _ _ _ _ _ us hl => (match us, hl with | [_, _], _ => rfl), h, k__law_beside D0⟩
theorem s__law_every : FnScope n__law_every ["_law_threes", "_law_more"] (defScope (top 19)) := ⟨rfl, rfl, rfl, by decide +kernel, rfl, by decide +kernel, by decide +kernel⟩
theorem d__law_every (F : FunD K "_law_every" "_law_every" (defArgs (top 19)) (defBody (top 19)) (defScope (top 19)) [] [] a fd) (h : mg "_law_every" = some (.ref a)) : DefOkD (dcl D0) P K mg fns cst free (xt D0) "_law_every" ⟨2, 4, c__law_every⟩ :=
  defOk ⟨_, _, _, n__law_every, ["_law_threes", "_law_more"], a, fd, _, F, s__law_every, rfl, rfl, by decide +kernel, F.bindsN fun _ _ _ _ _ _ us hl => (match us, hl with | [_, _], _ => rfl), h, k__law_every D0⟩
theorem s__law_group : FnScope n__law_group ["_law_lot", "_law_threes", "_law_name"] (defScope (top 20)) := ⟨rfl, rfl, rfl, by decide +kernel, rfl, by decide +kernel, by decide +kernel⟩
theorem d__law_group (F : FunD K "_law_group" "_law_group" (defArgs (top 20)) (defBody (top 20)) (defScope (top 20)) [] [] a fd) (h : mg "_law_group" = some (.ref a)) : DefOkD (dcl D0) P K mg fns cst free (xt D0) "_law_group" ⟨3, 8, c__law_group⟩ :=
  defOk ⟨_, _, _, n__law_group, ["_law_lot", "_law_threes", "_law_name"], a, fd, _, F, s__law_group, rfl, rfl, by decide +kernel, F.bindsN fun _ _ _ _ _ _ us hl => (match us, hl with | [_, _, _], _ => rfl), h, k__law_group D0⟩
theorem s__law_agree : FnScope n__law_agree ["_law_lot", "_law_threes"] (defScope (top 21)) := ⟨rfl, rfl, rfl, by decide +kernel, rfl, by decide +kernel, by decide +kernel⟩
theorem d__law_agree (F : FunD K "_law_agree" "_law_agree" (defArgs (top 21)) (defBody (top 21)) (defScope (top 21)) [] [] a fd) (h : mg "_law_agree" = some (.ref a)) : DefOkD (dcl D0) P K mg fns cst free (xt D0) "_law_agree" ⟨2, 5, c__law_agree⟩ :=
  defOk ⟨_, _, _, n__law_agree, ["_law_lot", "_law_threes"], a, fd, _, F, s__law_agree, rfl, rfl, by decide +kernel, F.bindsN fun _ _ _ _ _ _ us hl => (match us, hl with | [_, _], _ => rfl), h, k__law_agree D0⟩
theorem s__law_is_name : FnScope n__law_is_name ["_law_given"] (defScope (top 22)) := ⟨rfl, rfl, rfl, by decide +kernel, rfl, by decide +kernel, by decide +kernel⟩
theorem d__law_is_name (F : FunD K "_law_is_name" "_law_is_name" (defArgs (top 22)) (defBody (top 22)) (defScope (top 22)) [] [] a fd) (h : mg "_law_is_name" = some (.ref a)) : DefOkD (dcl D0) P K mg fns cst free (xt D0) "_law_is_name" ⟨1, 2, c__law_is_name⟩ :=
  defOk ⟨_, _, _, n__law_is_name, ["_law_given"], a, fd, _, F, s__law_is_name, rfl, rfl, by decide +kernel, F.bindsN fun _ _ _ _ _ _ us hl => (match us, hl with | [_], _ => rfl), h, k__law_is_name D0⟩
theorem s__law_names_told : FnScope n__law_names_told ["_law_given", "_law_deep"] (defScope (top 23)) := ⟨rfl, rfl, rfl, by decide +kernel, rfl, by decide +kernel, by decide +kernel⟩
theorem d__law_names_told (F : FunD K "_law_names_told" "_law_names_told" (defArgs (top 23)) (defBody (top 23)) (defScope (top 23)) [] [] a fd) (h : mg "_law_names_told" = some (.ref a)) : DefOkD (dcl D0) P K mg fns cst free (xt D0) "_law_names_told" ⟨2, 6, c__law_names_told⟩ :=
  defOk ⟨_, _, _, n__law_names_told, ["_law_given", "_law_deep"], a, fd, _, F, s__law_names_told, rfl, rfl, by decide +kernel, F.bindsN fun _ _ _ _ _ _ us hl => (match us, hl with | [_, _], _ => rfl), h, k__law_names_told D0⟩
theorem s__law_is_tree_of : FnScope n__law_is_tree_of ["_law_given", "_law_terms"] (defScope (top 24)) := ⟨rfl, rfl, rfl, by decide +kernel, rfl, by decide +kernel, by decide +kernel⟩
theorem d__law_is_tree_of (F : FunD K "_law_is_tree_of" "_law_is_tree_of" (defArgs (top 24)) (defBody (top 24)) (defScope (top 24)) [] [] a fd) (h : mg "_law_is_tree_of" = some (.ref a)) : DefOkD (dcl D0) P K mg fns cst free (xt D0) "_law_is_tree_of" ⟨2, 3, c__law_is_tree_of⟩ :=
  defOk ⟨_, _, _, n__law_is_tree_of, ["_law_given", "_law_terms"], a, fd, _, F, s__law_is_tree_of, rfl, rfl, by decide +kernel, F.bindsN fun _ _ _ _ _ _ us hl => (match us, hl with | [_, _], _ => rfl), h, k__law_is_tree_of D0⟩
theorem s__law_right : FnScope n__law_right ["_law_threes", "_law_terms", "_law_given"] (defScope (top 25)) := ⟨rfl, rfl, rfl, by decide +kernel, rfl, by decide +kernel, by decide +kernel⟩
theorem d__law_right (F : FunD K "_law_right" "_law_right" (defArgs (top 25)) (defBody (top 25)) (defScope (top 25)) [] [] a fd) (h : mg "_law_right" = some (.ref a)) : DefOkD (dcl D0) P K mg fns cst free (xt D0) "_law_right" ⟨3, 5, c__law_right⟩ :=
  defOk ⟨_, _, _, n__law_right, ["_law_threes", "_law_terms", "_law_given"], a, fd, _, F, s__law_right, rfl, rfl, by decide +kernel, F.bindsN fun _ _ _ _ _ _ us hl => (match us, hl with | [_, _, _], _ => rfl), h, k__law_right D0⟩
theorem s__law_chain : FnScope n__law_chain ["_law_pen_here"] (defScope (top 26)) := ⟨rfl, rfl, rfl, by decide +kernel, rfl, by decide +kernel, by decide +kernel⟩
theorem d__law_chain (F : FunD K "_law_chain" "_law_chain" (defArgs (top 26)) (defBody (top 26)) (defScope (top 26)) [] [] a fd) (h : mg "_law_chain" = some (.ref a)) : DefOkD (dcl D0) P K mg fns cst free (xt D0) "_law_chain" ⟨1, 6, c__law_chain⟩ :=
  defOk ⟨_, _, _, n__law_chain, ["_law_pen_here"], a, fd, _, F, s__law_chain, rfl, rfl, by decide +kernel, F.bindsN fun _ _ _ _ _ _ us hl => (match us, hl with | [_], _ => rfl), h, k__law_chain D0⟩
theorem s_law : FnScope n_law ["_law_script"] (defScope (top 27)) := ⟨rfl, rfl, rfl, by decide +kernel, rfl, by decide +kernel, by decide +kernel⟩
theorem d_law (F : FunD K "law" "law" (defArgs (top 27)) (defBody (top 27)) (defScope (top 27)) [] [] a fd) (h : mg "law" = some (.ref a)) : DefOkD (dcl D0) P K mg fns cst free (xt D0) "law" ⟨1, 12, (c_law D0)⟩ :=
  defOk ⟨_, _, _, n_law, ["_law_script"], a, fd, _, F, s_law, rfl, rfl, by decide +kernel, F.bindsN fun _ _ _ _ _ _ us hl => (match us, hl with | [_], _ => rfl), h, k_law D0⟩
end
theorem defs {P : Program} {K : PySem.W.Frag} {h : Heap} {mg : Str → Option Value} (X : K.In h) (M : h.Ns mainGlobals mg) (c : He.SaysD fas dfs K) : ∀ (f : Nat) (x : Str), fns[f]? = some x → ∃ b, (bodies (kwAt "agreed" "names" K))[f]? = some b ∧ DefOkD (dcl (kwAt "agreed" "names" K)) P K mg fns cst free (xt (kwAt "agreed" "names" K)) x b := by
  obtain ⟨e0, F0⟩ := c.def_ 0 (d := ⟨("all_names", none), "all_names", "all_names", defArgs (top 1), defBody (top 1), defScope (top 1), [], []⟩) rfl
  obtain ⟨e1, F1⟩ := c.def_ 1 (d := ⟨("groups_of", none), "groups_of", "groups_of", defArgs (top 2), defBody (top 2), defScope (top 2), [], []⟩) rfl
  obtain ⟨e2, F2⟩ := c.def_ 2 (d := ⟨("built", none), "built", "built", defArgs (top 3), defBody (top 3), defScope (top 3), [], []⟩) rfl
  obtain ⟨e3, F3⟩ := c.def_ 3 (d := ⟨("agreed", none), "agreed", "agreed", defArgs (top 4), defBody (top 4), defScope (top 4), [], [("names", .adr (kwAt "agreed" "names"))]⟩) rfl
  obtain ⟨e4, F4⟩ := c.def_ 4 (d := ⟨("_law_pen", none), "_law_pen", "_law_pen", defArgs (top 6), defBody (top 6), defScope (top 6), [], []⟩) rfl
  obtain ⟨e5, F5⟩ := c.def_ 5 (d := ⟨("_law_draw", none), "_law_draw", "_law_draw", defArgs (top 7), defBody (top 7), defScope (top 7), [], []⟩) rfl
  obtain ⟨e6, F6⟩ := c.def_ 6 (d := ⟨("_law_names", none), "_law_names", "_law_names", defArgs (top 8), defBody (top 8), defScope (top 8), [], []⟩) rfl
  obtain ⟨e7, F7⟩ := c.def_ 7 (d := ⟨("_law_least", none), "_law_least", "_law_least", defArgs (top 9), defBody (top 9), defScope (top 9), [], []⟩) rfl
  obtain ⟨e8, F8⟩ := c.def_ 8 (d := ⟨("_law_fork", none), "_law_fork", "_law_fork", defArgs (top 10), defBody (top 10), defScope (top 10), [], []⟩) rfl
  obtain ⟨e9, F9⟩ := c.def_ 9 (d := ⟨("_law_tree", none), "_law_tree", "_law_tree", defArgs (top 11), defBody (top 11), defScope (top 11), [], []⟩) rfl
  obtain ⟨e10, F10⟩ := c.def_ 10 (d := ⟨("_law_below", none), "_law_below", "_law_below", defArgs (top 12), defBody (top 12), defScope (top 12), [], []⟩) rfl
  obtain ⟨e11, F11⟩ := c.def_ 11 (d := ⟨("_law_lots", none), "_law_lots", "_law_lots", defArgs (top 13), defBody (top 13), defScope (top 13), [], []⟩) rfl
  obtain ⟨e12, F12⟩ := c.def_ 12 (d := ⟨("_law_has", none), "_law_has", "_law_has", defArgs (top 14), defBody (top 14), defScope (top 14), [], []⟩) rfl
  obtain ⟨e13, F13⟩ := c.def_ 13 (d := ⟨("_law_all_of", none), "_law_all_of", "_law_all_of", defArgs (top 15), defBody (top 15), defScope (top 15), [], []⟩) rfl
  obtain ⟨e14, F14⟩ := c.def_ 14 (d := ⟨("_law_any_triple", none), "_law_any_triple", "_law_any_triple", defArgs (top 16), defBody (top 16), defScope (top 16), [], []⟩) rfl
  obtain ⟨e15, F15⟩ := c.def_ 15 (d := ⟨("_law_triples", none), "_law_triples", "_law_triples", defArgs (top 17), defBody (top 17), defScope (top 17), [], []⟩) rfl
  obtain ⟨e16, F16⟩ := c.def_ 16 (d := ⟨("_law_beside", none), "_law_beside", "_law_beside", defArgs (top 18), defBody (top 18), defScope (top 18), [], []⟩) rfl
  obtain ⟨e17, F17⟩ := c.def_ 17 (d := ⟨("_law_every", none), "_law_every", "_law_every", defArgs (top 19), defBody (top 19), defScope (top 19), [], []⟩) rfl
  obtain ⟨e18, F18⟩ := c.def_ 18 (d := ⟨("_law_group", none), "_law_group", "_law_group", defArgs (top 20), defBody (top 20), defScope (top 20), [], []⟩) rfl
  obtain ⟨e19, F19⟩ := c.def_ 19 (d := ⟨("_law_agree", none), "_law_agree", "_law_agree", defArgs (top 21), defBody (top 21), defScope (top 21), [], []⟩) rfl
  obtain ⟨e20, F20⟩ := c.def_ 20 (d := ⟨("_law_is_name", none), "_law_is_name", "_law_is_name", defArgs (top 22), defBody (top 22), defScope (top 22), [], []⟩) rfl
  obtain ⟨e21, F21⟩ := c.def_ 21 (d := ⟨("_law_names_told", none), "_law_names_told", "_law_names_told", defArgs (top 23), defBody (top 23), defScope (top 23), [], []⟩) rfl
  obtain ⟨e22, F22⟩ := c.def_ 22 (d := ⟨("_law_is_tree_of", none), "_law_is_tree_of", "_law_is_tree_of", defArgs (top 24), defBody (top 24), defScope (top 24), [], []⟩) rfl
  obtain ⟨e23, F23⟩ := c.def_ 23 (d := ⟨("_law_right", none), "_law_right", "_law_right", defArgs (top 25), defBody (top 25), defScope (top 25), [], []⟩) rfl
  obtain ⟨e24, F24⟩ := c.def_ 24 (d := ⟨("_law_chain", none), "_law_chain", "_law_chain", defArgs (top 26), defBody (top 26), defScope (top 26), [], []⟩) rfl
  obtain ⟨e25, F25⟩ := c.def_ 25 (d := ⟨("law", none), "law", "law", defArgs (top 27), defBody (top 27), defScope (top 27), [], []⟩) rfl
  intro f x e
  have e : ("all_names" :: "groups_of" :: "built" :: "agreed" :: "_law_pen" :: "_law_draw" :: "_law_names" :: "_law_least" :: "_law_fork" :: "_law_tree" :: "_law_below" :: "_law_lots" :: "_law_has" :: "_law_all_of" :: "_law_any_triple" :: "_law_triples" :: "_law_beside" :: "_law_every" :: "_law_group" :: "_law_agree" :: "_law_is_name" :: "_law_names_told" :: "_law_is_tree_of" :: "_law_right" :: "_law_chain" :: "law" :: [] : List Str)[f]? = some x := e
  show ∃ b, (⟨2, 4, (c_all_names (kwAt "agreed" "names" K))⟩ :: ⟨2, 11, c_groups_of⟩ :: ⟨2, 7, c_built⟩ :: ⟨2, 2, c_agreed⟩ :: ⟨1, 1, c__law_pen⟩ :: ⟨2, 8, c__law_draw⟩ :: ⟨2, 4, c__law_names⟩ :: ⟨1, 1, c__law_least⟩ :: ⟨1, 5, c__law_fork⟩ :: ⟨3, 7, c__law_tree⟩ :: ⟨1, 4, c__law_below⟩ :: ⟨1, 4, c__law_lots⟩ :: ⟨2, 3, c__law_has⟩ :: ⟨1, 5, c__law_all_of⟩ :: ⟨2, 5, c__law_any_triple⟩ :: ⟨3, 12, c__law_triples⟩ :: ⟨2, 4, c__law_beside⟩ :: ⟨2, 4, c__law_every⟩ :: ⟨3, 8, c__law_group⟩ :: ⟨2, 5, c__law_agree⟩ :: ⟨1, 2, c__law_is_name⟩ :: ⟨2, 6, c__law_names_told⟩ :: ⟨2, 3, c__law_is_tree_of⟩ :: ⟨3, 5, c__law_right⟩ :: ⟨1, 6, c__law_chain⟩ :: ⟨1, 12, (c_law (kwAt "agreed" "names" K))⟩ :: [] : List Fn)[f]? = some b ∧ _
  match f with
  | 0 => cases e; exact ⟨_, rfl, d_all_names F0 (He.glo_ok X M (c.fact 0 (f := .glo "all_names") rfl))⟩
  | 1 => cases e; exact ⟨_, rfl, d_groups_of F1 (He.glo_ok X M (c.fact 1 (f := .glo "groups_of") rfl))⟩
  | 2 => cases e; exact ⟨_, rfl, d_built F2 (He.glo_ok X M (c.fact 2 (f := .glo "built") rfl))⟩
  | 3 => cases e; exact ⟨_, rfl, d_agreed F3 (He.glo_ok X M (c.fact 3 (f := .glo "agreed") rfl))⟩
  | 4 => cases e; exact ⟨_, rfl, d__law_pen F4 (He.glo_ok X M (c.fact 4 (f := .glo "_law_pen") rfl))⟩
  | 5 => cases e; exact ⟨_, rfl, d__law_draw F5 (He.glo_ok X M (c.fact 5 (f := .glo "_law_draw") rfl))⟩
  | 6 => cases e; exact ⟨_, rfl, d__law_names F6 (He.glo_ok X M (c.fact 6 (f := .glo "_law_names") rfl))⟩
  | 7 => cases e; exact ⟨_, rfl, d__law_least F7 (He.glo_ok X M (c.fact 7 (f := .glo "_law_least") rfl))⟩
  | 8 => cases e; exact ⟨_, rfl, d__law_fork F8 (He.glo_ok X M (c.fact 8 (f := .glo "_law_fork") rfl))⟩
  | 9 => cases e; exact ⟨_, rfl, d__law_tree F9 (He.glo_ok X M (c.fact 9 (f := .glo "_law_tree") rfl))⟩
  | 10 => cases e; exact ⟨_, rfl, d__law_below F10 (He.glo_ok X M (c.fact 10 (f := .glo "_law_below") rfl))⟩
  | 11 => cases e; exact ⟨_, rfl, d__law_lots F11 (He.glo_ok X M (c.fact 11 (f := .glo "_law_lots") rfl))⟩
  | 12 => cases e; exact ⟨_, rfl, d__law_has F12 (He.glo_ok X M (c.fact 12 (f := .glo "_law_has") rfl))⟩
  | 13 => cases e; exact ⟨_, rfl, d__law_all_of F13 (He.glo_ok X M (c.fact 13 (f := .glo "_law_all_of") rfl))⟩
  | 14 => cases e; exact ⟨_, rfl, d__law_any_triple F14 (He.glo_ok X M (c.fact 14 (f := .glo "_law_any_triple") rfl))⟩
  | 15 => cases e; exact ⟨_, rfl, d__law_triples F15 (He.glo_ok X M (c.fact 15 (f := .glo "_law_triples") rfl))⟩
  | 16 => cases e; exact ⟨_, rfl, d__law_beside F16 (He.glo_ok X M (c.fact 16 (f := .glo "_law_beside") rfl))⟩
  | 17 => cases e; exact ⟨_, rfl, d__law_every F17 (He.glo_ok X M (c.fact 17 (f := .glo "_law_every") rfl))⟩
  | 18 => cases e; exact ⟨_, rfl, d__law_group F18 (He.glo_ok X M (c.fact 18 (f := .glo "_law_group") rfl))⟩
  | 19 => cases e; exact ⟨_, rfl, d__law_agree F19 (He.glo_ok X M (c.fact 19 (f := .glo "_law_agree") rfl))⟩
  | 20 => cases e; exact ⟨_, rfl, d__law_is_name F20 (He.glo_ok X M (c.fact 20 (f := .glo "_law_is_name") rfl))⟩
  | 21 => cases e; exact ⟨_, rfl, d__law_names_told F21 (He.glo_ok X M (c.fact 21 (f := .glo "_law_names_told") rfl))⟩
  | 22 => cases e; exact ⟨_, rfl, d__law_is_tree_of F22 (He.glo_ok X M (c.fact 22 (f := .glo "_law_is_tree_of") rfl))⟩
  | 23 => cases e; exact ⟨_, rfl, d__law_right F23 (He.glo_ok X M (c.fact 23 (f := .glo "_law_right") rfl))⟩
  | 24 => cases e; exact ⟨_, rfl, d__law_chain F24 (He.glo_ok X M (c.fact 24 (f := .glo "_law_chain") rfl))⟩
  | 25 => cases e; exact ⟨_, rfl, d_law F25 (He.glo_ok X M (c.fact 25 (f := .glo "law") rfl))⟩
  | f + 26 => cases e
theorem frees {K : PySem.W.Frag} {h : Heap} {mg : Str → Option Value} (X : K.In h) (M : h.Ns mainGlobals mg) (c : He.SaysD fas dfs K) : ∀ x ∈ free, mg x = none := by
  have all : ∀ x ∈ (["list", "sorted", "set", "tuple", "max", "min", "len", "abs", "int", "range", "isinstance", "str", "enumerate", "repr"] : List Str), mg x = none := by
    simp only [List.forall_mem_cons]
    exact ⟨He.free_ok X M (c.fact 26 (f := .free "list") rfl), He.free_ok X M (c.fact 27 (f := .free "sorted") rfl), He.free_ok X M (c.fact 28 (f := .free "set") rfl), He.free_ok X M (c.fact 29 (f := .free "tuple") rfl), He.free_ok X M (c.fact 30 (f := .free "max") rfl), He.free_ok X M (c.fact 31 (f := .free "min") rfl), He.free_ok X M (c.fact 32 (f := .free "len") rfl), He.free_ok X M (c.fact 33 (f := .free "abs") rfl), He.free_ok X M (c.fact 34 (f := .free "int") rfl), He.free_ok X M (c.fact 35 (f := .free "range") rfl), He.free_ok X M (c.fact 36 (f := .free "isinstance") rfl), He.free_ok X M (c.fact 37 (f := .free "str") rfl), He.free_ok X M (c.fact 38 (f := .free "enumerate") rfl), He.free_ok X M (c.fact 39 (f := .free "repr") rfl), fun _ z => nomatch z⟩
  exact all
theorem csts {K : PySem.W.Frag} {h : Heap} {mg : Str → Option Value} (X : K.In h) (M : h.Ns mainGlobals mg) (c : He.SaysD fas dfs K) : ∀ x d, (x, d) ∈ cst → ∃ v u, mg x = some u ∧ RelV v u ∧ ∀ H, RD K H d v := by
  have all : ∀ y ∈ ([] : List (Str × D)), ∃ v u, mg y.1 = some u ∧ RelV v u ∧ ∀ H, RD K H y.2 v := by
    intro y z; nomatch z
  exact fun x d z => all (x, d) z
def law_ix : Nat := 25
theorem xts {P : Program} {w : World} {K : PySem.W.Frag} {base : Heap} {mg : Str → Option Value} {D0 : Addr} (he : ∀ P ∈ [D0], TupK K P []) : XtOk P w K mg base (bodies D0) (dcl D0) fns [] (xt D0) :=
  fun _ _ _ _ _ _ _ _ _ _ _ _ _ _ _ _ _ _ _ => he
/-- what is left: the law in plain terms -/
def Left (depth : Nat) : Prop := ∀ (D0 : Addr) (ns : List Int), ns.length ≤ 63 → W (bodies D0) (depth + 1) law_ix [.fz (ns.map D.int)] (fun _ => none) fun r _ => r = .v (.bl true)
theorem holds_of {depth : Nat} (room : Room (depth + 3) callerA) (left : Left depth) : PySem.Challenge.rw_joinedtrees_k09_trees_of_triples.Holds := by
  w_on; o_law
  refine HandSHeadRun.head_any (r := PySem.W.OpenLaw.row PySem.Challenge.rw_joinedtrees_k09_trees_of_triples) (q := PySem.W.view (PySem.W.OpenLaw.row PySem.Challenge.rw_joinedtrees_k09_trees_of_triples).prog [27]) (H := hk) (ob := ob) (M := 12000) (loose := loose) (d := HandSHeadRun.topDef (PySem.W.OpenLaw.row PySem.Challenge.rw_joinedtrees_k09_trees_of_triples).prog 27) (kwd := []) ob_eq
    (by kernel_rfl) (fun s => by kernel_rfl) run (by kernel_rfl) (by kernel_rfl) (by kernel_rfl) (by rfl) (by first | assumption | decide +kernel) (by decide +kernel) ⟨rfl, rfl, rfl, rfl, rfl, by decide +kernel⟩ ?hw ?hc
  case hw => w_witness2
  case hc =>
    refine end_walk (l := PySem.Challenge.rw_joinedtrees_k09_trees_of_triples) (n := 63) (k := depth + 3) (x := "_law_script") rfl (by decide) (by kernel_rfl) room ?_
    intro w mg fa h Y M hmg0
    obtain ⟨K, KX, cX⟩ := Y
    have c : He.SaysD fas dfs K := congrArg (fun z : He.AlT => z.1) cX.t
    have hmg : mg ("law" : Str) = some (.ref fa) := by
      have e : (HandSHeadRun.topDef (PySem.W.OpenLaw.row PySem.Challenge.rw_joinedtrees_k09_trees_of_triples).prog 27).name = ("law" : Str) := by kernel_rfl
      rw [← e]
      exact hmg0
    obtain ⟨fd, F⟩ := c.def_ 25 (d := ⟨("law", none), "law", "law", defArgs (top 27), defBody (top 27), defScope (top 27), [], []⟩) rfl
    have e := hmg.symm.trans (He.glo_ok KX M (c.fact 25 (f := .glo "law") rfl))
    cases e
    have b := FunD.bindsA (ps := ["_law_script"]) F fun _ _ _ _ _ _ us hl => match us, hl with | [_], _ => rfl
    have m : ex K = true := cX.more
    have he : ∀ P ∈ [(kwAt "agreed" "names" K)], TupK K P [] := fun P hp => by rw [List.mem_singleton.mp hp]; exact emB_ok m
    exact ⟨K, fd, W (bodies (kwAt "agreed" "names" K)) (depth + 1) law_ix, KX, fun s v => b s [v] rfl, left _, fun base _ Mb => law_ok (T := bodies (kwAt "agreed" "names" K)) (rx := []) (f := law_ix) (defs KX M c) (fun _ _ z => nomatch z) (frees KX M c) (csts KX M c) (xts he) rfl F s_law rfl rfl (by decide +kernel) hmg (k_law _)⟩
end Dp_k09
set_option maxRecDepth 100000
set_option maxHeartbeats 1000000
namespace DP
open PySem L2
section
variable {F : Fw} {ρ : Env} {S : Sto} {Q : PR} {a b c e i o : E} {es cs' : List E} {cs : List C}
/-! expressions -/
theorem r_var {i : Nat} {d : D} (h : ρ[i]? = some (some d)) (q : Q (.v d) S) : wE F (.var i) ρ S Q := ⟨d, h, q⟩
theorem r_cst {d : D} (q : Q (.v d) S) : wE F (.cst d) ρ S Q := q
theorem r_glo {x : Str} {d : D} (q : Q (.v d) S) : wE F (.glo x d) ρ S Q := q
theorem r_tup (q : wEs F es ρ S fun ds S' => ds.length ≤ sizeLine ∧ Q (.v (.tup ds)) S') : wE F (.tup es) ρ S Q := q
theorem r_lst (q : wEs F es ρ S fun ds S' => ds.length ≤ sizeLine ∧ Q (.n (.lst ds)) S') : wE F (.lst es) ρ S Q := q
theorem r_dK {ks : List Key} (q : wEs F es ρ S fun ds S' => Q (.n (.dK (ks.zip ds))) S') : wE F (.dK ks es) ρ S Q := q
theorem r_bin {o : BOp} (q : wE F a ρ S fun x S1 => wE F b ρ S1 fun y S2 => opW o x y S2 Q) : wE F (.bin o a b) ρ S Q := q
theorem r_neg (q : wE F a ρ S fun x S1 => ∃ i, x = .v (.int i) ∧ Q (.v (.int (-i))) S1) : wE F (.neg a) ρ S Q := q
theorem r_cmp {o : COp} (q : wE F a ρ S fun x S1 => wE F b ρ S1 fun y S2 => cmpW o x y S2 Q) : wE F (.cmp o a b) ρ S Q := q
theorem r_chn {o p : COp} (q : wE F a ρ S fun x S1 => wE F b ρ S1 fun y S2 => cmpW o x y S2 fun z S3 => ∃ k, z = .v (.bl k) ∧ if k = true then wE F c ρ S3 fun w S4 => cmpW p y w S4 Q else Q (.v (.bl false)) S3) : wE F (.chn o p a b c) ρ S Q := q
theorem r_not (q : wE F a ρ S fun x S1 => ∃ k, tru S1 x = some k ∧ Q (.v (.bl (!k))) S1) : wE F (.not a) ρ S Q := q
theorem r_and (q : wE F a ρ S fun x S1 => ∃ k, tru S1 x = some k ∧ if k = true then wE F b ρ S1 Q else Q x S1) : wE F (.and a b) ρ S Q := q
theorem r_or (q : wE F a ρ S fun x S1 => ∃ k, tru S1 x = some k ∧ if k = true then Q x S1 else wE F b ρ S1 Q) : wE F (.or a b) ρ S Q := q
theorem r_ite (q : wT F c ρ S fun k S1 => if k = true then wE F a ρ S1 Q else wE F b ρ S1 Q) : wE F (.ite c a b) ρ S Q := q
theorem r_ix (q : wE F a ρ S fun x S1 => wE F i ρ S1 fun y S2 => ixW x y S2 Q) : wE F (.ix a i) ρ S Q := q
theorem r_sl {lo hi : Option E} (q : wE F a ρ S fun x S1 => wO F lo ρ S1 fun l S2 => wO F hi ρ S2 fun h S3 => slW x l h S3 Q) : wE F (.sl a lo hi) ρ S Q := q
theorem r_rev (q : wE F a ρ S fun x S1 => revW x S1 Q) : wE F (.rev a) ρ S Q := q
theorem r_isi {t : Ty} (q : wE F a ρ S fun x S1 => ∃ b, isTy S1 x t = some b ∧ Q (.v (.bl b)) S1) : wE F (.isi a t) ρ S Q := q
theorem r_bi {b : Bi} (q : wRs F es ρ S fun rs S1 => biW b rs S1 Q) : wE F (.bi b es) ρ S Q := q
theorem r_me {m : Me} (q : wE F o ρ S fun x S1 => meTy m x S1 ∧ wEs F es ρ S1 fun ds S2 => meW m x ds S2 Q) : wE F (.me m o es) ρ S Q := q
theorem r_call {f : Nat} (q : wEs F es ρ S fun ds S1 => F f ds S1 Q) : wE F (.call f es) ρ S Q := q
theorem r_lc {elt : E} {tg : TN} {it : I} {ifs : Option E} {own : List Nat} (q : wI F it ρ S fun xs hold S1 => lcL (fun x S2 k => bindN tg x (wipeE ρ own) fun ρ' => wOT F ifs ρ' S2 fun b S3 =>
      if b = true then wE F elt ρ' S3 fun r S4 => mat r S4 fun d S5 => k (some d) S5 else k none S3) hold xs [] S1 fun ds S2 => Q (.n (.lst ds)) S2) : wE F (.lc elt tg it ifs own) ρ S Q := q
theorem r_es0 {Q : List D → Sto → Prop} (q : Q [] S) : wEs F [] ρ S Q := q
theorem r_es1 {Q : List D → Sto → Prop} (q : wE F e ρ S fun r S1 => mat r S1 fun d S2 => wEs F es ρ S2 fun ds S3 => Q (d :: ds) S3) : wEs F (e :: es) ρ S Q := q
theorem r_rs0 {Q : List R → Sto → Prop} (q : Q [] S) : wRs F [] ρ S Q := q
theorem r_rs1 {Q : List R → Sto → Prop} (q : wE F e ρ S fun r S1 => wRs F es ρ S1 fun rs S2 => Q (r :: rs) S2) : wRs F (e :: es) ρ S Q := q
theorem r_o0 {Q : Option Int → Sto → Prop} (q : Q none S) : wO F none ρ S Q := q
theorem r_o1 {Q : Option Int → Sto → Prop} (q : wE F e ρ S fun r S' => partW r fun i => Q i S') : wO F (some e) ρ S Q := q
theorem r_part {i : Int} {Q : Option Int → Prop} (q : Q (some i)) : partW (.v (.int i)) Q := q
theorem r_ot0 {Q : Bool → Sto → Prop} (q : Q true S) : wOT F none ρ S Q := q
theorem r_ot1 {Q : Bool → Sto → Prop} (q : wT F e ρ S Q) : wOT F (some e) ρ S Q := q
theorem r_mv {d : D} {Q : PD} (q : Q d S) : mat (.v d) S Q := q
theorem r_mn {o : Ob} {Q : PD} (q : ∀ a, S a = none → Q (.ref a) (up S a o)) : mat (.n o) S Q := q
/-! tests -/
section
variable {Q : Bool → Sto → Prop}
theorem t_not (q : wT F a ρ S fun k S1 => Q (!k) S1) : wT F (.not a) ρ S Q := q
theorem t_and (q : wT F a ρ S fun k S1 => if k = true then wT F b ρ S1 Q else Q false S1) : wT F (.and a b) ρ S Q := q
theorem t_or (q : wT F a ρ S fun k S1 => if k = true then Q true S1 else wT F b ρ S1 Q) : wT F (.or a b) ρ S Q := q
theorem t_cmp {o : COp} (q : wE F a ρ S fun x S1 => wE F b ρ S1 fun y S2 => cmpW o x y S2 fun z S3 => ∃ k, z = .v (.bl k) ∧ Q k S3) : wT F (.cmp o a b) ρ S Q := q
theorem t_chn {o p : COp} (q : wE F a ρ S fun x S1 => wE F b ρ S1 fun y S2 => cmpW o x y S2 fun z S3 => ∃ k, z = .v (.bl k) ∧
      if k = true then wE F c ρ S3 fun w S4 => cmpW p y w S4 fun z S5 => ∃ k, z = .v (.bl k) ∧ Q k S5 else Q false S3) : wT F (.chn o p a b c) ρ S Q := q
theorem t_var {i : Nat} {d : D} (h : ρ[i]? = some (some d)) (q : ∃ k, tru S (.v d) = some k ∧ Q k S) : wT F (.var i) ρ S Q := ⟨d, h, q⟩
theorem t_isi {t : Ty} (q : wE F a ρ S fun x S1 => ∃ b, isTy S1 x t = some b ∧ ∃ k, tru S1 (.v (.bl b)) = some k ∧ Q k S1) : wT F (.isi a t) ρ S Q := q
theorem t_bi {b : Bi} (q : wRs F es ρ S fun rs S1 => biW b rs S1 fun z S2 => ∃ k, tru S2 z = some k ∧ Q k S2) : wT F (.bi b es) ρ S Q := q
theorem t_me {m : Me} (q : wE F o ρ S fun x S1 => meTy m x S1 ∧ wEs F es ρ S1 fun ds S2 => meW m x ds S2 fun z S2 => ∃ k, tru S2 z = some k ∧ Q k S2) : wT F (.me m o es) ρ S Q := q
theorem t_call {f : Nat} (q : wEs F es ρ S fun ds S1 => F f ds S1 fun z S2 => ∃ k, tru S2 z = some k ∧ Q k S2) : wT F (.call f es) ρ S Q := q
theorem t_ix (q : wE F a ρ S fun x S1 => wE F i ρ S1 fun y S2 => ixW x y S2 fun z S2 => ∃ k, tru S2 z = some k ∧ Q k S2) : wT F (.ix a i) ρ S Q := q
end
theorem x_bl {k : Bool} {P : Bool → Prop} (h : P k) : ∃ j, (R.v (.bl k)) = .v (.bl j) ∧ P j := ⟨k, rfl, h⟩
theorem x_int {k : Int} {P : Int → Prop} (h : P k) : ∃ j, (R.v (.int k)) = .v (.int j) ∧ P j := ⟨k, rfl, h⟩
theorem x_tru {r : R} {k : Bool} {P : Bool → Prop} (e : tru S r = some k) (h : P k) : ∃ j, tru S r = some j ∧ P j := ⟨k, e, h⟩
theorem x_isi {r : R} {t : Ty} {k : Bool} {P : Bool → Prop} (e : isTy S r t = some k) (h : P k) : ∃ j, isTy S r t = some j ∧ P j := ⟨k, e, h⟩
/-! branches -/
section
variable {A B P : Prop} [Decidable P]
theorem i_T (h : A) : if true = true then A else B := h
theorem i_F (h : B) : if false = true then A else B := h
theorem i_nT (h : B) : if (!true) = true then A else B := h
theorem i_nF (h : A) : if (!false) = true then A else B := h
theorem i_D (p : P) (h : A) : if decide P = true then A else B := by rw [if_pos (decide_eq_true p)]; exact h
theorem i_N (p : ¬P) (h : B) : if decide P = true then A else B := by rw [if_neg (by simp [p])]; exact h
theorem i_neT {k : Bool} (p : k = true) (h : B) : if (!k) = true then A else B := by rw [if_neg (by simp [p])]; exact h
theorem i_neF {k : Bool} (p : k = false) (h : A) : if (!k) = true then A else B := by rw [if_pos (by simp [p])]; exact h
end
/-! operators -/
theorem o_addI {i j : Int} (q : Q (.v (.int (i + j))) S) : opW .add (.v (.int i)) (.v (.int j)) S Q := q
theorem o_addS {i j : Str} (h : i.length + j.length ≤ sizeLine) (q : Q (.v (.str (i ++ j))) S) : opW .add (.v (.str i)) (.v (.str j)) S Q := ⟨h, q⟩
theorem o_addT {i j : List D} (h : i.length + j.length ≤ sizeLine) (q : Q (.v (.tup (i ++ j))) S) : opW .add (.v (.tup i)) (.v (.tup j)) S Q := ⟨h, q⟩
theorem o_addRR {x y : Addr} {i j : List D} (h1 : S x = some (.lst i)) (h2 : S y = some (.lst j)) (h : i.length + j.length ≤ sizeLine) (q : Q (.n (.lst (i ++ j))) S) : opW .add (.v (.ref x)) (.v (.ref y)) S Q := ⟨i, j, h1, h2, h, q⟩
theorem o_addRN {x : Addr} {i j : List D} (h1 : S x = some (.lst i)) (h : i.length + j.length ≤ sizeLine) (q : Q (.n (.lst (i ++ j))) S) : opW .add (.v (.ref x)) (.n (.lst j)) S Q := ⟨i, j, h1, rfl, h, q⟩
theorem o_addNR {y : Addr} {i j : List D} (h2 : S y = some (.lst j)) (h : i.length + j.length ≤ sizeLine) (q : Q (.n (.lst (i ++ j))) S) : opW .add (.n (.lst i)) (.v (.ref y)) S Q := ⟨i, j, rfl, h2, h, q⟩
theorem o_addNN {i j : List D} (h : i.length + j.length ≤ sizeLine) (q : Q (.n (.lst (i ++ j))) S) : opW .add (.n (.lst i)) (.n (.lst j)) S Q := ⟨i, j, rfl, rfl, h, q⟩
theorem o_sub {i j : Int} (q : Q (.v (.int (i - j))) S) : opW .sub (.v (.int i)) (.v (.int j)) S Q := q
theorem o_mulI {i j : Int} (h : CMul i j) (q : Q (.v (.int (i * j))) S) : opW .mul (.v (.int i)) (.v (.int j)) S Q := ⟨h, q⟩
theorem o_mulS {z : Str} {k : Int} (h : 1 ≤ z.length ∧ z.length ≤ 1000 ∧ 2 ≤ k ∧ k ≤ 1000) (q : Q (.v (.str (repS z k.toNat))) S) : opW .mul (.v (.str z)) (.v (.int k)) S Q := ⟨h.1, h.2.1, h.2.2.1, h.2.2.2, q⟩
theorem o_fdiv {i j : Int} (h : j ≠ 0 ∧ j.natAbs < 1073741824) (q : Q (.v (.int (i.fdiv j))) S) : opW .fdiv (.v (.int i)) (.v (.int j)) S Q := ⟨h, q⟩
theorem o_mod {i j : Int} (h : j ≠ 0) (q : Q (.v (.int (i.fmod j))) S) : opW .mod (.v (.int i)) (.v (.int j)) S Q := ⟨h, q⟩
theorem o_pow {i j : Int} (h : 0 ≤ j ∧ j ≤ 1000000 ∧ i.natAbs < 2 ^ 64) (q : Q (.v (.int (i ^ j.toNat))) S) : opW .pow (.v (.int i)) (.v (.int j)) S Q := ⟨h, q⟩
/-! comparisons -/
theorem c_eqI {i j : Int} (q : Q (.v (.bl (decide (i = j)))) S) : cmpW .eq (.v (.int i)) (.v (.int j)) S Q := q
theorem c_eqS {i j : Str} (q : Q (.v (.bl (decide (i = j)))) S) : cmpW .eq (.v (.str i)) (.v (.str j)) S Q := q
theorem c_eqB {i j : Bool} (q : Q (.v (.bl (decide (i = j)))) S) : cmpW .eq (.v (.bl i)) (.v (.bl j)) S Q := q
theorem c_neI {i j : Int} (q : Q (.v (.bl (!decide (i = j)))) S) : cmpW .ne (.v (.int i)) (.v (.int j)) S Q := q
theorem c_neS {i j : Str} (q : Q (.v (.bl (!decide (i = j)))) S) : cmpW .ne (.v (.str i)) (.v (.str j)) S Q := q
theorem c_neB {i j : Bool} (q : Q (.v (.bl (!decide (i = j)))) S) : cmpW .ne (.v (.bl i)) (.v (.bl j)) S Q := q
theorem c_ltI {i j : Int} (q : Q (.v (.bl (decide (i < j)))) S) : cmpW .lt (.v (.int i)) (.v (.int j)) S Q := q
theorem c_ltS {i j : Str} (q : Q (.v (.bl (decide (i.cps.toList < j.cps.toList)))) S) : cmpW .lt (.v (.str i)) (.v (.str j)) S Q := q
theorem c_gtI {i j : Int} (q : Q (.v (.bl (decide (j < i)))) S) : cmpW .gt (.v (.int i)) (.v (.int j)) S Q := q
theorem c_leI {i j : Int} (q : Q (.v (.bl (decide (i ≤ j)))) S) : cmpW .le (.v (.int i)) (.v (.int j)) S Q := q
theorem c_geI {i j : Int} (q : Q (.v (.bl (decide (j ≤ i)))) S) : cmpW .ge (.v (.int i)) (.v (.int j)) S Q := q
theorem c_inS {i j : Str} (q : Q (.v (.bl (inStr i j))) S) : cmpW .isin (.v (.str i)) (.v (.str j)) S Q := q
theorem c_ninS {i j : Str} (q : Q (.v (.bl (!inStr i j))) S) : cmpW .notin (.v (.str i)) (.v (.str j)) S Q := q
/-! parts -/
theorem p_str {z : Str} {i : Int} {c : Nat} (h : z.length ≤ sizeLine) (e : atI z.cps.toList i = some c) (q : Q (.v (.str ⟨#[c]⟩)) S) : ixW (.v (.str z)) (.v (.int i)) S Q := ⟨h, c, e, q⟩
theorem p_tup {xs : List D} {i : Int} {d : D} (e : atI xs i = some d) (q : Q (.v d) S) : ixW (.v (.tup xs)) (.v (.int i)) S Q := .inl ⟨xs, d, rfl, e, q⟩
theorem p_lstN {xs : List D} {i : Int} {d : D} (e : atI xs i = some d) (q : Q (.v d) S) : ixW (.n (.lst xs)) (.v (.int i)) S Q := .inl ⟨xs, d, rfl, e, q⟩
theorem lstOf_ref {x : Addr} {xs : List D} (h : S x = some (.lst xs)) : lstOf S (.v (.ref x)) = some xs := by
  show (match S x with | some (.lst xs) => some xs | _ => none) = _
  rw [h]
theorem seqOf_ref {x : Addr} {xs : List D} (h : S x = some (.lst xs)) : seqOf S (.v (.ref x)) = some xs := lstOf_ref h
theorem p_lst {x : Addr} {xs : List D} {i : Int} {d : D} (h : S x = some (.lst xs)) (e : atI xs i = some d) (q : Q (.v d) S) : ixW (.v (.ref x)) (.v (.int i)) S Q := .inl ⟨xs, d, seqOf_ref h, e, q⟩
theorem p_dK {x : Addr} {kvs : List (Key × D)} {k : Str} {d : D} (h : S x = some (.dK kvs)) (e : valD kvs (.inr k) = some d) (q : Q (.v d) S) : ixW (.v (.ref x)) (.v (.str k)) S Q := ⟨kvs, d, h, e, q⟩
theorem l_str {z : Str} {lo hi : Option Int} (h : z.length ≤ sizeLine) (q : Q (.v (.str ⟨(cut z.cps.toList lo hi).toArray⟩)) S) : slW (.v (.str z)) lo hi S Q := ⟨h, q⟩
theorem l_tup {xs : List D} {lo hi : Option Int} (q : Q (.v (.tup (cut xs lo hi))) S) : slW (.v (.tup xs)) lo hi S Q := q
theorem l_fz {xs : List D} {lo hi : Option Int} (q : Q (.n (.lst (cut xs lo hi))) S) : slW (.v (.fz xs)) lo hi S Q := q
theorem l_lstN {xs : List D} {lo hi : Option Int} (q : Q (.n (.lst (cut xs lo hi))) S) : slW (.n (.lst xs)) lo hi S Q := q
theorem l_lst {x : Addr} {xs : List D} {lo hi : Option Int} (h : S x = some (.lst xs)) (q : Q (.n (.lst (cut xs lo hi))) S) : slW (.v (.ref x)) lo hi S Q := by
  show match lstOf S (.v (.ref x)) with | some xs => _ | none => _
  rw [lstOf_ref h]
  exact q
theorem v_tup {xs : List D} (q : Q (.v (.tup xs.reverse)) S) : revW (.v (.tup xs)) S Q := q
theorem v_lstN {xs : List D} (q : Q (.n (.lst xs.reverse)) S) : revW (.n (.lst xs)) S Q := q
theorem v_lst {x : Addr} {xs : List D} (h : S x = some (.lst xs)) (q : Q (.n (.lst xs.reverse)) S) : revW (.v (.ref x)) S Q := by
  show match lstOf S (.v (.ref x)) with | some xs => _ | none => _
  rw [lstOf_ref h]
  exact q
/-! built-ins -/
theorem b_lenS {z : Str} (h : z.length ≤ sizeLine) (q : Q (.v (.int z.length)) S) : biW .len [.v (.str z)] S Q := ⟨h, q⟩
theorem b_lenT {xs : List D} (q : Q (.v (.int xs.length)) S) : biW .len [.v (.tup xs)] S Q := .inl ⟨xs, rfl, q⟩
theorem b_lenN {xs : List D} (q : Q (.v (.int xs.length)) S) : biW .len [.n (.lst xs)] S Q := .inl ⟨xs, rfl, q⟩
theorem b_lenL {x : Addr} {xs : List D} (h : S x = some (.lst xs)) (q : Q (.v (.int xs.length)) S) : biW .len [.v (.ref x)] S Q := .inl ⟨xs, seqOf_ref h, q⟩
theorem b_abs {i : Int} (q : Q (.v (.int (if i < 0 then -i else i))) S) : biW .abs [.v (.int i)] S Q := q
theorem b_intI {i : Int} (q : Q (.v (.int i)) S) : biW .int [.v (.int i)] S Q := q
theorem b_intB {k : Bool} (q : Q (.v (.int (if k then 1 else 0))) S) : biW .int [.v (.bl k)] S Q := q
theorem b_tuplN {xs : List D} (q : Q (.v (.tup xs)) S) : biW .tupl [.n (.lst xs)] S Q := ⟨xs, rfl, q⟩
theorem b_tuplT {xs : List D} (q : Q (.v (.tup xs)) S) : biW .tupl [.v (.tup xs)] S Q := ⟨xs, rfl, q⟩
theorem b_tuplL {x : Addr} {xs : List D} (h : S x = some (.lst xs)) (q : Q (.v (.tup xs)) S) : biW .tupl [.v (.ref x)] S Q := ⟨xs, seqOf_ref h, q⟩
theorem b_listN {xs : List D} (q : Q (.n (.lst xs)) S) : biW .list [.n (.lst xs)] S Q := ⟨xs, rfl, q⟩
theorem b_listT {xs : List D} (q : Q (.n (.lst xs)) S) : biW .list [.v (.tup xs)] S Q := ⟨xs, rfl, q⟩
theorem b_listL {x : Addr} {xs : List D} (h : S x = some (.lst xs)) (q : Q (.n (.lst xs)) S) : biW .list [.v (.ref x)] S Q := ⟨xs, seqOf_ref h, q⟩
/-! methods -/
theorem m_append {x : Addr} {xs : List D} {d : D} (h : S x = some (.lst xs)) (hl : xs.length < sizeLine) (q : Q (.v .non) (up S x (.lst (xs ++ [d])))) : meW .append (.v (.ref x)) [d] S Q := ⟨xs, h, hl, q⟩
theorem m_tyL {m : Me} {x : Addr} {xs : List D} (h : S x = some (.lst xs)) (hm : (match m with | .upper => false | .join => false | _ => true) = true) : meTy m (.v (.ref x)) S := by
  cases m <;> first | exact ⟨xs, lstOf_ref h⟩ | cases hm
/-! statements -/
variable {nd : Nd} {f : Env → Sto → Prop} {rt : PR} {bk ct : Env → Sto → Prop}
theorem z_nil (q : f ρ S) : wSs F [] ρ S ⟨f, rt, bk, ct⟩ := q
theorem z_exp (q : wE F e ρ S fun _ S' => wSs F cs ρ S' nd) : wSs F (.exp e :: cs) ρ S nd := q
theorem z_set {i : Nat} (q : wE F e ρ S fun r S1 => mat r S1 fun d S2 => wSs F cs (ρ.set i (some d)) S2 nd) : wSs F (.asg (.name i) e :: cs) ρ S nd := q
theorem z_tup {is : List Nat} (q : wE F e ρ S fun r S1 => mat r S1 fun d S2 => match d with
    | .tup ds => ds.length = is.length ∧ wSs F cs (bindL is ds ρ) S2 nd
    | _ => False) : wSs F (.asg (.tup is) e :: cs) ρ S nd := q
theorem z_sub (q : wE F e ρ S fun r S1 => mat r S1 fun d S2 => wE F o ρ S2 fun x S1 => wE F i ρ S1 fun y S2 => setW x y d S2 fun S3 => wSs F cs ρ S3 nd) : wSs F (.asg (.sub o i) e :: cs) ρ S nd := q
theorem z_ret (q : wE F e ρ S rt) : wSs F (.ret e :: cs) ρ S ⟨f, rt, bk, ct⟩ := q
theorem z_ife {as bs : List C} (q : wT F c ρ S fun k S1 => if k = true then wSs F as ρ S1 ⟨fun ρ' S' => wSs F cs ρ' S' ⟨f, rt, bk, ct⟩, rt, bk, ct⟩ else wSs F bs ρ S1 ⟨fun ρ' S' => wSs F cs ρ' S' ⟨f, rt, bk, ct⟩, rt, bk, ct⟩) : wSs F (.ife c as bs :: cs) ρ S ⟨f, rt, bk, ct⟩ := q
theorem z_for {tg : TN} {it : I} {b : List C} (q : wI F it ρ S fun xs hold S1 => forL (fun ρ' S' nd' => wSs F b ρ' S' nd') tg hold ⟨fun ρ' S' => wSs F cs ρ' S' ⟨f, rt, bk, ct⟩, rt, bk, ct⟩ xs ρ S1) : wSs F (.for tg it b :: cs) ρ S ⟨f, rt, bk, ct⟩ := q
theorem z_brk (q : bk ρ S) : wSs F (.brk :: cs) ρ S ⟨f, rt, bk, ct⟩ := q
theorem z_cnt (q : ct ρ S) : wSs F (.cnt :: cs) ρ S ⟨f, rt, bk, ct⟩ := q
theorem z_whl {b : List C} (J : Nat → Env → Sto → Prop) (h0 : ∃ m, J m ρ S) (q : ∀ m ρ' S', J m ρ' S' → wT F c ρ' S' fun k S1 =>
      if k = true then wSs F b ρ' S1 ⟨fun ρ2 S2 => ∃ m', m' < m ∧ J m' ρ2 S2, rt, fun ρ' S' => wSs F cs ρ' S' ⟨f, rt, bk, ct⟩, fun ρ2 S2 => ∃ m', m' < m ∧ J m' ρ2 S2⟩ else wSs F cs ρ' S1 ⟨f, rt, bk, ct⟩) : wSs F (.whl c b :: cs) ρ S ⟨f, rt, bk, ct⟩ := ⟨J, h0, q⟩
theorem y_dK {x : Addr} {kvs : List (Key × D)} {k : Str} {d : D} {Q : Sto → Prop} (h : S x = some (.dK kvs)) (hl : kvs.length < sizeLine) (q : Q (up S x (.dK (putD kvs (.inr k) d)))) : setW (.v (.ref x)) (.v (.str k)) d S Q := ⟨kvs, h, hl, q⟩
/-! walks -/
theorem w_seq {K : List D → (Sto → Prop) → Sto → Prop} (q : wE F a ρ S fun r S1 => seqW r S1 fun xs hold => K xs hold S1) : wI F (.seq a) ρ S K := q
theorem w_rng1 {K : List D → (Sto → Prop) → Sto → Prop} (q : wE F a ρ S fun r S1 => ∃ j, r = .v (.int j) ∧ j ≤ 16777216 ∧ -(2 ^ 62) ≤ j ∧ K (rngD 0 j.toNat) (fun _ => True) S1) : wI F (.rng1 a) ρ S K := q
theorem w_rng2 {K : List D → (Sto → Prop) → Sto → Prop} (q : wE F a ρ S fun r S1 => wE F b ρ S1 fun q S2 => ∃ i j, r = .v (.int i) ∧ q = .v (.int j) ∧ (-(2 ^ 62) ≤ i ∧ i < 2 ^ 62 ∧ -(2 ^ 62) ≤ j ∧ j < 2 ^ 62) ∧ j - i ≤ 16777216 ∧ K (rngD i (j - i).toNat) (fun _ => True) S2) : wI F (.rng2 a b) ρ S K := q
theorem for_ok {body : Env → Sto → Nd → Prop} {tg : TN} {hold : Sto → Prop} {nd : Nd} {xs : List D} (Inv : Nat → Env → Sto → Prop)
    (step : ∀ (i : Nat) (x : D) (ρ : Env) (S : Sto) (K : Env → Sto → Prop), xs[i]? = some x → Inv i ρ S → (∀ ρ' S', Inv (i + 1) ρ' S' → K ρ' S') → hold S ∧ bindN tg x ρ fun ρ' => body ρ' S ⟨K, nd.rt, nd.nx, K⟩)
    (fin : ∀ ρ S, Inv xs.length ρ S → hold S ∧ nd.nx ρ S) (h0 : Inv 0 ρ S) : forL body tg hold nd xs ρ S := by
  have go : ∀ (n i : Nat) (ρ : Env) (S : Sto), xs.length - i = n → i ≤ xs.length → Inv i ρ S → forL body tg hold nd (xs.drop i) ρ S := by
    intro n
    induction n with
    | zero =>
      intro i ρ S h1 h2 h
      have e : i = xs.length := by omega
      subst e
      rw [List.drop_length]
      exact fin ρ S h
    | succ n ih =>
      intro i ρ S h1 h2 h
      have hl : i < xs.length := by omega
      rw [List.drop_eq_getElem_cons hl]
      exact step i xs[i] ρ S _ (List.getElem?_eq_getElem hl) h fun ρ' S' h' => ih (i + 1) ρ' S' (by omega) (by omega) h'
  have := go xs.length 0 ρ S (by omega) (Nat.zero_le _) h0
  rwa [List.drop_zero] at this
theorem lc_ok {step : D → Sto → (Option D → Sto → Prop) → Prop} {hold : Sto → Prop} {xs : List D} {Q : List D → Sto → Prop} (Inv : Nat → List D → Sto → Prop)
    (turn : ∀ (i : Nat) (x : D) (acc : List D) (S : Sto) (K : Option D → Sto → Prop), xs[i]? = some x → Inv i acc S → (∀ o S', Inv (i + 1) (acc ++ o.toList) S' → K o S') → hold S ∧ step x S K)
    (fin : ∀ acc S, Inv xs.length acc S → hold S ∧ Q acc S) (h0 : Inv 0 [] S) : lcL step hold xs [] S Q := by
  have go : ∀ (n i : Nat) (acc : List D) (S : Sto), xs.length - i = n → i ≤ xs.length → Inv i acc S → lcL step hold (xs.drop i) acc S Q := by
    intro n
    induction n with
    | zero =>
      intro i acc S h1 h2 h
      have e : i = xs.length := by omega
      subst e
      rw [List.drop_length]
      exact fin acc S h
    | succ n ih =>
      intro i acc S h1 h2 h
      have hl : i < xs.length := by omega
      rw [List.drop_eq_getElem_cons hl]
      exact turn i xs[i] acc S _ (List.getElem?_eq_getElem hl) h fun o S' h' => ih (i + 1) _ S' (by omega) (by omega) h'
  have := go xs.length 0 [] S (by omega) (Nat.zero_le _) h0
  rwa [List.drop_zero] at this
end
theorem up_up {S : Sto} {a : Addr} {o p : Ob} : up (up S a o) a p = up S a p := by
  funext b
  unfold up
  by_cases h : b = a <;> simp [h]
theorem up_get {S : Sto} {a b : Addr} {o p : Ob} (h : b ≠ a) (e : S b = some p) : up S a o b = some p := (up_ne h).trans e
set_option maxRecDepth 100000
set_option maxHeartbeats 1000000
/-- the length of what is shown of a datum k deep -/
def Nk : Nat → Nat
  | 0 => 1510
  | k + 1 => 10 * (Nk k + 2) + 2
theorem Nk_mono {j k : Nat} (h : j ≤ k) : Nk j ≤ Nk k := by
  induction k with
  | zero => have : j = 0 := by omega
            subst this; exact Nat.le_refl _
  | succ k ih =>
    by_cases e : j = k + 1
    · subst e; exact Nat.le_refl _
    · have := ih (by omega)
      show Nk j ≤ 10 * (Nk k + 2) + 2
      omega
structure Gd (k : Nat) (dc ls : Bool) (p : PyData) : Prop where
  sh : p.showable = true
  dep : p.depth ≤ k
  hd : p.hasDict = true → dc = true
  hl : hasLst p = true → ls = true
  len : p.shown.length ≤ Nk k
theorem Gd.up {j k : Nat} {dc ls dc' ls' : Bool} {p : PyData} (g : Gd j dc ls p) (h : j ≤ k) (h1 : dc = true → dc' = true) (h2 : ls = true → ls' = true) : Gd k dc' ls' p :=
  ⟨g.sh, Nat.le_trans g.dep h, fun z => h1 (g.hd z), fun z => h2 (g.hl z), Nat.le_trans g.len (Nk_mono h)⟩
/-- a short text of real signs -/
def Shrt (x : Str) : Prop := x.length ≤ 150 ∧ ∀ c ∈ x.cps.toList, c < 0x110000
/-! the same of data -/
/-- what a datum's kind takes to be told -/
def Kd (S : Sto) : D → Prop
  | .str x => Shrt x
  | .ref a => (∃ xs, S a = some (.lst xs)) ∨ ∃ kvs, S a = some (.dK kvs)
  | .fz _ => False
  | _ => True
def Kds (S : Sto) : D → Prop
  | .tup ds => ∀ d ∈ ds, Kd S d
  | d => Kd S d
structure Gs (S : Sto) (k : Nat) (dc ls : Bool) (d : D) : Prop where
  rd : ∃ p, Rdg S d p ∧ Gd k dc ls p
  kd : Kd S d
  kds : Kds S d
section
variable {S : Sto} {k : Nat} {dc ls : Bool}
theorem Gs.up {j : Nat} {dc' ls' : Bool} {d : D} (g : Gs S j dc ls d) (h : j ≤ k) (h1 : dc = true → dc' = true) (h2 : ls = true → ls' = true) : Gs S k dc' ls' d :=
  ⟨let ⟨p, r, q⟩ := g.rd; ⟨p, r, q.up h h1 h2⟩, g.kd, g.kds⟩
end
/-! more stores -/
def Sub (S T : Sto) : Prop := ∀ a o, S a = some o → T a = some o
mutual
theorem rdg_sub {S T : Sto} (h : Sub S T) : ∀ {d : D} {p : PyData}, Rdg S d p → Rdg T d p
  | _, _, .non => .non
  | _, _, .bl b => .bl b
  | _, _, .int i => .int i
  | _, _, .str x => .str x
  | _, _, .tup r => .tup (rdgL_sub h r)
  | _, _, .lst e r => .lst (h _ _ e) (rdgL_sub h r)
  | _, _, .dK e r => .dK (h _ _ e) (rdgL_sub h r)
theorem rdgL_sub {S T : Sto} (h : Sub S T) : ∀ {ds : List D} {ps : List PyData}, RdgL S ds ps → RdgL T ds ps
  | _, _, .nil => .nil
  | _, _, .cons r rs => .cons (rdg_sub h r) (rdgL_sub h rs)
end
theorem kd_sub {S T : Sto} (h : Sub S T) : ∀ {d : D}, Kd S d → Kd T d
  | .str _, z => z
  | .ref a, z => z.elim (fun ⟨xs, e⟩ => .inl ⟨xs, h _ _ e⟩) fun ⟨xs, e⟩ => .inr ⟨xs, h _ _ e⟩
  | .fz _, z => z
  | .non, z => z
  | .bl _, z => z
  | .int _, z => z
  | .tup _, z => z
theorem kds_sub {S T : Sto} (h : Sub S T) : ∀ {d : D}, Kds S d → Kds T d
  | .tup _, z => fun d hd => kd_sub h (z d hd)
  | .str _, z => z
  | .ref a, z => z.elim (fun ⟨xs, e⟩ => .inl ⟨xs, h _ _ e⟩) fun ⟨xs, e⟩ => .inr ⟨xs, h _ _ e⟩
  | .fz _, z => z
  | .non, z => z
  | .bl _, z => z
  | .int _, z => z
theorem Gs.sub {S T : Sto} {k : Nat} {dc ls : Bool} {d : D} (g : Gs S k dc ls d) (h : Sub S T) : Gs T k dc ls d :=
  ⟨let ⟨p, r, q⟩ := g.rd; ⟨p, rdg_sub h r, q⟩, kd_sub h g.kd, kds_sub h g.kds⟩
/-- a thing that can be shown: not both lists and dicts -/
def Gt (S : Sto) (d : D) : Prop := ∃ dc ls, (dc && ls) = false ∧ Gs S 4 dc ls d
theorem Gt.sub {S T : Sto} {d : D} (g : Gt S d) (h : Sub S T) : Gt T d := let ⟨dc, ls, e, g⟩ := g; ⟨dc, ls, e, g.sub h⟩
/-- the store without a place -/
def rm (S : Sto) (p : Addr) : Sto := fun b => if b = p then none else S b
/-- all but p stays -/
def Ext (p : Addr) (S T : Sto) : Prop := ∀ b o, b ≠ p → S b = some o → T b = some o
theorem Ext.rfl {p : Addr} {S : Sto} : Ext p S S := fun _ _ _ h => h
theorem Ext.trans {p : Addr} {S T U : Sto} (h : Ext p S T) (h' : Ext p T U) : Ext p S U := fun b o n e => h' b o n (h b o n e)
theorem Ext.new {p a : Addr} {S : Sto} {o : Ob} (h : S a = none) : Ext p S (up S a o) := fun b q _ e => (up_ne (fun z => by subst z; rw [h] at e; cases e)).trans e
theorem Ext.then {p a : Addr} {S T : Sto} {o : Ob} (x : Ext p S T) (h : S a = none) : Ext p S (up T a o) := fun b q n e => (up_ne (fun z => by subst z; rw [h] at e; cases e)).trans (x b q n e)
theorem Ext.sub {p : Addr} {S T : Sto} (x : Ext p S T) : Sub (rm S p) (rm T p) := fun b o e => by
  by_cases h : b = p
  · rw [show rm S p b = none from if_pos h] at e; cases e
  · exact (if_neg h).trans (x b o h ((if_neg h).symm.trans e))
/-! short texts -/
theorem cut_sub {α : Type} {xs : List α} {lo hi : Option Int} {x : α} (h : x ∈ cut xs lo hi) : x ∈ xs := List.mem_of_mem_drop (List.mem_of_mem_take h)
theorem cut_len {α : Type} (xs : List α) (lo hi : Option Int) : (cut xs lo hi).length ≤ xs.length := by
  unfold cut
  rw [List.length_take, List.length_drop]
  omega
theorem sh_cut {x : Str} (h : Shrt x) (lo hi : Option Int) : Shrt ⟨(cut x.cps.toList lo hi).toArray⟩ :=
  ⟨by
    have h1 := cut_len x.cps.toList lo hi
    have h2 : x.cps.toList.length = x.length := by simp [Str.length]
    show (cut x.cps.toList lo hi).toArray.size ≤ 150
    rw [List.size_toArray]
    have := h.1
    omega, fun c hc => h.2 c (cut_sub (by simpa using hc))⟩
/-- a thing k deep that can be shown -/
def Og (S : Sto) (k : Nat) (d : D) : Prop := ∃ dc ls, (dc && ls) = false ∧ Gs S k dc ls d
theorem Og.gt {S : Sto} {k : Nat} {d : D} (g : Og S k d) (h : k ≤ 4) : Gt S d := let ⟨dc, ls, e, g⟩ := g; ⟨dc, ls, e, g.up h id id⟩
theorem Og.sub {S T : Sto} {k : Nat} {d : D} (g : Og S k d) (h : Sub S T) : Og T k d := let ⟨dc, ls, e, g⟩ := g; ⟨dc, ls, e, g.sub h⟩
theorem Og.up {S : Sto} {j k : Nat} {d : D} (g : Og S j d) (h : j ≤ k) : Og S k d := let ⟨dc, ls, e, g⟩ := g; ⟨dc, ls, e, g.up h id id⟩
set_option maxRecDepth 100000
set_option maxHeartbeats 1000000
theorem up_keep {S : Sto} {a b : Addr} {o p : Ob} (h : S b = none) (e : S a = some o) : up S b p a = some o :=
  (up_ne (fun z => by subst z; rw [h] at e; cases e)).trans e
theorem enter {T : List Fn} {n f : Nat} {b : Fn} {ρ : DP.Env} {ds : List D} {S : Sto} {Q : PR} (h : T[f]? = some b) (hl : ds.length = b.np) (hr : startE b ds = ρ)
    (q : wSs (W T n) b.body ρ S { nx := fun _ S' => Q (.v .non) S', rt := Q }) : W T (n + 1) f ds S Q := by
  rw [W_def h]
  subst hr
  exact ⟨hl, q⟩
def pen (c : Addr) (a l : Int) : List (Key × D) := [(.inr "cells", .ref c), (.inr "at", .int a), (.inr "left", .int l)]
section
variable {S : Sto} {p c : Addr} {a l : Int} {Q : PR} {K : Sto → Prop}
theorem p_cells (h : S p = some (.dK (pen c a l))) (q : Q (.v (.ref c)) S) : ixW (.v (.ref p)) (.v (.str "cells")) S Q := p_dK h rfl q
theorem p_at (h : S p = some (.dK (pen c a l))) (q : Q (.v (.int a)) S) : ixW (.v (.ref p)) (.v (.str "at")) S Q := p_dK h rfl q
theorem p_left (h : S p = some (.dK (pen c a l))) (q : Q (.v (.int l)) S) : ixW (.v (.ref p)) (.v (.str "left")) S Q := p_dK h rfl q
theorem y_at {x : Int} (h : S p = some (.dK (pen c a l))) (q : K (up S p (.dK (pen c x l)))) : setW (.v (.ref p)) (.v (.str "at")) (.int x) S K := y_dK h (Nat.le_of_ble_eq_true rfl) q
theorem y_left {x : Int} (h : S p = some (.dK (pen c a l))) (q : K (up S p (.dK (pen c a x)))) : setW (.v (.ref p)) (.v (.str "left")) (.int x) S K := y_dK h (Nat.le_of_ble_eq_true rfl) q
end
def PenOk (S : Sto) (p c : Addr) (n : Nat) : Prop := p ≠ c ∧ ∃ (ns : List Int) (a l : Int), S p = some (.dK (pen c a l)) ∧ S c = some (.lst (ns.map .int)) ∧ 0 ≤ a ∧ a ≤ n ∧ 0 ≤ l ∧ ns.length ≤ 63
theorem ints_at {ns : List Int} {i : Int} (h0 : 0 ≤ i) (h1 : i < ns.length) : ∃ x, atI (ns.map D.int) i = some (.int x) := by
  unfold atI ixN
  rw [List.length_map, if_pos h0, if_pos h1]
  refine ⟨ns[i.toNat]'(by omega), ?_⟩
  show (ns.map D.int)[i.toNat]? = _
  rw [List.getElem?_map, List.getElem?_eq_getElem (by omega)]
  rfl
theorem rdg_ints (S : Sto) : ∀ ns : List Int, RdgL S (ns.map .int) (ns.map .int)
  | [] => .nil
  | n :: ns => .cons (.int n) (rdg_ints S ns)
theorem ints_can : ∀ ns : List Int, PyData.canLayAll0 (ns.map PyData.int) = true
  | [] => by simp [PyData.canLayAll0]
  | n :: ns => by rw [List.map_cons, PyData.canLayAll0, ints_can ns]; simp [PyData.canLay0]
theorem ints_dep : ∀ ns : List Int, PyData.depthAll (ns.map PyData.int) = 0
  | [] => by simp [PyData.depthAll]
  | n :: ns => by rw [List.map_cons, PyData.depthAll, ints_dep ns]; simp [PyData.depth]
theorem ints_shaped (ns : List Int) : SeqAt.shaped (.list (ns.map PyData.int)) = true := by
  unfold SeqAt.shaped
  rw [PyData.canLay0, ints_can, PyData.depth, ints_dep]
  rfl
theorem c_ne0 {S : Sto} {c : Addr} {ns : List Int} {Q : PR} (h : S c = some (.lst (ns.map .int))) (q : Q (.v (.bl (!ns.isEmpty))) S) : cmpW .ne (.v (.ref c)) (.n (.lst [])) S Q := by
  refine ⟨.list (ns.map .int), .list [], .lst h (rdg_ints S ns), ⟨[], rfl, .nil⟩, ints_shaped ns, ints_shaped [], ?_⟩
  have e : PyData.eqv (.list (ns.map .int)) (.list []) = ns.isEmpty := by
    rw [PyData.eqv]
    cases ns <;> simp [PyData.eqvAll]
  rw [e]
  exact q
theorem cmul_l {i j : Int} (h1 : -18446744073709551616 < i) (h2 : i < 18446744073709551616) : CMul i j := .inl ⟨by omega, by omega⟩
theorem cmul_r {i j : Int} (h1 : -18446744073709551616 < j) (h2 : j < 18446744073709551616) : CMul i j := .inr ⟨by omega, by omega⟩
theorem pow_lit {i j : Int} (h1 : 0 ≤ j) (h2 : j ≤ 1000000) (h3 : i.natAbs < 18446744073709551616) : 0 ≤ j ∧ j ≤ 1000000 ∧ i.natAbs < 2 ^ 64 := ⟨h1, h2, by omega⟩
theorem x_len {ds : List D} {P : Prop} (h : ds.length ≤ sizeLine) (q : P) : ds.length ≤ sizeLine ∧ P := ⟨h, q⟩
theorem x_ty {m : Me} {z : Str} {S : Sto} {P : Prop} (h : meTy m (.v (.str z)) S) (q : P) : meTy m (.v (.str z)) S ∧ P := ⟨h, q⟩
theorem x_tyL {m : Me} {x : Addr} {xs : List D} {S : Sto} {P : Prop} (h : S x = some (.lst xs)) (hm : (match m with | .upper => false | .join => false | _ => true) = true) (q : P) : meTy m (.v (.ref x)) S ∧ P := ⟨m_tyL h hm, q⟩
theorem fmod_nn {i : Int} (j : Int) (h : 0 < j) : 0 ≤ i.fmod j ∧ i.fmod j < j := ⟨Int.fmod_nonneg_of_pos i h, Int.fmod_lt_of_pos i h⟩
theorem bn_name {i : Nat} {d : D} {ρ : DP.Env} {Q : DP.Env → Prop} (q : Q (ρ.set i (some d))) : bindN (.name i) d ρ Q := q
theorem pureDs_strs : ∀ xs : List Str, pureDs (xs.map .str) = true
  | [] => rfl
  | x :: xs => by rw [List.map_cons, pureDs, pureDs_strs xs]; rfl
def leS (x y : Str) : Bool := PySem.W.dataLe false encD (.str x) (.str y)
theorem sortD_strs (xs : List Str) : sortD (xs.map .str) = (xs.mergeSort leS).map .str :=
  (List.map_mergeSort (r := leS) (s := PySem.W.dataLe false encD) (f := D.str) (l := xs) fun _ _ _ _ => rfl).symm
theorem b_sortS {S : Sto} {xs : List Str} {Q : PR} (q : Q (.n (.lst ((xs.mergeSort leS).map .str))) S) : biW .sorted [.n (.lst (xs.map .str))] S Q := by
  rw [← sortD_strs] at q
  refine ⟨_, rfl, pureDs_strs xs, ?_, .inr ?_, ?_, q⟩
  · intro d hd d' hd'
    simp only [List.map_map, List.mem_map] at hd hd'
    obtain ⟨x, _, rfl⟩ := hd
    obtain ⟨y, _, rfl⟩ := hd'
    show PySem.W.alike (.str x) (.str y) = true
    simp [PySem.W.alike]
  · intro d hd
    simp only [List.map_map, List.mem_map] at hd
    obtain ⟨x, _, rfl⟩ := hd
    exact ⟨fun z => (by cases z), fun xs z => (by cases z)⟩
  · intro d hd
    obtain ⟨x, _, rfl⟩ := List.mem_map.mp hd
    show PyData.depth (.str x) ≤ 60
    simp [PyData.depth]
theorem erase_perm {α : Type} : ∀ (l : List α) (i : Nat) (y : α), l[i]? = some y → (y :: l.eraseIdx i).Perm l
  | [], _, _, h => by simp at h
  | x :: r, 0, y, h => by
    have e : x = y := by simpa using h
    subst e
    exact List.Perm.refl _
  | x :: r, i + 1, y, h => by
    have ih := erase_perm r i y (by simpa using h)
    exact (List.Perm.swap x y (r.eraseIdx i)).trans (List.Perm.cons x ih)
theorem map_erase {α β : Type} (f : α → β) : ∀ (l : List α) (j : Nat), (l.map f).eraseIdx j = (l.eraseIdx j).map f
  | [], _ => rfl
  | _ :: _, 0 => rfl
  | x :: l, j + 1 => by
    show f x :: (l.map f).eraseIdx j = _
    rw [map_erase f l j]
    rfl
theorem m_popI {S : Sto} {t : Addr} {xs : List Str} {i : Int} {Q : PR} (h : S t = some (.lst (xs.map .str))) (h0 : 0 ≤ i) (h1 : i < xs.length) (h2 : xs.length < 1000000)
    (q : ∀ x, (x :: xs.eraseIdx i.toNat).Perm xs → Q (.v (.str x)) (up S t (.lst ((xs.eraseIdx i.toNat).map .str)))) : meW .pop (.v (.ref t)) [.int i] S Q := by
  have hi : i.toNat < xs.length := by omega
  refine ⟨xs.map .str, i.toNat, .str xs[i.toNat], h, by omega, by omega, ?_, ?_, ?_⟩
  · unfold ixN
    rw [List.length_map, if_pos h0, if_pos h1]
  · rw [List.getElem?_map, List.getElem?_eq_getElem hi]
    rfl
  · have e : (xs.map D.str).eraseIdx i.toNat = (xs.eraseIdx i.toNat).map .str := map_erase _ _ _
    rw [e]
    exact q _ (DP.erase_perm xs _ _ (List.getElem?_eq_getElem hi))
section
variable {S : Sto} {K : List D → (Sto → Prop) → Prop}
theorem q_str {z : Str} (h : z.length ≤ sizeLine) (q : K (signs z) fun _ => True) : seqW (.v (.str z)) S K := ⟨h, q⟩
theorem q_tup {xs : List D} (q : K xs fun _ => True) : seqW (.v (.tup xs)) S K := q
theorem q_fz {xs : List D} (q : K xs fun _ => True) : seqW (.v (.fz xs)) S K := q
theorem q_n {xs : List D} (q : K xs fun _ => True) : seqW (.n (.lst xs)) S K := q
theorem q_ref {a : Addr} {xs : List D} (h : S a = some (.lst xs)) (q : K xs fun S' => S' a = some (.lst xs)) : seqW (.v (.ref a)) S K := ⟨xs, h, q⟩
end
section
variable {step : D → Sto → (Option D → Sto → Prop) → Prop} {hold : Sto → Prop} {Q : List D → Sto → Prop} {S : Sto} {β : Type} {f : β → D} {cs : List β}
theorem lc_all (h : β → D) (hh : hold S) (turn : ∀ c ∈ cs, ∀ K : Option D → Sto → Prop, K (some (h c)) S → step (f c) S K) (fin : Q (cs.map h) S) : lcL step hold (cs.map f) [] S Q := by
  have go : ∀ (l : List β) (acc : List D), (∀ x ∈ l, x ∈ cs) → Q (acc ++ l.map h) S → lcL step hold (l.map f) acc S Q := by
    intro l
    induction l with
    | nil => intro acc _ z; exact ⟨hh, by simpa using z⟩
    | cons x l ih =>
      intro acc hm z
      refine ⟨hh, turn x (hm x List.mem_cons_self) _ (ih _ (fun y hy => hm y (List.mem_cons_of_mem _ hy)) ?_)⟩
      simpa using z
  exact go cs [] (fun _ z => z) (by simpa using fin)
theorem lc_if (h : β → D) (p : β → Bool) (hh : hold S) (turn : ∀ c ∈ cs, ∀ K : Option D → Sto → Prop, K (if p c = true then some (h c) else none) S → step (f c) S K) (fin : Q ((cs.filter p).map h) S) : lcL step hold (cs.map f) [] S Q := by
  have go : ∀ (l : List β) (acc : List D), (∀ x ∈ l, x ∈ cs) → Q (acc ++ (l.filter p).map h) S → lcL step hold (l.map f) acc S Q := by
    intro l
    induction l with
    | nil => intro acc _ z; exact ⟨hh, by simpa using z⟩
    | cons x l ih =>
      intro acc hm z
      refine ⟨hh, turn x (hm x List.mem_cons_self) _ (ih _ (fun y hy => hm y (List.mem_cons_of_mem _ hy)) ?_)⟩
      rw [List.filter_cons] at z
      cases e : p x with
      | true => rw [e] at z; simpa using z
      | false => rw [e] at z; simpa using z
  exact go cs [] (fun _ z => z) (by simpa using fin)
end
theorem str_can {x : Str} (h : Shrt x) : PyData.canLay0 (.str x) = true := by
  rw [PyData.canLay0]
  show x.cps.all _ = true
  rw [← Array.all_toList, List.all_eq_true]
  exact fun c hc => decide_eq_true (h.2 c hc)
theorem rdg_strs (S : Sto) : ∀ xs : List Str, RdgL S (xs.map .str) (xs.map .str)
  | [] => .nil
  | x :: xs => .cons (.str x) (rdg_strs S xs)
theorem strs_can : ∀ {xs : List Str}, (∀ x ∈ xs, Shrt x) → PyData.canLayAll0 (xs.map PyData.str) = true
  | [], _ => by simp [PyData.canLayAll0]
  | x :: xs, h => by rw [List.map_cons, PyData.canLayAll0, str_can (h x List.mem_cons_self), strs_can fun y hy => h y (List.mem_cons_of_mem _ hy)]; rfl
theorem strs_dep : ∀ xs : List Str, PyData.depthAll (xs.map PyData.str) = 0
  | [] => by simp [PyData.depthAll]
  | x :: xs => by rw [List.map_cons, PyData.depthAll, strs_dep xs]; simp [PyData.depth]
theorem strsL_shaped {xs : List Str} (h : ∀ x ∈ xs, Shrt x) : SeqAt.shaped (.list (xs.map PyData.str)) = true := by
  unfold SeqAt.shaped
  rw [PyData.canLay0, strs_can h, PyData.depth, strs_dep]
  rfl
theorem strsT_shaped {xs : List Str} (h : ∀ x ∈ xs, Shrt x) : SeqAt.shaped (.tuple (xs.map PyData.str)) = true := by
  unfold SeqAt.shaped
  rw [PyData.canLay0, strs_can h, PyData.depth, strs_dep]
  rfl
theorem str_shaped {x : Str} (h : Shrt x) : SeqAt.shaped (.str x) = true := by
  unfold SeqAt.shaped
  rw [str_can h, PyData.depth]
  rfl
theorem c_eq0S {S : Sto} {xs : List Str} {Q : PR} (h : ∀ x ∈ xs, Shrt x) (q : Q (.v (.bl xs.isEmpty)) S) : cmpW .eq (.n (.lst (xs.map .str))) (.n (.lst [])) S Q := by
  refine ⟨.list (xs.map .str), .list [], ⟨_, rfl, rdg_strs S xs⟩, ⟨[], rfl, .nil⟩, strsL_shaped h, ints_shaped [], ?_⟩
  have e : PyData.eqv (.list (xs.map .str)) (.list []) = xs.isEmpty := by
    rw [PyData.eqv]
    cases xs <;> simp [PyData.eqvAll]
  rw [e]
  exact q
theorem any_strs (x : Str) : ∀ ys : List Str, ((ys.map PyData.str).any fun q => PyData.eqv q (.str x)) = ys.any fun y => y == x
  | [] => rfl
  | y :: ys => by rw [List.map_cons, List.any_cons, List.any_cons, any_strs x ys, PyData.eqv]
theorem c_ninST {S : Sto} {x : Str} {ys : List Str} {Q : PR} (hx : Shrt x) (h : ∀ y ∈ ys, Shrt y) (q : Q (.v (.bl (!(ys.any fun y => y == x)))) S) : cmpW .notin (.v (.str x)) (.v (.tup (ys.map .str))) S Q := by
  refine .inr (.inl ⟨.str x, ys.map .str, .str x, .tup (rdg_strs S ys), str_shaped hx, strsT_shaped h, ?_⟩)
  rw [any_strs]
  exact q
def kStr : D → Bool
  | .str _ => true
  | _ => false
def Nm (x : Str) : Prop := 1 ≤ x.length ∧ x.length ≤ 8 ∧ ∀ c ∈ x.cps.toList, c < 0x110000
theorem Nm.sh {x : Str} (h : Nm x) : Shrt x := ⟨by have := h.2.1; omega, h.2.2⟩
def shrtB (x : Str) : Bool := decide (x.length ≤ 150) && x.cps.toList.all fun c => decide (c < 0x110000)
theorem shrt_of {x : Str} (h : shrtB x = true) : Shrt x := by
  unfold shrtB at h
  rw [Bool.and_eq_true, List.all_eq_true] at h
  exact ⟨of_decide_eq_true h.1, fun c hc => of_decide_eq_true (h.2 c hc)⟩
def nmB (x : Str) : Bool := decide (1 ≤ x.length) && decide (x.length ≤ 8) && x.cps.toList.all fun c => decide (c < 0x110000)
theorem nm_of {x : Str} (h : nmB x = true) : Nm x := by
  unfold nmB at h
  rw [Bool.and_eq_true, Bool.and_eq_true, List.all_eq_true] at h
  exact ⟨of_decide_eq_true h.1.1, of_decide_eq_true h.1.2, fun c hc => of_decide_eq_true (h.2 c hc)⟩
theorem PenOk.new {S : Sto} {p c a : Addr} {n : Nat} {o : Ob} (hp : PenOk S p c n) (h : S a = none) : PenOk (up S a o) p c n := by
  obtain ⟨h1, ns, a', l, e1, e2, r⟩ := hp
  exact ⟨h1, ns, a', l, up_keep h e1, up_keep h e2, r⟩
theorem PenOk.ne {S : Sto} {p c a : Addr} {n : Nat} (hp : PenOk S p c n) (h : S a = none) : a ≠ p := fun z => by
  subst z
  obtain ⟨_, _, _, _, e, _⟩ := hp
  rw [h] at e
  cases e
theorem PenOk.mono {S : Sto} {p c : Addr} {n m : Nat} (hp : PenOk S p c n) (h : n ≤ m) : PenOk S p c m := by
  obtain ⟨h1, ns, a', l, e1, e2, r1, r2, r3⟩ := hp
  exact ⟨h1, ns, a', l, e1, e2, r1, by omega, r3⟩
theorem o_addSS {S : Sto} {i j : Str} {Q : PR} (hi : Shrt i) (hj : Shrt j) (q : Q (.v (.str (i ++ j))) S) : opW .add (.v (.str i)) (.v (.str j)) S Q :=
  ⟨Nat.le_trans (Nat.add_le_add hi.1 hj.1) (by decide), q⟩
theorem o_addTT {S : Sto} {i j : List D} {Q : PR} (hi : i.length ≤ 100) (hj : j.length ≤ 100) (q : Q (.v (.tup (i ++ j))) S) : opW .add (.v (.tup i)) (.v (.tup j)) S Q :=
  ⟨Nat.le_trans (Nat.add_le_add hi hj) (by decide), q⟩
theorem l_strS {S : Sto} {z : Str} {lo hi : Option Int} {Q : PR} (h : Shrt z) (q : Q (.v (.str ⟨(cut z.cps.toList lo hi).toArray⟩)) S) : slW (.v (.str z)) lo hi S Q := ⟨Nat.le_trans h.1 (by decide), q⟩
theorem atI_lt {α : Type} {xs : List α} {i : Int} (h0 : 0 ≤ i) (h1 : i < xs.length) : ∃ x, atI xs i = some x ∧ x ∈ xs := by
  unfold atI ixN
  rw [if_pos h0, if_pos h1]
  exact ⟨xs[i.toNat]'(by omega), List.getElem?_eq_getElem (by omega), List.getElem_mem _⟩
set_option maxRecDepth 100000
set_option maxHeartbeats 1000000
/-! ### orders -/
theorem leS_eq (x y : Str) : leS x y = decide (x.cps.toList ≤ y.cps.toList) := by
  have h := congrFun (congrFun (PySem.W.dataLe_str (β := Str) id) x) y
  exact h
theorem leS_total : PySem.W.TotalLe leS := by
  have h := PySem.W.sortLe_total (PyProof.Rows.listOrd PyProof.Rows.itemOrd) false (fun x : Str => PySem.W.keyToks (encD (.str x)))
  exact h
theorem leS_tot (x y : Str) : (leS x y || leS y x) = true := by
  rw [Bool.or_eq_true]
  exact leS_total.total x y
theorem str_ext {x y : Str} (h : x.cps.toList = y.cps.toList) : x = y := PySem.W.str_of_cps h
theorem leS_anti {x y : Str} (h1 : leS x y = true) (h2 : leS y x = true) : x = y := by
  rw [leS_eq, decide_eq_true_eq] at h1 h2
  exact str_ext (List.le_antisymm h1 h2)
abbrev sortS (xs : List Str) : List Str := xs.mergeSort leS
theorem sortS_pw (xs : List Str) : (sortS xs).Pairwise (fun x y => leS x y = true) := List.pairwise_mergeSort leS_total.trans leS_tot xs
theorem sortS_perm (xs : List Str) : (sortS xs).Perm xs := List.mergeSort_perm xs leS
theorem sortS_eq {xs ys : List Str} (h : xs.Perm ys) : sortS xs = sortS ys :=
  List.Perm.eq_of_pairwise (fun x y _ _ h1 h2 => leS_anti h1 h2) (sortS_pw xs) (sortS_pw ys) ((sortS_perm xs).trans (h.trans (sortS_perm ys).symm))
theorem sortS_lt {xs : List Str} (h : xs.Nodup) : (sortS xs).Pairwise (fun x y => x.cps.toList < y.cps.toList) := by
  have h1 := sortS_pw xs
  have h2 : (sortS xs).Pairwise (· ≠ ·) := (sortS_perm xs).nodup_iff.mpr h
  refine (h1.and h2).imp fun {x y} ⟨a, b⟩ => ?_
  rw [leS_eq, decide_eq_true_eq] at a
  by_cases q : x.cps.toList < y.cps.toList
  · exact q
  · exact absurd (str_ext (List.le_antisymm a (List.not_lt.mp q))) b
/-- lots: rising tuples of names -/
def tupS (l : List Str) : D := .tup (l.map .str)
def leL (x y : List Str) : Bool := PySem.W.dataLe false encD (tupS x) (tupS y)
theorem leL_total : PySem.W.TotalLe leL := by
  have h := PySem.W.sortLe_total (PyProof.Rows.listOrd PyProof.Rows.itemOrd) false (fun x : List Str => PySem.W.keyToks (encD (tupS x)))
  exact h
theorem leL_tot (x y : List Str) : (leL x y || leL y x) = true := by
  rw [Bool.or_eq_true]
  exact leL_total.total x y
theorem encDs_strs (xs : List Str) : encDs (xs.map .str) = xs.map .str := by
  rw [encDs_map, List.map_map]
  exact List.map_congr_left fun x _ => by show encD (.str x) = _; rw [encD]
theorem enc_tupS (l : List Str) : encD (tupS l) = .tuple (l.map .str) := by
  unfold tupS
  rw [encD, encDs_strs]
theorem toks_inj : ∀ {x y : List Str}, PySem.W.keyToksAll (x.map PyData.str) = PySem.W.keyToksAll (y.map PyData.str) → x = y
  | [], [], _ => rfl
  | [], y :: ys, h => by simp [PySem.W.keyToksAll] at h
  | x :: xs, [], h => by simp [PySem.W.keyToksAll] at h
  | x :: xs, y :: ys, h => by
    rw [List.map_cons, List.map_cons, PySem.W.keyToksAll, PySem.W.keyToksAll, PySem.W.keyToks, PySem.W.keyToks] at h
    have h := (List.cons.inj h).2
    have h1 := List.cons.inj h
    rw [toks_inj h1.2, str_ext (Sum.inr.inj h1.1)]
theorem leL_anti {x y : List Str} (h1 : leL x y = true) (h2 : leL y x = true) : x = y := by
  have e : PySem.W.keyToks (encD (tupS x)) = PySem.W.keyToks (encD (tupS y)) := by
    refine (PyProof.Rows.listOrd PyProof.Rows.itemOrd).total _ _ ?_ ?_
    · have : (!(PyProof.Rows.listOrd PyProof.Rows.itemOrd).blt (PySem.W.keyToks (encD (tupS x))) (PySem.W.keyToks (encD (tupS y)))) = true := h2
      simpa using this
    · have : (!(PyProof.Rows.listOrd PyProof.Rows.itemOrd).blt (PySem.W.keyToks (encD (tupS y))) (PySem.W.keyToks (encD (tupS x)))) = true := h1
      simpa using this
  rw [enc_tupS, enc_tupS, PySem.W.keyToks, PySem.W.keyToks] at e
  exact toks_inj e
abbrev sortL (xs : List (List Str)) : List (List Str) := xs.mergeSort leL
theorem sortL_perm (xs : List (List Str)) : (sortL xs).Perm xs := List.mergeSort_perm xs leL
theorem sortL_eq {xs ys : List (List Str)} (h : xs.Perm ys) : sortL xs = sortL ys :=
  List.Perm.eq_of_pairwise (fun x y _ _ h1 h2 => leL_anti h1 h2) (List.pairwise_mergeSort leL_total.trans leL_tot xs) (List.pairwise_mergeSort leL_total.trans leL_tot ys) ((sortL_perm xs).trans (h.trans (sortL_perm ys).symm))
theorem sortD_tups (xs : List (List Str)) : sortD (xs.map tupS) = (sortL xs).map tupS :=
  (List.map_mergeSort (r := leL) (s := PySem.W.dataLe false encD) (f := tupS) (l := xs) fun _ _ _ _ => rfl).symm
theorem alike_strs : ∀ xs ys : List Str, PySem.W.alikeAll (xs.map PyData.str) (ys.map PyData.str) = true
  | [], _ => by simp [PySem.W.alikeAll]
  | _ :: _, [] => by simp [PySem.W.alikeAll]
  | x :: xs, y :: ys => by rw [List.map_cons, List.map_cons, PySem.W.alikeAll, alike_strs xs ys]; simp [PySem.W.alike]
theorem pureDs_tups : ∀ xs : List (List Str), pureDs (xs.map tupS) = true
  | [] => rfl
  | x :: xs => by
    rw [List.map_cons, pureDs, pureDs_tups xs]
    unfold tupS
    rw [pureD, pureDs_strs]
    rfl
theorem b_sortT' {S : Sto} {xs : List (List Str)} {r : R} {Q : PR} (hr : lstOf S r = some (xs.map tupS)) (hne : ∀ l ∈ xs, l ≠ []) (q : Q (.n (.lst ((sortL xs).map tupS))) S) : biW .sorted [r] S Q := by
  rw [← sortD_tups] at q
  refine ⟨_, hr, pureDs_tups xs, ?_, .inl ?_, ?_, q⟩
  · intro d hd d' hd'
    simp only [List.map_map, List.mem_map] at hd hd'
    obtain ⟨x, _, rfl⟩ := hd
    obtain ⟨y, _, rfl⟩ := hd'
    show PySem.W.alike (encD (tupS x)) (encD (tupS y)) = true
    rw [enc_tupS, enc_tupS, PySem.W.alike]
    exact alike_strs x y
  · intro d hd
    simp only [List.map_map, List.mem_map] at hd
    obtain ⟨x, hx, rfl⟩ := hd
    show ∃ y r, encD (tupS x) = _
    rw [enc_tupS]
    cases x with
    | nil => exact absurd rfl (hne [] hx)
    | cons y r => exact ⟨_, _, rfl⟩
  · intro d hd
    obtain ⟨x, _, rfl⟩ := List.mem_map.mp hd
    rw [enc_tupS, PyData.depth, strs_dep]
    decide
theorem b_sortT {S : Sto} {xs : List (List Str)} {Q : PR} (hne : ∀ l ∈ xs, l ≠ []) (q : Q (.n (.lst ((sortL xs).map tupS))) S) : biW .sorted [.n (.lst (xs.map tupS))] S Q := b_sortT' rfl hne q
theorem b_sortTR {S : Sto} {a : Addr} {xs : List (List Str)} {Q : PR} (h : S a = some (.lst (xs.map tupS))) (hne : ∀ l ∈ xs, l ≠ []) (q : Q (.n (.lst ((sortL xs).map tupS))) S) : biW .sorted [.v (.ref a)] S Q := b_sortT' (lstOf_ref h) hne q
theorem b_sortSR {S : Sto} {a : Addr} {xs : List Str} {Q : PR} (h : S a = some (.lst (xs.map .str))) (q : Q (.n (.lst ((xs.mergeSort leS).map .str))) S) : biW .sorted [.v (.ref a)] S Q := by
  have z : biW .sorted [.n (.lst (xs.map .str))] S Q := b_sortS q
  obtain ⟨ys, e, r⟩ := z
  cases e
  exact ⟨_, lstOf_ref h, r⟩
/-! ### trees -/
def inLet (c : Nat) : Bool := inStr ⟨#[c]⟩ "abcdefghijklmnopqrstuvwxyz"
/-- a name -/
def Wd (x : Str) : Prop := Nm x ∧ x.cps.toList.all inLet = true
mutual
def isTr : D → Prop
  | .str x => Wd x
  | .tup ds => 2 ≤ ds.length ∧ isTrs ds
  | _ => False
def isTrs : List D → Prop
  | [] => True
  | d :: ds => isTr d ∧ isTrs ds
end
mutual
def ht : D → Nat
  | .tup ds => hts ds + 1
  | _ => 0
def hts : List D → Nat
  | [] => 0
  | d :: ds => max (ht d) (hts ds)
end
mutual
def sz : D → Nat
  | .tup ds => szs ds + 1
  | _ => 1
def szs : List D → Nat
  | [] => 0
  | d :: ds => sz d + szs ds
end
mutual
def nms : D → List Str
  | .str x => [x]
  | .tup ds => nmss ds
  | _ => []
def nmss : List D → List Str
  | [] => []
  | d :: ds => nms d ++ nmss ds
end
mutual
def lotsB : D → List (List Str)
  | .tup ds => sortS (nmss ds) :: lotsBs ds
  | _ => []
def lotsBs : List D → List (List Str)
  | [] => []
  | d :: ds => lotsB d ++ lotsBs ds
end
mutual
def two : D → Bool
  | .str _ => true
  | .tup ds => decide (ds.length = 2) && twos ds
  | _ => false
def twos : List D → Bool
  | [] => true
  | d :: ds => two d && twos ds
end
theorem isTrs_iff : ∀ {ds : List D}, isTrs ds ↔ ∀ d ∈ ds, isTr d
  | [] => by simp [isTrs]
  | d :: ds => by rw [isTrs, isTrs_iff (ds := ds)]; simp
theorem nmss_flat : ∀ ds : List D, nmss ds = ds.flatMap nms
  | [] => rfl
  | d :: ds => by rw [nmss, nmss_flat ds]; rfl
theorem lotsBs_flat : ∀ ds : List D, lotsBs ds = ds.flatMap lotsB
  | [] => rfl
  | d :: ds => by rw [lotsBs, lotsBs_flat ds]; rfl
theorem sz_pos : ∀ d : D, 1 ≤ sz d
  | .tup ds => by rw [sz]; omega
  | .str _ => by simp [sz]
  | .non => by simp [sz]
  | .bl _ => by simp [sz]
  | .int _ => by simp [sz]
  | .fz _ => by simp [sz]
  | .ref _ => by simp [sz]
mutual
theorem ht_sz : ∀ d : D, ht d ≤ sz d
  | .tup ds => by rw [ht, sz]; have := hts_szs ds; omega
  | .str _ => by simp [ht, sz]
  | .non => by simp [ht, sz]
  | .bl _ => by simp [ht, sz]
  | .int _ => by simp [ht, sz]
  | .fz _ => by simp [ht, sz]
  | .ref _ => by simp [ht, sz]
theorem hts_szs : ∀ ds : List D, hts ds ≤ szs ds
  | [] => by simp [hts, szs]
  | d :: ds => by rw [hts, szs]; have := ht_sz d; have := hts_szs ds; omega
end
mutual
theorem sz_nms : ∀ d : D, isTr d → sz d + 1 ≤ 2 * (nms d).length
  | .str x, _ => by simp [sz, nms]
  | .tup ds, h => by
    rw [isTr] at h
    rw [sz, nms]
    have := szs_nmss ds h.2
    omega
  | .non, h => by simp [isTr] at h
  | .bl _, h => by simp [isTr] at h
  | .int _, h => by simp [isTr] at h
  | .fz _, h => by simp [isTr] at h
  | .ref _, h => by simp [isTr] at h
theorem szs_nmss : ∀ ds : List D, isTrs ds → szs ds + ds.length ≤ 2 * (nmss ds).length
  | [], _ => by simp [szs, nmss]
  | d :: ds, h => by
    rw [isTrs] at h
    rw [szs, nmss, List.length_append, List.length_cons]
    have := sz_nms d h.1
    have := szs_nmss ds h.2
    omega
end
mutual
theorem tr_pure : ∀ d : D, isTr d → pureD d = true
  | .str x, _ => rfl
  | .tup ds, h => by rw [isTr] at h; rw [pureD]; exact trs_pure ds h.2
  | .non, h => by simp [isTr] at h
  | .bl _, h => by simp [isTr] at h
  | .int _, h => by simp [isTr] at h
  | .fz _, h => by simp [isTr] at h
  | .ref _, h => by simp [isTr] at h
theorem trs_pure : ∀ ds : List D, isTrs ds → pureDs ds = true
  | [], _ => rfl
  | d :: ds, h => by rw [isTrs] at h; rw [pureDs, tr_pure d h.1, trs_pure ds h.2]; rfl
end
mutual
theorem tr_can : ∀ d : D, isTr d → (encD d).canLay0 = true
  | .str x, h => by rw [isTr] at h; rw [encD]; exact str_can h.1.sh
  | .tup ds, h => by rw [isTr] at h; rw [encD, PyData.canLay0]; exact trs_can ds h.2
  | .non, h => by simp [isTr] at h
  | .bl _, h => by simp [isTr] at h
  | .int _, h => by simp [isTr] at h
  | .fz _, h => by simp [isTr] at h
  | .ref _, h => by simp [isTr] at h
theorem trs_can : ∀ ds : List D, isTrs ds → PyData.canLayAll0 (encDs ds) = true
  | [], _ => by simp [encDs, PyData.canLayAll0]
  | d :: ds, h => by rw [isTrs] at h; rw [encDs, PyData.canLayAll0, tr_can d h.1, trs_can ds h.2]; rfl
end
mutual
theorem enc_dep : ∀ d : D, (encD d).depth ≤ ht d
  | .tup ds => by rw [encD, PyData.depth, ht]; exact Nat.succ_le_succ (encs_dep ds)
  | .str _ => by rw [encD, PyData.depth]; exact Nat.zero_le _
  | .non => by rw [encD, PyData.depth]; exact Nat.zero_le _
  | .bl _ => by rw [encD, PyData.depth]; exact Nat.zero_le _
  | .int _ => by rw [encD, PyData.depth]; exact Nat.zero_le _
  | .fz _ => by rw [encD, PyData.depth]; exact Nat.zero_le _
  | .ref _ => by rw [encD, PyData.depth]; exact Nat.zero_le _
theorem encs_dep : ∀ ds : List D, PyData.depthAll (encDs ds) ≤ hts ds
  | [] => by rw [encDs, PyData.depthAll]; exact Nat.zero_le _
  | d :: ds => by rw [encDs, PyData.depthAll, hts]; have := enc_dep d; have := encs_dep ds; omega
end
/-! ### what is shown -/
mutual
def wt : PyData → Nat
  | .none => 4
  | .bool _ => 5
  | .int i => ((toString i : String) : Str).length
  | .str x => 10 * x.length + 2
  | .list xs => wts xs + 3
  | .tuple xs => wts xs + 3
  | .dict _ => 0
def wts : List PyData → Nat
  | [] => 0
  | x :: xs => wt x + 2 + wts xs
end
theorem text_len2 : ∀ (ts : List Str) (k : Nat) (acc : Str), (textFrom k acc ts).length ≤ acc.length + piled ts
  | [], k, acc => by show acc.length ≤ _; omega
  | t :: r, k, acc => by
    have ih := text_len2 r (k + 1) (acc ++ (if k > 0 then ", " else "" : String) ++ t)
    have e : (acc ++ (if k > 0 then ", " else "" : String) ++ t).length ≤ acc.length + 2 + t.length := by
      rw [strLen_append, strLen_append]
      split
      · exact Nat.le_refl _
      · show acc.length + 0 + t.length ≤ _
        omega
    show (textFrom (k + 1) _ r).length ≤ _
    rw [piled_cons]
    omega
mutual
theorem shown_le : ∀ p : PyData, p.canLay0 = true → p.shown.length ≤ wt p
  | .none, _ => by rw [PyData.shown, wt]; exact Nat.le_of_ble_eq_true rfl
  | .bool b, _ => by rw [PyData.shown, wt]; cases b <;> exact Nat.le_of_ble_eq_true rfl
  | .int i, _ => by rw [PyData.shown, wt]; exact Nat.le_refl _
  | .str x, h => by
    rw [PyData.shown, wt]
    rw [PyData.canLay0] at h
    refine StrLaws.reprText_len x fun c hc => ?_
    have h : x.cps.all (fun c => decide (c < 0x110000)) = true := h
    rw [← Array.all_toList, List.all_eq_true] at h
    have := of_decide_eq_true (h c hc)
    omega
  | .list xs, h => by
    rw [PyData.canLay0] at h
    rw [PyData.shown, wt]
    have h1 := shownAll_wts xs h
    unfold listText
    have h2 := text_len2 (PyData.shownAll xs) 0 "["
    rw [strLen_append]
    have e1 : ((("[" : String) : Str)).length = 1 := rfl
    have e2 : ((("]" : String) : Str)).length = 1 := rfl
    omega
  | .tuple xs, h => by
    rw [PyData.canLay0] at h
    rw [PyData.shown, wt]
    have h1 := shownAll_wts xs h
    unfold tupleText
    have h2 : (Str.join ", " (PyData.shownAll xs)).length ≤ piled (PyData.shownAll xs) := by
      by_cases e : PyData.shownAll xs = []
      · rw [e]; exact Nat.zero_le _
      · have := join_length_add _ e
        omega
    rw [strLen_append, strLen_append]
    have e1 : ((("(" : String) : Str)).length = 1 := rfl
    have e2 : (((if (PyData.shownAll xs).length == 1 then ",)" else ")" : String) : Str)).length ≤ 2 := by split <;> exact Nat.le_of_ble_eq_true rfl
    omega
  | .dict _, h => by simp [PyData.canLay0] at h
theorem shownAll_wts : ∀ xs : List PyData, PyData.canLayAll0 xs = true → piled (PyData.shownAll xs) ≤ wts xs
  | [], _ => by rw [PyData.shownAll, wts]; exact Nat.le_refl _
  | x :: xs, h => by
    rw [PyData.canLayAll0, Bool.and_eq_true] at h
    rw [PyData.shownAll, wts, piled_cons]
    have := shown_le x h.1
    have := shownAll_wts xs h.2
    omega
end
/-- can be shown, and compared -/
structure Sp (p : PyData) : Prop where
  sh : p.showable = true
  dep : p.depth ≤ 60
  can : p.canLay0 = true
  len : wt p ≤ sizeLine
theorem Sp.all {S : Sto} {r : R} {p : PyData} {Q : PR} (h : Sp p) (rd : RdgR S r p) (q : Q (.v (.str p.shown)) S) : biW .repr [r] S Q :=
  ⟨p, rd, h.sh, h.dep, fun z => (by rw [PyData.hasDict_of_canLay p h.can] at z; cases z), Nat.le_trans (shown_le p h.can) h.len, q⟩
theorem b_reprV {S : Sto} {d : D} {Q : PR} (hp : pureD d = true) (h : Sp (encD d)) (q : Q (.v (.str (encD d).shown)) S) : biW .repr [.v d] S Q := h.all (show Rdg S d _ from rdg_pure S d hp) q
mutual
theorem tr_show : ∀ d : D, isTr d → (encD d).showable = true
  | .str x, _ => by simp [encD, PyData.showable]
  | .tup ds, h => by rw [isTr] at h; rw [encD, PyData.showable]; exact trs_show ds h.2
  | .non, h => by simp [isTr] at h
  | .bl _, h => by simp [isTr] at h
  | .int _, h => by simp [isTr] at h
  | .fz _, h => by simp [isTr] at h
  | .ref _, h => by simp [isTr] at h
theorem trs_show : ∀ ds : List D, isTrs ds → PyData.showableAll (encDs ds) = true
  | [], _ => by simp [encDs, PyData.showableAll]
  | d :: ds, h => by rw [isTrs] at h; rw [encDs, PyData.showableAll, tr_show d h.1, trs_show ds h.2]; rfl
end
mutual
theorem tr_wt : ∀ d : D, isTr d → wt (encD d) + 2 ≤ 90 * sz d
  | .str x, h => by rw [isTr] at h; rw [encD, wt, show sz (.str x) = 1 by simp [sz]]; have := h.1.2.1; omega
  | .tup ds, h => by
    rw [isTr] at h
    rw [encD, wt, sz]
    have := trs_wt ds h.2
    omega
  | .non, h => by simp [isTr] at h
  | .bl _, h => by simp [isTr] at h
  | .int _, h => by simp [isTr] at h
  | .fz _, h => by simp [isTr] at h
  | .ref _, h => by simp [isTr] at h
theorem trs_wt : ∀ ds : List D, isTrs ds → wts (encDs ds) ≤ 90 * szs ds
  | [], _ => by simp [encDs, wts]
  | d :: ds, h => by
    rw [isTrs] at h
    rw [encDs, wts, szs]
    have := tr_wt d h.1
    have := trs_wt ds h.2
    omega
end
/-- a tree of not too many names -/
structure Tree (d : D) : Prop where
  tr : isTr d
  few : (nms d).length ≤ 20
theorem Tree.sp {d : D} (h : Tree d) : Sp (encD d) := by
  have h1 := sz_nms d h.tr
  have h2 := h.few
  have h3 := ht_sz d
  have h4 := enc_dep d
  have h5 := tr_wt d h.tr
  exact ⟨tr_show d h.tr, by omega, tr_can d h.tr, by rw [sizeLine_eq]; omega⟩
theorem strs_show : ∀ xs : List Str, PyData.showableAll (xs.map PyData.str) = true
  | [] => by simp [PyData.showableAll]
  | x :: xs => by rw [List.map_cons, PyData.showableAll, strs_show xs]; simp [PyData.showable]
theorem strs_wt : ∀ {xs : List Str}, (∀ x ∈ xs, Shrt x) → wts (xs.map PyData.str) ≤ 1510 * xs.length
  | [], _ => by simp [wts]
  | x :: xs, h => by
    rw [List.map_cons, wts, wt, List.length_cons]
    have := (h x List.mem_cons_self).1
    have := strs_wt fun y hy => h y (List.mem_cons_of_mem _ hy)
    omega
theorem sp_lot {l : List Str} (h : ∀ x ∈ l, Shrt x) (hl : l.length ≤ 100) : Sp (encD (tupS l)) := by
  rw [enc_tupS]
  refine ⟨by rw [PyData.showable]; exact strs_show l, by rw [PyData.depth, strs_dep]; decide, by rw [PyData.canLay0]; exact strs_can h, ?_⟩
  rw [wt, sizeLine_eq]
  have := strs_wt h
  omega
theorem sp_lots {ls : List (List Str)} (h : ∀ l ∈ ls, (∀ x ∈ l, Shrt x) ∧ l.length ≤ 100) (hl : ls.length ≤ 100) : Sp (.list (encDs (ls.map tupS))) := by
  have key : ∀ ls : List (List Str), (∀ l ∈ ls, (∀ x ∈ l, Shrt x) ∧ l.length ≤ 100) → PyData.showableAll (encDs (ls.map tupS)) = true ∧ PyData.depthAll (encDs (ls.map tupS)) ≤ 1 ∧ PyData.canLayAll0 (encDs (ls.map tupS)) = true ∧ wts (encDs (ls.map tupS)) ≤ 151005 * ls.length := by
    intro ls
    induction ls with
    | nil => intro _; simp [encDs, PyData.showableAll, PyData.depthAll, PyData.canLayAll0, wts]
    | cons l ls ih =>
      intro h
      obtain ⟨h1, h2, h3, h4⟩ := ih fun m hm => h m (List.mem_cons_of_mem _ hm)
      have hh := h l List.mem_cons_self
      rw [List.map_cons, encDs, enc_tupS, PyData.showableAll, PyData.depthAll, PyData.canLayAll0, wts, PyData.showable, PyData.depth, PyData.canLay0, wt, h1, h3, strs_show, strs_can hh.1, strs_dep, List.length_cons]
      have := strs_wt hh.1
      refine ⟨rfl, by omega, rfl, by omega⟩
  obtain ⟨h1, h2, h3, h4⟩ := key ls h
  exact ⟨by rw [PyData.showable]; exact h1, by rw [PyData.depth]; omega, by rw [PyData.canLay0]; exact h3, by rw [wt, sizeLine_eq]; omega⟩
/-! comparing with nothing -/
theorem c_neT {S : Sto} {a : Addr} {ds : List D} {Q : PR} (h : S a = some (.lst ds)) (ht : isTrs ds) (hh : hts ds ≤ 60) (q : Q (.v (.bl (!ds.isEmpty))) S) : cmpW .ne (.v (.ref a)) (.n (.lst [])) S Q := by
  refine ⟨.list (encDs ds), .list [], .lst h (rdgL_pure S ds (trs_pure ds ht)), ⟨[], rfl, .nil⟩, ?_, ints_shaped [], ?_⟩
  · unfold SeqAt.shaped
    rw [PyData.canLay0, trs_can ds ht, PyData.depth]
    have := encs_dep ds
    simp
    omega
  · have e : PyData.eqv (.list (encDs ds)) (.list []) = ds.isEmpty := by
      rw [PyData.eqv]
      cases ds <;> simp [encDs, PyData.eqvAll]
    rw [e]
    exact q
theorem c_eq00 {S : Sto} {Q : PR} (q : Q (.v (.bl true)) S) : cmpW .eq (.n (.lst [])) (.n (.lst [])) S Q := c_eq0S (xs := []) (fun _ z => by cases z) q
/-! loops -/
theorem acc_flat {step : D → List D → Sto → (List D → Sto → Prop) → Prop} {hold : Sto → Prop} {S : Sto} (g : D → List D) (N : Nat) : ∀ {xs acc : List D} {Q : List D → Sto → Prop}, hold S → acc.length + (xs.flatMap g).length ≤ N →
    (∀ x ∈ xs, ∀ (acc : List D) (K : List D → Sto → Prop), acc.length + (g x).length ≤ N → K (acc ++ g x) S → step x acc S K) → Q (acc ++ xs.flatMap g) S → accL step hold xs acc S Q
  | [], acc, Q, hh, hN, turn, fin => ⟨hh, by simpa using fin⟩
  | x :: xs, acc, Q, hh, hN, turn, fin => by
    rw [List.flatMap_cons, List.length_append] at hN
    refine ⟨hh, turn x List.mem_cons_self acc _ (by omega) ?_⟩
    exact acc_flat g N hh (by rw [List.length_append]; omega) (fun y hy => turn y (List.mem_cons_of_mem _ hy)) (by rw [List.flatMap_cons] at fin; rw [List.append_assoc]; exact fin)
theorem acc_id {step : D → List D → Sto → (List D → Sto → Prop) → Prop} {hold : Sto → Prop} {S : Sto} {xs acc : List D} {Q : List D → Sto → Prop} (N : Nat) (hh : hold S) (hN : acc.length + xs.length ≤ N)
    (turn : ∀ x ∈ xs, ∀ (acc : List D) (K : List D → Sto → Prop), acc.length < N → K (acc ++ [x]) S → step x acc S K) (fin : Q (acc ++ xs) S) : accL step hold xs acc S Q := by
  have e : xs.flatMap (fun x => [x]) = xs := by simp
  refine acc_flat (fun x => [x]) N hh (by rw [e]; exact hN) (fun x hx acc K h => turn x hx acc K (by simp at h; omega)) (by rw [e]; exact fin)
/-! more of stores -/
theorem PenOk.sub {S T : Sto} {p c : Addr} {n : Nat} (hp : PenOk S p c n) (h : Sub S T) : PenOk T p c n := by
  obtain ⟨h1, ns, a', l, e1, e2, r⟩ := hp
  exact ⟨h1, ns, a', l, h _ _ e1, h _ _ e2, r⟩
theorem PenOk.upd {S0 S : Sto} {p c a : Addr} {n m : Nat} {o : Ob} (h0 : PenOk S0 p c m) (e : S0 a = none) (hp : PenOk S p c n) : PenOk (up S a o) p c n := by
  obtain ⟨_, _, _, _, f1, f2, _⟩ := h0
  obtain ⟨h1, ns, a', l, e1, e2, r⟩ := hp
  exact ⟨h1, ns, a', l, up_get (fun z => by subst z; rw [e] at f1; cases f1) e1, up_get (fun z => by subst z; rw [e] at f2; cases f2) e2, r⟩
theorem Sub.rfl {S : Sto} : Sub S S := fun _ _ h => h
theorem Sub.trans {S T U : Sto} (h : Sub S T) (h' : Sub T U) : Sub S U := fun a o e => h' a o (h a o e)
theorem Sub.then {S T : Sto} {a : Addr} {o : Ob} (x : Sub S T) (h : S a = none) : Sub S (up T a o) := fun b q e => (up_ne (fun z => by subst z; rw [h] at e; cases e)).trans (x b q e)
theorem Sub.ext {S T : Sto} {p : Addr} (x : Sub S T) : Ext p S T := fun b o _ e => x b o e
theorem Sub.none {S T : Sto} {a : Addr} (x : Sub S T) (h : T a = none) : S a = none := by
  cases e : S a with
  | none => exact _root_.rfl
  | some o => rw [x a o e] at h; cases h
theorem Ext.none {S T : Sto} {p a : Addr} (x : Ext p S T) (hn : a ≠ p) (h : T a = none) : S a = none := by
  cases e : S a with
  | none => exact _root_.rfl
  | some o => rw [x a o hn e] at h; cases h
/-- an item is taken out -/
theorem m_popD {S : Sto} {t : Addr} {xs : List D} {i : Int} {Q : PR} (h : S t = some (.lst xs)) (h0 : i = -1 ∨ (0 ≤ i ∧ i < xs.length)) (hx : 1 ≤ xs.length) (h2 : xs.length < 1000000)
    (q : ∀ x rest, (x :: rest).Perm xs → Q (.v x) (up S t (.lst rest))) : meW .pop (.v (.ref t)) [.int i] S Q := by
  rcases h0 with rfl | ⟨h0, h1⟩
  · have hi : xs.length - 1 < xs.length := by omega
    refine ⟨xs, xs.length - 1, xs[xs.length - 1], h, by decide, by decide, ?_, List.getElem?_eq_getElem hi, q _ _ (DP.erase_perm xs _ _ (List.getElem?_eq_getElem hi))⟩
    unfold ixN
    rw [if_neg (by decide), if_pos (by omega)]
    congr 1
    omega
  · have hi : i.toNat < xs.length := by omega
    refine ⟨xs, i.toNat, xs[i.toNat], h, by omega, by omega, ?_, List.getElem?_eq_getElem hi, q _ _ (DP.erase_perm xs _ _ (List.getElem?_eq_getElem hi))⟩
    unfold ixN
    rw [if_pos h0, if_pos h1]
theorem m_popL {S : Sto} {t : Addr} {xs : List D} {x : D} {Q : PR} (h : S t = some (.lst (xs ++ [x]))) (q : Q (.v x) (up S t (.lst xs))) : meW .pop (.v (.ref t)) [] S Q := by
  refine ⟨xs ++ [x], x, h, by simp, ?_⟩
  rw [List.dropLast_concat]
  exact q
theorem m_extend {S : Sto} {a b : Addr} {xs ys : List D} {Q : PR} (h1 : S a = some (.lst xs)) (h2 : S b = some (.lst ys)) (hl : xs.length + ys.length ≤ sizeLine) (q : Q (.v .non) (up S a (.lst (xs ++ ys)))) : meW .extend (.v (.ref a)) [.ref b] S Q := ⟨xs, ys, h1, h2, hl, q⟩
set_option maxRecDepth 100000
set_option maxHeartbeats 1000000
def bPen : List C := [.ret (.dK [.inr "cells", .inr "at", .inr "left"] [(.bi .list [(.sl (.var 0) none (some (.cst (.int 63))))]), (.cst (.int 0)), (.cst (.int 0))])]
def bDraw : List C := [.ife (.cmp .gt (.ix (.var 0) (.cst (.str "left"))) (.cst (.int 0))) [.asg (.name 2) (.bin .mod (.ix (.var 0) (.cst (.str "left"))) (.var 1)), .asg (.sub (.var 0) (.cst (.str "left"))) (.bin .fdiv (.ix (.var 0) (.cst (.str "left"))) (.var 1)), .ret (.var 2)] [], .asg (.name 3) (.ix (.var 0) (.cst (.str "at"))), .asg (.sub (.var 0) (.cst (.str "at"))) (.bin .add (.var 3) (.cst (.int 1))), .asg (.name 4) (.bin .add (.bin .mul (.cst (.int 2113)) (.var 3)) (.cst (.int 601))), .ife (.cmp .ne (.ix (.var 0) (.cst (.str "cells"))) (.lst [])) [.asg (.name 4) (.ix (.ix (.var 0) (.cst (.str "cells"))) (.bin .mod (.var 3) (.bi .len [(.ix (.var 0) (.cst (.str "cells")))])))] [], .ife (.and (.cmp .lt (.var 3) (.bi .len [(.ix (.var 0) (.cst (.str "cells")))])) (.cmp .ge (.bi .abs [(.var 4)]) (.bin .pow (.cst (.int 10)) (.cst (.int 18))))) [.asg (.name 5) (.bin .add (.bin .mul (.cst (.int 2)) (.bi .abs [(.var 4)])) (.bi .int [(.cmp .lt (.var 4) (.cst (.int 0)))])), .asg (.sub (.var 0) (.cst (.str "left"))) (.bin .fdiv (.var 5) (.var 1)), .ret (.bin .mod (.var 5) (.var 1))] [], .asg (.name 6) (.bin .mod (.bin .pow (.bin .add (.bin .add (.bin .mod (.var 4) (.cst (.int 2147483549))) (.bin .mul (.cst (.int 73009)) (.var 3))) (.cst (.int 71))) (.cst (.int 5))) (.cst (.int 2147483647))), .asg (.name 7) (.bin .mod (.bin .pow (.bin .add (.bin .mul (.var 6) (.bin .add (.var 3) (.cst (.int 65557)))) (.bin .mul (.bin .mul (.cst (.int 84991)) (.var 3)) (.var 3))) (.cst (.int 3))) (.cst (.int 2147483423))), .ret (.bin .mod (.bin .fdiv (.var 7) (.cst (.int 32))) (.var 1))]
def bNames (fDraw : Nat) : List C := [.asg (.name 2) (.lst [(.cst (.str "a")), (.cst (.str "aa")), (.cst (.str "ab")), (.cst (.str "b")), (.cst (.str "ba")), (.cst (.str "c")), (.cst (.str "d")), (.cst (.str "e")), (.cst (.str "zz")), (.cst (.str "zzzzzzzz")), (.cst (.str "m")), (.cst (.str "ma")), (.cst (.str "n"))]), .ret (.bi .sorted [(.lc (.me .pop (.var 2) [(.call fDraw [(.var 0), (.bi .len [(.var 2)])])]) (.name 3) (.rng1 (.var 1)) none [3])])]
def bLeast : List C := [.whl (.not (.isi (.var 0) .str)) [.asg (.name 0) (.ix (.var 0) (.cst (.int 0)))], .ret (.var 0)]
def bFork (fLeast : Nat) : List C := [.ife (.cmp .eq (.bi .len [(.var 0)]) (.cst (.int 1))) [.ret (.ix (.var 0) (.cst (.int 0)))] [], .asg (.name 1) (.bi .sorted [(.lc (.tup [(.call fLeast [(.var 3)]), (.var 2)]) (.tup [2, 3]) (.enum (.var 0)) none [2, 3])]), .ret (.bi .tupl [(.lc (.ix (.var 0) (.var 2)) (.tup [4, 2]) (.seq (.var 1)) none [4, 2])])]
def bTree (fDraw fFork : Nat) : List C := [.asg (.name 3) (.bi .list [(.var 1)]), .whl (.cmp .gt (.bi .len [(.var 3)]) (.cst (.int 1))) [.asg (.name 4) (.bin .add (.cst (.int 2)) (.bin .mul (.var 2) (.ix (.lst [(.cst (.int 0)), (.cst (.int 0)), (.cst (.int 1)), (.call fDraw [(.var 0), (.cst (.int 3))])]) (.call fDraw [(.var 0), (.cst (.int 4))])))), .asg (.name 5) (.lst []), .for (.name 6) (.rng1 (.bi .min [(.var 4), (.bi .len [(.var 3)])])) [.exp (.me .append (.var 5) [(.me .pop (.var 3) [(.ix (.lst [(.call fDraw [(.var 0), (.bi .len [(.var 3)])]), (.neg (.cst (.int 1)))]) (.call fDraw [(.var 0), (.cst (.int 2))]))])])], .exp (.me .append (.var 3) [(.call fFork [(.var 5)])])], .ret (.ix (.var 3) (.cst (.int 0)))]
def bBelow : List C := [.asg (.name 1) (.lst []), .asg (.name 2) (.lst [(.var 0)]), .whl (.cmp .ne (.var 2) (.lst [])) [.asg (.name 3) (.me .pop (.var 2) []), .ife (.isi (.var 3) .str) [.exp (.me .append (.var 1) [(.var 3)])] [.exp (.me .extend (.var 2) [(.bi .list [(.var 3)])])]], .ret (.bi .tupl [(.bi .sorted [(.var 1)])])]
def bLots (fBelow : Nat) : List C := [.asg (.name 1) (.lst []), .asg (.name 2) (.lst [(.var 0)]), .whl (.cmp .ne (.var 2) (.lst [])) [.asg (.name 3) (.me .pop (.var 2) []), .ife (.not (.isi (.var 3) .str)) [.exp (.me .append (.var 1) [(.call fBelow [(.var 3)])]), .exp (.me .extend (.var 2) [(.bi .list [(.var 3)])])] []], .ret (.bi .sorted [(.var 1)])]
local macro_rules
  | `(tactic| get_elem_tactic_trivial) => `(tactic| first
    | with_reducible assumption
    | exact up_same
    | (refine up_keep (by with_reducible assumption) ?_; get_elem_tactic_trivial))
local macro_rules
  | `(tactic| decreasing_trivial) => `(tactic| first
    | with_reducible assumption
    | (with_unfolding_all exact Nat.le_of_ble_eq_true rfl)
    | omega
    | exact shrt_of (by with_unfolding_all rfl)
    | exact sh_cut (by with_reducible assumption) _ _
    | exact cmul_l (by omega) (by omega)
    | exact cmul_r (by omega) (by omega)
    | exact pow_lit (by decide) (by decide) (by decide))
local macro_rules
  | `(tactic| contradiction) => `(tactic| with_reducible first
    | assumption | (apply r_var; with_unfolding_all rfl)
    | apply r_cst | apply r_glo | apply r_tup | apply r_lst | apply r_dK | apply r_bin | apply r_neg | apply r_cmp | apply r_chn
    | apply r_not | apply r_and | apply r_or | apply r_ite | apply r_ix | apply r_sl | apply r_rev | apply r_isi | apply r_bi | apply r_me | apply r_call | apply r_lc
    | apply r_es0 | apply r_es1 | apply r_rs0 | apply r_rs1 | apply r_o0 | apply r_o1 | apply r_part | apply r_ot0 | apply r_ot1 | apply r_mv
    | apply t_not | apply t_and | apply t_or | apply t_cmp | apply t_chn | (apply t_var; with_unfolding_all rfl) | apply t_isi | apply t_bi | apply t_me | apply t_call | apply t_ix
    | (apply x_len; with_unfolding_all exact Nat.le_of_ble_eq_true rfl) | (apply x_ty; with_unfolding_all exact ⟨_, rfl⟩) | (apply x_tyL; get_elem_tactic_trivial; rfl)
    | apply x_bl | apply x_int | (apply x_tru; with_unfolding_all rfl) | (apply x_isi; with_unfolding_all rfl)
    | apply i_T | apply i_F | apply i_nT | apply i_nF
    | apply o_addI | (apply o_addS; decreasing_trivial) | (apply o_addSS; decreasing_trivial; decreasing_trivial) | (apply o_addT; decreasing_trivial) | (apply o_addTT; decreasing_trivial; decreasing_trivial) | apply o_sub
    | (apply o_mulI; decreasing_trivial) | (apply o_mulS; decreasing_trivial) | (apply o_fdiv; decreasing_trivial) | (apply o_mod; decreasing_trivial) | (apply o_pow; decreasing_trivial)
    | (apply o_addNN; decreasing_trivial) | (apply o_addRN; get_elem_tactic_trivial; decreasing_trivial) | (apply o_addNR; get_elem_tactic_trivial; decreasing_trivial) | (apply o_addRR; get_elem_tactic_trivial; get_elem_tactic_trivial; decreasing_trivial)
    | apply c_eqI | apply c_eqS | apply c_eqB | apply c_neI | apply c_neS | apply c_neB | apply c_ltI | apply c_ltS | apply c_gtI | apply c_leI | apply c_geI | apply c_inS | apply c_ninS
    | (apply p_str; decreasing_trivial; with_unfolding_all rfl) | (apply p_tup; with_unfolding_all rfl) | (apply p_lstN; with_unfolding_all rfl) | (apply p_lst; get_elem_tactic_trivial; with_unfolding_all rfl) | (apply p_dK; get_elem_tactic_trivial; with_unfolding_all rfl)
    | (apply l_strS; decreasing_trivial) | (apply l_str; decreasing_trivial) | apply l_tup | apply l_fz | apply l_lstN | (apply l_lst; get_elem_tactic_trivial) | apply v_tup | apply v_lstN | (apply v_lst; get_elem_tactic_trivial)
    | (apply b_lenS; decreasing_trivial) | apply b_lenT | apply b_lenN | (apply b_lenL; get_elem_tactic_trivial) | apply b_abs | apply b_intI | apply b_intB | apply b_tuplN | apply b_tuplT | (apply b_tuplL; get_elem_tactic_trivial) | apply b_listN | apply b_listT | (apply b_listL; get_elem_tactic_trivial)
    | apply z_nil | apply z_exp | apply z_set | apply z_ret | apply z_ife | apply z_for | apply z_brk | apply z_cnt | apply z_sub
    | apply bn_name | (apply q_str; decreasing_trivial) | apply q_tup | apply q_fz | apply q_n | (apply q_ref; get_elem_tactic_trivial) | apply w_seq | apply w_rng1 | apply w_rng2)
local macro_rules
  | `(tactic| contradiction) => `(tactic| with_reducible first
    | (apply p_cells; get_elem_tactic_trivial) | (apply p_at; get_elem_tactic_trivial) | (apply p_left; get_elem_tactic_trivial)
    | (apply y_at; get_elem_tactic_trivial) | (apply y_left; get_elem_tactic_trivial))
theorem draw_ok {B : List Fn} {f k n : Nat} (hT : B[f]? = some ⟨2, 8, bDraw⟩) {S : Sto} {p c : Addr} {m : Int} {Q : PR} (hp : PenOk S p c n) (hn : n < 60000) (h1 : 1 ≤ m) (h2 : m ≤ 1000000)
    (q : ∀ S' r, PenOk S' p c (n + 1) → (∀ b, b ≠ p → S' b = S b) → 0 ≤ r → r < m → Q (.v (.int r)) S') : W B (k + 1) f [.ref p, .int m] S Q := by
  obtain ⟨hne, ns, a, l, hP, hC, ha, hA, hl, hns⟩ := hp
  refine enter (b := ⟨2, 8, bDraw⟩) (ρ := [some (.ref p), some (.int m), none, none, none, none, none, none]) hT rfl rfl ?_
  show wSs (W B k) bDraw _ _ _
  delta bDraw
  have hm : m ≠ 0 := by omega
  have hm2 : m ≠ 0 ∧ m.natAbs < 1073741824 := ⟨hm, by omega⟩
  have fin : ∀ (T : Sto) (a' l' r : Int), (∀ b, b ≠ p → T b = S b) → T p = some (.dK (pen c a' l')) → 0 ≤ a' → a' ≤ (n + 1 : Nat) → 0 ≤ l' → 0 ≤ r → r < m → Q (.v (.int r)) T := by
    intro T a' l' r e e2 g1 g2 g3 g4 g5
    exact q T r ⟨hne, ns, a', l', e2, (e c hne.symm).trans hC, g1, g2, g3, hns⟩ e g4 g5
  have frame1 : ∀ (o : Ob) (b : Addr), b ≠ p → up S p o b = S b := fun o b h => up_ne h
  repeat' contradiction
  by_cases hL : 0 < l
  · refine i_D hL ?_
    repeat' contradiction
    exact fin _ _ _ _ (fun b h => up_ne h) up_same ha (by omega) (Int.fdiv_nonneg hl (by omega)) (Int.fmod_nonneg_of_pos l (by omega)) (Int.fmod_lt_of_pos l (by omega))
  · refine i_N hL ?_
    have hC1 : ∀ o, up S p o c = some (.lst (ns.map .int)) := fun o => (up_ne hne.symm).trans hC
    have end2 : ∀ (T : Sto) (w : Int), (∀ b, b ≠ p → T b = S b) → T p = some (.dK (pen c (a + 1) l)) → wSs (W B k) (bDraw.drop 5) [some (.ref p), some (.int m), none, some (.int a), some (.int w), none, none, none] T { nx := fun _ S' => Q (.v .non) S', rt := Q } := by
      intro T w e e2
      have hTc : T c = some (.lst (ns.map .int)) := (e c hne.symm).trans hC
      show wSs (W B k) [_, _, _, _] _ _ _
      have hl1 : ((ns.map D.int).length : Int) ≤ 63 := by rw [List.length_map]; omega
      have go : wSs (W B k) (bDraw.drop 6) [some (.ref p), some (.int m), none, some (.int a), some (.int w), none, none, none] T { nx := fun _ S' => Q (.v .non) S', rt := Q } := by
        show wSs (W B k) [_, _, _] _ _ _
        have b1 := fmod_nn (i := w) 2147483549 (by decide)
        have b2 := fmod_nn (i := (w.fmod 2147483549 + 73009 * a + 71) ^ (5 : Int).toNat) 2147483647 (by decide)
        have m1 : 73009 * a ≤ 73009 * 60000 := Int.mul_le_mul_of_nonneg_left (by omega) (by omega)
        have m2 : 84991 * a * a ≤ 84991 * 60000 * 60000 := Int.mul_le_mul (by omega) (by omega) ha (by omega)
        have m3 : ((w.fmod 2147483549 + 73009 * a + 71) ^ (5 : Int).toNat).fmod 2147483647 * (a + 65557) ≤ 2147483647 * 125557 := Int.mul_le_mul (by omega) (by omega) (by omega) (by omega)
        have m4 : 0 ≤ 84991 * a * a := Int.mul_nonneg (by omega) ha
        have m5 : 0 ≤ ((w.fmod 2147483549 + 73009 * a + 71) ^ (5 : Int).toNat).fmod 2147483647 * (a + 65557) := Int.mul_nonneg b2.1 (by omega)
        repeat' contradiction
        exact fin T (a + 1) l _ e e2 (by omega) (by omega) hl (Int.fmod_nonneg_of_pos _ (by omega)) (Int.fmod_lt_of_pos _ (by omega))
      repeat' contradiction
      by_cases hA : a < ((ns.map D.int).length : Int)
      · refine i_D hA ?_
        repeat' contradiction
        by_cases hB : 10 ^ (18 : Int).toNat ≤ (if w < 0 then -w else w)
        · refine i_D hB ?_
          repeat' contradiction
          refine fin _ (a + 1) _ _ (fun b h => (up_ne h).trans (e b h)) up_same (by omega) (by omega) (Int.fdiv_nonneg ?_ (by omega)) (Int.fmod_nonneg_of_pos _ (by omega)) (Int.fmod_lt_of_pos _ (by omega))
          repeat' split
          all_goals omega
        · refine i_N hB ?_
          contradiction
          exact go
      · refine i_N hA ?_
        contradiction
        contradiction
        exact go
    repeat' contradiction
    apply c_ne0 (hC1 _)
    contradiction
    cases ns with
    | nil =>
      refine i_neT rfl ?_
      contradiction
      exact end2 _ _ (fun b h => up_ne h) up_same
    | cons n0 ns =>
      refine i_neF rfl ?_
      have hx : ((List.map D.int (n0 :: ns)).length : Int) ≠ 0 := by rw [List.length_map, List.length_cons]; omega
      have hb := fmod_nn (i := a) ((List.map D.int (n0 :: ns)).length : Int) (by rw [List.length_map, List.length_cons]; omega)
      obtain ⟨w, hw⟩ := ints_at (ns := n0 :: ns) (i := a.fmod ((List.map D.int (n0 :: ns)).length : Int)) hb.1 (by simpa using hb.2)
      have hCc := hC1 (.dK (pen c (a + 1) l))
      repeat' contradiction
      refine p_lst hCc hw ?_
      contradiction
      contradiction
      exact end2 _ _ (fun b h => up_ne h) up_same
def pool : List Str := ["a", "aa", "ab", "b", "ba", "c", "d", "e", "zz", "zzzzzzzz", "m", "ma", "n"]
end DP
set_option maxRecDepth 100000
set_option maxHeartbeats 1000000
namespace DP
open PySem L2
section
variable {F : Fw} {ρ : DP.Env} {S : Sto} {Q : PR} {a : E}
theorem r_lc2 {elt : E} {tg : TN} {it : I} {ifs : Option E} {tg1 : TN} {it1 : I} {ifs1 : Option E} {own own1 : List Nat} (q : wI F it ρ S fun xs hold S1 => accL (fun x acc S2 k => bindN tg x (wipeE ρ own) fun ρ1 => wOT F ifs ρ1 S2 fun b S3 =>
      if b = true then wI F it1 ρ1 S3 fun ys hold1 S4 => accL (fun y acc S5 k1 => bindN tg1 y (wipeE ρ1 own1) fun ρ2 => wOT F ifs1 ρ2 S5 fun b S6 =>
        if b = true then wE F elt ρ2 S6 fun r S7 => mat r S7 fun d S8 => acc.length < sizeLine ∧ k1 (acc ++ [d]) S8 else k1 acc S6) hold1 ys acc S4 k else k acc S3) hold xs [] S1 fun ds S2 => Q (.n (.lst ds)) S2) : wE F (.lc2 elt tg it ifs tg1 it1 ifs1 own own1) ρ S Q := q
theorem w_enum {K : List D → (Sto → Prop) → Sto → Prop} (q : wE F a ρ S fun r S1 => enumW r S1 fun xs hold => K (numD xs) hold S1) : wI F (.enum a) ρ S K := q
theorem e_n {xs : List D} {K : List D → (Sto → Prop) → Prop} (h : xs.length ≤ sizeLine) (q : K xs fun _ => True) : enumW (.n (.lst xs)) S K := ⟨h, q⟩
theorem e_ref {a : Addr} {xs : List D} {K : List D → (Sto → Prop) → Prop} (e : S a = some (.lst xs)) (h : xs.length ≤ sizeLine) (q : K xs fun S' => S' a = some (.lst xs)) : enumW (.v (.ref a)) S K := ⟨xs, e, h, q⟩
theorem c_isnotB {i j : Bool} (q : Q (.v (.bl (!decide (i = j)))) S) : cmpW .isnot (.v (.bl i)) (.v (.bl j)) S Q := q
theorem b_min {i j : Int} (q : Q (.v (.int (if j < i then j else i))) S) : biW .min [.v (.int i), .v (.int j)] S Q := q
theorem bn_tup2 {i j : Nat} {x y : D} {Q : DP.Env → Prop} (q : Q ((ρ.set i (some x)).set j (some y))) : bindN (.tup [i, j]) (.tup [x, y]) ρ Q := ⟨rfl, q⟩
end
local macro_rules
  | `(tactic| get_elem_tactic_trivial) => `(tactic| first
    | with_reducible assumption
    | exact up_same
    | (refine up_keep (by with_reducible assumption) ?_; get_elem_tactic_trivial))
local macro_rules
  | `(tactic| decreasing_trivial) => `(tactic| first
    | with_reducible assumption
    | (with_unfolding_all exact Nat.le_of_ble_eq_true rfl)
    | omega
    | exact shrt_of (by with_unfolding_all rfl)
    | exact sh_cut (by with_reducible assumption) _ _
    | exact cmul_l (by omega) (by omega)
    | exact cmul_r (by omega) (by omega)
    | exact pow_lit (by decide) (by decide) (by decide))
local macro_rules
  | `(tactic| contradiction) => `(tactic| with_reducible first
    | assumption | (apply r_var; with_unfolding_all rfl)
    | apply r_cst | apply r_glo | apply r_tup | apply r_lst | apply r_dK | apply r_bin | apply r_neg | apply r_cmp | apply r_chn
    | apply r_not | apply r_and | apply r_or | apply r_ite | apply r_ix | apply r_sl | apply r_rev | apply r_isi | apply r_bi | apply r_me | apply r_call | apply r_lc
    | apply r_es0 | apply r_es1 | apply r_rs0 | apply r_rs1 | apply r_o0 | apply r_o1 | apply r_part | apply r_ot0 | apply r_ot1 | apply r_mv
    | apply t_not | apply t_and | apply t_or | apply t_cmp | apply t_chn | (apply t_var; with_unfolding_all rfl) | apply t_isi | apply t_bi | apply t_me | apply t_call | apply t_ix
    | (apply x_len; with_unfolding_all exact Nat.le_of_ble_eq_true rfl) | (apply x_ty; with_unfolding_all exact ⟨_, rfl⟩) | (apply x_tyL; get_elem_tactic_trivial; rfl)
    | apply x_bl | apply x_int | (apply x_tru; with_unfolding_all rfl) | (apply x_isi; with_unfolding_all rfl)
    | apply i_T | apply i_F | apply i_nT | apply i_nF
    | apply o_addI | (apply o_addS; decreasing_trivial) | (apply o_addSS; decreasing_trivial; decreasing_trivial) | (apply o_addT; decreasing_trivial) | (apply o_addTT; decreasing_trivial; decreasing_trivial) | apply o_sub
    | (apply o_mulI; decreasing_trivial) | (apply o_mulS; decreasing_trivial) | (apply o_fdiv; decreasing_trivial) | (apply o_mod; decreasing_trivial) | (apply o_pow; decreasing_trivial)
    | (apply o_addNN; decreasing_trivial) | (apply o_addRN; get_elem_tactic_trivial; decreasing_trivial) | (apply o_addNR; get_elem_tactic_trivial; decreasing_trivial) | (apply o_addRR; get_elem_tactic_trivial; get_elem_tactic_trivial; decreasing_trivial)
    | apply c_eqI | apply c_eqS | apply c_eqB | apply c_neI | apply c_neS | apply c_neB | apply c_ltI | apply c_ltS | apply c_gtI | apply c_leI | apply c_geI | apply c_inS | apply c_ninS
    | (apply p_str; decreasing_trivial; with_unfolding_all rfl) | (apply p_tup; with_unfolding_all rfl) | (apply p_lstN; with_unfolding_all rfl) | (apply p_lst; get_elem_tactic_trivial; with_unfolding_all rfl) | (apply p_dK; get_elem_tactic_trivial; with_unfolding_all rfl)
    | (apply l_strS; decreasing_trivial) | (apply l_str; decreasing_trivial) | apply l_tup | apply l_fz | apply l_lstN | (apply l_lst; get_elem_tactic_trivial) | apply v_tup | apply v_lstN | (apply v_lst; get_elem_tactic_trivial)
    | (apply b_lenS; decreasing_trivial) | apply b_lenT | apply b_lenN | (apply b_lenL; get_elem_tactic_trivial) | apply b_abs | apply b_intI | apply b_intB | apply b_tuplN | apply b_tuplT | (apply b_tuplL; get_elem_tactic_trivial) | apply b_listN | apply b_listT | (apply b_listL; get_elem_tactic_trivial)
    | apply z_nil | apply z_exp | apply z_set | apply z_ret | apply z_ife | apply z_for | apply z_brk | apply z_cnt | apply z_sub
    | apply bn_name | (apply q_str; decreasing_trivial) | apply q_tup | apply q_fz | apply q_n | (apply q_ref; get_elem_tactic_trivial) | apply w_seq | apply w_rng1 | apply w_rng2)
local macro_rules
  | `(tactic| contradiction) => `(tactic| with_reducible first
    | (apply p_cells; get_elem_tactic_trivial) | (apply p_at; get_elem_tactic_trivial) | (apply p_left; get_elem_tactic_trivial)
    | (apply y_at; get_elem_tactic_trivial) | (apply y_left; get_elem_tactic_trivial))
local macro_rules
  | `(tactic| contradiction) => `(tactic| with_reducible first
    | apply r_lc2 | apply w_enum | apply e_n | apply c_isnotB | apply b_min | apply bn_tup2)
mutual
theorem nms_ne : ∀ d : D, isTr d → 1 ≤ (nms d).length
  | .str x, _ => by simp [nms]
  | .tup ds, h => by
    rw [isTr] at h
    rw [nms]
    have := nmss_ne ds h.2
    omega
  | .non, h => by simp [isTr] at h
  | .bl _, h => by simp [isTr] at h
  | .int _, h => by simp [isTr] at h
  | .fz _, h => by simp [isTr] at h
  | .ref _, h => by simp [isTr] at h
theorem nmss_ne : ∀ ds : List D, isTrs ds → ds.length ≤ (nmss ds).length
  | [], _ => by simp [nmss]
  | d :: ds, h => by
    rw [isTrs] at h
    rw [nmss, List.length_append, List.length_cons]
    have := nms_ne d h.1
    have := nmss_ne ds h.2
    omega
end
/-- what is so of the names below each fork -/
theorem lots_sub : ∀ (d : D), isTr d → ∀ l ∈ lotsB d, ∃ e, isTr e ∧ l = sortS (nms e) ∧ (nms e).Sublist (nms d)
  | .tup ds, h, l, hl => by
    have h0 := h
    rw [isTr] at h
    rw [lotsB] at hl
    rcases List.mem_cons.mp hl with e | e
    · exact ⟨.tup ds, h0, by rw [nms]; exact e, List.Sublist.refl _⟩
    · obtain ⟨x, hx, r1, r2⟩ := go ds h.2 l e
      exact ⟨x, hx, r1, by rw [nms]; exact r2⟩
  | .str x, _, l, hl => by simp [lotsB] at hl
  | .non, h, _, _ => by simp [isTr] at h
  | .bl _, h, _, _ => by simp [isTr] at h
  | .int _, h, _, _ => by simp [isTr] at h
  | .fz _, h, _, _ => by simp [isTr] at h
  | .ref _, h, _, _ => by simp [isTr] at h
where
  go : ∀ ds : List D, isTrs ds → ∀ l ∈ lotsBs ds, ∃ e, isTr e ∧ l = sortS (nms e) ∧ (nms e).Sublist (nmss ds)
  | [], _, l, hl => by simp [lotsBs] at hl
  | d :: ds, h, l, hl => by
    rw [isTrs] at h
    rw [lotsBs, List.mem_append] at hl
    rw [nmss]
    rcases hl with e | e
    · obtain ⟨x, hx, r1, r2⟩ := lots_sub d h.1 l e
      exact ⟨x, hx, r1, r2.trans (List.sublist_append_left _ _)⟩
    · obtain ⟨x, hx, r1, r2⟩ := go ds h.2 l e
      exact ⟨x, hx, r1, r2.trans (List.sublist_append_right _ _)⟩
mutual
theorem nms_wd : ∀ d : D, isTr d → ∀ x ∈ nms d, Wd x
  | .str x, h, y, hy => by
    rw [isTr] at h
    rw [nms, List.mem_singleton] at hy
    subst hy
    exact h
  | .tup ds, h, y, hy => by
    rw [isTr] at h
    rw [nms] at hy
    exact nmss_wd ds h.2 y hy
  | .non, h, _, _ => by simp [isTr] at h
  | .bl _, h, _, _ => by simp [isTr] at h
  | .int _, h, _, _ => by simp [isTr] at h
  | .fz _, h, _, _ => by simp [isTr] at h
  | .ref _, h, _, _ => by simp [isTr] at h
theorem nmss_wd : ∀ ds : List D, isTrs ds → ∀ x ∈ nmss ds, Wd x
  | [], _, x, hx => by simp [nmss] at hx
  | d :: ds, h, x, hx => by
    rw [isTrs] at h
    rw [nmss, List.mem_append] at hx
    exact hx.elim (nms_wd d h.1 x) (nmss_wd ds h.2 x)
end
theorem lots_ne {d : D} (h : isTr d) : ∀ l ∈ lotsB d, l ≠ [] := fun l hl z => by
  obtain ⟨e, he, r, _⟩ := lots_sub d h l hl
  have h1 := nms_ne e he
  have h2 : (sortS (nms e)).length = (nms e).length := List.length_mergeSort _
  rw [← r, z] at h2
  simp at h2
  omega
end DP
set_option maxRecDepth 100000
set_option maxHeartbeats 1000000
namespace DP
open PySem L2
local macro_rules
  | `(tactic| get_elem_tactic_trivial) => `(tactic| first
    | with_reducible assumption
    | exact up_same
    | (refine up_keep (by with_reducible assumption) ?_; get_elem_tactic_trivial))
local macro_rules
  | `(tactic| decreasing_trivial) => `(tactic| first
    | with_reducible assumption
    | (with_unfolding_all exact Nat.le_of_ble_eq_true rfl)
    | omega
    | exact shrt_of (by with_unfolding_all rfl)
    | exact sh_cut (by with_reducible assumption) _ _
    | exact cmul_l (by omega) (by omega)
    | exact cmul_r (by omega) (by omega)
    | exact pow_lit (by decide) (by decide) (by decide))
local macro_rules
  | `(tactic| contradiction) => `(tactic| with_reducible first
    | assumption | (apply r_var; with_unfolding_all rfl)
    | apply r_cst | apply r_glo | apply r_tup | apply r_lst | apply r_dK | apply r_bin | apply r_neg | apply r_cmp | apply r_chn
    | apply r_not | apply r_and | apply r_or | apply r_ite | apply r_ix | apply r_sl | apply r_rev | apply r_isi | apply r_bi | apply r_me | apply r_call | apply r_lc
    | apply r_es0 | apply r_es1 | apply r_rs0 | apply r_rs1 | apply r_o0 | apply r_o1 | apply r_part | apply r_ot0 | apply r_ot1 | apply r_mv
    | apply t_not | apply t_and | apply t_or | apply t_cmp | apply t_chn | (apply t_var; with_unfolding_all rfl) | apply t_isi | apply t_bi | apply t_me | apply t_call | apply t_ix
    | (apply x_len; with_unfolding_all exact Nat.le_of_ble_eq_true rfl) | (apply x_ty; with_unfolding_all exact ⟨_, rfl⟩) | (apply x_tyL; get_elem_tactic_trivial; rfl)
    | apply x_bl | apply x_int | (apply x_tru; with_unfolding_all rfl) | (apply x_isi; with_unfolding_all rfl)
    | apply i_T | apply i_F | apply i_nT | apply i_nF
    | apply o_addI | (apply o_addS; decreasing_trivial) | (apply o_addSS; decreasing_trivial; decreasing_trivial) | (apply o_addT; decreasing_trivial) | (apply o_addTT; decreasing_trivial; decreasing_trivial) | apply o_sub
    | (apply o_mulI; decreasing_trivial) | (apply o_mulS; decreasing_trivial) | (apply o_fdiv; decreasing_trivial) | (apply o_mod; decreasing_trivial) | (apply o_pow; decreasing_trivial)
    | (apply o_addNN; decreasing_trivial) | (apply o_addRN; get_elem_tactic_trivial; decreasing_trivial) | (apply o_addNR; get_elem_tactic_trivial; decreasing_trivial) | (apply o_addRR; get_elem_tactic_trivial; get_elem_tactic_trivial; decreasing_trivial)
    | apply c_eqI | apply c_eqS | apply c_eqB | apply c_neI | apply c_neS | apply c_neB | apply c_ltI | apply c_ltS | apply c_gtI | apply c_leI | apply c_geI | apply c_inS | apply c_ninS
    | (apply p_str; decreasing_trivial; with_unfolding_all rfl) | (apply p_tup; with_unfolding_all rfl) | (apply p_lstN; with_unfolding_all rfl) | (apply p_lst; get_elem_tactic_trivial; with_unfolding_all rfl) | (apply p_dK; get_elem_tactic_trivial; with_unfolding_all rfl)
    | (apply l_strS; decreasing_trivial) | (apply l_str; decreasing_trivial) | apply l_tup | apply l_fz | apply l_lstN | (apply l_lst; get_elem_tactic_trivial) | apply v_tup | apply v_lstN | (apply v_lst; get_elem_tactic_trivial)
    | (apply b_lenS; decreasing_trivial) | apply b_lenT | apply b_lenN | (apply b_lenL; get_elem_tactic_trivial) | apply b_abs | apply b_intI | apply b_intB | apply b_tuplN | apply b_tuplT | (apply b_tuplL; get_elem_tactic_trivial) | apply b_listN | apply b_listT | (apply b_listL; get_elem_tactic_trivial)
    | apply z_nil | apply z_exp | apply z_set | apply z_ret | apply z_ife | apply z_for | apply z_brk | apply z_cnt | apply z_sub
    | apply bn_name | (apply q_str; decreasing_trivial) | apply q_tup | apply q_fz | apply q_n | (apply q_ref; get_elem_tactic_trivial) | apply w_seq | apply w_rng1 | apply w_rng2)
local macro_rules
  | `(tactic| contradiction) => `(tactic| with_reducible first
    | (apply p_cells; get_elem_tactic_trivial) | (apply p_at; get_elem_tactic_trivial) | (apply p_left; get_elem_tactic_trivial)
    | (apply y_at; get_elem_tactic_trivial) | (apply y_left; get_elem_tactic_trivial))
local macro_rules
  | `(tactic| contradiction) => `(tactic| with_reducible first
    | apply r_lc2 | apply w_enum | apply e_n | apply c_isnotB | apply b_min | apply bn_tup2)
theorem atI_zero {α : Type} (x : α) (xs : List α) : atI (x :: xs) 0 = some x := by
  unfold atI ixN
  rw [if_pos (by decide), if_pos (by rw [List.length_cons]; omega)]
  rfl
/-- the name of the first leaf -/
def fst1 : D → Str
  | .str x => x
  | .tup (d :: _) => fst1 d
  | _ => ⟨#[]⟩
theorem tr_str {S : Sto} {d : D} (h : isTr d) : isTy S (.v d) .str = some (kStr d) := by
  cases d with
  | str x => rfl
  | tup ds => rfl
  | non => simp [isTr] at h
  | bl _ => simp [isTr] at h
  | int _ => simp [isTr] at h
  | fz _ => simp [isTr] at h
  | ref _ => simp [isTr] at h
theorem tr_fork {d : D} (h : isTr d) (hk : kStr d = false) : ∃ ds, d = .tup ds ∧ 2 ≤ ds.length ∧ isTrs ds := by
  cases d with
  | str x => cases hk
  | tup ds => rw [isTr] at h; exact ⟨ds, rfl, h.1, h.2⟩
  | non => simp [isTr] at h
  | bl _ => simp [isTr] at h
  | int _ => simp [isTr] at h
  | fz _ => simp [isTr] at h
  | ref _ => simp [isTr] at h
theorem tr_leaf {d : D} (hk : kStr d = true) : ∃ x, d = .str x := by
  cases d with
  | str x => exact ⟨x, rfl⟩
  | _ => cases hk
section
variable {B : List Fn} {f n : Nat} {S : Sto} {Q : PR}
theorem least_ok {k : Nat} (hT : B[f]? = some ⟨1, 1, bLeast⟩) {d : D} (htr : isTr d) (q : Wd (fst1 d) → Q (.v (.str (fst1 d))) S) : W B (k + 1) f [d] S Q := by
  refine enter (b := ⟨1, 1, bLeast⟩) (ρ := [some d]) hT rfl rfl ?_
  show wSs (W B k) bLeast _ _ _
  delta bLeast
  refine z_whl (fun m ρ S' => S' = S ∧ ∃ e, ρ = [some e] ∧ isTr e ∧ sz e = m ∧ fst1 e = fst1 d) ⟨_, rfl, d, rfl, htr, rfl, rfl⟩ ?_
  rintro m ρ S' ⟨rfl, e, rfl, he, hm, h1⟩
  repeat' contradiction
  refine x_isi (tr_str he) ?_
  refine x_tru rfl ?_
  cases hk : kStr e with
  | true =>
    obtain ⟨x, rfl⟩ := tr_leaf hk
    refine i_nT ?_
    repeat' contradiction
    rw [isTr] at he
    have h1 : x = fst1 d := by rw [← h1, fst1]
    subst h1
    exact q he
  | false =>
    obtain ⟨ds, rfl, h2, h3⟩ := tr_fork he hk
    cases ds with
    | nil => simp at h2
    | cons e1 es =>
      refine i_nF ?_
      repeat' contradiction
      refine p_tup (atI_zero e1 es) ?_
      repeat' contradiction
      rw [isTrs] at h3
      refine ⟨sz e1, ?_, rfl, e1, rfl, h3.1, rfl, ?_⟩
      · rw [sz, szs] at hm; omega
      · rw [← h1, fst1]
/-- numbered pairs, sorted -/
def pairD (p : Str × Nat) : D := .tup [.str p.1, .int (p.2 : Nat)]
theorem perm_pairs {xs : List (Str × Nat)} : ∃ ys : List (Str × Nat), sortD (xs.map pairD) = ys.map pairD ∧ ys.Perm xs :=
  ⟨xs.mergeSort (fun a b => PySem.W.dataLe false encD (pairD a) (pairD b)), (List.map_mergeSort (r := fun a b => PySem.W.dataLe false encD (pairD a) (pairD b)) (s := PySem.W.dataLe false encD) (f := pairD) (l := xs) fun _ _ _ _ => rfl).symm, List.mergeSort_perm _ _⟩
theorem enc_pair (p : Str × Nat) : encD (pairD p) = .tuple [.str p.1, .int (p.2 : Nat)] := by
  unfold pairD
  rw [encD, encDs, encDs, encDs, encD, encD]
theorem b_sortP {xs : List (Str × Nat)} (q : ∀ ys : List (Str × Nat), ys.Perm xs → Q (.n (.lst (ys.map pairD))) S) : biW .sorted [.n (.lst (xs.map pairD))] S Q := by
  obtain ⟨ys, e, hp⟩ := perm_pairs (xs := xs)
  have q := q ys hp
  rw [← e] at q
  refine ⟨_, rfl, ?_, ?_, .inl ?_, ?_, q⟩
  · rw [pureDs_all, List.all_map]
    exact List.all_eq_true.mpr fun p _ => rfl
  · intro d hd d' hd'
    simp only [List.map_map, List.mem_map] at hd hd'
    obtain ⟨x, _, rfl⟩ := hd
    obtain ⟨y, _, rfl⟩ := hd'
    show PySem.W.alike (encD (pairD x)) (encD (pairD y)) = true
    rw [enc_pair, enc_pair]
    simp [PySem.W.alike, PySem.W.alikeAll]
  · intro d hd
    simp only [List.map_map, List.mem_map] at hd
    obtain ⟨x, _, rfl⟩ := hd
    exact ⟨_, _, enc_pair x⟩
  · intro d hd
    obtain ⟨x, _, rfl⟩ := List.mem_map.mp hd
    rw [enc_pair]
    simp [PyData.depth, PyData.depthAll]
theorem fork_ok {k fl : Nat} (hT : B[f]? = some ⟨1, 5, bFork fl⟩) (hL : B[fl]? = some ⟨1, 1, bLeast⟩) {a : Addr} {ds : List D} (ha : S a = some (.lst ds)) (hn : 1 ≤ ds.length) (hl : ds.length ≤ 1000) (htr : isTrs ds)
    (q : ∀ d S', Sub S S' → isTr d → (nms d).Perm (nmss ds) → Q (.v d) S') : W B (k + 2) f [.ref a] S Q := by
  refine enter (b := ⟨1, 5, bFork fl⟩) (ρ := [some (.ref a), none, none, none, none]) hT rfl rfl ?_
  show wSs (W B (k + 1)) (bFork fl) _ _ _
  delta bFork
  repeat' contradiction
  by_cases h1 : (ds.length : Int) = 1
  · refine i_D h1 ?_
    match ds, hn, h1 with
    | [d], _, _ =>
      repeat' contradiction
      rw [isTrs] at htr
      exact q d S Sub.rfl htr.1 (by rw [nmss, nmss, List.append_nil])
    | _ :: _ :: _, _, h1 => simp at h1; omega
  · refine i_N h1 ?_
    repeat' contradiction
    refine e_ref ha (by rw [sizeLine_eq]; omega) ?_
    have e0 : numD ds = ((ds.zipIdx).map fun p => (D.tup [.int (p.2 : Nat), p.1])) := rfl
    rw [e0]
    refine lc_all (f := fun p : D × Nat => (D.tup [.int (p.2 : Nat), p.1])) (fun p => pairD (fst1 p.1, p.2)) ha (fun p hp K hK => ?_) ?_
    · have hm : p.1 ∈ ds := by
        obtain ⟨d, i⟩ := p
        exact (List.mem_zipIdx' hp).2 ▸ List.getElem_mem _
      repeat' contradiction
      refine least_ok hL (isTrs_iff.mp htr _ hm) fun _ => ?_
      repeat' contradiction
      exact hK
    · repeat' contradiction
      have e1 : (ds.zipIdx.map fun p => pairD (fst1 p.1, p.2)) = (ds.zipIdx.map fun p => (fst1 p.1, p.2)).map pairD := by rw [List.map_map]; rfl
      rw [e1]
      refine b_sortP fun ys hys => ?_
      refine r_mn fun t ht => ?_
      repeat' contradiction
      have hat : up S t (.lst (ys.map pairD)) a = some (.lst ds) := up_keep ht ha
      have hys2 : ∀ y ∈ ys, y.2 < ds.length := fun y hy => by
        obtain ⟨p, hp, e⟩ := List.mem_map.mp (hys.subset hy)
        subst e
        obtain ⟨d, i⟩ := p
        exact (List.mem_zipIdx' hp).1
      refine lc_all (f := pairD) (fun y => ds[y.2]?.getD .non) up_same (fun y hy K hK => ?_) ?_
      · have hy2 := hys2 y hy
        have e2 : atI ds (y.2 : Int) = some (ds[y.2]?.getD .non) := by
          unfold atI ixN
          rw [if_pos (by omega), if_pos (by omega)]
          show ds[((y.2 : Nat) : Int).toNat]? = _
          rw [Int.toNat_natCast, List.getElem?_eq_getElem hy2]
          rfl
        unfold pairD
        repeat' contradiction
        refine p_lst hat e2 ?_
        repeat' contradiction
        exact hK
      · repeat' contradiction
        have hp1 : (ys.map fun y => ds[y.2]?.getD .non).Perm ds := by
          have h3 : (ys.map fun y => ds[y.2]?.getD .non).Perm ((ds.zipIdx.map fun p => (fst1 p.1, p.2)).map fun y => ds[y.2]?.getD .non) := hys.map _
          have h4 : ((ds.zipIdx.map fun p => (fst1 p.1, p.2)).map fun y => ds[y.2]?.getD .non) = ds := by
            rw [List.map_map]
            refine List.ext_getElem? fun i => ?_
            rw [List.getElem?_map, List.getElem?_zipIdx]
            cases e : ds[i]? with
            | none => rfl
            | some d => simp [e]
          rw [h4] at h3
          exact h3
        refine q _ _ (Sub.rfl.then ht) ?_ ?_
        · rw [isTr]
          refine ⟨by rw [hp1.length_eq]; omega, isTrs_iff.mpr fun d hd => isTrs_iff.mp htr d (hp1.subset hd)⟩
        · rw [nms, nmss_flat, nmss_flat]
          exact hp1.flatMap_right _
end
theorem isTrs_app {xs ys : List D} : isTrs (xs ++ ys) ↔ isTrs xs ∧ isTrs ys := by
  rw [isTrs_iff, isTrs_iff, isTrs_iff]
  exact List.forall_mem_append
theorem isTrs_perm {xs ys : List D} (h : xs.Perm ys) (hy : isTrs ys) : isTrs xs := isTrs_iff.mpr fun d hd => isTrs_iff.mp hy d (h.subset hd)
theorem nmss_app (xs ys : List D) : nmss (xs ++ ys) = nmss xs ++ nmss ys := by rw [nmss_flat, nmss_flat, nmss_flat, List.flatMap_append]
theorem nmss_perm {xs ys : List D} (h : xs.Perm ys) : (nmss xs).Perm (nmss ys) := by
  rw [nmss_flat, nmss_flat]
  exact h.flatMap_right _
theorem nmss_strs (xs : List Str) : nmss (xs.map .str) = xs := by
  induction xs with
  | nil => rfl
  | cons x xs ih => rw [List.map_cons, nmss, ih, nms]; rfl
theorem isTrs_strs {xs : List Str} (h : ∀ x ∈ xs, Wd x) : isTrs (xs.map .str) := isTrs_iff.mpr fun d hd => by
  obtain ⟨x, hx, rfl⟩ := List.mem_map.mp hd
  rw [isTr]
  exact h x hx
theorem PenOk.lst {S : Sto} {p c a : Addr} {n : Nat} {xs : List D} (hp : PenOk S p c n) (h : S a = some (.lst xs)) : a ≠ p := fun z => by
  subst z
  obtain ⟨_, _, _, _, e, _⟩ := hp
  rw [h] at e
  cases e
set_option maxRecDepth 100000
set_option maxHeartbeats 1000000
theorem hts_app (xs : List D) (y : D) : hts (xs ++ [y]) = max (hts xs) (ht y) := by
  induction xs with
  | nil => rw [List.nil_append, hts, hts, hts]; omega
  | cons x xs ih => rw [List.cons_append, hts, hts, ih]; omega
theorem hts_app2 (xs ys : List D) : hts (xs ++ ys) = max (hts xs) (hts ys) := by
  induction xs with
  | nil => rw [List.nil_append, hts]; omega
  | cons x xs ih => rw [List.cons_append, hts, hts, ih]; omega
theorem szs_app (xs ys : List D) : szs (xs ++ ys) = szs xs + szs ys := by
  induction xs with
  | nil => rw [List.nil_append, szs]; omega
  | cons x xs ih => rw [List.cons_append, szs, szs, ih]; omega
theorem szs_len (xs : List D) : xs.length ≤ szs xs := by
  induction xs with
  | nil => exact Nat.zero_le _
  | cons x xs ih => rw [List.length_cons, szs]; have := sz_pos x; omega
theorem lotsBs_app (xs ys : List D) : lotsBs (xs ++ ys) = lotsBs xs ++ lotsBs ys := by rw [lotsBs_flat, lotsBs_flat, lotsBs_flat, List.flatMap_append]
theorem last_of {xs : List D} (h : xs.isEmpty = false) : ∃ ys y, xs = ys ++ [y] := by
  rcases List.eq_nil_or_concat xs with e | ⟨ys, y, e⟩
  · subst e; cases h
  · exact ⟨ys, y, by rw [e, List.concat_eq_append]⟩
section
variable {B : List Fn} {f n : Nat} {S : Sto} {Q : PR}
theorem below_ok {k : Nat} (hT : B[f]? = some ⟨1, 4, bBelow⟩) {d : D} (htr : isTr d) (hz : sz d ≤ 60) (q : ∀ S', Sub S S' → Q (.v (tupS (sortS (nms d)))) S') : W B (k + 1) f [d] S Q := by
  refine enter (b := ⟨1, 4, bBelow⟩) (ρ := [some d, none, none, none]) hT rfl rfl ?_
  show wSs (W B k) bBelow _ _ _
  delta bBelow
  repeat' contradiction
  refine r_mn fun a1 ha1 => ?_
  repeat' contradiction
  refine r_mn fun a2 ha2 => ?_
  have hS2 : S a2 = none := (Sub.rfl.then ha1).none ha2
  have hne : a1 ≠ a2 := fun z => by subst z; rw [up_same] at ha2; cases ha2
  have hts1 := ht_sz d
  refine z_whl (fun m ρ S' => ∃ fnd left o3, ρ = [some d, some (.ref a1), some (.ref a2), o3] ∧ S' a1 = some (.lst (fnd.map .str)) ∧ S' a2 = some (.lst left) ∧ isTrs left ∧ hts left ≤ 60 ∧ (fnd ++ nmss left).Perm (nms d) ∧ m = szs left ∧ fnd.length + szs left ≤ 60 ∧ Sub S S')
    ⟨sz d, [], [d], none, rfl, up_keep ha2 up_same, up_same, by simp [isTrs, htr], by rw [hts, hts]; omega, by rw [nmss, nmss, List.append_nil, List.nil_append], by rw [szs, szs]; omega, by rw [szs, szs, List.length_nil]; omega, (Sub.rfl.then ha1).then hS2⟩ ?_
  rintro m ρ S' ⟨fnd, left, o3, rfl, e1, e2, tr, hh, hpm, rfl, hsz, hsub⟩
  repeat' contradiction
  refine c_neT e2 tr hh ?_
  refine x_bl ?_
  cases hemp : left.isEmpty with
  | true =>
    have : left = [] := List.isEmpty_iff.mp hemp
    subst this
    refine i_nT ?_
    repeat' contradiction
    refine b_sortSR e1 ?_
    repeat' contradiction
    rw [nmss, List.append_nil] at hpm
    have e : fnd.mergeSort leS = sortS (nms d) := sortS_eq hpm
    rw [e]
    exact q S' hsub
  | false =>
    refine i_nF ?_
    obtain ⟨left, x, rfl⟩ := last_of hemp
    have trx : isTr x := (isTrs_iff.mp tr) x (by simp)
    have trl : isTrs left := (isTrs_app.mp tr).1
    rw [hts_app] at hh
    rw [szs_app, szs, szs, Nat.add_zero] at hsz ⊢
    rw [nmss_app, nmss, nmss, List.append_nil] at hpm
    repeat' contradiction
    refine m_popL e2 ?_
    have e1' : up S' a2 (.lst left) a1 = some (.lst (fnd.map .str)) := up_get hne e1
    repeat' contradiction
    refine x_isi (tr_str trx) ?_
    refine x_tru rfl ?_
    cases hk : kStr x with
    | true =>
      obtain ⟨y, rfl⟩ := tr_leaf hk
      rw [nms] at hpm
      rw [show sz (.str y) = 1 by simp [sz]] at hsz ⊢
      refine i_T ?_
      repeat' contradiction
      refine m_append e1' (by rw [List.length_map, sizeLine_eq]; omega) ?_
      refine z_nil ?_
      refine z_nil ⟨szs left, by omega, fnd ++ [y], left, _, rfl, by rw [List.map_append]; exact up_same, up_get (Ne.symm hne) up_same, trl, by omega, ?_, rfl, by rw [List.length_append, List.length_singleton]; omega, (hsub.then hS2).then ha1⟩
      refine List.Perm.trans ?_ hpm
      rw [List.append_assoc]
      exact List.Perm.append_left _ List.perm_append_comm
    | false =>
      obtain ⟨ds, rfl, h2, h3⟩ := tr_fork trx hk
      rw [nms] at hpm
      rw [sz] at hsz ⊢
      rw [ht] at hh
      refine i_F ?_
      repeat' contradiction
      refine r_mn fun t ht' => ?_
      have eL : up (up S' a2 (.lst left)) t (.lst ds) a2 = some (.lst left) := up_keep ht' up_same
      have hl1 := szs_len left
      have hl2 := szs_len ds
      repeat' contradiction
      refine m_extend eL up_same (by rw [sizeLine_eq]; omega) ?_
      have htS : S t = none := (hsub.then hS2).none ht'
      have hta1 : a1 ≠ t := fun z => by subst z; rw [e1'] at ht'; cases ht'
      refine z_nil ?_
      refine z_nil ⟨szs (left ++ ds), by rw [szs_app]; omega, fnd, left ++ ds, _, rfl, up_get hne (up_get hta1 e1'), up_same, isTrs_app.mpr ⟨trl, h3⟩, by rw [hts_app2]; omega, ?_, rfl, by rw [szs_app]; omega, ((hsub.then hS2).then htS).then hS2⟩
      rw [nmss_app]
      exact hpm
theorem lots_ok {k fb : Nat} (hT : B[f]? = some ⟨1, 4, bLots fb⟩) (hB : B[fb]? = some ⟨1, 4, bBelow⟩) {d : D} (htr : isTr d) (hz : sz d ≤ 60) (q : ∀ S', Sub S S' → Q (.n (.lst ((sortL (lotsB d)).map tupS))) S') : W B (k + 2) f [d] S Q := by
  refine enter (b := ⟨1, 4, bLots fb⟩) (ρ := [some d, none, none, none]) hT rfl rfl ?_
  show wSs (W B (k + 1)) (bLots fb) _ _ _
  delta bLots
  repeat' contradiction
  refine r_mn fun a1 ha1 => ?_
  repeat' contradiction
  refine r_mn fun a2 ha2 => ?_
  have hS2 : S a2 = none := (Sub.rfl.then ha1).none ha2
  have hne : a1 ≠ a2 := fun z => by subst z; rw [up_same] at ha2; cases ha2
  have hts1 := ht_sz d
  refine z_whl (fun m ρ S' => ∃ fnd left o3, ρ = [some d, some (.ref a1), some (.ref a2), o3] ∧ S' a1 = some (.lst (fnd.map tupS)) ∧ S' a2 = some (.lst left) ∧ isTrs left ∧ hts left ≤ 60 ∧ (fnd ++ lotsBs left).Perm (lotsB d) ∧ m = szs left ∧ fnd.length + szs left ≤ 60 ∧ Sub S S')
    ⟨sz d, [], [d], none, rfl, up_keep ha2 up_same, up_same, by simp [isTrs, htr], by rw [hts, hts]; omega, by rw [lotsBs, lotsBs, List.append_nil, List.nil_append], by rw [szs, szs]; omega, by rw [szs, szs, List.length_nil]; omega, (Sub.rfl.then ha1).then hS2⟩ ?_
  rintro m ρ S' ⟨fnd, left, o3, rfl, e1, e2, tr, hh, hpm, rfl, hsz, hsub⟩
  repeat' contradiction
  refine c_neT e2 tr hh ?_
  refine x_bl ?_
  cases hemp : left.isEmpty with
  | true =>
    have : left = [] := List.isEmpty_iff.mp hemp
    subst this
    refine i_nT ?_
    repeat' contradiction
    rw [lotsBs, List.append_nil] at hpm
    refine b_sortTR e1 (fun l hl => lots_ne htr l (hpm.subset hl)) ?_
    rw [sortL_eq hpm]
    exact q S' hsub
  | false =>
    refine i_nF ?_
    obtain ⟨left, x, rfl⟩ := last_of hemp
    have trx : isTr x := (isTrs_iff.mp tr) x (by simp)
    have trl : isTrs left := (isTrs_app.mp tr).1
    rw [hts_app] at hh
    rw [szs_app, szs, szs, Nat.add_zero] at hsz ⊢
    rw [lotsBs_app, lotsBs, lotsBs, List.append_nil] at hpm
    repeat' contradiction
    refine m_popL e2 ?_
    have e1' : up S' a2 (.lst left) a1 = some (.lst (fnd.map tupS)) := up_get hne e1
    repeat' contradiction
    refine x_isi (tr_str trx) ?_
    refine x_tru rfl ?_
    cases hk : kStr x with
    | true =>
      obtain ⟨y, rfl⟩ := tr_leaf hk
      rw [show lotsB (.str y) = [] by simp [lotsB], List.append_nil] at hpm
      rw [show sz (.str y) = 1 by simp [sz]] at hsz ⊢
      refine i_nT ?_
      repeat' contradiction
      exact ⟨szs left, by omega, fnd, left, _, rfl, e1', up_same, trl, by omega, hpm, rfl, by omega, hsub.then hS2⟩
    | false =>
      obtain ⟨ds, rfl, h2, h3⟩ := tr_fork trx hk
      rw [lotsB] at hpm
      have hzx : sz (.tup ds) ≤ 60 := by omega
      rw [sz] at hsz ⊢
      rw [ht] at hh
      refine i_nF ?_
      repeat' contradiction
      refine below_ok hB trx hzx ?_
      intro S3 hs3
      have e1b := hs3 _ _ e1'
      have e2b : S3 a2 = some (.lst left) := hs3 _ _ up_same
      repeat' contradiction
      refine m_append e1b (by rw [List.length_map, sizeLine_eq]; omega) ?_
      have hsub3 : Sub S (up S3 a1 (.lst (fnd.map tupS ++ [tupS (sortS (nms (.tup ds)))]))) := ((hsub.then hS2).trans hs3).then ha1
      have e2c : up S3 a1 (.lst (fnd.map tupS ++ [tupS (sortS (nms (.tup ds)))])) a2 = some (.lst left) := up_get (Ne.symm hne) e2b
      repeat' contradiction
      refine r_mn fun t ht' => ?_
      have eL := up_keep (p := .lst ds) ht' e2c
      have hl1 := szs_len left
      have hl2 := szs_len ds
      repeat' contradiction
      refine m_extend eL up_same (by rw [sizeLine_eq]; omega) ?_
      have htS : S t = none := hsub3.none ht'
      have hta1 : a1 ≠ t := fun z => by subst z; rw [up_same] at ht'; cases ht'
      refine z_nil ?_
      refine z_nil ⟨szs (left ++ ds), by rw [szs_app]; omega, fnd ++ [sortS (nms (.tup ds))], left ++ ds, _, rfl, ?_, up_same, isTrs_app.mpr ⟨trl, h3⟩, by rw [hts_app2]; omega, ?_, rfl, by rw [szs_app, List.length_append, List.length_singleton]; omega, (hsub3.then htS).then hS2⟩
      · rw [List.map_append]
        exact up_get hne (up_get hta1 up_same)
      · rw [lotsBs_app, nms, List.append_assoc]
        refine List.Perm.trans (List.Perm.append_left _ ?_) hpm
        exact (List.perm_middle (a := sortS (nmss ds)) (l₁ := lotsBs left) (l₂ := lotsBs ds)).symm
end
theorem pool_wd : ∀ x ∈ pool, Wd x := by
  have key : ∀ x : Str, (nmB x && x.cps.toList.all inLet) = true → Wd x := fun x h => by
    rw [Bool.and_eq_true] at h
    exact ⟨nm_of h.1, h.2⟩
  have all : pool.all (fun x => nmB x && x.cps.toList.all inLet) = true := by decide +kernel
  exact fun x hx => key x (List.all_eq_true.mp all x hx)
theorem pool_nodup : pool.Nodup := by
  unfold pool
  decide +kernel
/-- names out of the pool -/
def Pooled (xs : List Str) : Prop := ∃ rest, (xs ++ rest).Perm pool
theorem Pooled.wd {xs : List Str} (h : Pooled xs) : ∀ x ∈ xs, Wd x := fun x hx => let ⟨_, hp⟩ := h; pool_wd x (hp.subset (List.mem_append_left _ hx))
theorem Pooled.nodup {xs : List Str} (h : Pooled xs) : xs.Nodup := let ⟨_, hp⟩ := h; (List.nodup_append.mp (hp.nodup_iff.mpr pool_nodup)).1
theorem Pooled.len {xs : List Str} (h : Pooled xs) : xs.length ≤ 13 := by
  obtain ⟨_, hp⟩ := h
  have := hp.length_eq
  rw [List.length_append] at this
  have e : pool.length = 13 := rfl
  omega
/-- a tree of unlike names, not too many -/
structure Good (d : D) : Prop where
  tr : isTr d
  few : (nms d).length ≤ 13
  nd : (nms d).Nodup
theorem Good.sz {d : D} (h : Good d) : sz d ≤ 25 := by have := sz_nms d h.tr; have := h.few; omega
theorem Good.ht {d : D} (h : Good d) : ht d ≤ 25 := by have := ht_sz d; have := h.sz; omega
theorem cut_map {α β : Type} (f : α → β) (xs : List α) (lo hi : Option Int) : cut (xs.map f) lo hi = (cut xs lo hi).map f := by
  unfold cut
  rw [List.length_map, List.map_take, List.map_drop]
theorem pen_ok {B : List Fn} {f k : Nat} {S : Sto} {ns : List Int} {Q : PR} (hT : B[f]? = some ⟨1, 1, bPen⟩) (q : ∀ c (ms : List Int), S c = none → ms.length ≤ 63 → Q (.n (.dK (pen c 0 0))) (up S c (.lst (ms.map .int)))) : W B (k + 1) f [.fz (ns.map .int)] S Q := by
  refine enter (b := ⟨1, 1, bPen⟩) (ρ := [some (.fz (ns.map .int))]) hT rfl rfl ?_
  show wSs (W B k) bPen _ _ _
  delta bPen
  repeat' contradiction
  refine r_mn fun c hc => ?_
  repeat' contradiction
  rw [cut_map]
  refine q c _ hc ?_
  unfold cut
  rw [List.length_take, List.length_drop]
  have : HT.sIx ns.length ns.length (some 63) ≤ 63 := by
    show (if (63 : Int) < 0 then ((63 : Int) + (ns.length : Int)).toNat else min (63 : Int).toNat ns.length) ≤ 63
    rw [if_neg (by decide)]
    exact Nat.min_le_left _ _
  omega
set_option maxRecDepth 100000
set_option maxHeartbeats 1000000
theorem any_strL (l m : List Str) : PyData.eqvAll (l.map PyData.str) (m.map PyData.str) = decide (l = m) := by
  induction l generalizing m with
  | nil => cases m with
    | nil => simp [PyData.eqvAll]
    | cons y m => simp [PyData.eqvAll]
  | cons x l ih => cases m with
    | nil => simp [PyData.eqvAll]
    | cons y m =>
      rw [List.map_cons, List.map_cons, PyData.eqvAll, ih, PyData.eqv]
      by_cases h : x = y
      · subst h
        simp
      · simp [h]
theorem lots_sh {d : D} (htr : isTr d) : ∀ l ∈ sortL (lotsB d), ∀ x ∈ l, Shrt x := fun l hl x hx => by
  obtain ⟨e, he, r, _⟩ := lots_sub d htr l ((sortL_perm _).subset hl)
  subst r
  exact (nms_wd e he x ((sortS_perm _).subset hx)).1.sh
theorem Tree.sz {d : D} (h : Tree d) : sz d ≤ 39 := by have := sz_nms d h.tr; have := h.few; omega
theorem Tree.ht {d : D} (h : Tree d) : ht d ≤ 39 := by have := ht_sz d; have := h.sz; omega
set_option maxRecDepth 100000
set_option maxHeartbeats 1000000
/-! ### canonical forks -/
theorem names2_ok {B : List Fn} {f fd k n m : Nat} (hT : B[f]? = some ⟨2, 4, bNames fd⟩) (hD : B[fd]? = some ⟨2, 8, bDraw⟩) {S : Sto} {p c : Addr} {Q : PR} (hp : PenOk S p c n) (hn : n + m < 60000) (hm : m ≤ 13)
    (q : ∀ S' (xs : List Str), PenOk S' p c (n + m) → Ext p S S' → xs.length = m → (∃ rest, (xs ++ rest).Perm pool) → xs.Pairwise (fun x y => leS x y = true) → Q (.n (.lst (xs.map .str))) S') : W B (k + 2) f [.ref p, .int m] S Q := by
  refine enter (b := ⟨2, 4, bNames fd⟩) (ρ := [some (.ref p), some (.int m), none, none]) hT rfl rfl ?_
  show wSs (W B (k + 1)) (bNames fd) _ _ _
  delta bNames
  repeat' contradiction
  refine r_mn fun t ht => ?_
  have hpt : p ≠ t := fun z => by subst z; obtain ⟨_, _, _, _, e, _⟩ := hp; rw [ht] at e; cases e
  have hp0 : PenOk (up S t (.lst (pool.map .str))) p c n := by
    obtain ⟨h1, ns, a, l, e1, e2, r⟩ := hp
    exact ⟨h1, ns, a, l, up_keep ht e1, up_keep ht e2, r⟩
  repeat' contradiction
  refine ⟨by omega, by omega, ?_⟩
  refine lc_ok (fun i acc S' => ∃ ys rest : List Str, acc = ys.map .str ∧ S' t = some (.lst (rest.map .str)) ∧ (ys ++ rest).Perm pool ∧ ys.length = i ∧ PenOk S' p c (n + i) ∧ Ext p S S') ?_ ?_ ⟨[], pool, rfl, up_same, List.Perm.refl _, rfl, hp0, Ext.new ht⟩
  · intro i x acc S' K hx ⟨ys, rest, ha, hS, hP, hi, hpn, hE⟩ next
    refine ⟨trivial, ?_⟩
    have hil : i < m := by
      have := (List.getElem?_eq_some_iff.mp hx).1
      simpa [rngD] using this
    have hrl : ys.length + rest.length = 13 := by rw [← List.length_append, hP.length_eq]; rfl
    subst ha
    have hl0 : ((rest.map D.str).length : Int) = rest.length := by rw [List.length_map]
    repeat' contradiction
    refine draw_ok hD hpn (by omega) (by rw [hl0]; omega) (by rw [hl0]; omega) ?_
    intro S2 r hp2 hf h0 h1
    have hSt : S2 t = some (.lst (rest.map .str)) := (hf t hpt.symm).trans hS
    repeat' contradiction
    refine m_popI hSt h0 (by omega) (by omega) fun x hx => ?_
    repeat' contradiction
    refine next _ _ ⟨ys ++ [x], rest.eraseIdx r.toNat, by simp, up_same, ?_, by simp [hi], ?_, ?_⟩
    · refine List.Perm.trans ?_ hP
      rw [List.append_assoc]
      exact List.Perm.append_left ys hx
    · obtain ⟨h1, ns, a, l, e1, e2, r⟩ := hp2
      have hct : c ≠ t := fun z => by subst z; obtain ⟨_, ns', _, _, _, e, _⟩ := hp; rw [ht] at e; cases e
      exact ⟨h1, ns, a, l, (up_ne hpt).trans e1, (up_ne hct).trans e2, r⟩
    · intro b o hb e
      have hbt : b ≠ t := fun z => by subst z; rw [ht] at e; cases e
      exact (up_ne hbt).trans ((hf b hb).trans (hE b o hb e))
  · intro acc S' ⟨ys, rest, ha, hS, hP, hi, hpn, hE⟩
    refine ⟨trivial, ?_⟩
    subst ha
    have hi : ys.length = m := by simpa [rngD] using hi
    rw [show (rngD 0 (m : Int).toNat).length = m by simp [rngD]] at hpn
    repeat' contradiction
    refine b_sortS ?_
    exact q S' _ hpn hE ((List.length_mergeSort ys).trans hi) ⟨rest, (List.Perm.append_right rest (List.mergeSort_perm ys leS)).trans hP⟩ (sortS_pw ys)
set_option maxRecDepth 100000
set_option maxHeartbeats 1000000
section
variable {F : Fw} {ρ : DP.Env} {S : Sto} {Q : PR} {a : E}
theorem c_inST {x : Str} {ys : List Str} (hx : Shrt x) (h : ∀ y ∈ ys, Shrt y) (q : Q (.v (.bl (decide (x ∈ ys)))) S) : cmpW .isin (.v (.str x)) (.v (tupS ys)) S Q := by
  refine .inr (.inl ⟨.str x, ys.map .str, .str x, .tup (rdg_strs S ys), str_shaped hx, strsT_shaped h, ?_⟩)
  rw [any_strs]
  have e : (ys.any fun y => y == x) = decide (x ∈ ys) := by
    rw [Bool.eq_iff_iff, List.any_eq_true, decide_eq_true_eq]
    exact ⟨fun ⟨y, hy, z⟩ => by rw [← beq_iff_eq.mp z]; exact hy, fun hx => ⟨x, hx, by simp⟩⟩
  rw [e]
  exact q
end
set_option maxRecDepth 100000
set_option maxHeartbeats 1000000
set_option maxRecDepth 100000
set_option maxHeartbeats 1000000
/-! ### rows that lead to rows -/
inductive Row where
  | leaf (x : Str)
  | kids (ks : List Nat)
def Row.ks : Row → List Nat
  | .leaf _ => []
  | .kids ks => ks
abbrev Gr := Nat → Row
inductive Reach (g : Gr) : Nat → Nat → Prop
  | refl (i : Nat) : Reach g i i
  | step {i k j : Nat} : k ∈ (g i).ks → Reach g k j → Reach g i j
structure GOk (n : Nat) (g : Gr) : Prop where
  pos : 0 < n
  lt : ∀ i < n, ∀ k ∈ (g i).ks, k < n
  nd : ∀ i < n, (g i).ks.Nodup
  ne : ∀ i < n, ∀ ks, g i = .kids ks → ks ≠ []
  deg : ∀ i < n, (g i).ks.length ≤ 40
  wd : ∀ i < n, ∀ x, g i = .leaf x → Wd x
  dist : ∀ i < n, ∀ j < n, ∀ x, g i = .leaf x → g j = .leaf x → i = j
  acy : ∃ rank : Nat → Nat, ∀ i < n, ∀ k ∈ (g i).ks, rank i < rank k
  root : (n = 1 ∧ ∃ x, g 0 = .leaf x) ∨ 2 ≤ (g 0).ks.length
theorem Reach.lt {n : Nat} {g : Gr} (h : GOk n g) {i j : Nat} (r : Reach g i j) (hi : i < n) : j < n := by
  induction r with
  | refl i => exact hi
  | step a _ ih => exact ih (h.lt _ hi _ a)
def rep (a b : Nat) (k : Nat) : Nat := if k = a then b else k
def Row.rep (a b : Nat) : Row → Row
  | .leaf x => .leaf x
  | .kids ks => .kids (ks.map (DP.rep a b))
set_option maxRecDepth 100000
set_option maxHeartbeats 1000000
theorem r_get2 {F : Fw} {ρ : DP.Env} {S : Sto} {Q : PR} {d k x : E} (q : wE F d ρ S fun r S1 => (∃ kvs, see S1 r = some (.dK kvs)) ∧ wE F k ρ S1 fun y S2 => wE F x ρ S2 fun z S3 => mat z S3 fun dx S4 => ∃ kvs ky, see S4 r = some (.dK kvs) ∧ y = .v (keyD ky) ∧ Q (.v ((valD kvs ky).getD dx)) S4) : wE F (.get2 d k x) ρ S Q := q
theorem w_rngD {F : Fw} {ρ : DP.Env} {S : Sto} {a b : E} {K : List D → (Sto → Prop) → Sto → Prop} (q : wE F a ρ S fun r S1 => wE F b ρ S1 fun q S2 => ∃ i j, r = .v (.int i) ∧ q = .v (.int j) ∧ (-(2 ^ 62) ≤ i ∧ i < 2 ^ 62 ∧ -(2 ^ 62) ≤ j ∧ j < 2 ^ 62) ∧ i - j ≤ 16777216 ∧ K ((List.range (i - j).toNat).map fun (n : Nat) => .int (i - n)) (fun _ => True) S2) : wI F (.rngD a b) ρ S K := q
theorem b_lenD {S : Sto} {a : Addr} {kvs : List (Key × D)} {Q : PR} (h : S a = some (.dK kvs)) (q : Q (.v (.int kvs.length)) S) : biW .len [.v (.ref a)] S Q := .inr ⟨kvs, h, q⟩
/-! ### dicts -/
section
variable {κ : Type} [DecidableEq κ]
theorem valD_cons {k k' : κ} {v : D} {kvs : List (κ × D)} : valD ((k, v) :: kvs) k' = if k = k' then some v else valD kvs k' := by
  unfold valD
  rw [List.find?_cons]
  by_cases h : k = k'
  · rw [if_pos h, show decide (k = k') = true from decide_eq_true h]; rfl
  · rw [if_neg h, show decide (k = k') = false from decide_eq_false h]
theorem valD_none {kvs : List (κ × D)} {k : κ} (h : k ∉ kvs.map (·.1)) : valD kvs k = none := by
  induction kvs with
  | nil => rfl
  | cons kv kvs ih =>
    obtain ⟨k0, v0⟩ := kv
    rw [List.map_cons, List.mem_cons, not_or] at h
    rw [valD_cons, if_neg (fun z => h.1 z.symm), ih h.2]
theorem valD_app {kvs lvs : List (κ × D)} {k : κ} : valD (kvs ++ lvs) k = (valD kvs k).or (valD lvs k) := by
  induction kvs with
  | nil => rfl
  | cons kv kvs ih =>
    obtain ⟨k0, v0⟩ := kv
    rw [List.cons_append, valD_cons, valD_cons]
    split
    · rfl
    · exact ih
theorem valD_map {kvs : List (κ × D)} {k k' : κ} {v : D} (h : k ∈ kvs.map (·.1)) : valD (kvs.map fun kv => if kv.1 = k then (kv.1, v) else kv) k' = if k' = k then some v else valD kvs k' := by
  induction kvs with
  | nil => cases h
  | cons kv kvs ih =>
    obtain ⟨k0, v0⟩ := kv
    rw [List.map_cons]
    by_cases e : k0 = k
    · subst e
      rw [if_pos rfl, valD_cons, valD_cons]
      by_cases e2 : k0 = k'
      · rw [if_pos e2, if_pos e2.symm]
      · rw [if_neg e2, if_neg fun z => e2 z.symm, if_neg e2]
        by_cases hm : k0 ∈ kvs.map (·.1)
        · rw [ih hm, if_neg fun z => e2 z.symm]
        · congr 1
          conv => rhs; rw [← List.map_id kvs]
          refine List.map_congr_left fun p hp => if_neg fun z => hm (List.mem_map.mpr ⟨p, hp, z⟩)
    · rw [if_neg e, valD_cons, valD_cons]
      rw [List.map_cons] at h
      by_cases e2 : k0 = k'
      · rw [if_pos e2, if_pos e2, if_neg fun z => e (e2.trans z)]
      · rw [if_neg e2, if_neg e2]
        exact ih ((List.mem_cons.mp h).resolve_left fun z => e z.symm)
theorem any_keys {kvs : List (κ × D)} {k : κ} : (kvs.any fun kv => decide (kv.1 = k)) = true ↔ k ∈ kvs.map (·.1) := by
  rw [List.any_eq_true, List.mem_map]
  exact ⟨fun ⟨x, hx, e⟩ => ⟨x, hx, of_decide_eq_true e⟩, fun ⟨x, hx, e⟩ => ⟨x, hx, decide_eq_true e⟩⟩
theorem valD_put {kvs : List (κ × D)} {k k' : κ} {v : D} : valD (putD kvs k v) k' = if k' = k then some v else valD kvs k' := by
  unfold putD
  by_cases h : k ∈ kvs.map (·.1)
  · rw [if_pos (any_keys.mpr h), valD_map h]
  · rw [if_neg (fun z => h (any_keys.mp z)), valD_app, valD_cons]
    by_cases e : k' = k
    · rw [if_pos e, if_pos e.symm, e, valD_none h]; rfl
    · rw [if_neg e, if_neg fun z => e z.symm]
      cases valD kvs k' <;> rfl
theorem keys_put {kvs : List (κ × D)} {k : κ} {v : D} : (putD kvs k v).map (·.1) = if k ∈ kvs.map (·.1) then kvs.map (·.1) else kvs.map (·.1) ++ [k] := by
  unfold putD
  by_cases h : k ∈ kvs.map (·.1)
  · rw [if_pos (any_keys.mpr h), if_pos h, List.map_map]
    refine List.map_congr_left fun p _ => ?_
    show (if p.1 = k then (p.1, v) else p).1 = p.1
    split <;> rfl
  · rw [if_neg (fun z => h (any_keys.mp z)), if_neg h, List.map_append]; rfl
end
abbrev nI (k : Nat) : D := .int (k : Nat)
abbrev kI (k : Nat) : Key := .inl (k : Nat)
theorem kI_inj {i j : Nat} (h : kI i = kI j) : i = j := by injection h with h; exact Int.ofNat.inj h
theorem kI_mem {i : Nat} {K : List Nat} : kI i ∈ K.map kI ↔ i ∈ K := by
  rw [List.mem_map]
  exact ⟨fun ⟨j, hj, e⟩ => kI_inj e ▸ hj, fun h => ⟨i, h, rfl⟩⟩
/-! ### a dict of rows -/
def RowD (S : Sto) (r : Addr) (w : Row) (d : D) : Prop := match w with
  | .leaf x => d = .str x
  | .kids ks => ∃ b, d = .ref b ∧ b ≠ r ∧ S b = some (.lst (ks.map nI))
def RowsAt (S : Sto) (r : Addr) (K : List Nat) (g : Gr) : Prop :=
  ∃ kvs : List (Key × D), S r = some (.dK kvs) ∧ kvs.map (·.1) = K.map kI ∧ ∀ i ∈ K, ∃ d, valD kvs (kI i) = some d ∧ RowD S r (g i) d
def setG (g : Gr) (i : Nat) (w : Row) : Gr := fun v => if v = i then w else g v
theorem setG_same {g : Gr} {i : Nat} {w : Row} : setG g i w i = w := if_pos rfl
theorem setG_ne {g : Gr} {i v : Nat} {w : Row} (h : v ≠ i) : setG g i w v = g v := if_neg h
section
variable {S S' : Sto} {r : Addr} {K : List Nat} {g : Gr} {Q : PR}
theorem RowD.to {w : Row} {d : D} (h : RowD S r w d) (k : ∀ b xs, b ≠ r → S b = some (.lst xs) → S' b = some (.lst xs)) : RowD S' r w d := by
  cases w with
  | leaf x => exact h
  | kids ks => obtain ⟨b, e, n, hb⟩ := h; exact ⟨b, e, n, k b _ n hb⟩
theorem RowsAt.to (h : RowsAt S r K g) (e : S' r = S r) (k : ∀ b xs, b ≠ r → S b = some (.lst xs) → S' b = some (.lst xs)) : RowsAt S' r K g := by
  obtain ⟨kvs, e1, e2, e3⟩ := h
  exact ⟨kvs, e.trans e1, e2, fun i hi => let ⟨d, h1, h2⟩ := e3 i hi; ⟨d, h1, h2.to k⟩⟩
theorem RowsAt.sub (h : RowsAt S r K g) (x : Sub S S') : RowsAt S' r K g := by
  obtain ⟨kvs, e1, _⟩ := id h
  exact h.to ((x r _ e1).trans e1.symm) fun b xs _ e => x b _ e
theorem RowsAt.len (h : RowsAt S r K g) (hK : K.length < sizeLine) (q : Q (.v (.int K.length)) S) : biW .len [.v (.ref r)] S Q := by
  obtain ⟨kvs, e1, e2, _⟩ := h
  refine b_lenD e1 ?_
  have := congrArg List.length e2
  rw [List.length_map, List.length_map] at this
  rw [this]; exact q
theorem RowsAt.ix (h : RowsAt S r K g) {i : Nat} (hi : i ∈ K) (q : ∀ d, RowD S r (g i) d → Q (.v d) S) : ixW (.v (.ref r)) (.v (.int i)) S Q := by
  obtain ⟨kvs, e1, e2, e3⟩ := h
  obtain ⟨d, h1, h2⟩ := e3 i hi
  exact .inr ⟨kvs, d, e1, h1, q d h2⟩
theorem RowsAt.set {i : Nat} {w : Row} {d : D} {Qs : Sto → Prop} (h : RowsAt S r K g) (hd : RowD S r w d) (hK : K.length < sizeLine)
    (q : ∀ S', RowsAt S' r (if i ∈ K then K else K ++ [i]) (setG g i w) → (∀ b, b ≠ r → S' b = S b) → Qs S') : setW (.v (.ref r)) (.v (.int i)) d S Qs := by
  obtain ⟨kvs, e1, e2, e3⟩ := h
  have el := congrArg List.length e2
  rw [List.length_map, List.length_map] at el
  refine .inr ⟨kvs, e1, by rw [el]; exact hK, q _ ⟨putD kvs (kI i) d, up_same, ?_, fun j hj => ?_⟩ fun b hb => up_ne hb⟩
  · rw [keys_put, e2]
    by_cases m : i ∈ K
    · rw [if_pos m, if_pos (kI_mem.mpr m)]
    · rw [if_neg m, if_neg (fun z => m (kI_mem.mp z)), List.map_append]; rfl
  · rw [valD_put]
    by_cases e : j = i
    · subst e
      rw [if_pos rfl, setG_same]
      exact ⟨d, rfl, hd.to fun b xs nb eb => (up_ne nb).trans eb⟩
    · rw [if_neg fun z => e (kI_inj z), setG_ne e]
      have hjK : j ∈ K := by
        by_cases m : i ∈ K
        · rwa [if_pos m] at hj
        · rw [if_neg m] at hj
          rcases List.mem_append.mp hj with z | z
          · exact z
          · exact absurd (List.mem_singleton.mp z) e
      obtain ⟨d', h1, h2⟩ := e3 j hjK
      exact ⟨d', h1, h2.to fun b xs nb eb => (up_ne nb).trans eb⟩
def Row.isS : Row → Bool
  | .leaf _ => true
  | .kids _ => false
theorem RowD.str {w : Row} {d : D} (h : RowD S r w d) : isTy S (.v d) .str = some w.isS := by
  cases w with
  | leaf x => cases h; rfl
  | kids ks =>
    obtain ⟨b, rfl, _, hb⟩ := h
    show obTy (S b) .str = some false
    rw [hb]; rfl
end
/-! ### rows laid of a tree -/
def par (g : Gr) (a b k : Nat) : Nat := (List.range' a (b - a)).countP fun i => decide (k ∈ (g i).ks)
structure Laid (g : Gr) (a b : Nat) (xs : List Str) (rs : List Nat) : Prop where
  kid : ∀ i, a ≤ i → i < b → ∀ k ∈ (g i).ks, i < k ∧ k < b
  rise : ∀ i, a ≤ i → i < b → (g i).ks.Pairwise (· < ·)
  many : ∀ i, a ≤ i → i < b → ∀ ks, g i = .kids ks → 2 ≤ ks.length ∧ ks.length ≤ 40
  leaf : ∀ i, a ≤ i → i < b → ∀ x, g i = .leaf x → x ∈ xs
  dist : xs.Nodup → ∀ i j, a ≤ i → i < b → a ≤ j → j < b → ∀ x, g i = .leaf x → g j = .leaf x → i = j
  par : ∀ k, a ≤ k → k < b → DP.par g a b k = if k ∈ rs then 0 else 1
  all : ∀ x ∈ xs, ∃ i, a ≤ i ∧ i < b ∧ g i = .leaf x
theorem par_zero {g : Gr} {a b k : Nat} (h : ∀ i, a ≤ i → i < b → k ∉ (g i).ks) : par g a b k = 0 := by
  unfold par
  refine List.countP_eq_zero.mpr fun i hi => ?_
  have := List.mem_range'_1.mp hi
  simpa using h i this.1 (by omega)
theorem par_app {g : Gr} {a b c k : Nat} (h1 : a ≤ b) (h2 : b ≤ c) : par g a c k = par g a b k + par g b c k := by
  unfold par
  rw [← List.countP_append]
  have e : List.range' a (c - a) = List.range' a (b - a) ++ List.range' b (c - b) := by
    have := List.range'_append (s := a) (m := b - a) (n := c - b) (step := 1)
    rw [show a + 1 * (b - a) = b by omega, show b - a + (c - b) = c - a by omega] at this
    exact this.symm
  rw [e]
theorem par_cons {g : Gr} {a b k : Nat} (h : a < b) : par g a b k = (if k ∈ (g a).ks then 1 else 0) + par g (a + 1) b k := by
  rw [par_app (b := a + 1) (by omega) (by omega)]
  congr 1
  unfold par
  rw [show a + 1 - a = 1 by omega]
  show List.countP _ [a] = _
  rw [List.countP_cons, List.countP_nil]
  simp
theorem Laid.append {g : Gr} {a b c : Nat} {xs ys : List Str} {rs ts : List Nat} (h1 : Laid g a b xs rs) (h2 : Laid g b c ys ts) (hab : a ≤ b) (hbc : b ≤ c) (hr : ∀ k ∈ rs, k < b) (ht : ∀ k ∈ ts, b ≤ k) : Laid g a c (xs ++ ys) (rs ++ ts) := by
  refine ⟨fun i ha hc k hk => ?_, fun i ha hc => ?_, fun i ha hc ks hk => ?_, fun i ha hc x hx => ?_, fun nd i j ha hc ha' hc' x hx hy => ?_, fun k ha hc => ?_, fun x hx => (List.mem_append.mp hx).elim (fun z => let ⟨i, l1, l2, e⟩ := h1.all x z; ⟨i, l1, by omega, e⟩) fun z => let ⟨i, l1, l2, e⟩ := h2.all x z; ⟨i, by omega, l2, e⟩⟩
  · by_cases l : i < b
    · have := h1.kid i ha l k hk; omega
    · exact h2.kid i (by omega) hc k hk
  · by_cases l : i < b
    · exact h1.rise i ha l
    · exact h2.rise i (by omega) hc
  · by_cases l : i < b
    · exact h1.many i ha l ks hk
    · exact h2.many i (by omega) hc ks hk
  · by_cases l : i < b
    · exact List.mem_append_left _ (h1.leaf i ha l x hx)
    · exact List.mem_append_right _ (h2.leaf i (by omega) hc x hx)
  · obtain ⟨n1, n2, n3⟩ := List.nodup_append.mp nd
    by_cases l : i < b
    · by_cases l' : j < b
      · exact h1.dist n1 i j ha l ha' l' x hx hy
      · exact absurd rfl (n3 x (h1.leaf i ha l x hx) x (h2.leaf j (by omega) hc' x hy))
    · by_cases l' : j < b
      · exact absurd rfl (n3 x (h1.leaf j ha' l' x hy) x (h2.leaf i (by omega) hc x hx))
      · exact h2.dist n2 i j (by omega) hc (by omega) hc' x hx hy
  · rw [par_app hab hbc]
    by_cases l : k < b
    · rw [h1.par k ha l, par_zero fun i hi hic z => by have := h2.kid i hi hic k z; omega]
      have : k ∉ ts := fun z => by have := ht k z; omega
      simp [this]
    · rw [h2.par k (by omega) hc, par_zero fun i hi hib z => by have := h1.kid i hi hib k z; omega]
      have : k ∉ rs := fun z => by have := hr k z; omega
      simp [this]
theorem Laid.one {g : Gr} {m : Nat} {x : Str} (e : g m = .leaf x) : Laid g m (m + 1) [x] [m] := by
  have cs : ∀ i, m ≤ i → i < m + 1 → i = m := fun i h1 h2 => by omega
  refine ⟨fun i h1 h2 k hk => ?_, fun i h1 h2 => ?_, fun i h1 h2 ks hk => ?_, fun i h1 h2 y hy => ?_, fun _ i j h1 h2 h3 h4 _ _ _ => by omega, fun k h1 h2 => ?_, fun y hy => ⟨m, Nat.le_refl _, Nat.lt_succ_self _, by rw [List.mem_singleton.mp hy]; exact e⟩⟩
  all_goals first | have z := cs i h1 h2; subst z | have z := cs k h1 h2; subst z
  · rw [e] at hk; cases hk
  · rw [e]; exact List.Pairwise.nil
  · rw [e] at hk; cases hk
  · rw [e] at hy; cases hy; exact List.mem_singleton.mpr rfl
  · rw [par_cons (by omega), e, par_zero fun i h1 h2 => by omega]
    simp [Row.ks]
theorem Laid.nil {g : Gr} {m : Nat} : Laid g m m [] [] :=
  ⟨fun i h1 h2 => by omega, fun i h1 h2 => by omega, fun i h1 h2 => by omega, fun i h1 h2 => by omega, fun _ i j h1 h2 => by omega, fun k h1 h2 => by omega, fun x hx => by cases hx⟩
set_option maxRecDepth 100000
set_option maxHeartbeats 1000000
theorem lineN (z : Nat) (hz : z ≤ 10000) : z < sizeLine := Nat.lt_of_le_of_lt hz (by decide)
/-- the rows of a tree -/
theorem Laid.ok {g : Gr} {n : Nat} {xs : List Str} {rs : List Nat} (h : Laid g 0 n xs rs) (hn : 0 < n) (nd : xs.Nodup) (hw : ∀ x ∈ xs, Wd x) (h1 : n = 1 → ∃ x, g 0 = .leaf x) (h2 : n ≠ 1 → ∃ ks, g 0 = .kids ks) : GOk n g where
  pos := hn
  lt := fun i hi k hk => (h.kid i (Nat.zero_le _) hi k hk).2
  nd := fun i hi => (h.rise i (Nat.zero_le _) hi).imp Nat.ne_of_lt
  ne := fun i hi ks e z => by
    have := (h.many i (Nat.zero_le _) hi ks e).1
    rw [z] at this; simp at this
  deg := fun i hi => by
    cases e : g i with
    | leaf x => exact Nat.zero_le _
    | kids ks => exact (h.many i (Nat.zero_le _) hi ks e).2
  wd := fun i hi x e => hw x (h.leaf i (Nat.zero_le _) hi x e)
  dist := fun i hi j hj x e1 e2 => h.dist nd i j (Nat.zero_le _) hi (Nat.zero_le _) hj x e1 e2
  acy := ⟨id, fun i hi k hk => (h.kid i (Nat.zero_le _) hi k hk).1⟩
  root := by
    by_cases z : n = 1
    · exact .inl ⟨z, h1 z⟩
    · obtain ⟨ks, e⟩ := h2 z
      refine .inr ?_
      rw [e]
      exact (h.many 0 (Nat.zero_le _) hn ks e).1
set_option maxRecDepth 100000
set_option maxHeartbeats 1000000
/-- the keys of a dict of n rows -/
def Keys (K : List Nat) (n : Nat) : Prop := K.Perm (List.range n)
theorem Keys.mem {K : List Nat} {n i : Nat} (h : Keys K n) : i ∈ K ↔ i < n := h.mem_iff.trans List.mem_range
theorem Keys.len {K : List Nat} {n : Nat} (h : Keys K n) : K.length = n := h.length_eq.trans List.length_range
set_option maxRecDepth 100000
set_option maxHeartbeats 1000000
section
variable {S : Sto} {Q : PR}
theorem r_sset {F : Fw} {ρ : DP.Env} {a : E} (q : wE F a ρ S fun r S1 => ∃ xs : List Key, seqOf S1 r = some (xs.map keyD) ∧ xs.length < 1000 ∧ PySem.W.AllAlike (xs.map keyP) ∧ ∀ ys : List Key, ys.Nodup → (∀ k, k ∈ ys ↔ k ∈ xs) → Q (.n (.lst (sortD (ys.map keyD)))) S1) : wE F (.sset a) ρ S Q := q
/-- sorted(set(texts)) -/
theorem x_ssetS {xs : List Str} {r : R} (hr : seqOf S r = some (xs.map .str)) (hl : xs.length < 1000) (q : ∀ ys : List Str, ys.Nodup → (∀ x, x ∈ ys ↔ x ∈ xs) → Q (.n (.lst ((sortS ys).map .str))) S) :
    ∃ xs : List Key, seqOf S r = some (xs.map keyD) ∧ xs.length < 1000 ∧ PySem.W.AllAlike (xs.map keyP) ∧ ∀ ys : List Key, ys.Nodup → (∀ k, k ∈ ys ↔ k ∈ xs) → Q (.n (.lst (sortD (ys.map keyD)))) S := by
  refine ⟨xs.map .inr, by rw [hr, List.map_map]; rfl, by rw [List.length_map]; exact hl, fun d hd d' hd' => ?_, fun ys hn hm => ?_⟩
  · rw [List.map_map] at hd hd'
    obtain ⟨x, _, rfl⟩ := List.mem_map.mp hd
    obtain ⟨y, _, rfl⟩ := List.mem_map.mp hd'
    rfl
  · have ey : ∀ ys : List Key, (∀ k ∈ ys, k ∈ xs.map Sum.inr) → ∃ zs : List Str, ys = zs.map .inr := by
      intro ys
      induction ys with
      | nil => intro _; exact ⟨[], rfl⟩
      | cons y r ih =>
        intro h
        obtain ⟨zs, e⟩ := ih fun k hk => h k (List.mem_cons_of_mem _ hk)
        obtain ⟨z, _, ez⟩ := List.mem_map.mp (h y List.mem_cons_self)
        exact ⟨z :: zs, by rw [e, ← ez]; rfl⟩
    obtain ⟨zs, rfl⟩ := ey ys fun k hk => (hm k).mp hk
    have e : (zs.map Sum.inr : List Key).map keyD = zs.map .str := by rw [List.map_map]; rfl
    rw [e, sortD_strs]
    refine q zs ?_ fun x => ?_
    · exact List.Pairwise.of_map (S := fun a b : Key => a ≠ b) Sum.inr (fun a b h z => h (by rw [z])) hn
    · have := hm (.inr x)
      simp only [List.mem_map, Sum.inr.injEq, exists_eq_right] at this
      exact this
end
set_option maxRecDepth 100000
set_option maxHeartbeats 1000000
/-! ### sorting numbers and pairs of numbers -/
/-- what stays beside the pen and one thing more -/
def Ext2 (p r : Addr) (S T : Sto) : Prop := ∀ b o, b ≠ p → b ≠ r → S b = some o → T b = some o
set_option maxRecDepth 100000
set_option maxHeartbeats 1000000
/-! ### how many ways lead to a row -/
structure EdgE (g : Gr) (ys : List Nat) (E : List (Nat × Nat)) : Prop where
  ok : ∀ e ∈ E, e.1 ∈ ys ∧ e.2 ∈ (g e.1).ks
  all : ∀ v ∈ ys, ∀ k ∈ (g v).ks, (v, k) ∈ E
  nd : E.Nodup
theorem EdgE.nil {g : Gr} : EdgE g [] [] := ⟨(fun _ h => by cases h), (fun _ h => by cases h), List.nodup_nil⟩
theorem EdgE.more {g : Gr} {ys zs : List Nat} {E : List (Nat × Nat)} {v : Nat} (h : EdgE g ys E) (hv : v ∉ ys) (hz : zs.Nodup) (hm : ∀ x, x ∈ zs ↔ x ∈ (g v).ks) : EdgE g (ys ++ [v]) (E ++ zs.map fun k => (v, k)) := by
  refine ⟨fun e he => ?_, fun u hu k hk => ?_, ?_⟩
  · rcases List.mem_append.mp he with z | z
    · exact ⟨List.mem_append_left _ (h.ok e z).1, (h.ok e z).2⟩
    · obtain ⟨k, hk, rfl⟩ := List.mem_map.mp z
      exact ⟨List.mem_append_right _ List.mem_cons_self, (hm k).mp hk⟩
  · rcases List.mem_append.mp hu with z | z
    · exact List.mem_append_left _ (h.all u z k hk)
    · rw [List.mem_singleton.mp z] at hk ⊢
      exact List.mem_append_right _ (List.mem_map.mpr ⟨k, (hm k).mpr hk, rfl⟩)
  · refine List.nodup_append.mpr ⟨h.nd, ?_, fun a ha b hb e => ?_⟩
    · exact List.pairwise_map.mpr (hz.imp fun {a b} ne e => ne (Prod.mk.inj e).2)
    · subst e
      obtain ⟨k, hk, rfl⟩ := List.mem_map.mp hb
      exact hv (h.ok _ ha).1
theorem RowsAt.ne {S : Sto} {r a : Addr} {K : List Nat} {g : Gr} (h : RowsAt S r K g) (e : S a = none) : a ≠ r := fun z => by
  subst z
  obtain ⟨kvs, e1, _⟩ := h
  rw [e] at e1; cases e1
theorem Ext2.trans {p r : Addr} {S T U : Sto} (h : Ext2 p r S T) (h' : Ext2 p r T U) : Ext2 p r S U := fun b o n m e => h' b o n m (h b o n m e)
theorem Ext2.set {p r : Addr} {S T U : Sto} (h : Ext2 p r S T) (h' : ∀ b, b ≠ r → U b = T b) : Ext2 p r S U := fun b o n m e => (h' b m).trans (h b o n m e)
theorem Ext2.new {p r a : Addr} {S T : Sto} {o : Ob} (h : Ext2 p r S T) (ha : T a = none) : Ext2 p r S (up T a o) := fun b q n m e => (up_ne (fun z => by
  subst z
  have := h b q n m e
  rw [ha] at this
  cases this)).trans (h b q n m e)
theorem PenOk.set {S T : Sto} {p c r : Addr} {n : Nat} (h : PenOk S p c n) (hr : r ≠ p) (hc : r ≠ c) (e : ∀ b, b ≠ r → T b = S b) : PenOk T p c n := by
  obtain ⟨h1, ns, a', l, e1, e2, x⟩ := h
  exact ⟨h1, ns, a', l, (e p hr.symm).trans e1, (e c hc.symm).trans e2, x⟩
set_option maxRecDepth 100000
set_option maxHeartbeats 1000000
set_option maxRecDepth 100000
set_option maxHeartbeats 1000000
/-! ### nets -/
inductive Rw where
  | leaf (x : Str)
  | fork (ks : List Nat)
  | join (k : Nat)
def Rw.ks : Rw → List Nat
  | .leaf _ => []
  | .fork ks => ks
  | .join k => [k]
def Rw.nm : Rw → Option Str
  | .leaf x => some x
  | _ => none
/-! ### a dict of numbers -/
def setD (d : Nat → Nat) (x v : Nat) : Nat → Nat := fun i => if i = x then v else d i
/-! ### plain data -/
structure NumC (g : Gr) (n : Nat) (rank : Nat → Nat) (L : List (Nat × Nat)) (K : List Nat) (d : Nat → Nat) : Prop where
  nd : K.Nodup
  lt : ∀ e ∈ L, e.1 < n
  kl : ∀ v ∈ K, v < n
  z : 0 ∈ K ∨ ∃ f, (0, f) ∈ L
  ed : ∀ v ∈ K, ∀ u ∈ (g v).ks, (u ∈ K ∧ d v + 1 ≤ d u) ∨ ∃ f, (u, f) ∈ L ∧ d v + 1 ≤ f
  rk : ∀ i e, L[i]? = some e → i ≤ 40 * rank e.1
theorem NumC.step {g : Gr} {n : Nat} {rank : Nat → Nat} {L' : List (Nat × Nat)} {K : List Nat} {d : Nat → Nat} {x f v : Nat} (hG : GOk n g) (hr : ∀ i < n, ∀ k ∈ (g i).ks, rank i < rank k)
    (h : NumC g n rank (L' ++ [(x, f)]) K d) (v1 : f ≤ v) (v2 : x ∈ K → d x ≤ v) (v3 : v = f ∨ (x ∈ K ∧ v = d x)) :
    NumC g n rank (L' ++ (g x).ks.map fun u => (u, f + 1)) (if x ∈ K then K else K ++ [x]) (setD d x v) := by
  have hx : x < n := h.lt (x, f) (List.mem_append_right _ List.mem_cons_self)
  have mem : ∀ u, u ∈ (if x ∈ K then K else K ++ [x]) ↔ u ∈ K ∨ u = x := fun u => by
    by_cases m : x ∈ K
    · rw [if_pos m]
      exact ⟨.inl, fun z => z.elim id fun y => y ▸ m⟩
    · rw [if_neg m, List.mem_append, List.mem_singleton]
  have selfK : x ∈ (if x ∈ K then K else K ++ [x]) := (mem x).mpr (.inr rfl)
  have sx : setD d x v x = v := if_pos rfl
  have sn : ∀ u, u ≠ x → setD d x v u = d u := fun u hu => if_neg hu
  refine ⟨?_, fun e he => ?_, fun u hu => ?_, ?_, fun u hu k hk => ?_, fun i e he => ?_⟩
  · by_cases m : x ∈ K
    · rw [if_pos m]; exact h.nd
    · rw [if_neg m]
      exact List.nodup_append.mpr ⟨h.nd, List.pairwise_singleton _ _, fun a ha b hb e => m (by rw [← List.mem_singleton.mp hb, ← e]; exact ha)⟩
  · rcases List.mem_append.mp he with z | z
    · exact h.lt e (List.mem_append_left _ z)
    · obtain ⟨u, hu, rfl⟩ := List.mem_map.mp z
      exact hG.lt x hx u hu
  · rcases (mem u).mp hu with z | z
    · exact h.kl u z
    · exact z ▸ hx
  · rcases h.z with z | ⟨f0, z⟩
    · exact .inl ((mem 0).mpr (.inl z))
    · rcases List.mem_append.mp z with z | z
      · exact .inr ⟨f0, List.mem_append_left _ z⟩
      · have := List.mem_singleton.mp z
        exact .inl ((mem 0).mpr (.inr (Prod.mk.inj this).1))
  · by_cases e : u = x
    · subst e
      have ku : k ≠ u := fun z => by have := hr u hx k hk; rw [z] at this; omega
      rw [sx]
      rcases v3 with v3 | ⟨m, v3⟩
      · exact .inr ⟨f + 1, List.mem_append_right _ (List.mem_map.mpr ⟨k, hk, rfl⟩), by omega⟩
      · rcases h.ed u m k hk with ⟨y1, y2⟩ | ⟨f', y1, y2⟩
        · exact .inl ⟨(mem k).mpr (.inl y1), by rw [sn k ku]; omega⟩
        · rcases List.mem_append.mp y1 with y1 | y1
          · exact .inr ⟨f', List.mem_append_left _ y1, by omega⟩
          · exact absurd (Prod.mk.inj (List.mem_singleton.mp y1)).1 ku
    · have m : u ∈ K := ((mem u).mp hu).resolve_right e
      rw [sn u e]
      rcases h.ed u m k hk with ⟨y1, y2⟩ | ⟨f', y1, y2⟩
      · refine .inl ⟨(mem k).mpr (.inl y1), ?_⟩
        by_cases c : k = x
        · subst c; rw [sx]; have := v2 y1; omega
        · rw [sn k c]; exact y2
      · rcases List.mem_append.mp y1 with y1 | y1
        · exact .inr ⟨f', List.mem_append_left _ y1, y2⟩
        · obtain ⟨c1, c2⟩ := Prod.mk.inj (List.mem_singleton.mp y1)
          refine .inl ⟨(mem k).mpr (.inr c1), ?_⟩
          rw [c1, sx]; omega
  · by_cases c : i < L'.length
    · rw [List.getElem?_append_left c] at he
      exact h.rk i e (by rw [List.getElem?_append_left c]; exact he)
    · rw [List.getElem?_append_right (by omega), List.getElem?_map, Option.map_eq_some_iff] at he
      obtain ⟨u, hu, rfl⟩ := he
      have hum := List.mem_of_getElem? hu
      have hl := (List.getElem?_eq_some_iff.mp hu).1
      have p := h.rk L'.length (x, f) (by rw [List.getElem?_append_right (Nat.le_refl _)]; simp)
      have dg := hG.deg x hx
      have r1 := hr x hx u hum
      show i ≤ 40 * rank u
      have p : L'.length ≤ 40 * rank x := p
      omega
theorem NumC.len {g : Gr} {n : Nat} {rank : Nat → Nat} {L : List (Nat × Nat)} {K : List Nat} {d : Nat → Nat} (h : NumC g n rank L K d) (hr : ∀ i < n, rank i < n) : L.length ≤ 40 * n + 1 := by
  rcases List.eq_nil_or_concat L with z | ⟨L', e, z⟩
  · rw [z]; exact Nat.zero_le _
  · rw [List.concat_eq_append] at z
    subst z
    have p := h.rk L'.length e (by rw [List.getElem?_append_right (Nat.le_refl _)]; simp)
    have := hr e.1 (h.lt e (List.mem_append_right _ List.mem_cons_self))
    rw [List.length_append, List.length_singleton]; omega
set_option maxRecDepth 100000
set_option maxHeartbeats 1000000
/-! ### what is a name, a fork, a tree: what the program looks at, what the law looks at -/
def mn (d : D) : Str := (sortS (nms d)).headD ⟨#[]⟩
mutual
/-- the texts within are short -/
def shD : D → Prop
  | .str x => Shrt x
  | .tup ds => shDs ds
  | _ => True
def shDs : List D → Prop
  | [] => True
  | d :: ds => shD d ∧ shDs ds
end
/-! names one by one -/
/-! lots -/
/-! ### things: nested tuples of texts, numbers and the like, with a list or a dict somewhere -/
mutual
/-- names in tuples, of one too -/
def isTb : D → Prop
  | .str x => Wd x
  | .tup ds => 1 ≤ ds.length ∧ isTbs ds
  | _ => False
def isTbs : List D → Prop
  | [] => True
  | d :: ds => isTb d ∧ isTbs ds
end
mutual
theorem tb_pure : ∀ d : D, isTb d → pureD d = true
  | .str x, _ => rfl
  | .tup ds, h => by rw [isTb] at h; rw [pureD]; exact tbs_pure ds h.2
  | .non, h => by simp [isTb] at h
  | .bl _, h => by simp [isTb] at h
  | .int _, h => by simp [isTb] at h
  | .fz _, h => by simp [isTb] at h
  | .ref _, h => by simp [isTb] at h
theorem tbs_pure : ∀ ds : List D, isTbs ds → pureDs ds = true
  | [], _ => rfl
  | d :: ds, h => by rw [isTbs] at h; rw [pureDs, tb_pure d h.1, tbs_pure ds h.2]; rfl
end
mutual
theorem tb_can : ∀ d : D, isTb d → (encD d).canLay0 = true
  | .str x, h => by rw [isTb] at h; rw [encD]; exact str_can h.1.sh
  | .tup ds, h => by rw [isTb] at h; rw [encD, PyData.canLay0]; exact tbs_can ds h.2
  | .non, h => by simp [isTb] at h
  | .bl _, h => by simp [isTb] at h
  | .int _, h => by simp [isTb] at h
  | .fz _, h => by simp [isTb] at h
  | .ref _, h => by simp [isTb] at h
theorem tbs_can : ∀ ds : List D, isTbs ds → PyData.canLayAll0 (encDs ds) = true
  | [], _ => by simp [encDs, PyData.canLayAll0]
  | d :: ds, h => by rw [isTbs] at h; rw [encDs, PyData.canLayAll0, tb_can d h.1, tbs_can ds h.2]; rfl
end
mutual
theorem tb_show : ∀ d : D, isTb d → (encD d).showable = true
  | .str x, _ => by simp [encD, PyData.showable]
  | .tup ds, h => by rw [isTb] at h; rw [encD, PyData.showable]; exact tbs_show ds h.2
  | .non, h => by simp [isTb] at h
  | .bl _, h => by simp [isTb] at h
  | .int _, h => by simp [isTb] at h
  | .fz _, h => by simp [isTb] at h
  | .ref _, h => by simp [isTb] at h
theorem tbs_show : ∀ ds : List D, isTbs ds → PyData.showableAll (encDs ds) = true
  | [], _ => by simp [encDs, PyData.showableAll]
  | d :: ds, h => by rw [isTbs] at h; rw [encDs, PyData.showableAll, tb_show d h.1, tbs_show ds h.2]; rfl
end
mutual
theorem tb_wt : ∀ d : D, isTb d → wt (encD d) + 2 ≤ 90 * sz d
  | .str x, h => by rw [isTb] at h; rw [encD, wt, show sz (.str x) = 1 by simp [sz]]; have := h.1.2.1; omega
  | .tup ds, h => by
    rw [isTb] at h
    rw [encD, wt, sz]
    have := tbs_wt ds h.2
    omega
  | .non, h => by simp [isTb] at h
  | .bl _, h => by simp [isTb] at h
  | .int _, h => by simp [isTb] at h
  | .fz _, h => by simp [isTb] at h
  | .ref _, h => by simp [isTb] at h
theorem tbs_wt : ∀ ds : List D, isTbs ds → wts (encDs ds) ≤ 90 * szs ds
  | [], _ => by simp [encDs, wts]
  | d :: ds, h => by
    rw [isTbs] at h
    rw [encDs, wts, szs]
    have := tb_wt d h.1
    have := tbs_wt ds h.2
    omega
end
mutual
def Tg (S : Sto) (dc ls : Bool) : D → Prop
  | .str x => Shrt x
  | .int i => i.natAbs.log2 < 1920 ∧ ((toString i : String) : Str).length ≤ 1510
  | .tup ds => Tgs S dc ls ds
  | .ref a => (ls = true ∧ ∃ xs, S a = some (.lst xs) ∧ isTbs xs ∧ szs xs ≤ 60 ∧ hts xs ≤ 20) ∨ (dc = true ∧ (S a = some (.dK []) ∨ S a = some (.dK [(.inr "a", .str "b")])))
  | .fz _ => False
  | _ => True
def Tgs (S : Sto) (dc ls : Bool) : List D → Prop
  | [] => True
  | d :: ds => Tg S dc ls d ∧ Tgs S dc ls ds
end
section
variable {S T : Sto} {dc ls : Bool}
mutual
theorem Tg.sub (h : Sub S T) : ∀ {d : D}, Tg S dc ls d → Tg T dc ls d
  | .str _, z => by rw [Tg] at z ⊢; exact z
  | .int _, z => by rw [Tg] at z ⊢; exact z
  | .tup ds, z => by rw [Tg] at z ⊢; exact Tgs.sub h z
  | .ref a, z => by
    rw [Tg] at z ⊢
    rcases z with ⟨e, xs, e1, r⟩ | ⟨e, z | z⟩
    · exact .inl ⟨e, xs, h _ _ e1, r⟩
    · exact .inr ⟨e, .inl (h _ _ z)⟩
    · exact .inr ⟨e, .inr (h _ _ z)⟩
  | .fz _, z => by simp [Tg] at z
  | .non, _ => by simp [Tg]
  | .bl _, _ => by simp [Tg]
theorem Tgs.sub (h : Sub S T) : ∀ {ds : List D}, Tgs S dc ls ds → Tgs T dc ls ds
  | [], _ => by simp [Tgs]
  | d :: ds, z => by rw [Tgs] at z ⊢; exact ⟨Tg.sub h z.1, Tgs.sub h z.2⟩
end
mutual
theorem Tg.up {dc' ls' : Bool} (h1 : dc = true → dc' = true) (h2 : ls = true → ls' = true) : ∀ {d : D}, Tg S dc ls d → Tg S dc' ls' d
  | .str _, z => by rw [Tg] at z ⊢; exact z
  | .int _, z => by rw [Tg] at z ⊢; exact z
  | .tup ds, z => by rw [Tg] at z ⊢; exact Tgs.up h1 h2 z
  | .ref a, z => by
    rw [Tg] at z ⊢
    rcases z with ⟨e, r⟩ | ⟨e, r⟩
    · exact .inl ⟨h2 e, r⟩
    · exact .inr ⟨h1 e, r⟩
  | .fz _, z => by simp [Tg] at z
  | .non, _ => by simp [Tg]
  | .bl _, _ => by simp [Tg]
theorem Tgs.up {dc' ls' : Bool} (h1 : dc = true → dc' = true) (h2 : ls = true → ls' = true) : ∀ {ds : List D}, Tgs S dc ls ds → Tgs S dc' ls' ds
  | [], _ => by simp [Tgs]
  | d :: ds, z => by rw [Tgs] at z ⊢; exact ⟨Tg.up h1 h2 z.1, Tgs.up h1 h2 z.2⟩
end
theorem Tg.kd {d : D} (h : Tg S dc ls d) : Kd S d := by
  cases d with
  | str x => rw [Tg] at h; exact h
  | ref a =>
    rw [Tg] at h
    rcases h with ⟨_, xs, e, _⟩ | ⟨_, e | e⟩
    · exact .inl ⟨xs, e⟩
    · exact .inr ⟨_, e⟩
    · exact .inr ⟨_, e⟩
  | fz _ => simp [Tg] at h
  | non => exact trivial
  | bl _ => exact trivial
  | int _ => exact trivial
  | tup _ => exact trivial
mutual
theorem Tg.sh : ∀ {d : D}, Tg S dc ls d → shD d
  | .str _, z => by rw [Tg] at z; rw [shD]; exact z
  | .tup ds, z => by rw [Tg] at z; rw [shD]; exact Tgs.sh z
  | .int _, _ => by simp [shD]
  | .ref _, _ => by simp [shD]
  | .fz _, _ => by simp [shD]
  | .non, _ => by simp [shD]
  | .bl _, _ => by simp [shD]
theorem Tgs.sh : ∀ {ds : List D}, Tgs S dc ls ds → shDs ds
  | [], _ => by simp [shDs]
  | d :: ds, z => by rw [Tgs] at z; rw [shDs]; exact ⟨Tg.sh z.1, Tgs.sh z.2⟩
end
theorem tup_len (ps : List PyData) : (PyData.tuple ps).shown.length ≤ piled (PyData.shownAll ps) + 3 := by
  rw [PyData.shown]
  unfold tupleText
  have h2 : (Str.join ", " (PyData.shownAll ps)).length ≤ piled (PyData.shownAll ps) := by
    by_cases e : PyData.shownAll ps = []
    · rw [e]; exact Nat.zero_le _
    · have := join_length_add _ e
      omega
  rw [strLen_append, strLen_append]
  have e1 : ((("(" : String) : Str)).length = 1 := rfl
  have e2 : (((if (PyData.shownAll ps).length == 1 then ",)" else ")" : String) : Str)).length ≤ 2 := by split <;> exact Nat.le_of_ble_eq_true rfl
  omega
structure Rp (S : Sto) (dc ls : Bool) (d : D) (p : PyData) : Prop where
  rd : Rdg S d p
  sh : p.showable = true
  dep : p.depth ≤ ht d + 25
  hd : p.hasDict = true → dc = true
  hl : hasLst p = true → ls = true
  len : p.shown.length + 2 ≤ 8000 * sz d
mutual
theorem tg_rd : ∀ {d : D}, Tg S dc ls d → ∃ p, Rp S dc ls d p
  | .str x, h => by
    rw [Tg] at h
    refine ⟨.str x, .str x, by simp [PyData.showable], by simp [PyData.depth], by simp [PyData.hasDict], by simp [hasLst], ?_⟩
    have := StrLaws.reprText_len x (fun c hc => by have := h.2 c hc; omega)
    have h1 := h.1
    rw [show sz (.str x) = 1 by simp [sz]]
    show (reprText x).length + 2 ≤ _
    omega
  | .int i, h => by
    rw [Tg] at h
    refine ⟨.int i, .int i, by simp [PyData.showable, h.1], by simp [PyData.depth], by simp [PyData.hasDict], by simp [hasLst], ?_⟩
    rw [PyData.shown, show sz (.int i) = 1 by simp [sz]]
    have := h.2
    omega
  | .non, _ => ⟨.none, .non, by simp [PyData.showable], by simp [PyData.depth], by simp [PyData.hasDict], by simp [hasLst], by rw [PyData.shown, show sz .non = 1 by simp [sz]]; exact Nat.le_of_ble_eq_true rfl⟩
  | .bl b, _ => ⟨.bool b, .bl b, by simp [PyData.showable], by simp [PyData.depth], by simp [PyData.hasDict], by simp [hasLst], by rw [PyData.shown, show sz (.bl b) = 1 by simp [sz]]; cases b <;> exact Nat.le_of_ble_eq_true rfl⟩
  | .fz _, h => by simp [Tg] at h
  | .ref a, h => by
    rw [Tg] at h
    rcases h with ⟨hl, xs, e, hb, hz, hh⟩ | ⟨hd, e | e⟩
    · have hcan : (PyData.list (encDs xs)).canLay0 = true := by rw [PyData.canLay0]; exact tbs_can xs hb
      refine ⟨.list (encDs xs), .lst e (rdgL_pure S xs (tbs_pure xs hb)), by rw [PyData.showable]; exact tbs_show xs hb, ?_, fun z => ?_, fun _ => hl, ?_⟩
      · rw [PyData.depth, show ht (.ref a) = 0 by simp [ht]]
        have := encs_dep xs
        omega
      · rw [PyData.hasDict_of_canLay _ hcan] at z
        cases z
      · have h1 := shown_le _ hcan
        have h2 := tbs_wt xs hb
        rw [wt] at h1
        rw [show sz (.ref a) = 1 by simp [sz]]
        omega
    · refine ⟨.dict [], .dK e .nil, by simp [PyData.showable, PyData.showableKv], by simp [PyData.depth, PyData.depthKv], fun _ => hd, fun z => by simp [hasLst, hasLstK] at z, ?_⟩
      rw [PyData.shown, PyData.shownKv, show sz (.ref a) = 1 by simp [sz]]
      exact Nat.le_of_ble_eq_true rfl
    · refine ⟨.dict [(.str "a", .str "b")], .dK e (.cons (.str _) .nil), by simp [PyData.showable, PyData.showableKv], by simp [PyData.depth, PyData.depthKv], fun _ => hd, fun z => by simp [hasLst, hasLstK] at z, ?_⟩
      rw [show sz (.ref a) = 1 by simp [sz]]
      exact Nat.le_of_ble_eq_true (by with_unfolding_all rfl)
  | .tup ds, h => by
    rw [Tg] at h
    obtain ⟨ps, r, a, b, c, d, e⟩ := tgs_rd h
    refine ⟨.tuple ps, .tup r, by rw [PyData.showable]; exact a, by rw [PyData.depth, ht]; omega, fun z => c (by rw [PyData.hasDict] at z; exact z), fun z => d (by rw [hasLst] at z; exact z), ?_⟩
    have := tup_len ps
    rw [sz]
    omega
theorem tgs_rd : ∀ {ds : List D}, Tgs S dc ls ds → ∃ ps, RdgL S ds ps ∧ PyData.showableAll ps = true ∧ PyData.depthAll ps ≤ hts ds + 25 ∧ (PyData.hasDictAll ps = true → dc = true) ∧ (hasLsts ps = true → ls = true) ∧ piled (PyData.shownAll ps) ≤ 8000 * szs ds
  | [], _ => ⟨[], .nil, by simp [PyData.showableAll], by simp [PyData.depthAll], by simp [PyData.hasDictAll], by simp [hasLsts], by rw [PyData.shownAll]; exact Nat.zero_le _⟩
  | d :: ds, h => by
    rw [Tgs] at h
    obtain ⟨p, q⟩ := tg_rd h.1
    obtain ⟨ps, r, a, b, c, e, f⟩ := tgs_rd h.2
    refine ⟨p :: ps, .cons q.rd r, by rw [PyData.showableAll, q.sh, a]; rfl, ?_, fun z => ?_, fun z => ?_, ?_⟩
    · rw [PyData.depthAll, hts]
      have := q.dep
      omega
    · rw [PyData.hasDictAll, Bool.or_eq_true] at z
      exact z.elim q.hd c
    · rw [hasLsts, Bool.or_eq_true] at z
      exact z.elim q.hl e
    · rw [PyData.shownAll, piled_cons, szs]
      have := q.len
      omega
end
end
/-- a thing -/
def Th (S : Sto) (d : D) : Prop := ∃ dc ls, (dc && ls) = false ∧ Tg S dc ls d ∧ ht d ≤ 33 ∧ sz d ≤ 1000
theorem Th.sub {S T : Sto} {d : D} (h : Th S d) (s : Sub S T) : Th T d := let ⟨dc, ls, e, g, r⟩ := h; ⟨dc, ls, e, g.sub s, r⟩
theorem Th.kd {S : Sto} {d : D} (h : Th S d) : Kd S d := let ⟨_, _, _, g, _⟩ := h; g.kd
theorem Th.sh {S : Sto} {d : D} (h : Th S d) : shD d := let ⟨_, _, _, g, _⟩ := h; g.sh
theorem Th.repr {S : Sto} {d : D} (h : Th S d) : ∃ x : Str, ∀ T, Sub S T → ∀ Q : PR, Q (.v (.str x)) T → biW .repr [.v d] T Q := by
  obtain ⟨dc, ls, e, g, h1, h2⟩ := h
  obtain ⟨p, q⟩ := tg_rd g
  refine ⟨p.shown, fun T s Q hq => ⟨p, rdg_sub s q.rd, q.sh, by have := q.dep; omega, fun hd => ?_, by have := q.len; rw [sizeLine_eq]; omega, hq⟩⟩
  have := q.hd hd
  subst this
  cases hl : hasLst p with
  | false => rfl
  | true => have := q.hl hl; subst this; cases e
set_option maxRecDepth 100000
set_option maxHeartbeats 1000000
section
variable {F : Fw} {ρ : DP.Env} {S : Sto} {a : E} {Q : Bool → Sto → Prop} {xs : List D} {x : Addr}
theorem t_emp {neg tp : Bool} (q : wE F a ρ S fun x S1 => ([] : List D).length ≤ sizeLine ∧ empW tp x S1 fun b => ∃ k, (R.v (.bl (negB neg b))) = .v (.bl k) ∧ Q k S1) : wT F (.emp neg tp a) ρ S Q := q
theorem e_tT (q : Q xs.isEmpty S) : ([] : List D).length ≤ sizeLine ∧ empW true (.v (.tup xs)) S (fun b => ∃ k, (R.v (.bl (negB false b))) = .v (.bl k) ∧ Q k S) := ⟨Nat.zero_le _, xs, rfl, _, rfl, q⟩
theorem e_nT (q : Q (!xs.isEmpty) S) : ([] : List D).length ≤ sizeLine ∧ empW true (.v (.tup xs)) S (fun b => ∃ k, (R.v (.bl (negB true b))) = .v (.bl k) ∧ Q k S) := ⟨Nat.zero_le _, xs, rfl, _, rfl, q⟩
theorem e_nL (h : S x = some (.lst xs)) (q : Q (!xs.isEmpty) S) : ([] : List D).length ≤ sizeLine ∧ empW false (.v (.ref x)) S (fun b => ∃ k, (R.v (.bl (negB true b))) = .v (.bl k) ∧ Q k S) := ⟨Nat.zero_le _, xs, lstOf_ref h, _, rfl, q⟩
theorem e_nN (q : Q (!xs.isEmpty) S) : ([] : List D).length ≤ sizeLine ∧ empW false (.n (.lst xs)) S (fun b => ∃ k, (R.v (.bl (negB true b))) = .v (.bl k) ∧ Q k S) := ⟨Nat.zero_le _, xs, rfl, _, rfl, q⟩
end
local macro_rules
  | `(tactic| contradiction) => `(tactic| with_reducible first
    | apply t_emp | apply e_tT | apply e_nT | apply e_nN | (apply e_nL; get_elem_tactic_trivial))
end DP
set_option maxRecDepth 100000
set_option maxHeartbeats 1000000
namespace DP
open PySem L2
local macro_rules
  | `(tactic| get_elem_tactic_trivial) => `(tactic| first
    | with_reducible assumption
    | exact up_same
    | (refine up_keep (by with_reducible assumption) ?_; get_elem_tactic_trivial))
local macro_rules
  | `(tactic| decreasing_trivial) => `(tactic| first
    | with_reducible assumption
    | (with_unfolding_all exact Nat.le_of_ble_eq_true rfl)
    | omega
    | exact shrt_of (by with_unfolding_all rfl)
    | exact sh_cut (by with_reducible assumption) _ _
    | exact cmul_l (by omega) (by omega)
    | exact cmul_r (by omega) (by omega)
    | exact pow_lit (by decide) (by decide) (by decide))
local macro_rules
  | `(tactic| contradiction) => `(tactic| with_reducible first
    | assumption | (apply r_var; with_unfolding_all rfl)
    | apply r_cst | apply r_glo | apply r_tup | apply r_lst | apply r_dK | apply r_bin | apply r_neg | apply r_cmp | apply r_chn
    | apply r_not | apply r_and | apply r_or | apply r_ite | apply r_ix | apply r_sl | apply r_rev | apply r_isi | apply r_bi | apply r_me | apply r_call | apply r_lc
    | apply r_es0 | apply r_es1 | apply r_rs0 | apply r_rs1 | apply r_o0 | apply r_o1 | apply r_part | apply r_ot0 | apply r_ot1 | apply r_mv
    | apply t_not | apply t_and | apply t_or | apply t_cmp | apply t_chn | (apply t_var; with_unfolding_all rfl) | apply t_isi | apply t_bi | apply t_me | apply t_call | apply t_ix
    | (apply x_len; with_unfolding_all exact Nat.le_of_ble_eq_true rfl) | (apply x_ty; with_unfolding_all exact ⟨_, rfl⟩) | (apply x_tyL; get_elem_tactic_trivial; rfl)
    | apply x_bl | apply x_int | (apply x_tru; with_unfolding_all rfl) | (apply x_isi; with_unfolding_all rfl)
    | apply i_T | apply i_F | apply i_nT | apply i_nF
    | apply o_addI | (apply o_addS; decreasing_trivial) | (apply o_addSS; decreasing_trivial; decreasing_trivial) | (apply o_addT; decreasing_trivial) | (apply o_addTT; decreasing_trivial; decreasing_trivial) | apply o_sub
    | (apply o_mulI; decreasing_trivial) | (apply o_mulS; decreasing_trivial) | (apply o_fdiv; decreasing_trivial) | (apply o_mod; decreasing_trivial) | (apply o_pow; decreasing_trivial)
    | (apply o_addNN; decreasing_trivial) | (apply o_addRN; get_elem_tactic_trivial; decreasing_trivial) | (apply o_addNR; get_elem_tactic_trivial; decreasing_trivial) | (apply o_addRR; get_elem_tactic_trivial; get_elem_tactic_trivial; decreasing_trivial)
    | apply c_eqI | apply c_eqS | apply c_eqB | apply c_neI | apply c_neS | apply c_neB | apply c_ltI | apply c_ltS | apply c_gtI | apply c_leI | apply c_geI | apply c_inS | apply c_ninS
    | (apply p_str; decreasing_trivial; with_unfolding_all rfl) | (apply p_tup; with_unfolding_all rfl) | (apply p_lstN; with_unfolding_all rfl) | (apply p_lst; get_elem_tactic_trivial; with_unfolding_all rfl) | (apply p_dK; get_elem_tactic_trivial; with_unfolding_all rfl)
    | (apply l_strS; decreasing_trivial) | (apply l_str; decreasing_trivial) | apply l_tup | apply l_fz | apply l_lstN | (apply l_lst; get_elem_tactic_trivial) | apply v_tup | apply v_lstN | (apply v_lst; get_elem_tactic_trivial)
    | (apply b_lenS; decreasing_trivial) | apply b_lenT | apply b_lenN | (apply b_lenL; get_elem_tactic_trivial) | apply b_abs | apply b_intI | apply b_intB | apply b_tuplN | apply b_tuplT | (apply b_tuplL; get_elem_tactic_trivial) | apply b_listN | apply b_listT | (apply b_listL; get_elem_tactic_trivial)
    | apply z_nil | apply z_exp | apply z_set | apply z_ret | apply z_ife | apply z_for | apply z_brk | apply z_cnt | apply z_sub
    | apply bn_name | (apply q_str; decreasing_trivial) | apply q_tup | apply q_fz | apply q_n | (apply q_ref; get_elem_tactic_trivial) | apply w_seq | apply w_rng1 | apply w_rng2)
local macro_rules
  | `(tactic| contradiction) => `(tactic| with_reducible first
    | (apply p_cells; get_elem_tactic_trivial) | (apply p_at; get_elem_tactic_trivial) | (apply p_left; get_elem_tactic_trivial)
    | (apply y_at; get_elem_tactic_trivial) | (apply y_left; get_elem_tactic_trivial))
local macro_rules
  | `(tactic| contradiction) => `(tactic| with_reducible first
    | apply r_lc2 | apply w_enum | apply e_n | apply c_isnotB | apply b_min | apply bn_tup2)
/-! rules to run zip and dict comprehensions -/
section
variable {F : Fw} {ρ : DP.Env} {S : Sto} {Q : PR}
theorem r_dc {kx vx : E} {tg : TN} {it : I} {ifs : Option E} {own : List Nat} (q : wI F it ρ S fun xs hold S1 => ∀ l, S1 l = none → dcL (fun x S2 k => bindN tg x (wipeE ρ own) fun ρ' => wOT F ifs ρ' S2 fun b S3 =>
      if b = true then wE F kx ρ' S3 fun rk S4 => wE F vx ρ' S4 fun r S5 => mat r S5 fun d S6 => dcPut l rk d S6 k else k S3) hold xs (up S1 l (.dK [])) fun S2 => Q (.v (.ref l)) S2) : wE F (.dc kx vx tg it ifs own) ρ S Q := q
theorem dcPut_s {l : Addr} {z : Str} {d : D} {kvs : List (Key × D)} {k : Sto → Prop} (e : S l = some (.dK kvs)) (hz : kvs.length < sizeLine) (q : k (up S l (.dK (putD kvs (.inr z) d)))) : dcPut l (.v (.str z)) d S k := ⟨.inr z, kvs, rfl, e, hz, q⟩
/-- keys one by one new: the dict as a list -/
theorem fold_new {α : Type} (g : α → Key × D) : ∀ (xs : List α) (kvs : List (Key × D)), (kvs.map (·.1) ++ xs.map fun x => (g x).1).Nodup → xs.foldl (fun us x => putD us (g x).1 (g x).2) kvs = kvs ++ xs.map g
  | [], kvs, _ => by simp
  | x :: xs, kvs, h => by
    have hn : putD kvs (g x).1 (g x).2 = kvs ++ [g x] := by
      unfold putD
      rw [if_neg]
      intro z
      obtain ⟨p, hp, e⟩ := List.any_eq_true.mp z
      have e1 : p.1 = (g x).1 := of_decide_eq_true e
      exact (List.nodup_append.mp h).2.2 _ (List.mem_map.mpr ⟨p, hp, rfl⟩) _ (List.mem_map.mpr ⟨x, List.mem_cons_self .., rfl⟩) e1
    rw [List.foldl_cons, hn, fold_new g xs _ (by simpa using h)]
    simp
end
set_option maxRecDepth 100000
set_option maxHeartbeats 1000000
/-! ### rising lists of names -/
abbrev ltS (x y : Str) : Prop := x.cps.toList < y.cps.toList
abbrev Rise (l : List Str) : Prop := l.Pairwise ltS
theorem ltS_irr (x : Str) : ¬ ltS x x := List.lt_irrefl _
theorem ltS_as {x y : Str} (h1 : ltS x y) (h2 : ltS y x) : False := List.lt_irrefl _ (List.lt_trans h1 h2)
theorem ltS_tri {x y : Str} (h1 : ¬ ltS x y) (h2 : ¬ ltS y x) : x = y := str_ext (List.le_antisymm (List.not_lt.mp h2) (List.not_lt.mp h1))
theorem Rise.nd {l : List Str} (h : Rise l) : l.Nodup := h.imp fun {x y} h z => by subst z; exact ltS_irr x h
theorem nd_at {α : Type} {l : List α} (h : l.Nodup) {i j : Nat} {hi : i < l.length} {hj : j < l.length} (e : l[i] = l[j]) : i = j := by
  rcases Nat.lt_trichotomy i j with c | c | c
  · exact absurd e (List.pairwise_iff_getElem.mp h i j hi hj c)
  · exact c
  · exact absurd e.symm (List.pairwise_iff_getElem.mp h j i hj hi c)
theorem Rise.eq {a b : List Str} (ha : Rise a) (hb : Rise b) (h : ∀ x, x ∈ a ↔ x ∈ b) : a = b :=
  List.Perm.eq_of_pairwise (fun x y _ _ h1 h2 => (ltS_as h1 h2).elim) ha hb ((List.perm_ext_iff_of_nodup ha.nd hb.nd).mpr h)
theorem Rise.sort {l : List Str} (h : l.Nodup) : Rise (sortS l) := sortS_lt h
theorem sortS_mem {l : List Str} {x : Str} : x ∈ sortS l ↔ x ∈ l := (sortS_perm l).mem_iff
theorem Rise.of_sort {l r : List Str} (h : l.Nodup) (hr : Rise r) (hm : ∀ x, x ∈ l ↔ x ∈ r) : sortS l = r := (Rise.sort h).eq hr fun x => sortS_mem.trans (hm x)
theorem Rise.filter {l : List Str} (h : Rise l) (p : Str → Bool) : Rise (l.filter p) := List.Pairwise.filter p h
/-! ### triples -/
abbrev Tri : Type := Str × Str × Str
def triD (t : Tri) : D := .tup [.str t.1, .str t.2.1, .str t.2.2]
def tris (T : List Tri) : D := .tup (T.map triD)
def TriIn (L : List Str) (t : Tri) : Prop := t.1 ∈ L ∧ t.2.1 ∈ L ∧ t.2.2 ∈ L
instance {L : List Str} {t : Tri} : Decidable (TriIn L t) := inferInstanceAs (Decidable (_ ∧ _ ∧ _))
/-- held together by triples within a lot -/
inductive Con (L : List Str) (T : List Tri) : Str → Str → Prop
  | rf (x : Str) : Con L T x x
  | fw {x : Str} {t : Tri} : t ∈ T → TriIn L t → Con L T x t.1 → Con L T x t.2.1
  | bk {x : Str} {t : Tri} : t ∈ T → TriIn L t → Con L T x t.2.1 → Con L T x t.1
section
variable {L : List Str} {T : List Tri} {x y z : Str}
theorem Con.trans (h1 : Con L T x y) (h2 : Con L T y z) : Con L T x z := by
  induction h2 with
  | rf => exact h1
  | fw a b _ ih => exact .fw a b ih
  | bk a b _ ih => exact .bk a b ih
theorem Con.symm (h : Con L T x y) : Con L T y x := by
  induction h with
  | rf => exact .rf _
  | fw a b _ ih => exact Con.trans (.bk a b (.rf _)) ih
  | bk a b _ ih => exact Con.trans (.fw a b (.rf _)) ih
theorem Con.mem (h : Con L T x y) (hx : x ∈ L) : y ∈ L := by
  induction h with
  | rf => exact hx
  | fw a b _ _ => exact b.2.1
  | bk a b _ _ => exact b.1
theorem Con.mono {T' : List Tri} (s : ∀ t ∈ T, t ∈ T') (h : Con L T x y) : Con L T' x y := by
  induction h with
  | rf => exact .rf _
  | fw a b _ ih => exact .fw (s _ a) b ih
  | bk a b _ ih => exact .bk (s _ a) b ih
end
/-- min, max of two texts, as they are told -/
def mn2 (mx : Bool) (x y : Str) : Str := if (if mx = true then decide (x.cps.toList < y.cps.toList) else decide (y.cps.toList < x.cps.toList)) = true then y else x
theorem mn2_cases (x y : Str) (h : x ≠ y) : (mn2 false x y = x ∧ mn2 true x y = y ∧ ltS x y) ∨ (mn2 false x y = y ∧ mn2 true x y = x ∧ ltS y x) := by
  unfold mn2
  by_cases h1 : ltS x y
  · have h2 : ¬ ltS y x := fun z => ltS_as h1 z
    exact .inl ⟨by simp [h2], by simp [h1], h1⟩
  · have h2 : ltS y x := Classical.byContradiction fun z => h (ltS_tri h1 z)
    exact .inr ⟨by simp [h2], by simp [h1], h2⟩
def mstep (L : List Str) (m : Str → Str) (t : Tri) : Str → Str := if TriIn L t ∧ m t.1 ≠ m t.2.1 then fun x => if m x = mn2 true (m t.1) (m t.2.1) then mn2 false (m t.1) (m t.2.1) else m x else m
def marks (L : List Str) (T : List Tri) : Str → Str := T.foldl (mstep L) id
structure MOk (L : List Str) (T : List Tri) (m : Str → Str) : Prop where
  con : ∀ x, x ∈ L → Con L T x (m x)
  eqv : ∀ x y, x ∈ L → Con L T x y → m x = m y
  le : ∀ x, x ∈ L → ¬ ltS x (m x)
theorem MOk.nil {L : List Str} : MOk L [] id := ⟨fun x _ => .rf x, fun x y _ h => by
  induction h with
  | rf => rfl
  | fw a _ _ _ => exact absurd a (List.not_mem_nil)
  | bk a _ _ _ => exact absurd a (List.not_mem_nil), fun x _ => ltS_irr x⟩
theorem MOk.step {L : List Str} {T : List Tri} {m : Str → Str} (h : MOk L T m) (t : Tri) : MOk L (T ++ [t]) (mstep L m t) := by
  have mono : ∀ {x y}, Con L T x y → Con L (T ++ [t]) x y := fun h => h.mono fun u hu => List.mem_append_left _ hu
  unfold mstep
  by_cases hc : TriIn L t ∧ m t.1 ≠ m t.2.1
  · rw [if_pos hc]
    obtain ⟨hin, hne⟩ := hc
    have ab : Con L (T ++ [t]) t.1 t.2.1 := .fw (List.mem_append_right _ List.mem_cons_self) hin (.rf _)
    have mab : Con L (T ++ [t]) (m t.1) (m t.2.1) := (mono (h.con _ hin.1)).symm.trans (ab.trans (mono (h.con _ hin.2.1)))
    have mm : ∀ x, x ∈ L → m (m x) = m x := fun x hx => (h.eqv x (m x) hx (h.con x hx)).symm
    rcases mn2_cases (m t.1) (m t.2.1) hne with ⟨e1, e2, hlt⟩ | ⟨e1, e2, hlt⟩
    · rw [e1, e2]
      refine ⟨fun x hx => ?_, fun x y hx hy => ?_, fun x hx => ?_⟩
      · by_cases e : m x = m t.2.1
        · simp only [e, if_true]
          exact (mono (h.con x hx)).trans (e ▸ mab.symm)
        · simp only [e, if_false]
          exact mono (h.con x hx)
      · induction hy with
        | rf => rfl
        | @fw u a b c ih =>
          rw [ih]
          rcases List.mem_append.mp a with a | a
          · have := h.eqv u.1 u.2.1 b.1 (.fw a b (.rf _))
            simp only [this]
          · cases List.mem_singleton.mp a
            have : m t.1 ≠ m t.2.1 := hne
            simp only [this, if_false, if_true]
        | @bk u a b c ih =>
          rw [ih]
          rcases List.mem_append.mp a with a | a
          · have := h.eqv u.1 u.2.1 b.1 (.fw a b (.rf _))
            simp only [this]
          · cases List.mem_singleton.mp a
            have : m t.1 ≠ m t.2.1 := hne
            simp only [this, if_false, if_true]
      · by_cases e : m x = m t.2.1
        · simp only [e, if_true]
          exact fun z => h.le x hx (e ▸ List.lt_trans z hlt)
        · simp only [e, if_false]
          exact h.le x hx
    · rw [e1, e2]
      refine ⟨fun x hx => ?_, fun x y hx hy => ?_, fun x hx => ?_⟩
      · by_cases e : m x = m t.1
        · simp only [e, if_true]
          exact (mono (h.con x hx)).trans (e ▸ mab)
        · simp only [e, if_false]
          exact mono (h.con x hx)
      · induction hy with
        | rf => rfl
        | @fw u a b c ih =>
          rw [ih]
          rcases List.mem_append.mp a with a | a
          · have := h.eqv u.1 u.2.1 b.1 (.fw a b (.rf _))
            simp only [this]
          · cases List.mem_singleton.mp a
            have : ¬ m t.2.1 = m t.1 := fun z => hne z.symm
            simp only [this, if_false, if_true]
        | @bk u a b c ih =>
          rw [ih]
          rcases List.mem_append.mp a with a | a
          · have := h.eqv u.1 u.2.1 b.1 (.fw a b (.rf _))
            simp only [this]
          · cases List.mem_singleton.mp a
            have : ¬ m t.2.1 = m t.1 := fun z => hne z.symm
            simp only [this, if_false, if_true]
      · by_cases e : m x = m t.1
        · simp only [e, if_true]
          exact fun z => h.le x hx (e ▸ List.lt_trans z hlt)
        · simp only [e, if_false]
          exact h.le x hx
  · rw [if_neg hc]
    refine ⟨fun x hx => mono (h.con x hx), fun x y hx hy => ?_, h.le⟩
    have key : ∀ u : Tri, u ∈ T ++ [t] → TriIn L u → m u.1 = m u.2.1 := fun u a b => by
      rcases List.mem_append.mp a with a | a
      · exact h.eqv u.1 u.2.1 b.1 (.fw a b (.rf _))
      · cases List.mem_singleton.mp a
        exact Classical.byContradiction fun z => hc ⟨b, z⟩
    induction hy with
    | rf => rfl
    | fw a b c ih => rw [ih, key _ a b]
    | bk a b c ih => rw [ih, key _ a b]
theorem marks_go {L : List Str} : ∀ (T2 T1 : List Tri) (m : Str → Str), MOk L T1 m → MOk L (T1 ++ T2) (T2.foldl (mstep L) m)
  | [], T1, m, h => by rw [List.append_nil]; exact h
  | t :: T2, T1, m, h => by
    have := marks_go T2 (T1 ++ [t]) _ (h.step t)
    rwa [List.append_assoc] at this
theorem marks_ok (L : List Str) (T : List Tri) : MOk L T (marks L T) := by
  have := marks_go (L := L) T [] id MOk.nil
  rwa [List.nil_append] at this
/-- the lot's names that stand with a name -/
def cls (L : List Str) (T : List Tri) (x : Str) : List Str := L.filter fun y => marks L T y == marks L T x
def heads (L : List Str) (T : List Tri) : List Str := L.filter fun x => marks L T x == x
def grps (L : List Str) (T : List Tri) : List (List Str) := (heads L T).map (cls L T)
section
variable {L : List Str} {T : List Tri} {x y : Str}
theorem mem_cls (hx : x ∈ L) : y ∈ cls L T x ↔ y ∈ L ∧ Con L T x y := by
  unfold cls
  rw [List.mem_filter, beq_iff_eq]
  constructor
  · rintro ⟨hy, e⟩
    refine ⟨hy, ((marks_ok L T).con x hx).trans ?_⟩
    rw [← e]
    exact ((marks_ok L T).con y hy).symm
  · rintro ⟨hy, c⟩
    exact ⟨hy, ((marks_ok L T).eqv x y hx c).symm⟩
theorem cls_self (hx : x ∈ L) : x ∈ cls L T x := (mem_cls hx).mpr ⟨hx, .rf x⟩
theorem cls_sub (h : y ∈ cls L T x) : y ∈ L := (List.mem_filter.mp h).1
theorem cls_rise (h : Rise L) : Rise (cls L T x) := h.filter _
theorem cls_len : (cls L T x).length ≤ L.length := List.length_filter_le _ _
theorem cls_eq (hx : x ∈ L) (h : y ∈ cls L T x) : cls L T y = cls L T x := by
  unfold cls at h ⊢
  rw [List.mem_filter, beq_iff_eq] at h
  rw [h.2]
theorem head_mem (hx : x ∈ L) : marks L T x ∈ heads L T := by
  have hm := (marks_ok L T).con x hx
  unfold heads
  rw [List.mem_filter, beq_iff_eq]
  exact ⟨hm.mem hx, ((marks_ok L T).eqv x _ hx hm).symm⟩
theorem head_cls (hx : x ∈ L) : cls L T (marks L T x) = cls L T x := by
  have hm := (marks_ok L T).con x hx
  unfold cls
  rw [← (marks_ok L T).eqv x _ hx hm]
theorem heads_sub (h : x ∈ heads L T) : x ∈ L := (List.mem_filter.mp h).1
/-- whether all triples hold together all -/
theorem grps_one (hr : Rise L) (hx : x ∈ L) : (grps L T).length = 1 ↔ (cls L T x).length = L.length := by
  unfold grps
  rw [List.length_map]
  have sub : (cls L T x).Sublist L := List.filter_sublist
  constructor
  · intro h
    obtain ⟨u, e⟩ : ∃ u, heads L T = [u] := by
      match q : heads L T, h with
      | [u], _ => exact ⟨u, rfl⟩
    have all : ∀ y ∈ L, marks L T y = u := fun y hy => by
      have := head_mem (T := T) hy
      rw [e] at this
      exact List.mem_singleton.mp this
    unfold cls
    rw [List.filter_eq_self.mpr fun y hy => by rw [all y hy, all x hx]; exact beq_self_eq_true u]
  · intro h
    have e : cls L T x = L := sub.eq_of_length h
    have all : ∀ y ∈ L, marks L T y = marks L T x := fun y hy => by
      rw [← e] at hy
      have := (List.mem_filter.mp hy).2
      rwa [beq_iff_eq] at this
    have e2 : heads L T = [marks L T x] := by
      refine Rise.eq (hr.filter _) (List.pairwise_singleton _ _) fun y => ⟨fun hy => ?_, fun hy => ?_⟩
      · have h1 := (List.mem_filter.mp hy).2
        rw [beq_iff_eq] at h1
        rw [← h1, all y (heads_sub hy)]
        exact List.mem_singleton.mpr rfl
      · rw [List.mem_singleton.mp hy]
        exact head_mem hx
    rw [e2]
    rfl
end
/-! ### a tree of a lot, or a lot that no tree parts -/
def bus (f : List Str → Bool × D) : List (List Str) → List D → Bool × D
  | [], acc => (true, .tup acc)
  | g :: gs, acc => if (f g).1 = false then (false, (f g).2) else bus f gs (acc ++ [(f g).2])
def bu (T : List Tri) : Nat → List Str → Bool × D
  | 0, _ => (true, .tup [])
  | n + 1, L => if L.length = 1 then (true, (L.map D.str).headD .non) else if (grps L T).length = 1 then (false, tupS L) else bus (bu T n) (grps L T) []
theorem bus_fst (f : List Str → Bool × D) : ∀ (gs : List (List Str)) (acc : List D), (bus f gs acc).1 = gs.all fun g => (f g).1
  | [], _ => rfl
  | g :: gs, acc => by
    rw [bus, List.all_cons]
    cases h : (f g).1 with
    | true => rw [if_neg (by decide), bus_fst f gs]; rfl
    | false => rw [if_pos rfl]; rfl
/-- triples of three names -/
def Tri3 (T : List Tri) : Prop := ∀ t ∈ T, t.1 ≠ t.2.1 ∧ t.2.2 ≠ t.1 ∧ t.2.2 ≠ t.2.1
inductive Ag (T : List Tri) : List Str → Prop
  | few {L : List Str} : L.length < 3 → Ag T L
  | cut {L : List Str} : (∀ x ∈ L, (cls L T x).length < L.length) → (∀ x ∈ L, Ag T (cls L T x)) → Ag T L
theorem Ag.big {T : List Tri} {L : List Str} (h : Ag T L) (h3 : 3 ≤ L.length) : (∀ x ∈ L, (cls L T x).length < L.length) ∧ ∀ x ∈ L, Ag T (cls L T x) := by
  cases h with
  | few h => omega
  | cut a b => exact ⟨a, b⟩
theorem con_two {T : List Tri} {L : List Str} (h3 : Tri3 T) (hL : L.length ≤ 2) {x y : Str} (h : Con L T x y) : x = y := by
  have key : ∀ t ∈ T, ¬ TriIn L t := fun t ht hin => by
    obtain ⟨a, b, c⟩ := h3 t ht
    have : [t.1, t.2.1, t.2.2].length ≤ L.length := List.Nodup.length_le_of_subset (by simp [a, Ne.symm b, Ne.symm c]) (by
      intro u hu
      simp only [List.mem_cons, List.not_mem_nil, or_false] at hu
      rcases hu with rfl | rfl | rfl
      · exact hin.1
      · exact hin.2.1
      · exact hin.2.2)
    simp at this
    omega
  induction h with
  | rf => rfl
  | fw a b _ _ => exact absurd b (key _ a)
  | bk a b _ _ => exact absurd b (key _ a)
theorem bu_ag {T : List Tri} (h3 : Tri3 T) : ∀ (n : Nat) (L : List Str), Rise L → L ≠ [] → L.length ≤ n → ((bu T n L).1 = true ↔ Ag T L)
  | 0, L, _, hne, hl => absurd (List.eq_nil_of_length_eq_zero (by omega)) hne
  | n + 1, L, hr, hne, hl => by
    rw [bu]
    obtain ⟨x0, hx0⟩ : ∃ x, x ∈ L := List.exists_mem_of_ne_nil L hne
    by_cases h1 : L.length = 1
    · rw [if_pos h1]
      exact ⟨fun _ => .few (by omega), fun _ => rfl⟩
    rw [if_neg h1]
    have hpos : L.length ≠ 0 := fun z => hne (List.eq_nil_of_length_eq_zero z)
    by_cases hg : (grps L T).length = 1
    · rw [if_pos hg]
      have hc := (grps_one hr hx0).mp hg
      refine ⟨fun z => (by cases z), fun z => ?_⟩
      by_cases h2 : L.length = 2
      · have : ∀ y ∈ cls L T x0, y = x0 := fun y hy => (con_two h3 (by omega) ((mem_cls hx0).mp hy).2).symm
        have : (cls L T x0).length ≤ [x0].length := List.Nodup.length_le_of_subset (cls_rise hr).nd fun y hy => by rw [this y hy]; exact List.mem_cons_self
        simp at this
        omega
      · have := (z.big (by omega)).1 x0 hx0
        omega
    · rw [if_neg hg, bus_fst, List.all_eq_true]
      have lt : ∀ x ∈ L, (cls L T x).length < L.length := fun x hx => Nat.lt_of_le_of_ne cls_len fun z => hg ((grps_one hr hx).mpr z)
      have ih : ∀ x ∈ L, ((bu T n (cls L T x)).1 = true ↔ Ag T (cls L T x)) := fun x hx => bu_ag h3 n _ (cls_rise hr) (List.ne_nil_of_mem (cls_self hx)) (by have := lt x hx; omega)
      have two : ∀ {L : List Str}, Ag T L → ∀ x ∈ L, Ag T (cls L T x) := fun {L} h x hx => by
        cases h with
        | few h => exact .few (Nat.lt_of_le_of_lt cls_len h)
        | cut a b => exact b x hx
      constructor
      · intro h
        refine .cut lt fun x hx => ?_
        have := h (cls L T (marks L T x)) (List.mem_map.mpr ⟨_, head_mem hx, rfl⟩)
        rw [head_cls hx] at this
        exact (ih x hx).mp this
      · intro h g hgm
        obtain ⟨u, hu, rfl⟩ := List.mem_map.mp hgm
        exact (ih u (heads_sub hu)).mpr (two h u (heads_sub hu))
/-! ### the law's groups -/
def gstep (L : List Str) (f : List Str) (t : Tri) : List Str := if TriIn L t ∧ (decide (t.1 ∈ f) != decide (t.2.1 ∈ f)) = true then f ++ [if t.1 ∈ f then t.2.1 else t.1] else f
def ground (L : List Str) (T : List Tri) (f : List Str) : List Str := T.foldl (gstep L) f
def gN (L : List Str) (T : List Tri) : Nat → List Str → List Str
  | 0, f => f
  | n + 1, f => gN L T n (ground L T f)
structure GP (L : List Str) (T : List Tri) (x : Str) (f : List Str) : Prop where
  nd : f.Nodup
  me : x ∈ f
  co : ∀ y ∈ f, Con L T x y
theorem GP.step {L : List Str} {T : List Tri} {x : Str} {f : List Str} (h : GP L T x f) {t : Tri} (ht : t ∈ T) : GP L T x (gstep L f t) := by
  unfold gstep
  by_cases hc : TriIn L t ∧ (decide (t.1 ∈ f) != decide (t.2.1 ∈ f)) = true
  · rw [if_pos hc]
    obtain ⟨hin, hd⟩ := hc
    by_cases ha : t.1 ∈ f
    · rw [if_pos ha]
      have hb : t.2.1 ∉ f := fun z => by simp [ha, z] at hd
      refine ⟨List.nodup_append.mpr ⟨h.nd, by simp, fun u hu v hv => ?_⟩, List.mem_append_left _ h.me, fun y hy => ?_⟩
      · rw [List.mem_singleton.mp hv]; intro z; subst z; exact hb hu
      · rcases List.mem_append.mp hy with hy | hy
        · exact h.co y hy
        · rw [List.mem_singleton.mp hy]; exact .fw ht hin (h.co _ ha)
    · rw [if_neg ha]
      have hb : t.2.1 ∈ f := Classical.byContradiction fun z => by simp [ha, z] at hd
      refine ⟨List.nodup_append.mpr ⟨h.nd, by simp, fun u hu v hv => ?_⟩, List.mem_append_left _ h.me, fun y hy => ?_⟩
      · rw [List.mem_singleton.mp hv]; intro z; subst z; exact ha hu
      · rcases List.mem_append.mp hy with hy | hy
        · exact h.co y hy
        · rw [List.mem_singleton.mp hy]; exact .bk ht hin (h.co _ hb)
  · rw [if_neg hc]
    exact h
theorem gstep_len (L f : List Str) (t : Tri) : gstep L f t = f ∨ (gstep L f t).length = f.length + 1 := by
  unfold gstep
  by_cases hc : TriIn L t ∧ (decide (t.1 ∈ f) != decide (t.2.1 ∈ f)) = true
  · rw [if_pos hc]; exact .inr (by simp)
  · rw [if_neg hc]; exact .inl rfl
theorem GP.fold {L : List Str} {T : List Tri} {x : Str} : ∀ {T2 : List Tri} {f : List Str}, (∀ t ∈ T2, t ∈ T) → GP L T x f → GP L T x (T2.foldl (gstep L) f)
  | [], _, _, h => h
  | t :: T2, f, s, h => GP.fold (T2 := T2) (fun u hu => s u (List.mem_cons_of_mem _ hu)) (h.step (s _ List.mem_cons_self))
theorem gfold_len (L : List Str) : ∀ (T2 : List Tri) (f : List Str), (T2.foldl (gstep L) f = f ∧ ∀ t ∈ T2, gstep L f t = f) ∨ f.length < (T2.foldl (gstep L) f).length
  | [], f => .inl ⟨rfl, fun _ h => (by cases h)⟩
  | t :: T2, f => by
    rw [List.foldl_cons]
    rcases gstep_len L f t with e | e
    · rw [e]
      rcases gfold_len L T2 f with ⟨h1, h2⟩ | h
      · refine .inl ⟨h1, fun u hu => ?_⟩
        rcases List.mem_cons.mp hu with rfl | hu
        · exact e
        · exact h2 u hu
      · exact .inr h
    · rcases gfold_len L T2 (gstep L f t) with ⟨h1, _⟩ | h
      · exact .inr (by rw [h1]; omega)
      · exact .inr (by omega)
theorem gN_ok {L : List Str} {T : List Tri} {x : Str} : ∀ (n : Nat) (f : List Str), GP L T x f → GP L T x (gN L T n f) ∧ ((∀ t ∈ T, gstep L (gN L T n f) t = gN L T n f) ∨ f.length + n ≤ (gN L T n f).length)
  | 0, f, h => ⟨h, .inr (Nat.le_refl _)⟩
  | n + 1, f, h => by
    have h1 : GP L T x (ground L T f) := GP.fold (fun _ z => z) h
    obtain ⟨a, b⟩ := gN_ok n (ground L T f) h1
    refine ⟨a, ?_⟩
    rcases gfold_len L T f with ⟨e, cl⟩ | hl
    · have : ∀ n, gN L T n f = f := by
        intro n
        induction n with
        | zero => rfl
        | succ n ih => rw [gN]; show gN L T n (T.foldl (gstep L) f) = f; rw [e]; exact ih
      rw [this (n + 1)]
      exact .inl cl
    · rcases b with b | b
      · exact .inl b
      · refine .inr ?_
        rw [gN]
        have : f.length < (ground L T f).length := hl
        omega
theorem group_eq {L : List Str} {T : List Tri} {x : Str} (hr : Rise L) (hx : x ∈ L) : (gN L T L.length [x]).Nodup ∧ sortS (gN L T L.length [x]) = cls L T x := by
  have h0 : GP L T x [x] := ⟨by simp, List.mem_cons_self, fun y hy => by rw [List.mem_singleton.mp hy]; exact .rf x⟩
  obtain ⟨h, cl⟩ := gN_ok L.length [x] h0
  have hle : (gN L T L.length [x]).length ≤ L.length := List.Nodup.length_le_of_subset h.nd fun y hy => (h.co y hy).mem hx
  rcases cl with cl | cl
  · refine ⟨h.nd, Rise.of_sort h.nd (cls_rise hr) fun y => ⟨fun hy => (mem_cls hx).mpr ⟨(h.co y hy).mem hx, h.co y hy⟩, fun hy => ?_⟩⟩
    obtain ⟨hyL, c⟩ := (mem_cls hx).mp hy
    have key : ∀ t ∈ T, TriIn L t → (t.1 ∈ gN L T L.length [x] ↔ t.2.1 ∈ gN L T L.length [x]) := fun t ht hin => by
      have e := cl t ht
      unfold gstep at e
      by_cases hc : TriIn L t ∧ (decide (t.1 ∈ gN L T L.length [x]) != decide (t.2.1 ∈ gN L T L.length [x])) = true
      · rw [if_pos hc] at e
        have := congrArg List.length e
        simp at this
      · have : ¬ (decide (t.1 ∈ gN L T L.length [x]) != decide (t.2.1 ∈ gN L T L.length [x])) = true := fun z => hc ⟨hin, z⟩
        rw [bne_iff_ne, ne_eq, Decidable.not_not, decide_eq_decide] at this
        exact this
    clear hy hyL
    induction c with
    | rf => exact h.me
    | fw a b _ ih => exact (key _ a b).mp ih
    | bk a b _ ih => exact (key _ a b).mpr ih
  · simp at cl
    omega
end DP
set_option maxRecDepth 100000
set_option maxHeartbeats 1000000
namespace DP
open PySem L2
local macro_rules
  | `(tactic| get_elem_tactic_trivial) => `(tactic| first
    | with_reducible assumption
    | exact up_same
    | (refine up_keep (by with_reducible assumption) ?_; get_elem_tactic_trivial))
local macro_rules
  | `(tactic| decreasing_trivial) => `(tactic| first
    | with_reducible assumption
    | (with_unfolding_all exact Nat.le_of_ble_eq_true rfl)
    | omega
    | exact shrt_of (by with_unfolding_all rfl)
    | exact sh_cut (by with_reducible assumption) _ _
    | exact cmul_l (by omega) (by omega)
    | exact cmul_r (by omega) (by omega)
    | exact pow_lit (by decide) (by decide) (by decide))
local macro_rules
  | `(tactic| contradiction) => `(tactic| with_reducible first
    | assumption | (apply r_var; with_unfolding_all rfl)
    | apply r_cst | apply r_glo | apply r_tup | apply r_lst | apply r_dK | apply r_bin | apply r_neg | apply r_cmp | apply r_chn
    | apply r_not | apply r_and | apply r_or | apply r_ite | apply r_ix | apply r_sl | apply r_rev | apply r_isi | apply r_bi | apply r_me | apply r_call | apply r_lc
    | apply r_es0 | apply r_es1 | apply r_rs0 | apply r_rs1 | apply r_o0 | apply r_o1 | apply r_part | apply r_ot0 | apply r_ot1 | apply r_mv
    | apply t_not | apply t_and | apply t_or | apply t_cmp | apply t_chn | (apply t_var; with_unfolding_all rfl) | apply t_isi | apply t_bi | apply t_me | apply t_call | apply t_ix
    | (apply x_len; with_unfolding_all exact Nat.le_of_ble_eq_true rfl) | (apply x_ty; with_unfolding_all exact ⟨_, rfl⟩) | (apply x_tyL; get_elem_tactic_trivial; rfl)
    | apply x_bl | apply x_int | (apply x_tru; with_unfolding_all rfl) | (apply x_isi; with_unfolding_all rfl)
    | apply i_T | apply i_F | apply i_nT | apply i_nF
    | apply o_addI | (apply o_addS; decreasing_trivial) | (apply o_addSS; decreasing_trivial; decreasing_trivial) | (apply o_addT; decreasing_trivial) | (apply o_addTT; decreasing_trivial; decreasing_trivial) | apply o_sub
    | (apply o_mulI; decreasing_trivial) | (apply o_mulS; decreasing_trivial) | (apply o_fdiv; decreasing_trivial) | (apply o_mod; decreasing_trivial) | (apply o_pow; decreasing_trivial)
    | (apply o_addNN; decreasing_trivial) | (apply o_addRN; get_elem_tactic_trivial; decreasing_trivial) | (apply o_addNR; get_elem_tactic_trivial; decreasing_trivial) | (apply o_addRR; get_elem_tactic_trivial; get_elem_tactic_trivial; decreasing_trivial)
    | apply c_eqI | apply c_eqS | apply c_eqB | apply c_neI | apply c_neS | apply c_neB | apply c_ltI | apply c_ltS | apply c_gtI | apply c_leI | apply c_geI | apply c_inS | apply c_ninS
    | (apply p_str; decreasing_trivial; with_unfolding_all rfl) | (apply p_tup; with_unfolding_all rfl) | (apply p_lstN; with_unfolding_all rfl) | (apply p_lst; get_elem_tactic_trivial; with_unfolding_all rfl) | (apply p_dK; get_elem_tactic_trivial; with_unfolding_all rfl)
    | (apply l_strS; decreasing_trivial) | (apply l_str; decreasing_trivial) | apply l_tup | apply l_fz | apply l_lstN | (apply l_lst; get_elem_tactic_trivial) | apply v_tup | apply v_lstN | (apply v_lst; get_elem_tactic_trivial)
    | (apply b_lenS; decreasing_trivial) | apply b_lenT | apply b_lenN | (apply b_lenL; get_elem_tactic_trivial) | apply b_abs | apply b_intI | apply b_intB | apply b_tuplN | apply b_tuplT | (apply b_tuplL; get_elem_tactic_trivial) | apply b_listN | apply b_listT | (apply b_listL; get_elem_tactic_trivial)
    | apply z_nil | apply z_exp | apply z_set | apply z_ret | apply z_ife | apply z_for | apply z_brk | apply z_cnt | apply z_sub
    | apply bn_name | (apply q_str; decreasing_trivial) | apply q_tup | apply q_fz | apply q_n | (apply q_ref; get_elem_tactic_trivial) | apply w_seq | apply w_rng1 | apply w_rng2)
local macro_rules
  | `(tactic| contradiction) => `(tactic| with_reducible first
    | (apply p_cells; get_elem_tactic_trivial) | (apply p_at; get_elem_tactic_trivial) | (apply p_left; get_elem_tactic_trivial)
    | (apply y_at; get_elem_tactic_trivial) | (apply y_left; get_elem_tactic_trivial))
local macro_rules
  | `(tactic| contradiction) => `(tactic| with_reducible first
    | apply r_lc2 | apply w_enum | apply e_n | apply c_isnotB | apply b_min | apply bn_tup2)
local macro_rules
  | `(tactic| contradiction) => `(tactic| with_reducible first
    | apply t_emp | apply e_tT | apply e_nT | apply e_nN | (apply e_nL; get_elem_tactic_trivial) | apply r_get2 | apply w_rngD)
/-- all turns of a dict comprehension over things told by f -/
theorem dc_allJ {β : Type} {step : D → Sto → (Sto → Prop) → Prop} {hold : Sto → Prop} {S : Sto} {l : Addr} {q : Sto → Prop} {f : β → D} {g : β → Key × D} (hh : ∀ kvs, hold (up S l (.dK kvs))) : ∀ (cs : List β) (kvs : List (Key × D)), kvs.length + cs.length ≤ sizeLine →
    (∀ x ∈ cs, ∀ (us : List (Key × D)) (k : Sto → Prop), us.length < sizeLine → k (up S l (.dK (putD us (g x).1 (g x).2))) → step (f x) (up S l (.dK us)) k) →
    q (up S l (.dK (cs.foldl (fun us x => putD us (g x).1 (g x).2) kvs))) → dcL step hold (cs.map f) (up S l (.dK kvs)) q
  | [], kvs, _, _, hq => ⟨hh kvs, hq⟩
  | x :: xs, kvs, hz, hs, hq => by
    rw [List.length_cons] at hz
    refine ⟨hh kvs, hs x (List.mem_cons_self ..) kvs _ (by omega) (dc_allJ hh xs _ ?_ (fun y hy => hs y (List.mem_cons_of_mem _ hy)) hq)⟩
    have : (putD kvs (g x).1 (g x).2).length ≤ kvs.length + 1 := by
      unfold putD
      split
      · rw [List.length_map]
        exact Nat.le_succ _
      · rw [List.length_append]
        exact Nat.le_refl _
    omega
section
variable {F : Fw} {ρ : DP.Env} {S : Sto} {Q : PR}
theorem j_lcD {elt : E} {tg : TN} {w : DW} {i : Nat} {ifs : Option E} {own : List Nat} {a : Addr} {kvs : List (Key × D)} (h1 : ρ[i]? = some (some (.ref a))) (h2 : S a = some (.dK kvs)) (h3 : kvs.length ≤ sizeLine)
    (q : ∀ o ws, lcL (fun x S2 k => bindN tg x (wipeE ρ own) fun ρ' => wOT F ifs ρ' S2 fun b S3 =>
      if b = true then wE F elt ρ' S3 fun r S4 => mat r S4 fun d S5 => k (some d) S5 else k none S3) (fun S' => S' a = some (.lkK kvs o ws)) (dwD w kvs) [] (up S a (.lkK kvs o ws)) fun ds S2 => S2 a = some (.lkK kvs o ws) ∧ Q (.n (.lst ds)) (up S2 a (.dK kvs))) : wE F (.lcD elt tg w i ifs own) ρ S Q := ⟨a, h1, .inl ⟨kvs, h2, h3, q⟩⟩
theorem j_dcD {kx vx : E} {tg : TN} {w : DW} {i : Nat} {ifs : Option E} {own : List Nat} {a : Addr} {kvs : List (Key × D)} (h1 : ρ[i]? = some (some (.ref a))) (h2 : S a = some (.dK kvs)) (h3 : kvs.length ≤ sizeLine)
    (q : ∀ o ws, ∀ l, up S a (.lkK kvs o ws) l = none → dcL (fun x S2 k => bindN tg x (wipeE ρ own) fun ρ' => wOT F ifs ρ' S2 fun b S3 =>
      if b = true then wE F kx ρ' S3 fun rk S4 => wE F vx ρ' S4 fun r S5 => mat r S5 fun d S6 => dcPut l rk d S6 k else k S3) (fun S' => S' a = some (.lkK kvs o ws)) (dwD w kvs) (up (up S a (.lkK kvs o ws)) l (.dK [])) fun S2 => S2 a = some (.lkK kvs o ws) ∧ Q (.v (.ref l)) (up S2 a (.dK kvs))) :
    wE F (.dcD kx vx tg w i ifs own) ρ S Q := ⟨a, h1, .inl ⟨kvs, h2, h3, q⟩⟩
theorem j_ixL {a i : E} (q : wE F a ρ S fun x S1 => wE F i ρ S1 fun y S2 => ∃ (kvs : List (Key × D)) (o : Obj) (ws : List (Key × V)) (ky : Key) (d : D), see S2 x = some (.lkK kvs o ws) ∧ y = .v (keyD ky) ∧ valD kvs ky = some d ∧ Q (.v d) S2) : wE F (.ixL a i) ρ S Q := q
end
/-! ### dicts by names -/
abbrev nK (K : List Str) (g : Str → D) : List (Key × D) := K.map fun x => (.inr x, g x)
theorem inr_inj {x y : Str} (h : (Sum.inr x : Key) = .inr y) : x = y := Sum.inr.inj h
theorem nK_val {K : List Str} {g : Str → D} {x : Str} : valD (nK K g) (.inr x) = if x ∈ K then some (g x) else none := by
  induction K with
  | nil => rfl
  | cons i K ih =>
    show valD ((.inr i, g i) :: nK K g) (.inr x) = _
    rw [valD_cons, ih]
    by_cases h : i = x
    · subst h
      rw [if_pos rfl, if_pos List.mem_cons_self]
    · rw [if_neg fun z => h (inr_inj z)]
      have : x ∈ i :: K ↔ x ∈ K := by rw [List.mem_cons]; exact ⟨fun z => z.resolve_left fun w => h w.symm, .inr⟩
      simp only [this]
theorem nK_new {K : List Str} {g : Str → D} {x : Str} {d : D} (h : x ∉ K) (e : g x = d) : putD (nK K g) (.inr x) d = nK (K ++ [x]) g := by
  subst e
  unfold putD
  rw [if_neg]
  · show nK K g ++ [(.inr x, g x)] = _
    rw [nK, nK, List.map_append]
    rfl
  · intro z
    obtain ⟨p, hp, e1⟩ := List.any_eq_true.mp z
    obtain ⟨i, hi, rfl⟩ := List.mem_map.mp hp
    exact h (inr_inj (of_decide_eq_true e1) ▸ hi)
theorem nK_keys (K : List Str) (g : Str → D) : dwD .keys (nK K g) = K.map .str := by
  show (K.map _).map _ = _
  rw [List.map_map]; rfl
theorem nK_items (K : List Str) (g : Str → D) : dwD .items (nK K g) = K.map fun x => .tup [.str x, g x] := by
  show (K.map _).map _ = _
  rw [List.map_map]; rfl
section
variable {S : Sto} {a : Addr} {Q : PR} {K : List Str} {g : Str → D} {x : Str} {d : D} {F : Fw} {ρ : DP.Env}
theorem p_nK (h : S a = some (.dK (nK K g))) (hx : x ∈ K) (q : Q (.v (g x)) S) : ixW (.v (.ref a)) (.v (.str x)) S Q := p_dK h (nK_val.trans (if_pos hx)) q
theorem in_nK {P : Bool → Prop} (h : S a = some (.dK (nK K g))) (q : P (decide (x ∈ K))) : inW (.v (.str x)) (.v (.ref a)) S P := by
  refine .inr (.inr (.inl ⟨nK K g, .str x, .inr x, h, rfl, rfl, ?_⟩))
  rw [nK_val]
  by_cases c : x ∈ K
  · rw [if_pos c]; rw [decide_eq_true c] at q; exact q
  · rw [if_neg c]; rw [decide_eq_false c] at q; exact q
theorem c_inNK (h : S a = some (.dK (nK K g))) (q : Q (.v (.bl (decide (x ∈ K)))) S) : cmpW .isin (.v (.str x)) (.v (.ref a)) S Q := in_nK (P := fun b => Q (.v (.bl b)) S) h q
theorem r_mn2 {mx : Bool} {a b : E} (q : wE F a ρ S fun r S1 => wE F b ρ S1 fun q S2 => ∃ x y : Str, r = .v (.str x) ∧ q = .v (.str y) ∧ Q (.v (.str (mn2 mx x y))) S2) : wE F (.mn2 mx a b) ρ S Q := q
theorem r_mnS {mx : Bool} {e : E} (q : wE F e ρ S fun r S1 => ∃ xs : List Str, seqOf S1 r = some (xs.map .str) ∧ 0 < xs.length ∧ xs.length ≤ 1000 ∧ ∀ m, m ∈ xs → (∀ y, y ∈ xs → (if mx = true then ¬ m.cps.toList < y.cps.toList else ¬ y.cps.toList < m.cps.toList)) → Q (.v (.str m)) S1) : wE F (.mnS mx e) ρ S Q := q
theorem r_lstK {Ps : List Addr} {e : E} (q : wE F e ρ S fun r S1 => (∃ P, P ∈ Ps ∧ r = .v (.ref P) ∧ Q (.n (.lst [])) S1) ∨ biW .list [r] S1 Q) : wE F (.lstK Ps e) ρ S Q := q
theorem r_sdf {d k x : E} (q : wE F d ρ S fun r S1 => (∃ l kvs, r = .v (.ref l) ∧ S1 l = some (.dK kvs)) ∧ wE F k ρ S1 fun y S2 => wE F x ρ S2 fun z S3 => mat z S3 fun dx S4 => ∃ (l : Addr) (kvs : List (Key × D)) (ky : Key), r = .v (.ref l) ∧ S4 l = some (.dK kvs) ∧ kvs.length < sizeLine ∧ y = .v (keyD ky) ∧
      (∀ d, valD kvs ky = some d → Q (.v d) S4) ∧ (valD kvs ky = none → Q (.v dx) (up S4 l (.dK (putD kvs ky dx))))) : wE F (.sdf d k x) ρ S Q := q
theorem bn_tup3 {i j k : Nat} {x y z : D} {Q : DP.Env → Prop} (q : Q (((ρ.set i (some x)).set j (some y)).set k (some z))) : bindN (.tup [i, j, k]) (.tup [x, y, z]) ρ Q := ⟨rfl, q⟩
end
local macro_rules
  | `(tactic| contradiction) => `(tactic| with_reducible first
    | apply bn_tup3 | apply r_mn2 | apply r_mnS | apply r_sdf)
theorem line60 {n : Nat} (h : n ≤ 60) : n < sizeLine := lineN _ (by omega)
def bAllNames (Ps : List Addr) : List C := [.ret (.bi .tupl [(.sset (.bin .add (.lc2 (.var 3) (.name 2) (.seq (.var 0)) none (.name 3) (.seq (.var 2)) none [2, 3] [3]) (.lstK Ps (.var 1))))])]
def bGroups : List C := [.asg (.name 3) (.dc (.var 2) (.var 2) (.name 2) (.seq (.var 0)) none [2]), .for (.tup [4, 5, 6]) (.seq (.var 1)) [.ife (.and (.cmp .isin (.var 4) (.var 3)) (.and (.cmp .isin (.var 5) (.var 3)) (.and (.cmp .isin (.var 6) (.var 3)) (.cmp .ne (.ix (.var 3) (.var 4)) (.ix (.var 3) (.var 5)))))) [.asg (.tup [7, 8]) (.tup [(.mn2 false (.ix (.var 3) (.var 4)) (.ix (.var 3) (.var 5))), (.mn2 true (.ix (.var 3) (.var 4)) (.ix (.var 3) (.var 5)))]), .asg (.name 3) (.dcD (.var 2) (.ite (.cmp .eq (.var 10) (.var 8)) (.var 7) (.var 10)) (.tup [2, 10]) .items 3 none [2, 10])] []], .asg (.name 9) (.dK [] []), .for (.name 2) (.seq (.var 0)) [.exp (.me .append (.sdf (.var 9) (.ix (.var 3) (.var 2)) (.lst [])) [(.var 2)])], .ret (.lcD (.bi .tupl [(.ixL (.var 9) (.var 10))]) (.name 10) .keys 9 none [10])]
def bBuilt (fg fb : Nat) : List C := [.ife (.cmp .eq (.bi .len [(.var 0)]) (.cst (.int 1))) [.ret (.tup [(.cst (.str "tree")), (.ix (.var 0) (.cst (.int 0)))])] [], .asg (.name 2) (.call fg [(.var 0), (.var 1)]), .ife (.cmp .eq (.bi .len [(.var 2)]) (.cst (.int 1))) [.ret (.tup [(.cst (.str "lot")), (.var 0)])] [], .asg (.name 3) (.lst []), .for (.name 4) (.seq (.var 2)) [.asg (.tup [5, 6]) (.call fb [(.var 4), (.var 1)]), .ife (.cmp .eq (.var 5) (.cst (.str "lot"))) [.ret (.tup [(.var 5), (.var 6)])] [], .exp (.me .append (.var 3) [(.var 6)])], .ret (.tup [(.cst (.str "tree")), (.bi .tupl [(.var 3)])])]
def bAgreed (fa fb : Nat) : List C := [.ret (.call fb [(.call fa [(.var 0), (.var 1)]), (.var 0)])]
/-- the marks after some triples -/
def mk (L : List Str) (T : List Tri) (i : Nat) : Str → Str := (T.take i).foldl (mstep L) id
theorem mk_succ {L : List Str} {T : List Tri} {i : Nat} {t : Tri} (h : T[i]? = some t) : mk L T (i + 1) = mstep L (mk L T i) t := by
  unfold mk
  rw [List.take_add_one, h, List.foldl_append]
  rfl
theorem mk_all (L : List Str) (T : List Tri) : mk L T T.length = marks L T := by unfold mk marks; rw [List.take_length]
theorem tris_at {T : List Tri} {i : Nat} {x : D} (h : (T.map triD)[i]? = some x) : ∃ t, T[i]? = some t ∧ x = triD t := by
  rw [List.getElem?_map, Option.map_eq_some_iff] at h
  obtain ⟨t, h, e⟩ := h
  exact ⟨t, h, e.symm⟩
theorem strs_at {T : List Str} {i : Nat} {x : D} (h : (T.map D.str)[i]? = some x) : ∃ t, T[i]? = some t ∧ x = .str t := by
  rw [List.getElem?_map, Option.map_eq_some_iff] at h
  obtain ⟨t, h, e⟩ := h
  exact ⟨t, h, e.symm⟩
/-- lists of names by names -/
def GD (S : Sto) (g : Addr) (K : List Str) (ls : Str → List Str) (A : Str → Addr) : Prop := S g = some (.dK (nK K fun x => .ref (A x))) ∧ (∀ x ∈ K, S (A x) = some (.lst ((ls x).map .str)) ∧ A x ≠ g) ∧ ∀ x ∈ K, ∀ y ∈ K, A x = A y → x = y
theorem take_succ {α : Type} {L : List α} {i : Nat} {x : α} (h : L[i]? = some x) : L.take (i + 1) = L.take i ++ [x] := by rw [List.take_add_one, h]; rfl
theorem rise_take {L : List Str} (hr : Rise L) {i : Nat} {x y : Str} (hx : L[i]? = some x) (hy : y ∈ L) (h : ltS y x) : y ∈ L.take i := by
  obtain ⟨j, hj, rfl⟩ := List.getElem_of_mem hy
  obtain ⟨hi, rfl⟩ := List.getElem?_eq_some_iff.mp hx
  rcases Nat.lt_trichotomy j i with c | c | c
  · exact List.mem_take_iff_getElem.mpr ⟨j, by omega, rfl⟩
  · subst c; exact (ltS_irr _ h).elim
  · exact (ltS_as h (List.pairwise_iff_getElem.mp hr i j hi hj c)).elim
section
variable {B : List Fn} {f k : Nat} {S : Sto} {Q : PR}
theorem groups_ok (hT : B[f]? = some ⟨2, 11, bGroups⟩) {L : List Str} {T : List Tri} (hr : Rise L) (hL : L.length ≤ 60) (q : ∀ S', Sub S S' → Q (.n (.lst ((grps L T).map tupS))) S') : W B (k + 1) f [tupS L, tris T] S Q := by
  refine enter (b := ⟨2, 11, bGroups⟩) (ρ := [some (tupS L), some (tris T), none, none, none, none, none, none, none, none, none]) hT rfl rfl ?_
  show wSs (W B k) bGroups _ _ _
  delta bGroups
  have hnd := hr.nd
  repeat' contradiction
  refine r_dc ?_
  repeat' contradiction
  intro l hl
  refine dc_allJ (f := D.str) (g := fun x => (.inr x, .str x)) (fun _ => trivial) L [] (by simp; exact Nat.le_of_lt (line60 hL)) (fun x hx us K2 hus hK2 => ?_) ?_
  · repeat' contradiction
    refine dcPut_s up_same hus ?_
    rw [up_up]
    exact hK2
  rw [fold_new (fun x => (.inr x, .str x)) L [] (List.pairwise_map.mpr (hnd.imp fun {a b} ne e => ne (inr_inj e)))]
  rw [List.nil_append]
  refine r_mv ?_
  refine z_for ?_
  refine w_seq ?_
  repeat' contradiction
  refine for_ok (fun i ρ U => ∃ (r : Addr) (o2 o4 o5 o6 o7 o8 : Option D), ρ = [some (tupS L), some (tris T), o2, some (.ref r), o4, o5, o6, o7, o8, none, none] ∧ U r = some (.dK (nK L fun x => .str (mk L T i x))) ∧ Sub S U) (fun i x ρ U Kn hx h hKn => ?_) (fun ρ U h => ?_)
    ⟨l, _, _, _, _, _, _, rfl, by rw [up_same]; rfl, Sub.rfl.then hl⟩
  · obtain ⟨r, o2, o4, o5, o6, o7, o8, rfl, eU, sU⟩ := h
    obtain ⟨t, ht, rfl⟩ := tris_at hx
    have hm := mk_succ (L := L) ht
    refine ⟨trivial, bn_tup3 ?_⟩
    have skip : mk L T (i + 1) = mk L T i → Kn [some (tupS L), some (tris T), o2, some (.ref r), some (.str t.1), some (.str t.2.1), some (.str t.2.2), o7, o8, none, none] U := fun e =>
      hKn _ _ ⟨r, _, _, _, _, _, _, rfl, by rw [e]; exact eU, sU⟩
    have no : ¬ (TriIn L t ∧ mk L T i t.1 ≠ mk L T i t.2.1) → mk L T (i + 1) = mk L T i := fun h => by rw [hm]; unfold mstep; rw [if_neg h]
    repeat' contradiction
    refine c_inNK eU (x_bl ?_)
    by_cases c1 : t.1 ∈ L
    rotate_left
    · rw [decide_eq_false c1]
      refine i_F (i_F ?_)
      exact z_nil (skip (no fun z => c1 z.1.1))
    rw [decide_eq_true c1]
    refine i_T ?_
    repeat' contradiction
    refine c_inNK eU (x_bl ?_)
    by_cases c2 : t.2.1 ∈ L
    rotate_left
    · rw [decide_eq_false c2]
      refine i_F (i_F ?_)
      exact z_nil (skip (no fun z => c2 z.1.2.1))
    rw [decide_eq_true c2]
    refine i_T ?_
    repeat' contradiction
    refine c_inNK eU (x_bl ?_)
    by_cases c3 : t.2.2 ∈ L
    rotate_left
    · rw [decide_eq_false c3]
      refine i_F (i_F ?_)
      exact z_nil (skip (no fun z => c3 z.1.2.2))
    rw [decide_eq_true c3]
    refine i_T ?_
    repeat' contradiction
    refine p_nK eU c1 ?_
    repeat' contradiction
    refine p_nK eU c2 ?_
    refine c_neS (x_bl ?_)
    by_cases c4 : mk L T i t.1 = mk L T i t.2.1
    · rw [decide_eq_true c4]
      refine i_F ?_
      exact z_nil (skip (no fun z => z.2 c4))
    rw [decide_eq_false c4]
    refine i_T ?_
    have hstep : mk L T (i + 1) = fun x => if mk L T i x = mn2 true (mk L T i t.1) (mk L T i t.2.1) then mn2 false (mk L T i t.1) (mk L T i t.2.1) else mk L T i x := by
      rw [hm]; unfold mstep; rw [if_pos ⟨⟨c1, c2, c3⟩, c4⟩]
    refine z_tup ?_
    repeat' contradiction
    refine p_nK eU c1 ?_
    repeat' contradiction
    refine p_nK eU c2 ?_
    refine ⟨_, _, rfl, rfl, ?_⟩
    repeat' contradiction
    refine p_nK eU c1 ?_
    repeat' contradiction
    refine p_nK eU c2 ?_
    refine ⟨_, _, rfl, rfl, ?_⟩
    repeat' contradiction
    refine ⟨rfl, ?_⟩
    refine z_set ?_
    have few : (nK L fun x => D.str (mk L T i x)).length ≤ sizeLine := by rw [show (nK L fun x => D.str (mk L T i x)).length = L.length from List.length_map _]; exact Nat.le_of_lt (line60 hL)
    refine j_dcD rfl eU few fun o ws l2 hl2 => ?_
    have hrl : r ≠ l2 := fun z => by rw [z, up_same] at hl2; cases hl2
    have hUl : U l2 = none := by rwa [up_ne hrl.symm] at hl2
    rw [nK_items]
    refine dc_allJ (f := fun x => D.tup [.str x, .str (mk L T i x)]) (g := fun x => (.inr x, .str (mk L T (i + 1) x))) (fun us => (up_ne hrl).trans up_same) L [] (by simp; exact Nat.le_of_lt (line60 hL)) (fun x hx us K2 hus hK2 => ?_) ?_
    · repeat' contradiction
      have e3 : mk L T (i + 1) x = if mk L T i x = mn2 true (mk L T i t.1) (mk L T i t.2.1) then mn2 false (mk L T i t.1) (mk L T i t.2.1) else mk L T i x := by rw [hstep]
      by_cases c5 : mk L T i x = mn2 true (mk L T i t.1) (mk L T i t.2.1)
      · rw [if_pos c5] at e3
        rw [decide_eq_true c5]
        refine i_T ?_
        repeat' contradiction
        refine dcPut_s up_same hus ?_
        rw [up_up, ← e3]
        exact hK2
      · rw [if_neg c5] at e3
        rw [decide_eq_false c5]
        refine i_F ?_
        repeat' contradiction
        refine dcPut_s up_same hus ?_
        rw [up_up, ← e3]
        exact hK2
    rw [fold_new (fun x => (.inr x, .str (mk L T (i + 1) x))) L [] (List.pairwise_map.mpr (hnd.imp fun {a b} ne e => ne (inr_inj e)))]
    refine ⟨(up_ne hrl).trans up_same, ?_⟩
    refine r_mv ?_
    refine z_nil (hKn _ _ ⟨l2, _, _, _, _, _, _, rfl, (up_ne hrl.symm).trans up_same, fun b ob e => ?_⟩)
    by_cases c : b = r
    · subst c; rw [sU _ _ e] at eU; cases eU; exact up_same
    · rw [up_ne c, up_ne (fun z => by rw [z] at e; rw [sU _ _ e] at hUl; cases hUl), up_ne c]; exact sU _ _ e
  obtain ⟨r, o2, o4, o5, o6, o7, o8, rfl, eU, sU⟩ := h
  rw [List.length_map, mk_all] at eU
  refine ⟨trivial, ?_⟩
  refine z_set ?_
  repeat' contradiction
  refine r_mn fun g hg => ?_
  have hgr : r ≠ g := fun z => by rw [z, hg] at eU; cases eU
  have hSg : S g = none := sU.none hg
  refine z_for ?_
  refine w_seq ?_
  repeat' contradiction
  have mle := (marks_ok L T).le
  have mcon := (marks_ok L T).con
  have mm : ∀ x ∈ L, marks L T (marks L T x) = marks L T x := fun x hx => ((marks_ok L T).eqv x _ hx (mcon x hx)).symm
  refine for_ok (fun i ρ V => ∃ (o2 : Option D) (A : Str → Addr), ρ = [some (tupS L), some (tris T), o2, some (.ref r), o4, o5, o6, o7, o8, some (.ref g), none] ∧ V r = some (.dK (nK L fun x => .str (marks L T x))) ∧ Sub S V ∧
      GD V g ((L.take i).filter fun x => marks L T x == x) (fun μ => (L.take i).filter fun y => marks L T y == μ) A ∧ ∀ x ∈ (L.take i).filter (fun x => marks L T x == x), S (A x) = none) (fun i d ρ V Kn hd h hKn => ?_) (fun ρ V h => ?_)
    ⟨_, fun _ => 0, rfl, (up_ne hgr).trans eU, sU.then hSg, ⟨by simpa using up_same, fun x hx => (by simp at hx), fun x hx => (by simp at hx)⟩, fun x hx => (by simp at hx)⟩
  · obtain ⟨p2, A, rfl, eV, sV, ⟨eg, hA, hinj⟩, hSA⟩ := h
    obtain ⟨x, hx, rfl⟩ := strs_at hd
    have hxL := List.mem_of_getElem? hx
    have htk := take_succ hx
    have hxt : x ∉ L.take i := fun z => by
      obtain ⟨j, hj, e⟩ := List.mem_take_iff_getElem.mp z
      obtain ⟨hi, e2⟩ := List.getElem?_eq_some_iff.mp hx
      have := nd_at hnd (e.trans e2.symm)
      omega
    refine ⟨trivial, bn_name ?_⟩
    refine z_exp ?_
    refine r_me ?_
    refine r_sdf ?_
    repeat' contradiction
    refine ⟨⟨g, _, rfl, eg⟩, ?_⟩
    repeat' contradiction
    refine p_nK eV hxL ?_
    repeat' contradiction
    refine r_mn fun t ht => ?_
    have htg : g ≠ t := fun z => by rw [← z, eg] at ht; cases ht
    have htr : r ≠ t := fun z => by rw [← z, eV] at ht; cases ht
    have hSt : S t = none := sV.none ht
    have eg2 := (up_ne (o := .lst []) (S := V) htg).trans eg
    refine ⟨g, _, .inr (marks L T x), rfl, eg2, ?_, rfl, fun d hv => ?_, fun hv => ?_⟩
    · rw [List.length_map]
      refine line60 (Nat.le_trans (List.length_filter_le _ _) ?_)
      rw [List.length_take]; omega
    · rw [nK_val] at hv
      by_cases hmem : marks L T x ∈ (L.take i).filter fun x => marks L T x == x
      rotate_left
      · rw [if_neg hmem] at hv; cases hv
      rw [if_pos hmem] at hv
      cases hv
      obtain ⟨a1, a2⟩ := hA _ hmem
      have hAt : A (marks L T x) ≠ t := fun z => by rw [z, ht] at a1; cases a1
      have a3 := (up_ne (o := .lst []) (S := V) hAt).trans a1
      have hlenf : ((L.take i).filter fun y => marks L T y == marks L T x).length ≤ 60 := Nat.le_trans (List.length_filter_le _ _) (by rw [List.length_take]; omega)
      refine ⟨m_tyL a3 rfl, ?_⟩
      repeat' contradiction
      refine m_append a3 (by rw [List.length_map]; exact line60 hlenf) ?_
      have hAr : A (marks L T x) ≠ r := fun z => by rw [z, eV] at a1; cases a1
      have hne : ¬ (marks L T x == x) = true := fun z => by
        rw [beq_iff_eq] at z
        rw [z] at hmem
        exact hxt (List.mem_filter.mp hmem).1
      have hf : (L.take (i + 1)).filter (fun x => marks L T x == x) = (L.take i).filter fun x => marks L T x == x := by
        rw [htk, List.filter_append]
        simp [hne]
      refine z_nil (hKn _ _ ⟨_, A, rfl, (up_ne hAr.symm).trans ((up_ne htr).trans eV), (sV.then hSt).then ?_, ?_, ?_⟩)
      · exact hSA _ hmem
      · rw [hf]
        refine ⟨(up_ne a2.symm).trans eg2, fun μ hμ => ?_, hinj⟩
        obtain ⟨b1, b2⟩ := hA _ hμ
        have hμt : A μ ≠ t := fun z => by rw [z, ht] at b1; cases b1
        refine ⟨?_, b2⟩
        dsimp only
        rw [htk, List.filter_append]
        by_cases c : μ = marks L T x
        · subst c
          rw [up_same]
          simp
        · rw [up_ne (fun z => c (hinj _ hμ _ hmem z)), up_ne hμt, b1]
          have : ¬ (marks L T x == μ) = true := fun z => c (beq_iff_eq.mp z).symm
          simp [this]
      · rw [hf]; exact hSA
    · rw [nK_val] at hv
      by_cases hmem : marks L T x ∈ (L.take i).filter fun x => marks L T x == x
      · rw [if_pos hmem] at hv; cases hv
      have hmx : marks L T x = x := by
        refine Classical.byContradiction fun hne => ?_
        have hmL := (mcon x hxL).mem hxL
        have hlt : ltS (marks L T x) x := Classical.byContradiction fun z => hne (ltS_tri z (mle x hxL))
        exact hmem (List.mem_filter.mpr ⟨rise_take hr hx hmL hlt, by rw [beq_iff_eq]; exact mm x hxL⟩)
      rw [hmx] at hmem ⊢
      have e3 : up (up V t (.lst [])) g (.dK (putD (nK ((L.take i).filter fun x => marks L T x == x) fun x => .ref (A x)) (.inr x) (.ref t))) t = some (.lst []) := (up_ne htg.symm).trans up_same
      refine ⟨m_tyL e3 rfl, ?_⟩
      repeat' contradiction
      refine m_append e3 (by exact line60 (Nat.zero_le _)) ?_
      have hf : (L.take (i + 1)).filter (fun x => marks L T x == x) = ((L.take i).filter fun x => marks L T x == x) ++ [x] := by
        rw [htk, List.filter_append]
        simp [hmx]
      have hfn : (L.take i).filter (fun y => marks L T y == x) = [] := by
        rw [List.filter_eq_nil_iff]
        intro y hy z
        rw [beq_iff_eq] at z
        have hyL := List.mem_of_mem_take hy
        rcases Classical.em (ltS y x) with c | c
        · exact mle y hyL (z ▸ c)
        · rcases Classical.em (ltS x y) with c2 | c2
          · obtain ⟨j, hj, e⟩ := List.mem_take_iff_getElem.mp hy
            obtain ⟨hi, e2⟩ := List.getElem?_eq_some_iff.mp hx
            have := List.pairwise_iff_getElem.mp hr j i (by omega) hi (by omega)
            rw [e, e2] at this
            exact ltS_as this c2
          · exact hxt (ltS_tri c c2 ▸ hy)
      refine z_nil (hKn _ _ ⟨_, fun y => if y = x then t else A y, rfl, (up_ne htr).trans ((up_ne hgr).trans ((up_ne htr).trans eV)), ((sV.then hSt).then hSg).then hSt, ?_, ?_⟩)
      · rw [hf]
        have gx : ∀ y ∈ (L.take i).filter (fun x => marks L T x == x), y ≠ x := fun y hy z => hmem (z ▸ hy)
        refine ⟨?_, fun μ hμ => ?_, fun μ hμ ν hν e => ?_⟩
        · rw [up_ne htg, up_same]
          congr 2
          have := nK_new (g := fun y => D.ref (if y = x then t else A y)) (d := .ref t) hmem (by rw [if_pos rfl])
          rw [← this]
          congr 1
          exact List.map_congr_left fun y hy => by show (Sum.inr y, D.ref (A y)) = (Sum.inr y, D.ref (if y = x then t else A y)); rw [if_neg (gx y hy)]
        · dsimp only
          rw [htk, List.filter_append]
          rcases List.mem_append.mp hμ with hμ | hμ
          · obtain ⟨b1, b2⟩ := hA _ hμ
            have hμt : A μ ≠ t := fun z => by rw [z, ht] at b1; cases b1
            have : ¬ (marks L T x == μ) = true := fun z => gx μ hμ ((beq_iff_eq.mp z).symm.trans hmx)
            simp only [if_neg (gx μ hμ)]
            refine ⟨?_, b2⟩
            rw [up_ne hμt, up_ne b2, up_ne hμt, b1]
            simp [this]
          · rw [List.mem_singleton.mp hμ]
            simp only [if_true]
            refine ⟨?_, htg.symm⟩
            rw [up_same, hfn]
            simp [hmx]
        · rcases List.mem_append.mp hμ with hμ | hμ <;> rcases List.mem_append.mp hν with hν | hν
          · simp only [if_neg (gx μ hμ), if_neg (gx ν hν)] at e
            exact hinj _ hμ _ hν e
          · rw [List.mem_singleton.mp hν] at e ⊢
            simp only [if_neg (gx μ hμ), if_true] at e
            have b1 := (hA _ hμ).1
            rw [e, ht] at b1; cases b1
          · rw [List.mem_singleton.mp hμ] at e ⊢
            simp only [if_neg (gx ν hν), if_true] at e
            have b1 := (hA _ hν).1
            rw [← e, ht] at b1; cases b1
          · rw [List.mem_singleton.mp hμ, List.mem_singleton.mp hν]
      · rw [hf]
        intro y hy
        rcases List.mem_append.mp hy with hy | hy
        · have : y ≠ x := fun z => hmem (z ▸ hy)
          simp only [if_neg this]
          exact hSA y hy
        · rw [List.mem_singleton.mp hy]
          simp only [if_true]
          exact hSt
  obtain ⟨p2, A, rfl, eV, sV, ⟨eg, hA, hinj⟩, hSA⟩ := h
  rw [List.length_map, List.take_length] at eg hA hinj
  refine ⟨trivial, ?_⟩
  refine z_ret ?_
  have few : (nK (L.filter fun x => marks L T x == x) fun x => D.ref (A x)).length ≤ sizeLine := by rw [show (nK (L.filter fun x => marks L T x == x) fun x => D.ref (A x)).length = (L.filter fun x => marks L T x == x).length from List.length_map _]; exact Nat.le_of_lt (line60 (Nat.le_trans (List.length_filter_le _ _) hL))
  refine j_lcD rfl eg few fun o ws => ?_
  rw [nK_keys]
  refine lc_all (f := D.str) (fun μ => tupS (L.filter fun y => marks L T y == μ)) up_same (fun μ hμ Kt hKt => ?_) ?_
  · obtain ⟨a1, a2⟩ := hA μ hμ
    repeat' contradiction
    refine j_ixL ?_
    repeat' contradiction
    refine ⟨nK (L.filter fun x => marks L T x == x) fun x => D.ref (A x), o, ws, .inr μ, .ref (A μ), ?_, rfl, by rw [nK_val, if_pos hμ], ?_⟩
    · show up V g _ g = _
      exact up_same
    refine r_rs0 ?_
    refine b_tuplL ((up_ne a2).trans a1) ?_
    exact hKt
  refine ⟨up_same, ?_⟩
  rw [up_up]
  have e : ((L.filter fun x => marks L T x == x).map fun μ => tupS (L.filter fun y => marks L T y == μ)) = (grps L T).map tupS := by
    unfold grps heads
    rw [List.map_map]
    refine List.map_congr_left fun μ hμ => ?_
    have := beq_iff_eq.mp (List.mem_filter.mp hμ).2
    show tupS _ = tupS (cls L T μ)
    unfold cls
    rw [this]
  rw [e]
  refine q _ fun b ob e2 => ?_
  by_cases c : b = g
  · subst c; rw [hSg] at e2; cases e2
  · rw [up_ne c]; exact sV _ _ e2
end
end DP
set_option maxRecDepth 100000
set_option maxHeartbeats 1000000
namespace DP
open PySem L2
local macro_rules
  | `(tactic| get_elem_tactic_trivial) => `(tactic| first
    | with_reducible assumption
    | exact up_same
    | (refine up_keep (by with_reducible assumption) ?_; get_elem_tactic_trivial))
local macro_rules
  | `(tactic| decreasing_trivial) => `(tactic| first
    | with_reducible assumption
    | (with_unfolding_all exact Nat.le_of_ble_eq_true rfl)
    | omega
    | exact shrt_of (by with_unfolding_all rfl)
    | exact sh_cut (by with_reducible assumption) _ _
    | exact cmul_l (by omega) (by omega)
    | exact cmul_r (by omega) (by omega)
    | exact pow_lit (by decide) (by decide) (by decide))
local macro_rules
  | `(tactic| contradiction) => `(tactic| with_reducible first
    | assumption | (apply r_var; with_unfolding_all rfl)
    | apply r_cst | apply r_glo | apply r_tup | apply r_lst | apply r_dK | apply r_bin | apply r_neg | apply r_cmp | apply r_chn
    | apply r_not | apply r_and | apply r_or | apply r_ite | apply r_ix | apply r_sl | apply r_rev | apply r_isi | apply r_bi | apply r_me | apply r_call | apply r_lc
    | apply r_es0 | apply r_es1 | apply r_rs0 | apply r_rs1 | apply r_o0 | apply r_o1 | apply r_part | apply r_ot0 | apply r_ot1 | apply r_mv
    | apply t_not | apply t_and | apply t_or | apply t_cmp | apply t_chn | (apply t_var; with_unfolding_all rfl) | apply t_isi | apply t_bi | apply t_me | apply t_call | apply t_ix
    | (apply x_len; with_unfolding_all exact Nat.le_of_ble_eq_true rfl) | (apply x_ty; with_unfolding_all exact ⟨_, rfl⟩) | (apply x_tyL; get_elem_tactic_trivial; rfl)
    | apply x_bl | apply x_int | (apply x_tru; with_unfolding_all rfl) | (apply x_isi; with_unfolding_all rfl)
    | apply i_T | apply i_F | apply i_nT | apply i_nF
    | apply o_addI | (apply o_addS; decreasing_trivial) | (apply o_addSS; decreasing_trivial; decreasing_trivial) | (apply o_addT; decreasing_trivial) | (apply o_addTT; decreasing_trivial; decreasing_trivial) | apply o_sub
    | (apply o_mulI; decreasing_trivial) | (apply o_mulS; decreasing_trivial) | (apply o_fdiv; decreasing_trivial) | (apply o_mod; decreasing_trivial) | (apply o_pow; decreasing_trivial)
    | (apply o_addNN; decreasing_trivial) | (apply o_addRN; get_elem_tactic_trivial; decreasing_trivial) | (apply o_addNR; get_elem_tactic_trivial; decreasing_trivial) | (apply o_addRR; get_elem_tactic_trivial; get_elem_tactic_trivial; decreasing_trivial)
    | apply c_eqI | apply c_eqS | apply c_eqB | apply c_neI | apply c_neS | apply c_neB | apply c_ltI | apply c_ltS | apply c_gtI | apply c_leI | apply c_geI | apply c_inS | apply c_ninS
    | (apply p_str; decreasing_trivial; with_unfolding_all rfl) | (apply p_tup; with_unfolding_all rfl) | (apply p_lstN; with_unfolding_all rfl) | (apply p_lst; get_elem_tactic_trivial; with_unfolding_all rfl) | (apply p_dK; get_elem_tactic_trivial; with_unfolding_all rfl)
    | (apply l_strS; decreasing_trivial) | (apply l_str; decreasing_trivial) | apply l_tup | apply l_fz | apply l_lstN | (apply l_lst; get_elem_tactic_trivial) | apply v_tup | apply v_lstN | (apply v_lst; get_elem_tactic_trivial)
    | (apply b_lenS; decreasing_trivial) | apply b_lenT | apply b_lenN | (apply b_lenL; get_elem_tactic_trivial) | apply b_abs | apply b_intI | apply b_intB | apply b_tuplN | apply b_tuplT | (apply b_tuplL; get_elem_tactic_trivial) | apply b_listN | apply b_listT | (apply b_listL; get_elem_tactic_trivial)
    | apply z_nil | apply z_exp | apply z_set | apply z_ret | apply z_ife | apply z_for | apply z_brk | apply z_cnt | apply z_sub
    | apply bn_name | (apply q_str; decreasing_trivial) | apply q_tup | apply q_fz | apply q_n | (apply q_ref; get_elem_tactic_trivial) | apply w_seq | apply w_rng1 | apply w_rng2)
local macro_rules
  | `(tactic| contradiction) => `(tactic| with_reducible first
    | (apply p_cells; get_elem_tactic_trivial) | (apply p_at; get_elem_tactic_trivial) | (apply p_left; get_elem_tactic_trivial)
    | (apply y_at; get_elem_tactic_trivial) | (apply y_left; get_elem_tactic_trivial))
local macro_rules
  | `(tactic| contradiction) => `(tactic| with_reducible first
    | apply r_lc2 | apply w_enum | apply e_n | apply c_isnotB | apply b_min | apply bn_tup2)
local macro_rules
  | `(tactic| contradiction) => `(tactic| with_reducible first
    | apply t_emp | apply e_tT | apply e_nT | apply e_nN | (apply e_nL; get_elem_tactic_trivial) | apply r_get2 | apply w_rngD | apply bn_tup3 | apply r_mn2 | apply r_mnS | apply r_sdf)
/-! ### the names of triples -/
def dedS : List Str → List Str
  | [] => []
  | x :: xs => if x ∈ xs then dedS xs else x :: dedS xs
theorem dedS_mem {x : Str} : ∀ {xs : List Str}, x ∈ dedS xs ↔ x ∈ xs
  | [] => Iff.rfl
  | y :: xs => by
    rw [dedS]
    by_cases h : y ∈ xs
    · rw [if_pos h, dedS_mem, List.mem_cons]
      exact ⟨.inr, fun z => z.elim (fun e => e ▸ h) id⟩
    · rw [if_neg h, List.mem_cons, List.mem_cons, dedS_mem]
theorem dedS_nd : ∀ xs : List Str, (dedS xs).Nodup
  | [] => List.Pairwise.nil
  | y :: xs => by
    rw [dedS]
    by_cases h : y ∈ xs
    · rw [if_pos h]; exact dedS_nd xs
    · rw [if_neg h]; exact List.nodup_cons.mpr ⟨fun z => h (dedS_mem.mp z), dedS_nd xs⟩
def nm3 (t : Tri) : List Str := [t.1, t.2.1, t.2.2]
def nmT (T : List Tri) : List Str := T.flatMap nm3
def ev (T : List Tri) (ms : List Str) : List Str := sortS (dedS (nmT T ++ ms))
theorem ev_rise (T : List Tri) (ms : List Str) : Rise (ev T ms) := Rise.sort (dedS_nd _)
theorem ev_mem {T : List Tri} {ms : List Str} {x : Str} : x ∈ ev T ms ↔ x ∈ nmT T ∨ x ∈ ms := by
  unfold ev
  rw [sortS_mem, dedS_mem, List.mem_append]
theorem ev_of {T : List Tri} {ms xs ys : List Str} (h : ∀ x, x ∈ xs ↔ x ∈ nmT T ∨ x ∈ ms) (hn : ys.Nodup) (hm : ∀ x, x ∈ ys ↔ x ∈ xs) : sortS ys = ev T ms :=
  Rise.of_sort hn (ev_rise T ms) fun x => (hm x).trans ((h x).trans ev_mem.symm)
theorem nmT_mem {T : List Tri} {x : Str} : x ∈ nmT T ↔ ∃ t ∈ T, x ∈ nm3 t := List.mem_flatMap
theorem nmT_len (T : List Tri) : (nmT T).length = 3 * T.length := by
  induction T with
  | nil => rfl
  | cons t T ih => show (nm3 t ++ nmT T).length = _; rw [List.length_append, ih, List.length_cons]; show 3 + _ = _; omega
theorem ev_ne {T : List Tri} {ms : List Str} (h : T ≠ []) : ev T ms ≠ [] := by
  match T, h with
  | t :: T, _ => exact List.ne_nil_of_mem (ev_mem.mpr (.inl (nmT_mem.mpr ⟨t, List.mem_cons_self, List.mem_cons_self⟩)))
theorem triD_nm (t : Tri) : triD t = .tup ((nm3 t).map .str) := rfl
/-! ### whether triples agree -/
def agB (T : List Tri) : Bool := (bu T 13 (ev T [])).1
def wordD (b : Bool) : D := .str (if b = true then "tree" else "lot")
theorem bus_true {f : List Str → Bool × D} : ∀ {gs : List (List Str)} {acc : List D}, (∀ g ∈ gs, (f g).1 = true) → bus f gs acc = (true, .tup (acc ++ gs.map fun g => (f g).2))
  | [], acc, _ => by rw [bus]; simp
  | g :: gs, acc, h => by
    rw [bus, if_neg (by rw [h g List.mem_cons_self]; decide), bus_true fun x hx => h x (List.mem_cons_of_mem _ hx)]
    simp
theorem bus_false {f : List Str → Bool × D} {g : List Str} {post : List (List Str)} (hg : (f g).1 = false) : ∀ {pre : List (List Str)} {acc : List D}, (∀ g ∈ pre, (f g).1 = true) → bus f (pre ++ g :: post) acc = (false, (f g).2)
  | [], acc, _ => by rw [List.nil_append, bus, if_pos hg]
  | x :: pre, acc, h => by
    rw [List.cons_append, bus, if_neg (by rw [h x List.mem_cons_self]; decide), bus_false hg fun y hy => h y (List.mem_cons_of_mem _ hy)]
section
variable {B : List Fn} {f fg fa fb k : Nat} {S : Sto} {Q : PR}
theorem all_names_ok {Ps : List Addr} (hT : B[f]? = some ⟨2, 4, bAllNames Ps⟩) {T : List Tri} {ms : List Str} {nd : D} (hn : (∃ P, P ∈ Ps ∧ nd = .ref P ∧ ms = []) ∨ nd = tupS ms) (hl : T.length ≤ 100) (hm : ms.length ≤ 100) (q : ∀ S', Sub S S' → Q (.v (tupS (ev T ms))) S') : W B (k + 1) f [tris T, nd] S Q := by
  refine enter (b := ⟨2, 4, bAllNames Ps⟩) (ρ := [some (tris T), some nd, none, none]) hT rfl rfl ?_
  show wSs (W B k) (bAllNames Ps) _ _ _
  delta bAllNames
  have e0 : (T.map triD).flatMap (fun d => match d with | .tup ds => ds | _ => []) = (nmT T).map .str := by
    rw [List.flatMap_map, nmT, List.map_flatMap]
    rfl
  refine z_ret ?_
  refine r_bi ?_
  refine r_rs1 ?_
  refine r_sset ?_
  refine r_bin ?_
  refine r_lc2 ?_
  repeat' contradiction
  refine acc_flat (fun d => match d with | .tup ds => ds | _ => []) 1000 trivial (by rw [e0, List.length_map, nmT_len, List.length_nil]; omega) (fun x hx acc K hz hK => ?_) ?_
  · obtain ⟨t, ht, rfl⟩ := List.mem_map.mp hx
    repeat' contradiction
    refine acc_id 1000 trivial hz (fun y hy acc K h hK => ?_) hK
    repeat' contradiction
    exact ⟨lineN _ (by omega), hK⟩
  rw [e0, List.nil_append]
  have fin : ∀ S', Sub S S' → ∀ xs : List Str, xs = nmT T ++ ms → (∃ xs : List Key, seqOf S' (.n (.lst ((nmT T).map D.str ++ ms.map D.str))) = some (xs.map keyD) ∧ xs.length < 1000 ∧ PySem.W.AllAlike (xs.map keyP) ∧ ∀ ys : List Key, ys.Nodup → (∀ k, k ∈ ys ↔ k ∈ xs) → wRs (W B k) [] [some (tris T), some nd, none, none] S' fun rs S2 => biW .tupl (.n (.lst (sortD (ys.map keyD))) :: rs) S2 Q) := fun S' hs xs e => by
    refine x_ssetS (Q := fun r S2 => wRs (W B k) [] [some (tris T), some nd, none, none] S2 fun rs S3 => biW .tupl (r :: rs) S3 Q) (r := .n (.lst ((nmT T).map D.str ++ ms.map D.str))) (xs := nmT T ++ ms) (by rw [List.map_append]; rfl) (by rw [List.length_append, nmT_len]; omega) fun ys hnd hm => ?_
    refine r_rs0 (b_tuplN ?_)
    rw [ev_of (T := T) (ms := ms) (fun x => List.mem_append) hnd hm]
    exact q S' hs
  refine r_lstK ?_
  refine r_var rfl ?_
  rcases hn with ⟨P, hP, rfl, rfl⟩ | rfl
  · refine .inl ⟨P, hP, rfl, ?_⟩
    refine o_addNN (by rw [List.length_map, nmT_len, List.length_nil]; exact Nat.le_of_lt (lineN _ (by omega))) ?_
    exact fin _ Sub.rfl _ rfl
  · refine .inr (b_listT ?_)
    refine o_addNN (by rw [List.length_map, nmT_len, List.length_map]; exact Nat.le_of_lt (lineN _ (by omega))) ?_
    exact fin _ Sub.rfl _ rfl
theorem built_ok (hT : B[f]? = some ⟨2, 7, bBuilt fg f⟩) (hG : B[fg]? = some ⟨2, 11, bGroups⟩) {T : List Tri} (j : Nat) : ∀ (n : Nat) {L : List Str} {S : Sto} {Q : PR}, Rise L → L ≠ [] → L.length ≤ n → n ≤ 60 →
    (∀ S', Sub S S' → Q (.v (.tup [wordD (bu T n L).1, (bu T n L).2])) S') → W B (j + n + 2) f [tupS L, tris T] S Q
  | 0, L, S, Q, _, hne, hl, _, _ => absurd (List.eq_nil_of_length_eq_zero (by omega)) hne
  | n + 1, L, S, Q, hr, hne, hl, h60, q => by
    show W B (j + (n + 1) + 2) f [.tup (L.map D.str), tris T] S Q
    refine enter (b := ⟨2, 7, bBuilt fg f⟩) (ρ := [some (.tup (L.map D.str)), some (tris T), none, none, none, none, none]) hT rfl rfl ?_
    show wSs (W B (j + n + 2)) (bBuilt fg f) _ _ _
    delta bBuilt
    rw [bu] at q
    repeat' contradiction
    by_cases h1 : L.length = 1
    · rw [if_pos h1] at q
      obtain ⟨x, rfl⟩ : ∃ x, L = [x] := by
        match L, h1 with
        | [x], _ => exact ⟨x, rfl⟩
      refine i_T ?_
      refine z_ret ?_
      repeat' contradiction
      exact q S Sub.rfl
    rw [if_neg h1] at q
    rw [List.length_map, decide_eq_false (by omega)]
    refine i_F ?_
    repeat' contradiction
    refine groups_ok hG hr (by omega) fun S1 s1 => ?_
    refine r_mn fun a ha => ?_
    have s2 : Sub S (up S1 a (.lst ((grps L T).map tupS))) := s1.then (s1.none ha)
    repeat' contradiction
    by_cases hg : (grps L T).length = 1
    · rw [if_pos hg] at q
      rw [List.length_map, decide_eq_true (by omega)]
      refine i_T ?_
      repeat' contradiction
      exact q _ s2
    rw [if_neg hg] at q
    rw [List.length_map, decide_eq_false (by omega)]
    refine i_F ?_
    have ea : up S1 a (.lst ((grps L T).map tupS)) a = some (.lst ((grps L T).map tupS)) := up_same
    generalize up S1 a (.lst ((grps L T).map tupS)) = S2 at s2 ea
    refine z_set ?_
    repeat' contradiction
    refine r_mn fun b hb => ?_
    have hab : a ≠ b := fun z => by rw [← z, ea] at hb; cases hb
    have ok : ∀ g ∈ grps L T, Rise g ∧ g ≠ [] ∧ g.length ≤ n := fun g hgm => by
      obtain ⟨u, hu, rfl⟩ := List.mem_map.mp hgm
      have huL := heads_sub hu
      have : (cls L T u).length < L.length := Nat.lt_of_le_of_ne cls_len fun z => hg ((grps_one hr huL).mpr z)
      exact ⟨cls_rise hr, List.ne_nil_of_mem (cls_self huL), by omega⟩
    have hSb : S b = none := s2.none hb
    have hgl : (grps L T).length ≤ 60 := by
      unfold grps heads
      rw [List.length_map]
      exact Nat.le_trans (List.length_filter_le _ _) (by omega)
    refine z_for ?_
    refine w_seq ?_
    refine r_var rfl ?_
    refine q_ref ((up_ne hab).trans ea) ?_
    refine for_ok (fun i ρ U => ∃ (o4 o5 o6 : Option D), ρ = [some (.tup (L.map D.str)), some (tris T), some (.ref a), some (.ref b), o4, o5, o6] ∧ U a = some (.lst ((grps L T).map tupS)) ∧ U b = some (.lst (((grps L T).take i).map fun g => (bu T n g).2)) ∧ Sub S U ∧ ∀ g ∈ (grps L T).take i, (bu T n g).1 = true) (fun i x ρ U Kn hx h hKn => ?_) (fun ρ U h => ?_)
      ⟨_, _, _, rfl, (up_ne hab).trans ea, by rw [up_same]; rfl, s2.then hSb, fun g hg => by simp at hg⟩
    · obtain ⟨o4, o5, o6, rfl, eUa, eUb, sU, all⟩ := h
      refine ⟨eUa, bn_name ?_⟩
      rw [List.getElem?_map, Option.map_eq_some_iff] at hx
      obtain ⟨g, hgi, rfl⟩ := hx
      have hgm := List.mem_of_getElem? hgi
      obtain ⟨g1, g2, g3⟩ := ok g hgm
      have htk := take_succ hgi
      refine z_tup ?_
      repeat' contradiction
      refine built_ok hT hG j n g1 g2 g3 (by omega) fun V sV => ?_
      refine r_mv ?_
      refine ⟨rfl, ?_⟩
      show wSs _ _ [some (.tup (L.map D.str)), some (tris T), some (.ref a), some (.ref b), some (tupS g), some (wordD (bu T n g).1), some (bu T n g).2] _ _
      cases hb1 : (bu T n g).1 with
      | false =>
        have e : wordD false = .str "lot" := rfl
        rw [e]
        refine z_ife ?_
        repeat' contradiction
        rw [decide_eq_true rfl]
        refine i_T ?_
        repeat' contradiction
        have eb : bus (bu T n) (grps L T) [] = (false, (bu T n g).2) := by
          have : grps L T = (grps L T).take i ++ g :: (grps L T).drop (i + 1) := by
            obtain ⟨hi, e⟩ := List.getElem?_eq_some_iff.mp hgi
            rw [← e, ← List.drop_eq_getElem_cons hi, List.take_append_drop]
          rw [this]
          exact bus_false hb1 all
        rw [eb] at q
        exact q V (sU.trans sV)
      | true =>
        have e : wordD true = .str "tree" := rfl
        rw [e]
        refine z_ife ?_
        repeat' contradiction
        rw [decide_eq_false (by decide)]
        refine i_F ?_
        refine z_nil ?_
        have eVb := sV _ _ eUb
        repeat' contradiction
        have eVb := sV _ _ eUb
        refine m_append eVb (by rw [List.length_map]; exact line60 (Nat.le_trans (by rw [List.length_take]; exact Nat.min_le_right _ _) hgl)) ?_
        refine z_nil (hKn _ _ ⟨_, _, _, rfl, (up_ne hab).trans (sV _ _ eUa), ?_, (sU.trans sV).then hSb, fun y hy => ?_⟩)
        · rw [up_same, htk, List.map_append]; rfl
        · rw [htk] at hy
          rcases List.mem_append.mp hy with hy | hy
          · exact all y hy
          · rw [List.mem_singleton.mp hy]; exact hb1
    · obtain ⟨o4, o5, o6, rfl, eUa, eUb, sU, all⟩ := h
      rw [List.length_map, List.take_length] at eUb all
      refine ⟨eUa, ?_⟩
      repeat' contradiction
      rw [bus_true all] at q
      exact q U sU
theorem agreed_ok {Ps : List Addr} (hT : B[f]? = some ⟨2, 2, bAgreed fa fb⟩) (hA : B[fa]? = some ⟨2, 4, bAllNames Ps⟩) (hB : B[fb]? = some ⟨2, 7, bBuilt fg fb⟩) (hG : B[fg]? = some ⟨2, 11, bGroups⟩) (j : Nat) {T : List Tri} {ms : List Str} {nd : D}
    (hn : (∃ P, P ∈ Ps ∧ nd = .ref P ∧ ms = []) ∨ nd = tupS ms) (hl : T.length ≤ 100) (hm : ms.length ≤ 100) (hne : ev T ms ≠ []) (h13 : (ev T ms).length ≤ 13)
    (q : ∀ S', Sub S S' → Q (.v (.tup [wordD (bu T 13 (ev T ms)).1, (bu T 13 (ev T ms)).2])) S') : W B (j + 16) f [tris T, nd] S Q := by
  refine enter (b := ⟨2, 2, bAgreed fa fb⟩) (ρ := [some (tris T), some nd]) (n := j + 15) hT rfl rfl ?_
  show wSs (W B (j + 15)) (bAgreed fa fb) _ _ _
  delta bAgreed
  repeat' contradiction
  refine all_names_ok (k := j + 14) hA hn hl hm fun S1 s1 => ?_
  repeat' contradiction
  exact built_ok hB hG j 13 (ev_rise T ms) hne h13 (by omega) fun S2 s2 => q S2 (s1.trans s2)
end
end DP
set_option maxRecDepth 100000
set_option maxHeartbeats 1000000
namespace DP
open PySem L2
local macro_rules
  | `(tactic| get_elem_tactic_trivial) => `(tactic| first
    | with_reducible assumption
    | exact up_same
    | (refine up_keep (by with_reducible assumption) ?_; get_elem_tactic_trivial))
local macro_rules
  | `(tactic| decreasing_trivial) => `(tactic| first
    | with_reducible assumption
    | (with_unfolding_all exact Nat.le_of_ble_eq_true rfl)
    | omega
    | exact shrt_of (by with_unfolding_all rfl)
    | exact sh_cut (by with_reducible assumption) _ _
    | exact cmul_l (by omega) (by omega)
    | exact cmul_r (by omega) (by omega)
    | exact pow_lit (by decide) (by decide) (by decide))
local macro_rules
  | `(tactic| contradiction) => `(tactic| with_reducible first
    | assumption | (apply r_var; with_unfolding_all rfl)
    | apply r_cst | apply r_glo | apply r_tup | apply r_lst | apply r_dK | apply r_bin | apply r_neg | apply r_cmp | apply r_chn
    | apply r_not | apply r_and | apply r_or | apply r_ite | apply r_ix | apply r_sl | apply r_rev | apply r_isi | apply r_bi | apply r_me | apply r_call | apply r_lc
    | apply r_es0 | apply r_es1 | apply r_rs0 | apply r_rs1 | apply r_o0 | apply r_o1 | apply r_part | apply r_ot0 | apply r_ot1 | apply r_mv
    | apply t_not | apply t_and | apply t_or | apply t_cmp | apply t_chn | (apply t_var; with_unfolding_all rfl) | apply t_isi | apply t_bi | apply t_me | apply t_call | apply t_ix
    | (apply x_len; with_unfolding_all exact Nat.le_of_ble_eq_true rfl) | (apply x_ty; with_unfolding_all exact ⟨_, rfl⟩) | (apply x_tyL; get_elem_tactic_trivial; rfl)
    | apply x_bl | apply x_int | (apply x_tru; with_unfolding_all rfl) | (apply x_isi; with_unfolding_all rfl)
    | apply i_T | apply i_F | apply i_nT | apply i_nF
    | apply o_addI | (apply o_addS; decreasing_trivial) | (apply o_addSS; decreasing_trivial; decreasing_trivial) | (apply o_addT; decreasing_trivial) | (apply o_addTT; decreasing_trivial; decreasing_trivial) | apply o_sub
    | (apply o_mulI; decreasing_trivial) | (apply o_mulS; decreasing_trivial) | (apply o_fdiv; decreasing_trivial) | (apply o_mod; decreasing_trivial) | (apply o_pow; decreasing_trivial)
    | (apply o_addNN; decreasing_trivial) | (apply o_addRN; get_elem_tactic_trivial; decreasing_trivial) | (apply o_addNR; get_elem_tactic_trivial; decreasing_trivial) | (apply o_addRR; get_elem_tactic_trivial; get_elem_tactic_trivial; decreasing_trivial)
    | apply c_eqI | apply c_eqS | apply c_eqB | apply c_neI | apply c_neS | apply c_neB | apply c_ltI | apply c_ltS | apply c_gtI | apply c_leI | apply c_geI | apply c_inS | apply c_ninS
    | (apply p_str; decreasing_trivial; with_unfolding_all rfl) | (apply p_tup; with_unfolding_all rfl) | (apply p_lstN; with_unfolding_all rfl) | (apply p_lst; get_elem_tactic_trivial; with_unfolding_all rfl) | (apply p_dK; get_elem_tactic_trivial; with_unfolding_all rfl)
    | (apply l_strS; decreasing_trivial) | (apply l_str; decreasing_trivial) | apply l_tup | apply l_fz | apply l_lstN | (apply l_lst; get_elem_tactic_trivial) | apply v_tup | apply v_lstN | (apply v_lst; get_elem_tactic_trivial)
    | (apply b_lenS; decreasing_trivial) | apply b_lenT | apply b_lenN | (apply b_lenL; get_elem_tactic_trivial) | apply b_abs | apply b_intI | apply b_intB | apply b_tuplN | apply b_tuplT | (apply b_tuplL; get_elem_tactic_trivial) | apply b_listN | apply b_listT | (apply b_listL; get_elem_tactic_trivial)
    | apply z_nil | apply z_exp | apply z_set | apply z_ret | apply z_ife | apply z_for | apply z_brk | apply z_cnt | apply z_sub
    | apply bn_name | (apply q_str; decreasing_trivial) | apply q_tup | apply q_fz | apply q_n | (apply q_ref; get_elem_tactic_trivial) | apply w_seq | apply w_rng1 | apply w_rng2)
local macro_rules
  | `(tactic| contradiction) => `(tactic| with_reducible first
    | (apply p_cells; get_elem_tactic_trivial) | (apply p_at; get_elem_tactic_trivial) | (apply p_left; get_elem_tactic_trivial)
    | (apply y_at; get_elem_tactic_trivial) | (apply y_left; get_elem_tactic_trivial))
local macro_rules
  | `(tactic| contradiction) => `(tactic| with_reducible first
    | apply r_lc2 | apply w_enum | apply e_n | apply c_isnotB | apply b_min | apply bn_tup2)
/-! ### as few left out as can be: the search -/
abbrev Sta : Type := Nat × List Tri × List Tri
inductive Run (T : List Tri) : List Tri → List Sta → List Tri → Prop
  | done (b : List Tri) : Run T b [] b
  | leaf {b r kept out : List Tri} {i : Nat} {st : List Sta} : out.length < b.length → i = T.length → Run T out st r → Run T b ((i, kept, out) :: st) r
  | skip {b r kept out : List Tri} {i : Nat} {st : List Sta} : ¬ out.length < b.length → Run T b st r → Run T b ((i, kept, out) :: st) r
  | no {b r kept out : List Tri} {i : Nat} {st : List Sta} {t : Tri} : out.length < b.length → i ≠ T.length → T[i]? = some t → agB (kept ++ [t]) = false → Run T b ((i + 1, kept, out ++ [t]) :: st) r → Run T b ((i, kept, out) :: st) r
  | yes {b r kept out : List Tri} {i : Nat} {st : List Sta} {t : Tri} : out.length < b.length → i ≠ T.length → T[i]? = some t → agB (kept ++ [t]) = true → Run T b ((i + 1, kept ++ [t], out) :: (i + 1, kept, out ++ [t]) :: st) r → Run T b ((i, kept, out) :: st) r
/-- the most that can be kept besides -/
def mkf : List Tri → List Tri → Nat
  | [], _ => 0
  | t :: r, kept => max (if agB (kept ++ [t]) = true then 1 + mkf r (kept ++ [t]) else 0) (mkf r kept)
theorem mkf_le : ∀ (r kept : List Tri), mkf r kept ≤ r.length
  | [], _ => Nat.le_refl _
  | t :: r, kept => by
    rw [mkf, List.length_cons]
    have h1 := mkf_le r kept
    have h2 := mkf_le r (kept ++ [t])
    by_cases h : agB (kept ++ [t]) = true
    · rw [if_pos h]; omega
    · rw [if_neg h]; omega
theorem drop_at {T : List Tri} {i : Nat} {t : Tri} (h : T[i]? = some t) : T.drop i = t :: T.drop (i + 1) := by
  obtain ⟨hi, rfl⟩ := List.getElem?_eq_some_iff.mp h
  exact List.drop_eq_getElem_cons hi
def vl (T : List Tri) (s : Sta) : Nat := s.2.2.length + ((T.length - s.1) - mkf (T.drop s.1) s.2.1)
theorem Run.upper {T b r : List Tri} {st : List Sta} (h : Run T b st r) : r.length ≤ b.length ∧ ∀ s ∈ st, r.length ≤ vl T s := by
  induction h with
  | done => exact ⟨Nat.le_refl _, fun s hs => by cases hs⟩
  | leaf a e _ ih =>
    refine ⟨by have := ih.1; omega, fun s hs => ?_⟩
    rcases List.mem_cons.mp hs with rfl | hs
    · have := ih.1; unfold vl; exact Nat.le_trans this (Nat.le_add_right _ _)
    · exact ih.2 s hs
  | skip a _ ih =>
    refine ⟨ih.1, fun s hs => ?_⟩
    rcases List.mem_cons.mp hs with rfl | hs
    · have := ih.1; unfold vl; exact Nat.le_trans (Nat.le_trans this (Nat.le_of_not_lt a)) (Nat.le_add_right _ _)
    · exact ih.2 s hs
  | @no b r kept out i st t a e ht hg _ ih =>
    refine ⟨ih.1, fun s hs => ?_⟩
    rcases List.mem_cons.mp hs with rfl | hs
    · have h1 := ih.2 _ List.mem_cons_self
      obtain ⟨hi, _⟩ := List.getElem?_eq_some_iff.mp ht
      unfold vl at h1 ⊢
      simp only [List.length_append, List.length_singleton] at h1
      simp only [drop_at ht, mkf, hg, if_neg Bool.false_ne_true]
      have := mkf_le (T.drop (i + 1)) kept
      rw [List.length_drop] at this
      omega
    · exact ih.2 s (List.mem_cons_of_mem _ hs)
  | @yes b r kept out i st t a e ht hg _ ih =>
    refine ⟨ih.1, fun s hs => ?_⟩
    rcases List.mem_cons.mp hs with rfl | hs
    · have h1 := ih.2 _ List.mem_cons_self
      have h2 := ih.2 _ (List.mem_cons_of_mem _ List.mem_cons_self)
      obtain ⟨hi, _⟩ := List.getElem?_eq_some_iff.mp ht
      unfold vl at h1 h2 ⊢
      simp only [List.length_append, List.length_singleton] at h1 h2
      simp only [drop_at ht, mkf, hg, if_true]
      have := mkf_le (T.drop (i + 1)) kept
      have := mkf_le (T.drop (i + 1)) (kept ++ [t])
      rw [List.length_drop] at *
      omega
    · exact ih.2 s (List.mem_cons_of_mem _ (List.mem_cons_of_mem _ hs))
/-- what is kept and what is left out, of the first i -/
structure Part (T : List Tri) (i : Nat) (kept out : List Tri) : Prop where
  le : i ≤ T.length
  sp : ∃ p : Tri → Bool, kept = (T.take i).filter p ∧ out = (T.take i).filter fun t => !p t
  ag : kept = [] ∨ agB kept = true
  op : kept.length + mkf (T.drop i) kept ≤ mkf T []
theorem Part.len {T : List Tri} {i : Nat} {kept out : List Tri} (h : Part T i kept out) : kept.length + out.length = i := by
  obtain ⟨p, rfl, rfl⟩ := h.sp
  have := h.le
  have e : ∀ l : List Tri, (l.filter p).length + (l.filter fun t => !p t).length = l.length := by
    intro l
    induction l with
    | nil => rfl
    | cons x l ih => rw [List.filter_cons, List.filter_cons]; cases p x <;> simp <;> omega
  rw [e, List.length_take]
  omega
theorem Part.start (T : List Tri) : Part T 0 [] [] := ⟨Nat.zero_le _, ⟨fun _ => true, by simp, by simp⟩, .inl rfl, by simp⟩
theorem filter_ext {T : List Tri} {p q : Tri → Bool} (h : ∀ t ∈ T, p t = q t) : T.filter p = T.filter q := List.filter_congr h
theorem Part.next {T : List Tri} (hn : T.Nodup) {i : Nat} {kept out : List Tri} {t : Tri} (h : Part T i kept out) (ht : T[i]? = some t) :
    Part T (i + 1) kept (out ++ [t]) ∧ (agB (kept ++ [t]) = true → Part T (i + 1) (kept ++ [t]) out) := by
  obtain ⟨hi, et⟩ := List.getElem?_eq_some_iff.mp ht
  obtain ⟨p, e1, e2⟩ := h.sp
  have htk := take_succ ht
  have hnt : ∀ u ∈ T.take i, u ≠ t := fun u hu z => by
    obtain ⟨j, hj, e⟩ := List.mem_take_iff_getElem.mp hu
    have := nd_at hn (e.trans (z.trans et.symm))
    omega
  have hop := h.op
  rw [drop_at ht, mkf] at hop
  refine ⟨⟨hi, ⟨fun u => if u = t then false else p u, ?_, ?_⟩, h.ag, by omega⟩, fun hg => ⟨hi, ⟨fun u => if u = t then true else p u, ?_, ?_⟩, .inr hg, ?_⟩⟩
  · rw [htk, List.filter_append, filter_ext (p := fun u => if u = t then false else p u) (q := p) fun u hu => if_neg (hnt u hu), ← e1]
    simp
  · rw [htk, List.filter_append, filter_ext (p := fun u => !(if u = t then false else p u)) (q := fun u => !p u) fun u hu => by rw [if_neg (hnt u hu)], ← e2]
    simp
  · rw [htk, List.filter_append, filter_ext (p := fun u => if u = t then true else p u) (q := p) fun u hu => if_neg (hnt u hu), ← e1]
    simp
  · rw [htk, List.filter_append, filter_ext (p := fun u => !(if u = t then true else p u)) (q := fun u => !p u) fun u hu => by rw [if_neg (hnt u hu)], ← e2]
    simp
  · rw [if_pos hg] at hop
    rw [List.length_append, List.length_singleton]
    omega
/-- what the search tells -/
structure Left (T out : List Tri) : Prop where
  sp : ∃ p : Tri → Bool, out = (T.filter fun t => !p t) ∧ (T.filter p = [] ∨ agB (T.filter p) = true)
  len : T.length - mkf T [] ≤ out.length
theorem Left.all (T : List Tri) : Left T T := ⟨⟨fun _ => false, (List.filter_eq_self.mpr fun _ _ => rfl).symm, .inl (by simp)⟩, Nat.sub_le _ _⟩
theorem Part.whole {T kept out : List Tri} (h : Part T T.length kept out) : Left T out := by
  have hl := h.len
  have ho := h.op
  obtain ⟨p, e1, e2⟩ := h.sp
  rw [List.take_length] at e1 e2
  refine ⟨⟨p, e2, e1 ▸ h.ag⟩, by omega⟩
theorem Run.lower {T b r : List Tri} {st : List Sta} (hn : T.Nodup) (h : Run T b st r) : Left T b → (∀ s ∈ st, Part T s.1 s.2.1 s.2.2) → Left T r := by
  induction h with
  | done => exact fun h _ => h
  | leaf a e _ ih =>
    intro _ hs
    have := hs _ List.mem_cons_self
    subst e
    exact ih this.whole fun s h => hs s (List.mem_cons_of_mem _ h)
  | skip a _ ih => exact fun hb hs => ih hb fun s h => hs s (List.mem_cons_of_mem _ h)
  | no a e ht hg _ ih =>
    intro hb hs
    have hp := (hs _ List.mem_cons_self).next hn ht
    refine ih hb fun s h => ?_
    rcases List.mem_cons.mp h with rfl | h
    · exact hp.1
    · exact hs s (List.mem_cons_of_mem _ h)
  | yes a e ht hg _ ih =>
    intro hb hs
    have hp := (hs _ List.mem_cons_self).next hn ht
    refine ih hb fun s h => ?_
    rcases List.mem_cons.mp h with rfl | h
    · exact hp.2 hg
    rcases List.mem_cons.mp h with rfl | h
    · exact hp.1
    · exact hs s (List.mem_cons_of_mem _ h)
def LeftOut (T r : List Tri) : Prop := Run T T [(0, [], [])] r
theorem LeftOut.ok {T r : List Tri} (hn : T.Nodup) (h : LeftOut T r) : Left T r ∧ r.length = T.length - mkf T [] := by
  have h1 := Run.lower hn h (Left.all T) fun s hs => by
    rw [List.mem_singleton.mp hs]
    exact Part.start T
  have h2 := (Run.upper h).2 _ List.mem_cons_self
  unfold vl at h2
  have := h1.len
  simp at h2
  exact ⟨h1, by omega⟩
end DP
set_option maxRecDepth 100000
set_option maxHeartbeats 1000000
namespace DP
open PySem L2
local macro_rules
  | `(tactic| get_elem_tactic_trivial) => `(tactic| first
    | with_reducible assumption
    | exact up_same
    | (refine up_keep (by with_reducible assumption) ?_; get_elem_tactic_trivial))
local macro_rules
  | `(tactic| decreasing_trivial) => `(tactic| first
    | with_reducible assumption
    | (with_unfolding_all exact Nat.le_of_ble_eq_true rfl)
    | omega
    | exact shrt_of (by with_unfolding_all rfl)
    | exact sh_cut (by with_reducible assumption) _ _
    | exact cmul_l (by omega) (by omega)
    | exact cmul_r (by omega) (by omega)
    | exact pow_lit (by decide) (by decide) (by decide))
local macro_rules
  | `(tactic| contradiction) => `(tactic| with_reducible first
    | assumption | (apply r_var; with_unfolding_all rfl)
    | apply r_cst | apply r_glo | apply r_tup | apply r_lst | apply r_dK | apply r_bin | apply r_neg | apply r_cmp | apply r_chn
    | apply r_not | apply r_and | apply r_or | apply r_ite | apply r_ix | apply r_sl | apply r_rev | apply r_isi | apply r_bi | apply r_me | apply r_call | apply r_lc
    | apply r_es0 | apply r_es1 | apply r_rs0 | apply r_rs1 | apply r_o0 | apply r_o1 | apply r_part | apply r_ot0 | apply r_ot1 | apply r_mv
    | apply t_not | apply t_and | apply t_or | apply t_cmp | apply t_chn | (apply t_var; with_unfolding_all rfl) | apply t_isi | apply t_bi | apply t_me | apply t_call | apply t_ix
    | (apply x_len; with_unfolding_all exact Nat.le_of_ble_eq_true rfl) | (apply x_ty; with_unfolding_all exact ⟨_, rfl⟩) | (apply x_tyL; get_elem_tactic_trivial; rfl)
    | apply x_bl | apply x_int | (apply x_tru; with_unfolding_all rfl) | (apply x_isi; with_unfolding_all rfl)
    | apply i_T | apply i_F | apply i_nT | apply i_nF
    | apply o_addI | (apply o_addS; decreasing_trivial) | (apply o_addSS; decreasing_trivial; decreasing_trivial) | (apply o_addT; decreasing_trivial) | (apply o_addTT; decreasing_trivial; decreasing_trivial) | apply o_sub
    | (apply o_mulI; decreasing_trivial) | (apply o_mulS; decreasing_trivial) | (apply o_fdiv; decreasing_trivial) | (apply o_mod; decreasing_trivial) | (apply o_pow; decreasing_trivial)
    | (apply o_addNN; decreasing_trivial) | (apply o_addRN; get_elem_tactic_trivial; decreasing_trivial) | (apply o_addNR; get_elem_tactic_trivial; decreasing_trivial) | (apply o_addRR; get_elem_tactic_trivial; get_elem_tactic_trivial; decreasing_trivial)
    | apply c_eqI | apply c_eqS | apply c_eqB | apply c_neI | apply c_neS | apply c_neB | apply c_ltI | apply c_ltS | apply c_gtI | apply c_leI | apply c_geI | apply c_inS | apply c_ninS
    | (apply p_str; decreasing_trivial; with_unfolding_all rfl) | (apply p_tup; with_unfolding_all rfl) | (apply p_lstN; with_unfolding_all rfl) | (apply p_lst; get_elem_tactic_trivial; with_unfolding_all rfl) | (apply p_dK; get_elem_tactic_trivial; with_unfolding_all rfl)
    | (apply l_strS; decreasing_trivial) | (apply l_str; decreasing_trivial) | apply l_tup | apply l_fz | apply l_lstN | (apply l_lst; get_elem_tactic_trivial) | apply v_tup | apply v_lstN | (apply v_lst; get_elem_tactic_trivial)
    | (apply b_lenS; decreasing_trivial) | apply b_lenT | apply b_lenN | (apply b_lenL; get_elem_tactic_trivial) | apply b_abs | apply b_intI | apply b_intB | apply b_tuplN | apply b_tuplT | (apply b_tuplL; get_elem_tactic_trivial) | apply b_listN | apply b_listT | (apply b_listL; get_elem_tactic_trivial)
    | apply z_nil | apply z_exp | apply z_set | apply z_ret | apply z_ife | apply z_for | apply z_brk | apply z_cnt | apply z_sub
    | apply bn_name | (apply q_str; decreasing_trivial) | apply q_tup | apply q_fz | apply q_n | (apply q_ref; get_elem_tactic_trivial) | apply w_seq | apply w_rng1 | apply w_rng2)
local macro_rules
  | `(tactic| contradiction) => `(tactic| with_reducible first
    | (apply p_cells; get_elem_tactic_trivial) | (apply p_at; get_elem_tactic_trivial) | (apply p_left; get_elem_tactic_trivial)
    | (apply y_at; get_elem_tactic_trivial) | (apply y_left; get_elem_tactic_trivial))
local macro_rules
  | `(tactic| contradiction) => `(tactic| with_reducible first
    | apply r_lc2 | apply w_enum | apply e_n | apply c_isnotB | apply b_min | apply bn_tup2)
local macro_rules
  | `(tactic| contradiction) => `(tactic| with_reducible first
    | apply t_emp | apply e_tT | apply e_nT | apply e_nN | (apply e_nL; get_elem_tactic_trivial) | apply r_get2 | apply w_rngD | apply bn_tup3 | apply r_mn2 | apply r_mnS | apply r_sdf)
def bEvery : List C := [.asg (.name 2) (.bi .list [(.var 1)]), .for (.name 3) (.seq (.var 0)) [.exp (.me .extend (.var 2) [(.bi .list [(.var 3)])])], .ret (.bi .tupl [(.sset (.var 2))])]
theorem atI_nat {α : Type} {l : List α} {i : Nat} {x : α} (h : l[i]? = some x) : atI l (i : Nat) = some x := by
  obtain ⟨hi, e⟩ := List.getElem?_eq_some_iff.mp h
  unfold atI ixN
  rw [if_pos (by omega), if_pos (by omega)]
  simpa using h
theorem Part.sub {T : List Tri} {i : Nat} {kept out : List Tri} (h : Part T i kept out) : ∀ t ∈ kept, t ∈ T := by
  obtain ⟨p, e, _⟩ := h.sp
  intro t ht
  rw [e] at ht
  exact List.mem_of_mem_take (List.mem_filter.mp ht).1
section
variable {B : List Fn} {f fg fa fb fan k : Nat} {S : Sto} {Q : PR}
theorem every_ok (hT : B[f]? = some ⟨2, 4, bEvery⟩) {T : List Tri} {ms : List Str} (hl : T.length ≤ 100) (hm : ms.length ≤ 100) (q : ∀ S', Sub S S' → Q (.v (tupS (ev T ms))) S') : W B (k + 1) f [tris T, tupS ms] S Q := by
  show W B (k + 1) f [.tup (T.map triD), .tup (ms.map D.str)] S Q
  refine enter (b := ⟨2, 4, bEvery⟩) (ρ := [some (.tup (T.map triD)), some (.tup (ms.map D.str)), none, none]) hT rfl rfl ?_
  show wSs (W B k) bEvery _ _ _
  delta bEvery
  repeat' contradiction
  refine r_mn fun a ha => ?_
  repeat' contradiction
  refine for_ok (fun i ρ U => ∃ o3, ρ = [some (.tup (T.map triD)), some (.tup (ms.map D.str)), some (.ref a), o3] ∧ U a = some (.lst ((ms ++ nmT (T.take i)).map .str)) ∧ Sub S U) (fun i x ρ U Kn hx h hKn => ?_) (fun ρ U h => ?_)
    ⟨_, rfl, by rw [up_same]; simp [nmT], Sub.rfl.then ha⟩
  · obtain ⟨o3, rfl, eU, sU⟩ := h
    obtain ⟨t, ht, rfl⟩ := tris_at hx
    refine ⟨trivial, bn_name ?_⟩
    rw [triD_nm]
    repeat' contradiction
    refine r_mn fun c hc => ?_
    have hac : a ≠ c := fun z => by rw [← z, eU] at hc; cases hc
    repeat' contradiction
    have hlt := nmT_len (T.take i)
    have htl := List.length_take_le i T
    refine m_extend ((up_ne hac).trans eU) up_same (by rw [List.length_map, List.length_append, hlt]; show _ + 3 ≤ _; exact Nat.le_of_lt (lineN _ (by rw [List.length_take]; omega))) ?_
    refine z_nil (hKn _ _ ⟨_, rfl, ?_, (sU.then (sU.none hc)).then ha⟩)
    rw [up_same, take_succ ht]
    simp [nmT]
  · obtain ⟨o3, rfl, eU, sU⟩ := h
    rw [List.length_map, List.take_length] at eU
    refine ⟨trivial, ?_⟩
    refine z_ret ?_
    refine r_bi ?_
    refine r_rs1 ?_
    refine r_sset ?_
    refine r_var rfl ?_
    refine x_ssetS (Q := fun r S2 => wRs (W B k) [] [some (.tup (T.map triD)), some (.tup (ms.map D.str)), some (.ref a), o3] S2 fun rs S3 => biW .tupl (r :: rs) S3 Q) (r := .v (.ref a)) (xs := ms ++ nmT T) (seqOf_ref eU) (by rw [List.length_append, nmT_len]; omega) fun ys hnd hm => ?_
    refine r_rs0 (b_tuplN ?_)
    rw [ev_of (T := T) (ms := ms) (fun x => by rw [List.mem_append]; exact Or.comm) hnd hm]
    exact q U sU
end
set_option maxRecDepth 100000
set_option maxHeartbeats 1000000
def bGroupL : List C := [.asg (.name 3) (.lst [(.var 2)]), .for (.name 4) (.rng1 (.bi .len [(.var 0)])) [.for (.tup [5, 6, 7]) (.seq (.var 1)) [.ife (.and (.cmp .isin (.var 5) (.var 0)) (.and (.cmp .isin (.var 6) (.var 0)) (.and (.cmp .isin (.var 7) (.var 0)) (.cmp .ne (.cmp .isin (.var 5) (.var 3)) (.cmp .isin (.var 6) (.var 3)))))) [.asg (.name 3) (.bin .add (.var 3) (.lst [(.ix (.lst [(.var 5), (.var 6)]) (.bi .int [(.cmp .isin (.var 5) (.var 3))]))]))] []]], .ret (.bi .sorted [(.var 3)])]
def bAgreeL (fg fa : Nat) : List C := [.ife (.cmp .lt (.bi .len [(.var 0)]) (.cst (.int 3))) [.ret (.cst (.bl true))] [], .asg (.name 2) (.bi .list [(.var 0)]), .ife (.cmp .eq (.bi .len [(.call fg [(.var 0), (.var 1), (.ix (.var 2) (.cst (.int 0)))])]) (.bi .len [(.var 0)])) [.ret (.cst (.bl false))] [], .whl (.emp true false (.var 2)) [.asg (.name 3) (.call fg [(.var 0), (.var 1), (.ix (.var 2) (.cst (.int 0)))]), .ife (.not (.call fa [(.var 3), (.var 1)])) [.ret (.cst (.bl false))] [], .asg (.name 2) (.lc (.var 4) (.name 4) (.seq (.var 2)) (some (.cmp .notin (.var 4) (.var 3))) [4])], .ret (.cst (.bl true))]
/-- a lot as a tuple, or as a list -/
def LotD (S : Sto) (d : D) (L : List Str) : Prop := d = tupS L ∨ ∃ a, d = .ref a ∧ S a = some (.lst (L.map .str))
theorem LotD.sub {S S' : Sto} {d : D} {L : List Str} (h : LotD S d L) (s : Sub S S') : LotD S' d L := h.elim .inl fun ⟨a, e, h⟩ => .inr ⟨a, e, s _ _ h⟩
theorem in_dec (x : Str) (ys : List Str) : ((ys.map PyData.str).any fun q => PyData.eqv q (.str x)) = decide (x ∈ ys) := by
  rw [any_strs, Bool.eq_iff_iff, List.any_eq_true, decide_eq_true_eq]
  exact ⟨fun ⟨y, hy, z⟩ => by rw [← beq_iff_eq.mp z]; exact hy, fun hx => ⟨x, hx, by simp⟩⟩
section
variable {S : Sto} {Q : PR} {d : D} {L : List Str} {x : Str} {a : Addr}
theorem c_inRS (h : S a = some (.lst (L.map .str))) (hx : Shrt x) (hL : ∀ y ∈ L, Shrt y) (q : Q (.v (.bl (decide (x ∈ L)))) S) : cmpW .isin (.v (.str x)) (.v (.ref a)) S Q := by
  refine .inl ⟨.str x, L.map .str, .str x, .lst h (rdg_strs S L), str_shaped hx, strsL_shaped hL, ?_⟩
  rw [in_dec]; exact q
theorem c_ninRS (h : S a = some (.lst (L.map .str))) (hx : Shrt x) (hL : ∀ y ∈ L, Shrt y) (q : Q (.v (.bl (!decide (x ∈ L)))) S) : cmpW .notin (.v (.str x)) (.v (.ref a)) S Q := by
  refine .inl ⟨.str x, L.map .str, .str x, .lst h (rdg_strs S L), str_shaped hx, strsL_shaped hL, ?_⟩
  rw [in_dec]; exact q
theorem LotD.c_in (h : LotD S d L) (hx : Shrt x) (hL : ∀ y ∈ L, Shrt y) (q : Q (.v (.bl (decide (x ∈ L)))) S) : cmpW .isin (.v (.str x)) (.v d) S Q := by
  rcases h with rfl | ⟨a, rfl, h⟩
  · exact c_inST hx hL q
  · exact c_inRS h hx hL q
theorem LotD.len (h : LotD S d L) (q : Q (.v (.int (L.length : Nat))) S) : biW .len [.v d] S Q := by
  rcases h with rfl | ⟨a, rfl, h⟩
  · refine b_lenT ?_
    rw [List.length_map]; exact q
  · refine b_lenL h ?_
    rw [List.length_map]; exact q
theorem LotD.list (h : LotD S d L) (q : Q (.n (.lst (L.map .str))) S) : biW .list [.v d] S Q := by
  rcases h with rfl | ⟨a, rfl, h⟩
  · exact b_listT q
  · exact b_listL h q
end
theorem gN_succ (L : List Str) (T : List Tri) : ∀ (n : Nat) (f : List Str), gN L T (n + 1) f = ground L T (gN L T n f)
  | 0, _ => rfl
  | n + 1, f => by rw [gN, gN_succ L T n, gN]
theorem GP.few {L : List Str} {T : List Tri} {x : Str} {f : List Str} (h : GP L T x f) (hx : x ∈ L) : f.length ≤ L.length := List.Nodup.length_le_of_subset h.nd fun y hy => (h.co y hy).mem hx
section
variable {B : List Fn} {f fg fa fb fe k : Nat} {S : Sto} {Q : PR}
theorem group_ok (hT : B[f]? = some ⟨3, 8, bGroupL⟩) {L : List Str} {T : List Tri} {d : D} {x : Str} (hr : Rise L) (hx : x ∈ L) (hd : LotD S d L) (hL : L.length ≤ 60) (hs : ∀ y ∈ L, Shrt y) (hts : ∀ y ∈ nmT T, Shrt y)
    (q : ∀ S', Sub S S' → Q (.n (.lst ((cls L T x).map .str))) S') : W B (k + 1) f [d, tris T, .str x] S Q := by
  show W B (k + 1) f [d, .tup (T.map triD), .str x] S Q
  refine enter (b := ⟨3, 8, bGroupL⟩) (ρ := [some d, some (.tup (T.map triD)), some (.str x), none, none, none, none, none]) hT rfl rfl ?_
  show wSs (W B k) bGroupL _ _ _
  delta bGroupL
  have h0 : GP L T x [x] := ⟨by simp, List.mem_cons_self, fun y hy => by rw [List.mem_singleton.mp hy]; exact .rf x⟩
  have gs : ∀ i, GP L T x (gN L T i [x]) := fun i => (gN_ok i [x] h0).1
  have gsi : ∀ i c, GP L T x ((T.take c).foldl (gstep L) (gN L T i [x])) := fun i c => GP.fold (fun _ h => List.mem_of_mem_take h) (gs i)
  refine z_set ?_
  repeat' contradiction
  refine r_mn fun a ha => ?_
  have sU0 : Sub S (up S a (.lst [.str x])) := Sub.rfl.then ha
  have ea : up S a (.lst [.str x]) a = some (.lst ((gN L T 0 [x]).map .str)) := up_same
  generalize up S a (.lst [.str x]) = S1 at sU0 ea
  refine z_for ?_
  refine w_rng1 ?_
  repeat' contradiction
  refine (hd.sub sU0).len ?_
  refine ⟨_, rfl, ?_, ?_, ?_⟩
  · omega
  · omega
  refine for_ok (fun i ρ U => ∃ (r : Addr) (o4 o5 o6 o7 : Option D), ρ = [some d, some (.tup (T.map triD)), some (.str x), some (.ref r), o4, o5, o6, o7] ∧ U r = some (.lst ((gN L T i [x]).map .str)) ∧ Sub S U) (fun i z ρ U Kn hz h hKn => ?_) (fun ρ U h => ?_)
    ⟨a, _, _, _, _, rfl, ea, sU0⟩
  · obtain ⟨r, o4, o5, o6, o7, rfl, eU, sU⟩ := h
    refine ⟨trivial, bn_name ?_⟩
    refine z_for ?_
    refine w_seq ?_
    repeat' contradiction
    refine for_ok (fun c ρ V => ∃ (r : Addr) (o5 o6 o7 : Option D), ρ = [some d, some (.tup (T.map triD)), some (.str x), some (.ref r), some z, o5, o6, o7] ∧ V r = some (.lst (((T.take c).foldl (gstep L) (gN L T i [x])).map .str)) ∧ Sub S V) (fun c y ρ V Km hy h hKm => ?_) (fun ρ V h => ?_)
      ⟨r, _, _, _, rfl, eU, sU⟩
    · obtain ⟨r, o5, o6, o7, rfl, eV, sV⟩ := h
      obtain ⟨t, ht, rfl⟩ := tris_at hy
      have hst : (T.take (c + 1)).foldl (gstep L) (gN L T i [x]) = gstep L ((T.take c).foldl (gstep L) (gN L T i [x])) t := by rw [take_succ ht, List.foldl_append]; rfl
      have gp := gsi i c
      have hfl := gp.few hx
      have hfs : ∀ y ∈ (T.take c).foldl (gstep L) (gN L T i [x]), Shrt y := fun y hy => hs y ((gp.co y hy).mem hx)
      generalize (T.take c).foldl (gstep L) (gN L T i [x]) = fn at eV hst gp hfl hfs
      have htT := List.mem_of_getElem? ht
      have st1 : Shrt t.1 := hts _ (nmT_mem.mpr ⟨t, htT, by simp [nm3]⟩)
      have st2 : Shrt t.2.1 := hts _ (nmT_mem.mpr ⟨t, htT, by simp [nm3]⟩)
      have st3 : Shrt t.2.2 := hts _ (nmT_mem.mpr ⟨t, htT, by simp [nm3]⟩)
      have hdV := hd.sub sV
      refine ⟨trivial, bn_tup3 ?_⟩
      have skip : ¬ (TriIn L t ∧ (decide (t.1 ∈ fn) != decide (t.2.1 ∈ fn)) = true) → Km [some d, some (.tup (T.map triD)), some (.str x), some (.ref r), some z, some (.str t.1), some (.str t.2.1), some (.str t.2.2)] V := fun h =>
        hKm _ _ ⟨r, _, _, _, rfl, by rw [hst]; unfold gstep; rw [if_neg h]; exact eV, sV⟩
      repeat' contradiction
      refine hdV.c_in st1 hs (x_bl ?_)
      by_cases c1 : t.1 ∈ L
      rotate_left
      · rw [decide_eq_false c1]
        exact i_F (i_F (z_nil (skip fun z => c1 z.1.1)))
      rw [decide_eq_true c1]
      refine i_T ?_
      repeat' contradiction
      refine hdV.c_in st2 hs (x_bl ?_)
      by_cases c2 : t.2.1 ∈ L
      rotate_left
      · rw [decide_eq_false c2]
        exact i_F (i_F (z_nil (skip fun z => c2 z.1.2.1)))
      rw [decide_eq_true c2]
      refine i_T ?_
      repeat' contradiction
      refine hdV.c_in st3 hs (x_bl ?_)
      by_cases c3 : t.2.2 ∈ L
      rotate_left
      · rw [decide_eq_false c3]
        exact i_F (i_F (z_nil (skip fun z => c3 z.1.2.2)))
      rw [decide_eq_true c3]
      refine i_T ?_
      repeat' contradiction
      refine c_inRS eV st1 hfs ?_
      repeat' contradiction
      refine c_inRS eV st2 hfs ?_
      refine c_neB (x_bl ?_)
      by_cases c4 : (decide (t.1 ∈ fn) != decide (t.2.1 ∈ fn)) = true
      rotate_left
      · have e4 : (!decide (decide (t.1 ∈ fn) = decide (t.2.1 ∈ fn))) = false := by
          cases h1 : decide (t.1 ∈ fn) <;> cases h2 : decide (t.2.1 ∈ fn) <;> simp_all
        rw [e4]
        exact i_F (z_nil (skip fun z => c4 z.2))
      have e4 : (!decide (decide (t.1 ∈ fn) = decide (t.2.1 ∈ fn))) = true := by
        cases h1 : decide (t.1 ∈ fn) <;> cases h2 : decide (t.2.1 ∈ fn) <;> simp_all
      rw [e4]
      refine i_T ?_
      have hstep : (T.take (c + 1)).foldl (gstep L) (gN L T i [x]) = fn ++ [if t.1 ∈ fn then t.2.1 else t.1] := by
        rw [hst]; unfold gstep; rw [if_pos ⟨⟨c1, c2, c3⟩, c4⟩]
      refine z_set ?_
      repeat' contradiction
      refine c_inRS eV st1 hfs ?_
      have fin : wSs (W B k) [] [some d, some (.tup (T.map triD)), some (.str x), some (.ref r), some z, some (.str t.1), some (.str t.2.1), some (.str t.2.2)] V { nx := Km, rt := Q, bk := Km, ct := Km } → True := fun _ => trivial
      by_cases c5 : t.1 ∈ fn
      · rw [decide_eq_true c5]
        rw [if_pos c5] at hstep
        repeat' contradiction
        refine o_addRN eV (by rw [List.length_map]; exact Nat.le_of_lt (lineN _ (by simp; omega))) ?_
        refine r_mn fun r2 hr2 => ?_
        refine z_nil (hKm _ _ ⟨r2, _, _, _, rfl, ?_, sV.then (sV.none hr2)⟩)
        rw [up_same, hstep, List.map_append]; rfl
      · rw [decide_eq_false c5]
        rw [if_neg c5] at hstep
        repeat' contradiction
        refine o_addRN eV (by rw [List.length_map]; exact Nat.le_of_lt (lineN _ (by simp; omega))) ?_
        refine r_mn fun r2 hr2 => ?_
        refine z_nil (hKm _ _ ⟨r2, _, _, _, rfl, ?_, sV.then (sV.none hr2)⟩)
        rw [up_same, hstep, List.map_append]; rfl
    · obtain ⟨r, o5, o6, o7, rfl, eV, sV⟩ := h
      rw [List.length_map, List.take_length] at eV
      refine ⟨trivial, ?_⟩
      exact hKn _ _ ⟨r, _, _, _, _, rfl, by rw [gN_succ]; exact eV, sV⟩
  · obtain ⟨r, o4, o5, o6, o7, rfl, eU, sU⟩ := h
    have e : (rngD 0 ((L.length : Nat) : Int).toNat).length = L.length := by simp [rngD]
    rw [e] at eU
    refine ⟨trivial, ?_⟩
    repeat' contradiction
    refine b_sortSR eU ?_
    obtain ⟨_, e2⟩ := group_eq (T := T) hr hx
    have e2 : (gN L T L.length [x]).mergeSort leS = cls L T x := e2
    rw [e2]
    exact q U sU
theorem agree_ok (hT : B[f]? = some ⟨2, 5, bAgreeL fg f⟩) (hG : B[fg]? = some ⟨3, 8, bGroupL⟩) {T : List Tri} (hts : ∀ y ∈ nmT T, Shrt y) (j : Nat) : ∀ (n : Nat) {L : List Str} {S : Sto} {Q : PR} {d : D}, Rise L → LotD S d L → (∀ y ∈ L, Shrt y) → L.length ≤ n → n ≤ 60 →
    (∀ b S', (b = true ↔ Ag T L) → Sub S S' → Q (.v (.bl b)) S') → W B (j + n + 2) f [d, tris T] S Q := by
  intro n
  induction n with
  | zero =>
    intro L S Q d hr hd hs hl h60 q
    refine enter (b := ⟨2, 5, bAgreeL fg f⟩) (ρ := [some d, some (tris T), none, none, none]) hT rfl rfl ?_
    show wSs (W B (j + 1)) (bAgreeL fg f) _ _ _
    delta bAgreeL
    repeat' contradiction
    refine hd.len ?_
    repeat' contradiction
    rw [decide_eq_true (by omega)]
    refine i_T ?_
    repeat' contradiction
    exact q true S ⟨fun _ => .few (by omega), fun _ => rfl⟩ Sub.rfl
  | succ n ih =>
    intro L S Q d hr hd hs hl h60 q
    refine enter (b := ⟨2, 5, bAgreeL fg f⟩) (ρ := [some d, some (tris T), none, none, none]) (n := j + n + 2) hT rfl rfl ?_
    show wSs (W B (j + n + 2)) (bAgreeL fg f) _ _ _
    delta bAgreeL
    repeat' contradiction
    refine hd.len ?_
    repeat' contradiction
    by_cases h3 : L.length < 3
    · rw [decide_eq_true (by omega)]
      refine i_T ?_
      repeat' contradiction
      exact q true S ⟨fun _ => .few h3, fun _ => rfl⟩ Sub.rfl
    rw [decide_eq_false (by omega)]
    refine i_F ?_
    refine z_nil ?_
    refine z_set ?_
    repeat' contradiction
    refine hd.list ?_
    refine r_mn fun a ha => ?_
    obtain ⟨x0, L', rfl⟩ : ∃ x0 L', L = x0 :: L' := by
      cases L with
      | nil => simp at h3
      | cons x L' => exact ⟨x, L', rfl⟩
    have hx0 : x0 ∈ x0 :: L' := List.mem_cons_self
    have sU0 : Sub S (up S a (.lst ((x0 :: L').map .str))) := Sub.rfl.then ha
    have ea : up S a (.lst ((x0 :: L').map .str)) a = some (.lst ((x0 :: L').map .str)) := up_same
    generalize up S a (.lst ((x0 :: L').map .str)) = S1 at sU0 ea
    repeat' contradiction
    refine p_lst ea (by exact atI_zero _ _) ?_
    repeat' contradiction
    refine group_ok (k := j + n + 1) hG hr hx0 (hd.sub sU0) (by omega) hs hts fun S2 s2 => ?_
    repeat' contradiction
    refine (hd.sub (sU0.trans s2)).len ?_
    repeat' contradiction
    have hone := grps_one (T := T) hr hx0
    by_cases hc : (cls (x0 :: L') T x0).length = (x0 :: L').length
    · rw [List.length_map, decide_eq_true (by omega)]
      refine i_T ?_
      repeat' contradiction
      refine q false S2 ⟨fun z => (by cases z), fun z => ?_⟩ (sU0.trans s2)
      have := (z.big (by omega)).1 x0 hx0
      omega
    have hlt : ∀ x ∈ x0 :: L', (cls (x0 :: L') T x).length < (x0 :: L').length := fun x hx => Nat.lt_of_le_of_ne cls_len fun z => hc (hone.mp ((grps_one hr hx).mpr z))
    rw [List.length_map, decide_eq_false (by omega)]
    refine i_F ?_
    refine z_nil ?_
    have eaS := s2 _ _ ea
    have sS2 := sU0.trans s2
    refine z_whl (fun m ρ V => ∃ (R : List Str) (r : Addr) (o3 : Option D), ρ = [some d, some (tris T), some (.ref r), o3, none] ∧ V r = some (.lst (R.map .str)) ∧ (∀ x ∈ R, x ∈ x0 :: L') ∧ (∀ x ∈ x0 :: L', x ∉ R → Ag T (cls (x0 :: L') T x)) ∧ m = R.length ∧ R.length ≤ 60 ∧ Sub S V)
      ⟨_, x0 :: L', a, _, rfl, eaS, fun x h => h, fun x h h2 => absurd h h2, rfl, by omega, sS2⟩ ?_
    rintro m ρ V ⟨R, r, o3, rfl, eV, hsub, hag, rfl, hR, sV⟩
    repeat' contradiction
    cases R with
    | nil =>
      rw [show (([] : List Str).map D.str).isEmpty = true from rfl]
      refine i_nT ?_
      repeat' contradiction
      exact q true V ⟨fun _ => .cut hlt fun x hx => hag x hx (by simp), fun _ => rfl⟩ sV
    | cons x R =>
      have hxL := hsub x List.mem_cons_self
      rw [show ((x :: R).map D.str).isEmpty = false from rfl]
      refine i_nF ?_
      refine z_set ?_
      repeat' contradiction
      refine p_lst eV (by exact atI_zero _ _) ?_
      repeat' contradiction
      refine group_ok (k := j + n + 1) hG hr hxL (hd.sub sV) (by omega) hs hts fun V2 v2 => ?_
      refine r_mn fun g hg => ?_
      have eg : up V2 g (.lst ((cls (x0 :: L') T x).map .str)) g = some (.lst ((cls (x0 :: L') T x).map .str)) := up_same
      have sV3 : Sub V (up V2 g (.lst ((cls (x0 :: L') T x).map .str))) := v2.then (v2.none hg)
      generalize up V2 g (.lst ((cls (x0 :: L') T x).map .str)) = V3 at eg sV3
      have hcl := hlt x hxL
      have hcs : ∀ y ∈ cls (x0 :: L') T x, Shrt y := fun y hy => hs y (cls_sub hy)
      repeat' contradiction
      refine ih (cls_rise hr) (.inr ⟨g, rfl, eg⟩) hcs (by omega) (by omega) fun b V4 hb v4 => ?_
      refine x_tru rfl ?_
      have sV4 := (sV.trans sV3).trans v4
      cases b with
      | false =>
        refine i_nF ?_
        repeat' contradiction
        exact q false V4 ⟨fun z => (by cases z), fun z => hb.mpr ((z.big (by omega)).2 x hxL)⟩ sV4
      | true =>
        have hagx := hb.mp rfl
        refine i_nT ?_
        refine z_nil ?_
        refine z_set ?_
        repeat' contradiction
        have eV4 := v4 _ _ (sV3 _ _ eV)
        have eg4 := v4 _ _ eg
        refine q_ref eV4 ?_
        refine lc_if (f := D.str) D.str (fun y => !decide (y ∈ cls (x0 :: L') T x)) eV4 (fun y hy Kt hKt => ?_) ?_
        · repeat' contradiction
          refine c_ninRS eg4 (hs y (hsub y hy)) hcs (x_bl ?_)
          cases h : (!decide (y ∈ cls (x0 :: L') T x)) with
          | true => rw [if_pos h] at hKt; refine i_T ?_; repeat' contradiction
          | false => rw [if_neg (by rw [h]; decide)] at hKt; exact i_F hKt
        refine r_mn fun r2 hr2 => ?_
        have hfl := List.length_filter_le (fun y => !decide (y ∈ cls (x0 :: L') T x)) (x :: R)
        have hdrop : ((x :: R).filter fun y => !decide (y ∈ cls (x0 :: L') T x)).length < (x :: R).length := by
          rw [List.filter_cons, if_neg (by simp [cls_self hxL]), List.length_cons]
          exact Nat.lt_succ_of_le (List.length_filter_le _ _)
        refine z_nil ⟨_, hdrop, _, r2, _, rfl, up_same, fun y hy => hsub y (List.mem_filter.mp hy).1, fun y hy hn => ?_, rfl, by omega, sV4.then (sV4.none hr2)⟩
        by_cases hyR : y ∈ x :: R
        · have hyc : y ∈ cls (x0 :: L') T x := Classical.byContradiction fun z => hn (List.mem_filter.mpr ⟨hyR, by simp [z]⟩)
          rw [cls_eq hxL hyc]
          exact hagx
        · exact hag y hy hyR
end
end DP
set_option maxRecDepth 100000
set_option maxHeartbeats 1000000
namespace DP
open PySem L2
local macro_rules
  | `(tactic| get_elem_tactic_trivial) => `(tactic| first
    | with_reducible assumption
    | exact up_same
    | (refine up_keep (by with_reducible assumption) ?_; get_elem_tactic_trivial))
local macro_rules
  | `(tactic| decreasing_trivial) => `(tactic| first
    | with_reducible assumption
    | (with_unfolding_all exact Nat.le_of_ble_eq_true rfl)
    | omega
    | exact shrt_of (by with_unfolding_all rfl)
    | exact sh_cut (by with_reducible assumption) _ _
    | exact cmul_l (by omega) (by omega)
    | exact cmul_r (by omega) (by omega)
    | exact pow_lit (by decide) (by decide) (by decide))
local macro_rules
  | `(tactic| contradiction) => `(tactic| with_reducible first
    | assumption | (apply r_var; with_unfolding_all rfl)
    | apply r_cst | apply r_glo | apply r_tup | apply r_lst | apply r_dK | apply r_bin | apply r_neg | apply r_cmp | apply r_chn
    | apply r_not | apply r_and | apply r_or | apply r_ite | apply r_ix | apply r_sl | apply r_rev | apply r_isi | apply r_bi | apply r_me | apply r_call | apply r_lc
    | apply r_es0 | apply r_es1 | apply r_rs0 | apply r_rs1 | apply r_o0 | apply r_o1 | apply r_part | apply r_ot0 | apply r_ot1 | apply r_mv
    | apply t_not | apply t_and | apply t_or | apply t_cmp | apply t_chn | (apply t_var; with_unfolding_all rfl) | apply t_isi | apply t_bi | apply t_me | apply t_call | apply t_ix
    | (apply x_len; with_unfolding_all exact Nat.le_of_ble_eq_true rfl) | (apply x_ty; with_unfolding_all exact ⟨_, rfl⟩) | (apply x_tyL; get_elem_tactic_trivial; rfl)
    | apply x_bl | apply x_int | (apply x_tru; with_unfolding_all rfl) | (apply x_isi; with_unfolding_all rfl)
    | apply i_T | apply i_F | apply i_nT | apply i_nF
    | apply o_addI | (apply o_addS; decreasing_trivial) | (apply o_addSS; decreasing_trivial; decreasing_trivial) | (apply o_addT; decreasing_trivial) | (apply o_addTT; decreasing_trivial; decreasing_trivial) | apply o_sub
    | (apply o_mulI; decreasing_trivial) | (apply o_mulS; decreasing_trivial) | (apply o_fdiv; decreasing_trivial) | (apply o_mod; decreasing_trivial) | (apply o_pow; decreasing_trivial)
    | (apply o_addNN; decreasing_trivial) | (apply o_addRN; get_elem_tactic_trivial; decreasing_trivial) | (apply o_addNR; get_elem_tactic_trivial; decreasing_trivial) | (apply o_addRR; get_elem_tactic_trivial; get_elem_tactic_trivial; decreasing_trivial)
    | apply c_eqI | apply c_eqS | apply c_eqB | apply c_neI | apply c_neS | apply c_neB | apply c_ltI | apply c_ltS | apply c_gtI | apply c_leI | apply c_geI | apply c_inS | apply c_ninS
    | (apply p_str; decreasing_trivial; with_unfolding_all rfl) | (apply p_tup; with_unfolding_all rfl) | (apply p_lstN; with_unfolding_all rfl) | (apply p_lst; get_elem_tactic_trivial; with_unfolding_all rfl) | (apply p_dK; get_elem_tactic_trivial; with_unfolding_all rfl)
    | (apply l_strS; decreasing_trivial) | (apply l_str; decreasing_trivial) | apply l_tup | apply l_fz | apply l_lstN | (apply l_lst; get_elem_tactic_trivial) | apply v_tup | apply v_lstN | (apply v_lst; get_elem_tactic_trivial)
    | (apply b_lenS; decreasing_trivial) | apply b_lenT | apply b_lenN | (apply b_lenL; get_elem_tactic_trivial) | apply b_abs | apply b_intI | apply b_intB | apply b_tuplN | apply b_tuplT | (apply b_tuplL; get_elem_tactic_trivial) | apply b_listN | apply b_listT | (apply b_listL; get_elem_tactic_trivial)
    | apply z_nil | apply z_exp | apply z_set | apply z_ret | apply z_ife | apply z_for | apply z_brk | apply z_cnt | apply z_sub
    | apply bn_name | (apply q_str; decreasing_trivial) | apply q_tup | apply q_fz | apply q_n | (apply q_ref; get_elem_tactic_trivial) | apply w_seq | apply w_rng1 | apply w_rng2)
local macro_rules
  | `(tactic| contradiction) => `(tactic| with_reducible first
    | (apply p_cells; get_elem_tactic_trivial) | (apply p_at; get_elem_tactic_trivial) | (apply p_left; get_elem_tactic_trivial)
    | (apply y_at; get_elem_tactic_trivial) | (apply y_left; get_elem_tactic_trivial))
local macro_rules
  | `(tactic| contradiction) => `(tactic| with_reducible first
    | apply r_lc2 | apply w_enum | apply e_n | apply c_isnotB | apply b_min | apply bn_tup2)
/-! ### a part put beside a node -/
set_option maxRecDepth 100000
set_option maxHeartbeats 1000000
theorem any_dec (x : Str) (ys : List Str) : (ys.any fun y => y == x) = decide (x ∈ ys) := by
  rw [Bool.eq_iff_iff, List.any_eq_true, decide_eq_true_eq]
  exact ⟨fun ⟨y, hy, z⟩ => by rw [← beq_iff_eq.mp z]; exact hy, fun hx => ⟨x, hx, by simp⟩⟩
theorem c_ninST' {S : Sto} {Q : PR} {x : Str} {ys : List Str} (hx : Shrt x) (h : ∀ y ∈ ys, Shrt y) (q : Q (.v (.bl (!decide (x ∈ ys)))) S) : cmpW .notin (.v (.str x)) (.v (tupS ys)) S Q := by
  refine c_ninST hx h ?_
  rw [any_dec]
  exact q
/-- a lot of names of the tree -/
structure LotOf (d : D) (l : List Str) : Prop where
  sub : ∀ x ∈ l, x ∈ nms d
  up : l.Pairwise fun x y => x.cps.toList < y.cps.toList
theorem up_nodup {l : List Str} (h : l.Pairwise fun x y => x.cps.toList < y.cps.toList) : l.Nodup := h.imp fun {a b} q z => by subst z; exact absurd q (List.lt_irrefl _)
theorem LotOf.sh {d : D} {l : List Str} (h : LotOf d l) (g : Good d) : ∀ x ∈ l, Shrt x := fun x hx => (nms_wd d g.tr x (h.sub x hx)).1.sh
theorem lot_perm {d : D} {l : List Str} (g : Good d) (h : LotOf d l) : ((nms d).filter fun x => decide (x ∈ l)).Perm l := by
  refine (List.perm_ext_iff_of_nodup (g.nd.filter _) (up_nodup h.up)).mpr fun x => ?_
  rw [List.mem_filter, decide_eq_true_eq]
  exact ⟨fun z => z.2, fun z => ⟨h.sub x z, z⟩⟩
theorem LotOf.len {d : D} {l : List Str} (g : Good d) (h : LotOf d l) : l.length ≤ (nms d).length := by
  rw [← (lot_perm g h).length_eq]
  exact List.length_filter_le _ _
end DP
set_option maxRecDepth 100000
set_option maxHeartbeats 1000000
namespace DP
open PySem L2
local macro_rules
  | `(tactic| get_elem_tactic_trivial) => `(tactic| first
    | with_reducible assumption
    | exact up_same
    | (refine up_keep (by with_reducible assumption) ?_; get_elem_tactic_trivial))
local macro_rules
  | `(tactic| decreasing_trivial) => `(tactic| first
    | with_reducible assumption
    | (with_unfolding_all exact Nat.le_of_ble_eq_true rfl)
    | omega
    | exact shrt_of (by with_unfolding_all rfl)
    | exact sh_cut (by with_reducible assumption) _ _
    | exact cmul_l (by omega) (by omega)
    | exact cmul_r (by omega) (by omega)
    | exact pow_lit (by decide) (by decide) (by decide))
local macro_rules
  | `(tactic| contradiction) => `(tactic| with_reducible first
    | assumption | (apply r_var; with_unfolding_all rfl)
    | apply r_cst | apply r_glo | apply r_tup | apply r_lst | apply r_dK | apply r_bin | apply r_neg | apply r_cmp | apply r_chn
    | apply r_not | apply r_and | apply r_or | apply r_ite | apply r_ix | apply r_sl | apply r_rev | apply r_isi | apply r_bi | apply r_me | apply r_call | apply r_lc
    | apply r_es0 | apply r_es1 | apply r_rs0 | apply r_rs1 | apply r_o0 | apply r_o1 | apply r_part | apply r_ot0 | apply r_ot1 | apply r_mv
    | apply t_not | apply t_and | apply t_or | apply t_cmp | apply t_chn | (apply t_var; with_unfolding_all rfl) | apply t_isi | apply t_bi | apply t_me | apply t_call | apply t_ix
    | (apply x_len; with_unfolding_all exact Nat.le_of_ble_eq_true rfl) | (apply x_ty; with_unfolding_all exact ⟨_, rfl⟩) | (apply x_tyL; get_elem_tactic_trivial; rfl)
    | apply x_bl | apply x_int | (apply x_tru; with_unfolding_all rfl) | (apply x_isi; with_unfolding_all rfl)
    | apply i_T | apply i_F | apply i_nT | apply i_nF
    | apply o_addI | (apply o_addS; decreasing_trivial) | (apply o_addSS; decreasing_trivial; decreasing_trivial) | (apply o_addT; decreasing_trivial) | (apply o_addTT; decreasing_trivial; decreasing_trivial) | apply o_sub
    | (apply o_mulI; decreasing_trivial) | (apply o_mulS; decreasing_trivial) | (apply o_fdiv; decreasing_trivial) | (apply o_mod; decreasing_trivial) | (apply o_pow; decreasing_trivial)
    | (apply o_addNN; decreasing_trivial) | (apply o_addRN; get_elem_tactic_trivial; decreasing_trivial) | (apply o_addNR; get_elem_tactic_trivial; decreasing_trivial) | (apply o_addRR; get_elem_tactic_trivial; get_elem_tactic_trivial; decreasing_trivial)
    | apply c_eqI | apply c_eqS | apply c_eqB | apply c_neI | apply c_neS | apply c_neB | apply c_ltI | apply c_ltS | apply c_gtI | apply c_leI | apply c_geI | apply c_inS | apply c_ninS
    | (apply p_str; decreasing_trivial; with_unfolding_all rfl) | (apply p_tup; with_unfolding_all rfl) | (apply p_lstN; with_unfolding_all rfl) | (apply p_lst; get_elem_tactic_trivial; with_unfolding_all rfl) | (apply p_dK; get_elem_tactic_trivial; with_unfolding_all rfl)
    | (apply l_strS; decreasing_trivial) | (apply l_str; decreasing_trivial) | apply l_tup | apply l_fz | apply l_lstN | (apply l_lst; get_elem_tactic_trivial) | apply v_tup | apply v_lstN | (apply v_lst; get_elem_tactic_trivial)
    | (apply b_lenS; decreasing_trivial) | apply b_lenT | apply b_lenN | (apply b_lenL; get_elem_tactic_trivial) | apply b_abs | apply b_intI | apply b_intB | apply b_tuplN | apply b_tuplT | (apply b_tuplL; get_elem_tactic_trivial) | apply b_listN | apply b_listT | (apply b_listL; get_elem_tactic_trivial)
    | apply z_nil | apply z_exp | apply z_set | apply z_ret | apply z_ife | apply z_for | apply z_brk | apply z_cnt | apply z_sub
    | apply bn_name | (apply q_str; decreasing_trivial) | apply q_tup | apply q_fz | apply q_n | (apply q_ref; get_elem_tactic_trivial) | apply w_seq | apply w_rng1 | apply w_rng2)
local macro_rules
  | `(tactic| contradiction) => `(tactic| with_reducible first
    | (apply p_cells; get_elem_tactic_trivial) | (apply p_at; get_elem_tactic_trivial) | (apply p_left; get_elem_tactic_trivial)
    | (apply y_at; get_elem_tactic_trivial) | (apply y_left; get_elem_tactic_trivial))
local macro_rules
  | `(tactic| contradiction) => `(tactic| with_reducible first
    | apply r_lc2 | apply w_enum | apply e_n | apply c_isnotB | apply b_min | apply bn_tup2)
local macro_rules
  | `(tactic| contradiction) => `(tactic| with_reducible first
    | apply t_emp | apply e_tT | apply e_nT | apply e_nN | (apply e_nL; get_elem_tactic_trivial) | apply r_get2 | apply w_rngD | apply bn_tup3 | apply r_mn2 | apply r_mnS | apply r_sdf)
def bHasL (fl : Nat) : List C := [.for (.name 2) (.seq (.call fl [(.var 0)])) [.ife (.and (.cmp .isin (.ix (.var 1) (.cst (.int 0))) (.var 2)) (.and (.cmp .isin (.ix (.var 1) (.cst (.int 1))) (.var 2)) (.cmp .notin (.ix (.var 1) (.cst (.int 2))) (.var 2)))) [.ret (.cst (.bl true))] []], .ret (.cst (.bl false))]
def bAllOf : List C := [.asg (.name 1) (.lst []), .for (.name 2) (.seq (.var 0)) [.for (.name 3) (.seq (.var 0)) [.exp (.me .extend (.var 1) [(.lc (.tup [(.var 2), (.var 3), (.var 4)]) (.name 4) (.seq (.var 0)) (some (.and (.cmp .lt (.var 2) (.var 3)) (.and (.cmp .ne (.var 4) (.var 2)) (.cmp .ne (.var 4) (.var 3))))) [4])])]], .ret (.bi .sorted [(.var 1)])]
def bAnyTri (fd : Nat) : List C := [.asg (.name 2) (.bi .list [(.var 1)]), .asg (.name 3) (.lc (.me .pop (.var 2) [(.call fd [(.var 0), (.bi .len [(.var 2)])])]) (.name 4) (.rng1 (.cst (.int 3))) none [4]), .ret (.tup [(.mnS false (.sl (.var 3) none (some (.cst (.int 2))))), (.mnS true (.sl (.var 3) none (some (.cst (.int 2))))), (.ix (.var 3) (.cst (.int 2)))])]
/-- whether a tree has a triple, by its lots -/
def hasT (d : D) (t : Tri) : Bool := (sortL (lotsB d)).any fun l => decide (t.1 ∈ l) && decide (t.2.1 ∈ l) && !decide (t.2.2 ∈ l)
/-- all triples of some names -/
def allOf (xs : List Str) : List Tri := xs.flatMap fun a => xs.flatMap fun b => (xs.filter fun c => decide (ltS a b) && (!decide (c = a) && !decide (c = b))).map fun c => (a, b, c)
def okT (xs : List Str) (t : Tri) : Prop := (∀ x ∈ nm3 t, x ∈ xs) ∧ t.1 ≠ t.2.1 ∧ t.2.2 ≠ t.1 ∧ t.2.2 ≠ t.2.1
theorem allOf_ok {xs : List Str} {t : Tri} (h : t ∈ allOf xs) : okT xs t := by
  obtain ⟨a, ha, h⟩ := List.mem_flatMap.mp h
  obtain ⟨b, hb, h⟩ := List.mem_flatMap.mp h
  obtain ⟨c, hc, rfl⟩ := List.mem_map.mp h
  obtain ⟨hc, h⟩ := List.mem_filter.mp hc
  simp only [Bool.and_eq_true, decide_eq_true_eq, Bool.not_eq_true', decide_eq_false_iff_not] at h
  refine ⟨fun x hx => ?_, fun z => ltS_irr b ((show a = b from z) ▸ h.1), h.2.1, h.2.2⟩
  simp only [nm3, List.mem_cons, List.not_mem_nil, or_false] at hx
  rcases hx with rfl | rfl | rfl
  · exact ha
  · exact hb
  · exact hc
theorem flat_le {α β : Type} {f : α → List β} {n : Nat} (h : ∀ a, (f a).length ≤ n) : ∀ l : List α, (l.flatMap f).length ≤ l.length * n
  | [] => by simp
  | a :: l => by
    rw [List.flatMap_cons, List.length_append, List.length_cons, Nat.succ_mul]
    have := h a
    have := flat_le h l
    omega
theorem allOf_len (xs : List Str) : (allOf xs).length ≤ xs.length * (xs.length * xs.length) :=
  flat_le (fun a => flat_le (fun b => by rw [List.length_map]; exact List.length_filter_le _ _) xs) xs
/-- sorted triples are triples -/
theorem tri_perm {T : List Tri} {ls : List (List Str)} (h : ls.Perm (T.map nm3)) : ∃ T' : List Tri, T'.Perm T ∧ ls = T'.map nm3 := by
  refine ⟨ls.map fun l => (l.getD 0 ⟨#[]⟩, l.getD 1 ⟨#[]⟩, l.getD 2 ⟨#[]⟩), ?_, ?_⟩
  · have := h.map fun l : List Str => ((l.getD 0 ⟨#[]⟩, l.getD 1 ⟨#[]⟩, l.getD 2 ⟨#[]⟩) : Tri)
    rw [List.map_map] at this
    have e : (T.map ((fun l : List Str => ((l.getD 0 ⟨#[]⟩, l.getD 1 ⟨#[]⟩, l.getD 2 ⟨#[]⟩) : Tri)) ∘ nm3)) = T := by
      conv => rhs; rw [← List.map_id T]
      exact List.map_congr_left fun t _ => rfl
    rwa [e] at this
  · rw [List.map_map]
    conv => lhs; rw [← List.map_id ls]
    refine List.map_congr_left fun l hl => ?_
    obtain ⟨t, _, rfl⟩ := List.mem_map.mp (h.subset hl)
    rfl
theorem map_tri (T : List Tri) : T.map triD = (T.map nm3).map tupS := by rw [List.map_map]; rfl
section
variable {B : List Fn} {f fl fb fd k : Nat} {S : Sto} {Q : PR}
theorem hasL_ok (hT : B[f]? = some ⟨2, 3, bHasL fl⟩) (hL : B[fl]? = some ⟨1, 4, bLots fb⟩) (hB : B[fb]? = some ⟨1, 4, bBelow⟩) {d : D} (htr : isTr d) (hz : sz d ≤ 60) {t : Tri} (hts : ∀ x ∈ nm3 t, Shrt x) (q : ∀ S', Sub S S' → Q (.v (.bl (hasT d t))) S') : W B (k + 3) f [d, triD t] S Q := by
  show W B (k + 3) f [d, .tup [.str t.1, .str t.2.1, .str t.2.2]] S Q
  refine enter (b := ⟨2, 3, bHasL fl⟩) (ρ := [some d, some (.tup [.str t.1, .str t.2.1, .str t.2.2]), none]) hT rfl rfl ?_
  show wSs (W B (k + 2)) (bHasL fl) _ _ _
  delta bHasL
  have s1 : Shrt t.1 := hts _ (by simp [nm3])
  have s2 : Shrt t.2.1 := hts _ (by simp [nm3])
  have s3 : Shrt t.2.2 := hts _ (by simp [nm3])
  refine z_for ?_
  refine w_seq ?_
  repeat' contradiction
  refine lots_ok hL hB htr hz fun S1 h1 => ?_
  refine q_n ?_
  have hls := lots_sh htr
  refine for_ok (fun i ρ U => ∃ o2, ρ = [some d, some (.tup [.str t.1, .str t.2.1, .str t.2.2]), o2] ∧ Sub S U ∧ ∀ l ∈ (sortL (lotsB d)).take i, (decide (t.1 ∈ l) && decide (t.2.1 ∈ l) && !decide (t.2.2 ∈ l)) = false) (fun i x ρ U Kn hx h hKn => ?_) (fun ρ U h => ?_)
    ⟨_, rfl, h1, fun l hl => by simp at hl⟩
  · obtain ⟨o2, rfl, sU, all⟩ := h
    rw [List.getElem?_map, Option.map_eq_some_iff] at hx
    obtain ⟨l, hl, rfl⟩ := hx
    have hlm := List.mem_of_getElem? hl
    have hsl := hls l hlm
    refine ⟨trivial, bn_name ?_⟩
    have skip : (decide (t.1 ∈ l) && decide (t.2.1 ∈ l) && !decide (t.2.2 ∈ l)) = false → Kn [some d, some (.tup [.str t.1, .str t.2.1, .str t.2.2]), some (tupS l)] U := fun h =>
      hKn _ _ ⟨_, rfl, sU, fun m hm => by
        rw [take_succ hl] at hm
        rcases List.mem_append.mp hm with hm | hm
        · exact all m hm
        · rw [List.mem_singleton.mp hm]; exact h⟩
    repeat' contradiction
    refine c_inST s1 hsl (x_bl ?_)
    by_cases c1 : t.1 ∈ l
    rotate_left
    · rw [decide_eq_false c1]
      exact i_F (i_F (z_nil (skip (by simp [c1]))))
    rw [decide_eq_true c1]
    refine i_T ?_
    repeat' contradiction
    refine c_inST s2 hsl (x_bl ?_)
    by_cases c2 : t.2.1 ∈ l
    rotate_left
    · rw [decide_eq_false c2]
      exact i_F (i_F (z_nil (skip (by simp [c2]))))
    rw [decide_eq_true c2]
    refine i_T ?_
    repeat' contradiction
    refine c_ninST' s3 hsl (x_bl ?_)
    by_cases c3 : t.2.2 ∈ l
    · rw [decide_eq_true c3]
      exact i_F (z_nil (skip (by simp [c3])))
    rw [decide_eq_false c3]
    refine i_T ?_
    repeat' contradiction
    have e : hasT d t = true := List.any_eq_true.mpr ⟨l, hlm, by simp [c1, c2, c3]⟩
    rw [← e]
    exact q U sU
  · obtain ⟨o2, rfl, sU, all⟩ := h
    rw [List.length_map, List.take_length] at all
    refine ⟨trivial, ?_⟩
    repeat' contradiction
    have e : hasT d t = false := by
      rw [Bool.eq_false_iff]
      intro z
      obtain ⟨l, hl, e⟩ := List.any_eq_true.mp z
      rw [all l hl] at e
      cases e
    rw [← e]
    exact q U sU
theorem all_of_ok (hT : B[f]? = some ⟨1, 5, bAllOf⟩) {xs : List Str} (hx : xs.length ≤ 13) (q : ∀ (T : List Tri) S', T.Perm (allOf xs) → Sub S S' → Q (.n (.lst (T.map triD))) S') : W B (k + 1) f [tupS xs] S Q := by
  show W B (k + 1) f [.tup (xs.map .str)] S Q
  refine enter (b := ⟨1, 5, bAllOf⟩) (ρ := [some (.tup (xs.map .str)), none, none, none, none]) hT rfl rfl ?_
  show wSs (W B k) bAllOf _ _ _
  delta bAllOf
  repeat' contradiction
  refine r_mn fun a ha => ?_
  let g (x y : Str) : List Tri := (xs.filter fun c => decide (ltS x y) && (!decide (c = x) && !decide (c = y))).map fun c => (x, y, c)
  have gl : ∀ x y, (g x y).length ≤ 13 := fun x y => by
    show (List.map _ _).length ≤ 13
    rw [List.length_map]
    exact Nat.le_trans (List.length_filter_le _ _) hx
  have bound : ∀ i j : Nat, i ≤ 13 → j ≤ 13 → ∀ (l : List Tri), l.length ≤ i * 169 + j * 13 → l.length ≤ 5000 := fun i j h1 h2 l h => by omega
  refine z_for ?_
  refine w_seq ?_
  repeat' contradiction
  refine for_ok (fun i ρ U => ∃ o2 o3, ρ = [some (.tup (xs.map .str)), some (.ref a), o2, o3, none] ∧ U a = some (.lst (((xs.take i).flatMap fun x => xs.flatMap fun y => g x y).map triD)) ∧ Sub S U) (fun i z ρ U Kn hz h hKn => ?_) (fun ρ U h => ?_)
    ⟨_, _, rfl, by rw [up_same]; rfl, Sub.rfl.then ha⟩
  · obtain ⟨o2, o3, rfl, eU, sU⟩ := h
    obtain ⟨x, hxi, rfl⟩ := strs_at hz
    have hi : i < xs.length := (List.getElem?_eq_some_iff.mp hxi).1
    refine ⟨trivial, bn_name ?_⟩
    refine z_for ?_
    refine w_seq ?_
    repeat' contradiction
    refine for_ok (fun j ρ U => ∃ o3, ρ = [some (.tup (xs.map .str)), some (.ref a), some (.str x), o3, none] ∧ U a = some (.lst ((((xs.take i).flatMap fun x => xs.flatMap fun y => g x y) ++ (xs.take j).flatMap fun y => g x y).map triD)) ∧ Sub S U) (fun j z ρ U Km hz h hKm => ?_) (fun ρ U h => ?_)
      ⟨_, rfl, by simpa using eU, sU⟩
    · obtain ⟨o3, rfl, eU, sU⟩ := h
      obtain ⟨y, hyj, rfl⟩ := strs_at hz
      have hj : j < xs.length := (List.getElem?_eq_some_iff.mp hyj).1
      refine ⟨trivial, bn_name ?_⟩
      refine z_exp ?_
      refine r_me ?_
      repeat' contradiction
      refine lc_if (f := D.str) (fun c => triD (x, y, c)) (fun c => decide (ltS x y) && (!decide (c = x) && !decide (c = y))) trivial (fun c hc Kt hKt => ?_) ?_
      · repeat' contradiction
        by_cases c1 : ltS x y
        rotate_left
        · rw [if_neg (by simp [c1])] at hKt
          rw [decide_eq_false c1]
          exact i_F (i_F hKt)
        rw [decide_eq_true c1]
        refine i_T ?_
        repeat' contradiction
        by_cases c2 : c = x
        · rw [if_neg (by simp [c2])] at hKt
          rw [decide_eq_true c2]
          exact i_F (i_F hKt)
        rw [decide_eq_false c2]
        refine i_T ?_
        repeat' contradiction
        by_cases c3 : c = y
        · rw [if_neg (by simp [c3])] at hKt
          rw [decide_eq_true c3]
          exact i_F hKt
        rw [decide_eq_false c3]
        refine i_T ?_
        rw [if_pos (by simp [c1, c2, c3])] at hKt
        repeat' contradiction
        exact hKt
      · refine r_mn fun t ht => ?_
        have hat : a ≠ t := fun z => by rw [← z, eU] at ht; cases ht
        have eg : ((xs.filter fun c => decide (ltS x y) && (!decide (c = x) && !decide (c = y))).map fun c => triD (x, y, c)) = (g x y).map triD := by
          show _ = (List.map _ _).map triD
          rw [List.map_map]; rfl
        rw [eg]
        have l1 : ((xs.take i).flatMap fun x => xs.flatMap fun y => g x y).length ≤ (xs.take i).length * 169 := flat_le (fun x => Nat.le_trans (flat_le (gl x) xs) (by omega)) _
        have l2 : ((xs.take j).flatMap fun y => g x y).length ≤ (xs.take j).length * 13 := flat_le (gl x) _
        rw [List.length_take] at l1 l2
        have l3 := gl x y
        refine r_es0 ?_
        refine m_extend ((up_ne hat).trans eU) up_same (by rw [List.length_map, List.length_map, List.length_append]; exact Nat.le_of_lt (lineN _ (by omega))) ?_
        refine z_nil (hKm _ _ ⟨_, rfl, ?_, (sU.then (sU.none ht)).then ha⟩)
        rw [up_same, take_succ hyj, List.flatMap_append, ← List.map_append, List.append_assoc]
        simp
    · obtain ⟨o3, rfl, eU, sU⟩ := h
      rw [List.length_map, List.take_length] at eU
      refine ⟨trivial, ?_⟩
      refine hKn _ _ ⟨_, _, rfl, ?_, sU⟩
      rw [eU, take_succ hxi, List.flatMap_append]
      simp
  · obtain ⟨o2, o3, rfl, eU, sU⟩ := h
    rw [List.length_map, List.take_length] at eU
    refine ⟨trivial, ?_⟩
    repeat' contradiction
    rw [map_tri] at eU
    refine b_sortTR eU (fun l hl z => by obtain ⟨t, _, rfl⟩ := List.mem_map.mp hl; cases z) ?_
    obtain ⟨T', hp, e⟩ := tri_perm (sortL_perm ((xs.flatMap fun x => xs.flatMap fun y => g x y).map nm3))
    rw [e, ← map_tri]
    exact q T' U hp sU
theorem any_tri_ok (hT : B[f]? = some ⟨2, 5, bAnyTri fd⟩) (hD : B[fd]? = some ⟨2, 8, bDraw⟩) {p c : Addr} {n : Nat} {xs : List Str} (hp : PenOk S p c n) (hn : n + 3 < 60000) (hx : 3 ≤ xs.length) (hx13 : xs.length ≤ 13) (hnd : xs.Nodup)
    (q : ∀ S' t, PenOk S' p c (n + 3) → Ext p S S' → okT xs t → Q (.v (triD t)) S') : W B (k + 2) f [.ref p, tupS xs] S Q := by
  show W B (k + 2) f [.ref p, .tup (xs.map .str)] S Q
  refine enter (b := ⟨2, 5, bAnyTri fd⟩) (ρ := [some (.ref p), some (.tup (xs.map .str)), none, none, none]) hT rfl rfl ?_
  show wSs (W B (k + 1)) (bAnyTri fd) _ _ _
  delta bAnyTri
  repeat' contradiction
  refine r_mn fun t ht => ?_
  have hpt : p ≠ t := fun z => by subst z; obtain ⟨_, _, _, _, e, _⟩ := hp; rw [ht] at e; cases e
  have hp0 : PenOk (up S t (.lst (xs.map .str))) p c n := hp.new ht
  repeat' contradiction
  refine ⟨by omega, by omega, ?_⟩
  refine lc_ok (fun i acc S' => ∃ ys rest : List Str, acc = ys.map .str ∧ S' t = some (.lst (rest.map .str)) ∧ (ys ++ rest).Perm xs ∧ ys.length = i ∧ PenOk S' p c (n + i) ∧ Ext p S S') ?_ ?_ ⟨[], xs, rfl, up_same, List.Perm.refl _, rfl, hp0, Ext.new ht⟩
  · intro i x acc S' K hx' ⟨ys, rest, ha, hS, hP, hi, hpn, hE⟩ next
    refine ⟨trivial, ?_⟩
    have hil : i < 3 := by
      have := (List.getElem?_eq_some_iff.mp hx').1
      simpa [rngD] using this
    have hrl : ys.length + rest.length = xs.length := by rw [← List.length_append, hP.length_eq]
    subst ha
    have hl0 : ((rest.map D.str).length : Int) = rest.length := by rw [List.length_map]
    repeat' contradiction
    refine draw_ok hD hpn (by omega) (by rw [hl0]; omega) (by rw [hl0]; omega) ?_
    intro S2 r hp2 hf h0 h1
    have hSt : S2 t = some (.lst (rest.map .str)) := (hf t hpt.symm).trans hS
    repeat' contradiction
    refine m_popI hSt h0 (by omega) (by omega) fun x hx => ?_
    repeat' contradiction
    refine next _ _ ⟨ys ++ [x], rest.eraseIdx r.toNat, by simp, up_same, ?_, by simp [hi], ?_, ?_⟩
    · refine List.Perm.trans ?_ hP
      rw [List.append_assoc]
      exact List.Perm.append_left ys hx
    · exact hp.upd ht hp2
    · intro b o hb e
      have hbt : b ≠ t := fun z => by subst z; rw [ht] at e; cases e
      exact (up_ne hbt).trans ((hf b hb).trans (hE b o hb e))
  · intro acc S' ⟨ys, rest, ha, hS, hP, hi, hpn, hE⟩
    refine ⟨trivial, ?_⟩
    subst ha
    have hi : ys.length = 3 := by simpa [rngD] using hi
    rw [show (rngD 0 (3 : Int).toNat).length = 3 by simp [rngD]] at hpn
    obtain ⟨x, y, z, rfl⟩ : ∃ x y z, ys = [x, y, z] := by
      match ys, hi with
      | [x, y, z], _ => exact ⟨x, y, z, rfl⟩
    have hnd' : ([x, y, z] ++ rest).Nodup := hP.nodup_iff.mpr hnd
    have hin : ∀ u ∈ [x, y, z], u ∈ xs := fun u hu => hP.subset (List.mem_append_left _ hu)
    have h3 : [x, y, z].Nodup := (List.nodup_append.mp hnd').1
    have hxy : x ≠ y := fun e => by subst e; simp at h3
    have hxz : x ≠ z := fun e => by subst e; simp at h3
    have hyz : y ≠ z := fun e => by subst e; simp at h3
    refine r_mn fun u hu => ?_
    have hup : u ≠ p := hpn.ne hu
    have eu : up S' u (.lst [D.str x, .str y, .str z]) u = some (.lst [D.str x, .str y, .str z]) := up_same
    have sU : Sub S' (up S' u (.lst [D.str x, .str y, .str z])) := Sub.rfl.then hu
    show wSs _ _ _ (up S' u (.lst [D.str x, .str y, .str z])) _
    have hp3 := hpn.sub sU
    have hE3 : Ext p S (up S' u (.lst [D.str x, .str y, .str z])) := fun b o hb e => sU _ _ (hE b o hb e)
    generalize up S' u (.lst [D.str x, .str y, .str z]) = S3 at eu hp3 hE3
    refine z_ret ?_
    repeat' contradiction
    refine ⟨[x, y], rfl, by simp, by simp, fun m1 hm1 hl1 => ?_⟩
    repeat' contradiction
    refine ⟨[x, y], rfl, by simp, by simp, fun m2 hm2 hl2 => ?_⟩
    repeat' contradiction
    have e12 : (m1 = x ∧ m2 = y) ∨ (m1 = y ∧ m2 = x) := by
      simp only [List.mem_cons, List.not_mem_nil, or_false] at hm1 hm2
      rcases hm1 with rfl | rfl <;> rcases hm2 with rfl | rfl
      · have a1 := hl1 y (by simp)
        have a2 := hl2 y (by simp)
        simp only [if_true, Bool.false_eq_true, if_false] at a1 a2
        exact absurd (ltS_tri a2 a1) hxy
      · exact .inl ⟨rfl, rfl⟩
      · exact .inr ⟨rfl, rfl⟩
      · have a1 := hl1 x (by simp)
        have a2 := hl2 x (by simp)
        simp only [if_true, Bool.false_eq_true, if_false] at a1 a2
        exact absurd (ltS_tri a1 a2) hxy
    refine q S3 (m1, m2, z) hp3 hE3 ⟨fun v hv => hin v ?_, ?_, ?_, ?_⟩
    · simp only [nm3, List.mem_cons, List.not_mem_nil, or_false] at hv ⊢
      rcases e12 with ⟨rfl, rfl⟩ | ⟨rfl, rfl⟩
      · exact hv
      · rcases hv with h | h | h
        · exact .inr (.inl h)
        · exact .inl h
        · exact .inr (.inr h)
    · rcases e12 with ⟨rfl, rfl⟩ | ⟨rfl, rfl⟩
      · exact hxy
      · exact fun e => hxy e.symm
    · rcases e12 with ⟨rfl, rfl⟩ | ⟨rfl, rfl⟩
      · exact fun e => hxz e.symm
      · exact fun e => hyz e.symm
    · rcases e12 with ⟨rfl, rfl⟩ | ⟨rfl, rfl⟩
      · exact fun e => hyz e.symm
      · exact fun e => hxz e.symm
end
end DP
set_option maxRecDepth 100000
set_option maxHeartbeats 1000000
namespace DP
open PySem L2
local macro_rules
  | `(tactic| get_elem_tactic_trivial) => `(tactic| first
    | with_reducible assumption
    | exact up_same
    | (refine up_keep (by with_reducible assumption) ?_; get_elem_tactic_trivial))
local macro_rules
  | `(tactic| decreasing_trivial) => `(tactic| first
    | with_reducible assumption
    | (with_unfolding_all exact Nat.le_of_ble_eq_true rfl)
    | omega
    | exact shrt_of (by with_unfolding_all rfl)
    | exact sh_cut (by with_reducible assumption) _ _
    | exact cmul_l (by omega) (by omega)
    | exact cmul_r (by omega) (by omega)
    | exact pow_lit (by decide) (by decide) (by decide))
local macro_rules
  | `(tactic| contradiction) => `(tactic| with_reducible first
    | assumption | (apply r_var; with_unfolding_all rfl)
    | apply r_cst | apply r_glo | apply r_tup | apply r_lst | apply r_dK | apply r_bin | apply r_neg | apply r_cmp | apply r_chn
    | apply r_not | apply r_and | apply r_or | apply r_ite | apply r_ix | apply r_sl | apply r_rev | apply r_isi | apply r_bi | apply r_me | apply r_call | apply r_lc
    | apply r_es0 | apply r_es1 | apply r_rs0 | apply r_rs1 | apply r_o0 | apply r_o1 | apply r_part | apply r_ot0 | apply r_ot1 | apply r_mv
    | apply t_not | apply t_and | apply t_or | apply t_cmp | apply t_chn | (apply t_var; with_unfolding_all rfl) | apply t_isi | apply t_bi | apply t_me | apply t_call | apply t_ix
    | (apply x_len; with_unfolding_all exact Nat.le_of_ble_eq_true rfl) | (apply x_ty; with_unfolding_all exact ⟨_, rfl⟩) | (apply x_tyL; get_elem_tactic_trivial; rfl)
    | apply x_bl | apply x_int | (apply x_tru; with_unfolding_all rfl) | (apply x_isi; with_unfolding_all rfl)
    | apply i_T | apply i_F | apply i_nT | apply i_nF
    | apply o_addI | (apply o_addS; decreasing_trivial) | (apply o_addSS; decreasing_trivial; decreasing_trivial) | (apply o_addT; decreasing_trivial) | (apply o_addTT; decreasing_trivial; decreasing_trivial) | apply o_sub
    | (apply o_mulI; decreasing_trivial) | (apply o_mulS; decreasing_trivial) | (apply o_fdiv; decreasing_trivial) | (apply o_mod; decreasing_trivial) | (apply o_pow; decreasing_trivial)
    | (apply o_addNN; decreasing_trivial) | (apply o_addRN; get_elem_tactic_trivial; decreasing_trivial) | (apply o_addNR; get_elem_tactic_trivial; decreasing_trivial) | (apply o_addRR; get_elem_tactic_trivial; get_elem_tactic_trivial; decreasing_trivial)
    | apply c_eqI | apply c_eqS | apply c_eqB | apply c_neI | apply c_neS | apply c_neB | apply c_ltI | apply c_ltS | apply c_gtI | apply c_leI | apply c_geI | apply c_inS | apply c_ninS
    | (apply p_str; decreasing_trivial; with_unfolding_all rfl) | (apply p_tup; with_unfolding_all rfl) | (apply p_lstN; with_unfolding_all rfl) | (apply p_lst; get_elem_tactic_trivial; with_unfolding_all rfl) | (apply p_dK; get_elem_tactic_trivial; with_unfolding_all rfl)
    | (apply l_strS; decreasing_trivial) | (apply l_str; decreasing_trivial) | apply l_tup | apply l_fz | apply l_lstN | (apply l_lst; get_elem_tactic_trivial) | apply v_tup | apply v_lstN | (apply v_lst; get_elem_tactic_trivial)
    | (apply b_lenS; decreasing_trivial) | apply b_lenT | apply b_lenN | (apply b_lenL; get_elem_tactic_trivial) | apply b_abs | apply b_intI | apply b_intB | apply b_tuplN | apply b_tuplT | (apply b_tuplL; get_elem_tactic_trivial) | apply b_listN | apply b_listT | (apply b_listL; get_elem_tactic_trivial)
    | apply z_nil | apply z_exp | apply z_set | apply z_ret | apply z_ife | apply z_for | apply z_brk | apply z_cnt | apply z_sub
    | apply bn_name | (apply q_str; decreasing_trivial) | apply q_tup | apply q_fz | apply q_n | (apply q_ref; get_elem_tactic_trivial) | apply w_seq | apply w_rng1 | apply w_rng2)
local macro_rules
  | `(tactic| contradiction) => `(tactic| with_reducible first
    | (apply p_cells; get_elem_tactic_trivial) | (apply p_at; get_elem_tactic_trivial) | (apply p_left; get_elem_tactic_trivial)
    | (apply y_at; get_elem_tactic_trivial) | (apply y_left; get_elem_tactic_trivial))
local macro_rules
  | `(tactic| contradiction) => `(tactic| with_reducible first
    | apply r_lc2 | apply w_enum | apply e_n | apply c_isnotB | apply b_min | apply bn_tup2)
section
variable {B : List Fn} {f : Nat} {S : Sto} {Q : PR}
theorem treeT_ok {k fd ff fl : Nat} (hT : B[f]? = some ⟨3, 7, bTree fd ff⟩) (hD : B[fd]? = some ⟨2, 8, bDraw⟩) (hF : B[ff]? = some ⟨1, 5, bFork fl⟩) (hL : B[fl]? = some ⟨1, 1, bLeast⟩) {p c : Addr} {n : Nat} {w : Int} {xs : List Str}
    (hp : PenOk S p c n) (hn : n + 100 < 60000) (hw : w = 0 ∨ w = 1) (hx : ∀ x ∈ xs, Wd x) (h1 : 1 ≤ xs.length) (h13 : xs.length ≤ 13)
    (q : ∀ S' d, PenOk S' p c (n + 100) → Ext p S S' → isTr d → (nms d).Perm xs → Q (.v d) S') : W B (k + 3) f [.ref p, .tup (xs.map .str), .int w] S Q := by
  refine enter (b := ⟨3, 7, bTree fd ff⟩) (ρ := [some (.ref p), some (.tup (xs.map .str)), some (.int w), none, none, none, none]) hT rfl rfl ?_
  show wSs (W B (k + 2)) (bTree fd ff) _ _ _
  delta bTree
  repeat' contradiction
  refine r_mn fun t3 ht3 => ?_
  have hpt : t3 ≠ p := hp.ne ht3
  refine z_whl (fun m ρ S' => ∃ left o4 o5 o6, ρ = [some (.ref p), some (.tup (xs.map .str)), some (.int w), some (.ref t3), o4, o5, o6] ∧ S' t3 = some (.lst left) ∧ isTrs left ∧ (nmss left).Perm xs ∧ 1 ≤ left.length ∧ left.length ≤ 13 ∧ m = left.length ∧ PenOk S' p c (n + 6 * (13 - left.length)) ∧ Ext p S S')
    ⟨xs.length, xs.map .str, none, none, none, rfl, up_same, isTrs_strs hx, by rw [nmss_strs], by rw [List.length_map]; exact h1, by rw [List.length_map]; exact h13, (List.length_map _).symm, (hp.new ht3).mono (by omega), Ext.new ht3⟩ ?_
  rintro m ρ S' ⟨left, o4, o5, o6, rfl, hS3, hTr, hPerm, hl1, hl13, rfl, hpn, hE⟩
  repeat' contradiction
  by_cases hlt : (1 : Int) < left.length
  · refine i_D hlt ?_
    repeat' contradiction
    refine draw_ok hD hpn (by omega) (by omega) (by omega) ?_
    intro S2 r2 hp2 hf2 g0 g1
    repeat' contradiction
    refine draw_ok hD hp2 (by omega) (by omega) (by omega) ?_
    intro S3 r3 hp3 hf3 j0 j1
    obtain ⟨j, hj, hjm⟩ := atI_lt (xs := [D.int 0, .int 0, .int 1, .int r2]) j0 j1
    obtain ⟨i, rfl, hi0, hi1⟩ : ∃ i, j = .int i ∧ 0 ≤ i ∧ i ≤ 2 := by
      have all : ∀ d ∈ [D.int 0, .int 0, .int 1, .int r2], ∃ i, d = .int i ∧ 0 ≤ i ∧ i ≤ 2 := by
        simp only [List.forall_mem_cons]
        exact ⟨⟨0, rfl, by decide, by decide⟩, ⟨0, rfl, by decide, by decide⟩, ⟨1, rfl, by decide, by decide⟩, ⟨r2, rfl, g0, by omega⟩, fun _ z => by cases z⟩
      exact all j hjm
    refine p_lstN hj ?_
    have hS3b : S3 t3 = some (.lst left) := (hf3 t3 hpt).trans ((hf2 t3 hpt).trans hS3)
    have hE3 : Ext p S S3 := fun b o hb e => (hf3 b hb).trans ((hf2 b hb).trans (hE b o hb e))
    clear hf2 hf3
    obtain ⟨mm, hmm, hm2, hm4⟩ : ∃ mm : Int, 2 + w * i = mm ∧ 2 ≤ mm ∧ mm ≤ 4 := by
      rcases hw with rfl | rfl
      · exact ⟨_, rfl, by omega, by omega⟩
      · exact ⟨_, rfl, by omega, by omega⟩
    repeat' contradiction
    rw [hmm]
    refine r_mn fun t5 ht5 => ?_
    have ht5p : t5 ≠ p := hp3.ne ht5
    have ht35 : t3 ≠ t5 := fun z => by subst z; rw [hS3b] at ht5; cases ht5
    have ht5S : S t5 = none := hE3.none ht5p ht5
    have hS3c : up S3 t5 (.lst []) t3 = some (.lst left) := up_keep ht5 hS3b
    repeat' contradiction
    obtain ⟨r, hr, hr2, hr4, hrl⟩ : ∃ r : Nat, (if (left.length : Int) < mm then (left.length : Int) else mm) = (r : Int) ∧ 2 ≤ r ∧ r ≤ 4 ∧ r ≤ left.length := by
      refine ⟨(if (left.length : Int) < mm then (left.length : Int) else mm).toNat, ?_, ?_, ?_, ?_⟩
      all_goals split <;> omega
    rw [hr]
    refine ⟨by omega, by omega, ?_⟩
    have hrn : (rngD 0 (r : Int).toNat).length = r := by simp [rngD]
    refine for_ok (fun i ρ S' => ∃ left' parts o6, ρ = [some (.ref p), some (.tup (xs.map .str)), some (.int w), some (.ref t3), some (.int mm), some (.ref t5), o6] ∧ S' t3 = some (.lst left') ∧ S' t5 = some (.lst parts) ∧ isTrs left' ∧ isTrs parts ∧ (nmss left' ++ nmss parts).Perm xs ∧
      left'.length + i = left.length ∧ parts.length = i ∧ PenOk S' p c (n + 6 * (13 - left.length) + 2 + 2 * i) ∧ Ext p S S') (fun i x ρ S' K hx h hK => ⟨trivial, ?_⟩) (fun ρ S' h => ⟨trivial, ?_⟩)
      ⟨left, [], o6, rfl, hS3c, up_same, hTr, by simp [isTrs], by rw [nmss, List.append_nil]; exact hPerm, rfl, rfl, (hp3.new ht5).mono (by omega), hE3.then ht5S⟩
    · obtain ⟨left', parts, o6, rfl, e3, e5, tr3, tr5, hpm, hle, hpl, hpi, hEi⟩ := h
      have hir : i < r := by
        have := (List.getElem?_eq_some_iff.mp hx).1
        omega
      repeat' contradiction
      refine draw_ok hD hpi (by omega) (by omega) (by omega) ?_
      intro S4 r4 hp4 hf4 u0 u1
      have e3a : S4 t3 = some (.lst left') := (hf4 t3 hpt).trans e3
      have e5a : S4 t5 = some (.lst parts) := (hf4 t5 ht5p).trans e5
      have hE4 : Ext p S S4 := fun b o hb e => (hf4 b hb).trans (hEi b o hb e)
      clear hf4
      repeat' contradiction
      refine draw_ok hD hp4 (by omega) (by omega) (by omega) ?_
      intro S5 r5 hp5 hf5 v0 v1
      have e3b : S5 t3 = some (.lst left') := (hf5 t3 hpt).trans e3a
      have e5b : S5 t5 = some (.lst parts) := (hf5 t5 ht5p).trans e5a
      have hE5 : Ext p S S5 := fun b o hb e => (hf5 b hb).trans (hE4 b o hb e)
      clear hf5
      obtain ⟨y, hy, hym⟩ := atI_lt (xs := [D.int r4, .int (-1)]) v0 v1
      obtain ⟨z, rfl, hz⟩ : ∃ z, y = .int z ∧ (z = -1 ∨ (0 ≤ z ∧ z < left'.length)) := by
        rcases List.mem_cons.mp hym with e | e
        · exact ⟨r4, e, .inr ⟨u0, u1⟩⟩
        · exact ⟨-1, List.mem_singleton.mp e, .inl rfl⟩
      refine p_lstN hy ?_
      repeat' contradiction
      refine m_popD e3b hz (by omega) (by omega) fun x rest hxr => ?_
      repeat' contradiction
      refine m_append (xs := parts) (up_get (Ne.symm ht35) e5b) (by rw [sizeLine_eq]; omega) ?_
      refine z_nil (hK _ _ ?_)
      have tr' : isTrs (x :: rest) := isTrs_perm hxr tr3
      rw [isTrs] at tr'
      refine ⟨rest, parts ++ [x], _, rfl, up_get ht35 up_same, up_same, tr'.2, isTrs_app.mpr ⟨tr5, by simp [isTrs, tr'.1]⟩, ?_, ?_, ?_, ?_, ?_⟩
      · rw [nmss_app, nmss, nmss, List.append_nil]
        have h1 := nmss_perm hxr
        rw [nmss] at h1
        refine List.Perm.trans ?_ hpm
        refine List.Perm.trans ?_ (List.Perm.append_right (nmss parts) h1)
        refine List.Perm.trans (List.perm_append_comm) ?_
        rw [List.append_assoc]
        refine List.Perm.trans (List.perm_append_comm) ?_
        rw [List.append_assoc]
      · have := hxr.length_eq
        rw [List.length_cons] at this
        omega
      · rw [List.length_append, List.length_singleton, hpl]
      · exact (hp.upd ht5S (hp.upd ht3 hp5)).mono (by omega)
      · exact (hE5.then ht3).then ht5S
    · obtain ⟨left', parts, o6, rfl, e3, e5, tr3, tr5, hpm, hle, hpl, hpi, hEi⟩ := h
      rw [hrn] at hle hpl hpi
      repeat' contradiction
      refine fork_ok (k := k) hF hL e5 (by omega) (by omega) tr5 ?_
      intro d S6 hsub htd hnd
      have e3c := hsub _ _ e3
      repeat' contradiction
      refine m_append e3c (by rw [sizeLine_eq]; omega) ?_
      refine z_nil ⟨(left' ++ [d]).length, by rw [List.length_append, List.length_singleton]; omega, left' ++ [d], _, _, _, rfl, up_same, isTrs_app.mpr ⟨tr3, by simp [isTrs, htd]⟩, ?_, by rw [List.length_append, List.length_singleton]; omega, by rw [List.length_append, List.length_singleton]; omega, rfl, ?_, ?_⟩
      · rw [nmss_app, nmss, nmss, List.append_nil]
        exact (List.Perm.append_left _ hnd).trans hpm
      · refine (hp.upd ht3 (hpi.sub hsub)).mono ?_
        rw [List.length_append, List.length_singleton]
        omega
      · exact (hEi.trans hsub.ext).then ht3
  · refine i_N hlt ?_
    match left, hl1, hlt with
    | [d], _, _ =>
      repeat' contradiction
      rw [isTrs] at hTr
      rw [nmss, nmss, List.append_nil] at hPerm
      exact q S' d (hpn.mono (by omega)) hE hTr.1 hPerm
    | _ :: _ :: _, _, h => simp at h; omega
end
local macro_rules
  | `(tactic| contradiction) => `(tactic| with_reducible first
    | apply t_emp | apply e_tT | apply e_nT | apply e_nN | (apply e_nL; get_elem_tactic_trivial) | apply r_get2 | apply w_rngD | apply bn_tup3 | apply r_mn2 | apply r_mnS | apply r_sdf)
def bTriples (fd ft fa fh fy : Nat) : List C := [.asg (.name 3) (.call fd [(.var 0), (.cst (.int 5))]), .asg (.name 4) (.call fd [(.var 0), (.bin .add (.var 2) (.cst (.int 1)))]), .asg (.name 6) (.lc (.call ft [(.var 0), (.var 1), (.call fd [(.var 0), (.cst (.int 2))])]) (.name 5) (.rng1 (.cst (.int 2))) none [5]), .asg (.name 7) (.lc (.lc (.var 10) (.name 10) (.seq (.call fa [(.var 1)])) (some (.call fh [(.var 11), (.var 10)])) [10]) (.name 11) (.seq (.var 6)) none [11]), .asg (.name 8) .dnT, .for (.name 5) (.rng1 (.var 4)) [.asg (.name 9) (.ix (.var 7) (.ix (.lst [(.cst (.int 0)), (.bin .mod (.var 5) (.cst (.int 2))), (.cst (.int 0)), (.cst (.int 0)), (.cst (.int 0))]) (.var 3))), .ife (.and (.emp true false (.var 9)) (.or (.cmp .lt (.var 3) (.cst (.int 2))) (.and (.cmp .gt (.var 3) (.cst (.int 2))) (.cmp .gt (.call fd [(.var 0), (.cst (.int 4))]) (.cst (.int 0)))))) [.asg (.sub (.var 8) (.ix (.var 9) (.call fd [(.var 0), (.bi .len [(.var 9)])]))) (.cst (.bl true))] [.ife (.cmp .gt (.bi .len [(.var 1)]) (.cst (.int 2))) [.asg (.sub (.var 8) (.call fy [(.var 0), (.var 1)])) (.cst (.bl true))] []]], .ret (.bi .tupl [(.sortDT 8)])]
/-! ### a dict whose keys are triples -/
def kT (t : Tri) : List Key := [.inr t.1, .inr t.2.1, .inr t.2.2]
theorem kT_inj {t u : Tri} (h : kT t = kT u) : t = u := by
  unfold kT at h
  simp only [List.cons.injEq, Sum.inr.injEq, and_true] at h
  exact Prod.ext h.1 (Prod.ext h.2.1 h.2.2)
abbrev kF (F : List Tri) : List (List Key × D) := F.map fun t => (kT t, .bl true)
theorem kF_put {F : List Tri} {t : Tri} : putD (kF F) (kT t) (.bl true) = kF (if t ∈ F then F else F ++ [t]) := by
  unfold putD
  by_cases h : t ∈ F
  · have hany : ((kF F).any fun kv => decide (kv.1 = kT t)) = true := List.any_eq_true.mpr ⟨(kT t, .bl true), List.mem_map.mpr ⟨t, h, rfl⟩, decide_eq_true rfl⟩
    rw [if_pos h, if_pos hany]
    show List.map _ (List.map _ F) = List.map _ F
    rw [List.map_map]
    refine List.map_congr_left fun u _ => ?_
    by_cases e : kT u = kT t
    · show (if kT u = kT t then _ else _) = _
      exact if_pos e
    · show (if kT u = kT t then _ else _) = _
      rw [if_neg e]
  · rw [if_neg h, if_neg]
    · show kF F ++ [(kT t, .bl true)] = _
      rw [kF, kF, List.map_append]
      rfl
    · intro z
      obtain ⟨p, hp, e⟩ := List.any_eq_true.mp z
      obtain ⟨u, hu, rfl⟩ := List.mem_map.mp hp
      exact h (kT_inj (of_decide_eq_true e) ▸ hu)
section
variable {Fw' : Fw} {ρ : DP.Env} {S : Sto} {Q : PR} {a : Addr}
theorem j_dnT (q : Q (.n (.dT [])) S) : wE Fw' .dnT ρ S Q := q
theorem y_kF {F : List Tri} {t : Tri} {Qs : Sto → Prop} (h : S a = some (.dT (kF F))) (hl : F.length < sizeLine) (q : Qs (up S a (.dT (kF (if t ∈ F then F else F ++ [t]))))) : setW (.v (.ref a)) (.v (triD t)) (.bl true) S Qs := by
  show setW (.v (.ref a)) (.v (.tup ((kT t).map keyD))) (.bl true) S Qs
  refine ⟨kF F, kT t, rfl, h, by rw [List.length_map]; exact hl, ?_⟩
  rw [kF_put]
  exact q
theorem j_sortDT {i : Nat} {F : List Tri} (h1 : ρ[i]? = some (some (.ref a))) (h2 : S a = some (.dT (kF F))) (q : ∀ T : List Tri, T.Perm F → Q (.n (.lst (T.map triD))) S) : wE Fw' (.sortDT i) ρ S Q := by
  have e : ((kF F).map fun kv => D.tup (kv.1.map keyD)) = (F.map nm3).map tupS := by
    rw [List.map_map, List.map_map]; rfl
  have z : biW .sorted [.n (.lst ((F.map nm3).map tupS))] S fun _ _ => True := b_sortT (fun l hl z => by obtain ⟨t, _, rfl⟩ := List.mem_map.mp hl; cases z) trivial
  obtain ⟨ds, e1, _, al, so, _, _⟩ := z
  have e1 : (F.map nm3).map tupS = ds := Option.some.inj e1
  subst e1
  refine ⟨a, kF F, h1, h2, by rw [e]; exact al, by rw [e]; exact so, ?_⟩
  rw [e, sortD_tups]
  obtain ⟨T', hp, e2⟩ := tri_perm (sortL_perm (F.map nm3))
  rw [e2, ← map_tri]
  exact q T' hp
end
theorem rng_int {n : Nat} {i : Nat} {x : D} (h : (rngD 0 n)[i]? = some x) : ∃ y : Int, x = .int y := by
  have h := List.mem_of_getElem? h
  unfold rngD at h
  obtain ⟨j, _, e⟩ := List.mem_map.mp h
  exact ⟨_, e.symm⟩
def Pool (S : Sto) (p : Addr) (xs : List Str) (a : Addr) : Prop := ∃ T : List Tri, S a = some (.lst (T.map triD)) ∧ (∀ t ∈ T, okT xs t) ∧ T.length ≤ 5000 ∧ a ≠ p
theorem Pool.ext {S S' : Sto} {p a : Addr} {xs : List Str} (h : Pool S p xs a) (e : Ext p S S') : Pool S' p xs a := let ⟨T, h1, h2, h3, h4⟩ := h; ⟨T, e _ _ h4 h1, h2, h3, h4⟩
theorem allOf_5000 {xs : List Str} (h : xs.length ≤ 13) : (allOf xs).length ≤ 5000 := by
  have h1 := allOf_len xs
  have h2 : xs.length * (xs.length * xs.length) ≤ 13 * (13 * 13) := Nat.mul_le_mul h (Nat.mul_le_mul h h)
  omega
section
variable {B : List Fn} {f fl fb fd ft ff fle fa fh fy k : Nat} {S : Sto} {Q : PR}
theorem triples_ok (hT : B[f]? = some ⟨3, 12, bTriples fd ft fa fh fy⟩) (hD : B[fd]? = some ⟨2, 8, bDraw⟩) (hTr : B[ft]? = some ⟨3, 7, bTree fd ff⟩) (hF : B[ff]? = some ⟨1, 5, bFork fle⟩) (hLe : B[fle]? = some ⟨1, 1, bLeast⟩) (hA : B[fa]? = some ⟨1, 5, bAllOf⟩)
    (hH : B[fh]? = some ⟨2, 3, bHasL fl⟩) (hL : B[fl]? = some ⟨1, 4, bLots fb⟩) (hB : B[fb]? = some ⟨1, 4, bBelow⟩) (hY : B[fy]? = some ⟨2, 5, bAnyTri fd⟩) {p c : Addr} {n m : Nat} {xs : List Str} (hp : PenOk S p c n) (hn : n + 400 < 60000) (hx : 3 ≤ xs.length) (hx13 : xs.length ≤ 13) (hnd : xs.Nodup) (hw : ∀ x ∈ xs, Wd x) (hm : m ≤ 12)
    (q : ∀ S' (T : List Tri), PenOk S' p c (n + 400) → Ext p S S' → T.Nodup → T.length ≤ m → (∀ t ∈ T, okT xs t) → Q (.v (tris T)) S') : W B (k + 4) f [.ref p, tupS xs, nI m] S Q := by
  show W B (k + 4) f [.ref p, .tup (xs.map .str), .int (m : Nat)] S Q
  refine enter (b := ⟨3, 12, bTriples fd ft fa fh fy⟩) (ρ := [some (.ref p), some (.tup (xs.map .str)), some (.int (m : Nat)), none, none, none, none, none, none, none, none, none]) hT rfl rfl ?_
  show wSs (W B (k + 3)) (bTriples fd ft fa fh fy) _ _ _
  delta bTriples
  have shr : ∀ x ∈ xs, Shrt x := fun x hx => (hw x hx).1.sh
  refine z_set ?_
  repeat' contradiction
  refine draw_ok hD hp (by omega) (by omega) (by omega) fun S1 way hp1 hf1 w0 w1 => ?_
  have hE1 : Ext p S S1 := fun b o hb e => (hf1 b hb).trans e
  repeat' contradiction
  refine draw_ok hD hp1 (by omega) (by omega) (by omega) fun S2 many hp2 hf2 m0 m1 => ?_
  have hE2 : Ext p S S2 := fun b o hb e => (hf2 b hb).trans (hE1 b o hb e)
  clear hf1 hf2
  obtain ⟨mn, rfl⟩ : ∃ mn : Nat, many = mn := ⟨many.toNat, by omega⟩
  refine r_mv ?_
  refine z_set ?_
  refine r_lc ?_
  refine w_rng1 ?_
  repeat' contradiction
  refine ⟨by omega, by omega, ?_⟩
  refine lc_ok (fun i acc S' => ∃ ds : List D, acc = ds ∧ ds.length = i ∧ (∀ d ∈ ds, isTr d ∧ (nms d).Perm xs) ∧ PenOk S' p c (n + 2 + 101 * i) ∧ Ext p S S') ?_ ?_ ⟨[], rfl, rfl, fun d hd => by simp at hd, hp2.mono (by omega), hE2⟩
  · intro i x acc S' K hx' ⟨ds, ha, hi, hds, hpn, hE⟩ next
    refine ⟨trivial, ?_⟩
    have hil : i < 2 := by
      have := (List.getElem?_eq_some_iff.mp hx').1
      simpa [rngD] using this
    subst ha
    repeat' contradiction
    refine draw_ok hD hpn (by omega) (by omega) (by omega) fun S4 r hp4 hf4 r0 r1 => ?_
    repeat' contradiction
    refine treeT_ok hTr hD hF hLe hp4 (by omega) (by omega) hw (by omega) hx13 fun S5 d hp5 hE5 hd1 hd2 => ?_
    repeat' contradiction
    refine next _ _ ⟨acc ++ [d], rfl, by simp [hi], fun e he => ?_, hp5.mono (by omega), fun b o hb e => hE5 b o hb ((hf4 b hb).trans (hE b o hb e))⟩
    rcases List.mem_append.mp he with he | he
    · exact hds e he
    · rw [List.mem_singleton.mp he]; exact ⟨hd1, hd2⟩
  intro acc S3 ⟨ds, ha, hi, hds, hp3, hE3⟩
  refine ⟨trivial, ?_⟩
  subst ha
  rw [show (rngD 0 (2 : Int).toNat).length = 2 by simp [rngD]] at hp3 hi
  refine r_mn fun u6 hu6 => ?_
  have hu6p := hp3.ne hu6
  have eu6 : up S3 u6 (.lst acc) u6 = some (.lst acc) := up_same
  have hp4 := hp3.new (o := .lst acc) hu6
  have hE4 : Ext p S (up S3 u6 (.lst acc)) := hE3.then (hE3.none hu6p hu6)
  generalize up S3 u6 (.lst acc) = S4 at eu6 hp4 hE4
  clear hp3 hE3 hp1 hp2 hE1 hE2
  refine z_set ?_
  refine r_lc ?_
  refine w_seq ?_
  repeat' contradiction
  refine lc_ok (fun i bcc S' => ∃ as : List Addr, bcc = as.map .ref ∧ as.length = i ∧ (∀ a ∈ as, Pool S' p xs a) ∧ Sub S4 S') ?_ ?_ ⟨[], rfl, rfl, fun d hd => by simp at hd, Sub.rfl⟩
  · intro i d bcc S' K hd ⟨as, ha, hi, has, hsub⟩ next
    refine ⟨hsub _ _ eu6, ?_⟩
    subst ha
    have hdm := List.mem_of_getElem? hd
    obtain ⟨tr, hpm⟩ := hds d hdm
    have hsz : sz d ≤ 60 := by
      have := sz_nms d tr
      rw [hpm.length_eq] at this
      omega
    refine bn_name ?_
    repeat' contradiction
    refine all_of_ok (k := k + 2) hA hx13 fun T S5 hT' s5 => ?_
    refine q_n ?_
    have hTok : ∀ t ∈ T, okT xs t := fun t ht => allOf_ok (hT'.subset ht)
    have hTl : T.length ≤ 5000 := by rw [hT'.length_eq]; exact allOf_5000 hx13
    refine lc_ok (fun j cc S' => ∃ U : List Tri, cc = U.map triD ∧ U.length ≤ j ∧ (∀ t ∈ U, okT xs t) ∧ Sub S5 S') ?_ ?_ ⟨[], rfl, Nat.le_refl _, fun t ht => by simp at ht, Sub.rfl⟩
    · intro j y cc S6 K2 hy ⟨U, hc, hU1, hU2, s6⟩ next2
      subst hc
      obtain ⟨t, ht, rfl⟩ := tris_at hy
      have hto := hTok t (List.mem_of_getElem? ht)
      refine ⟨trivial, bn_name ?_⟩
      repeat' contradiction
      refine hasL_ok (k := k) hH hL hB tr hsz (fun x hx => shr x (hto.1 x hx)) fun S7 s7 => ?_
      refine x_tru rfl ?_
      cases h : hasT d t with
      | true =>
        refine i_T ?_
        repeat' contradiction
        refine next2 _ _ ⟨U ++ [t], by rw [List.map_append]; rfl, by rw [List.length_append, List.length_singleton]; omega, fun v hv => ?_, s6.trans s7⟩
        rcases List.mem_append.mp hv with hv | hv
        · exact hU2 v hv
        · rw [List.mem_singleton.mp hv]; exact hto
      | false =>
        refine i_F ?_
        exact next2 none _ ⟨U, by simp, by omega, hU2, s6.trans s7⟩
    · intro cc S6 ⟨U, hc, hU1, hU2, s6⟩
      subst hc
      refine ⟨trivial, ?_⟩
      refine r_mn fun a ha => ?_
      have hS6 : Sub S4 S6 := hsub.trans (s5.trans s6)
      have hap : a ≠ p := (hp4.sub hS6).ne ha
      refine next _ _ ⟨as ++ [a], by rw [List.map_append]; rfl, by rw [List.length_append, List.length_singleton]; omega, fun b hb => ?_, hS6.then (hS6.none ha)⟩
      rcases List.mem_append.mp hb with hb | hb
      · obtain ⟨V, v1, v2, v3, v4⟩ := has b hb
        exact ⟨V, up_keep ha (s6 _ _ (s5 _ _ v1)), v2, v3, v4⟩
      · rw [List.mem_singleton.mp hb]
        rw [List.length_map] at hU1
        exact ⟨U, up_same, hU2, by omega, hap⟩
  intro bcc S7 ⟨as, ha, hias, has, hsub⟩
  refine ⟨hsub _ _ eu6, ?_⟩
  subst ha
  rw [hi] at hias
  have hp7 := hp4.sub hsub
  have hE7 : Ext p S S7 := fun b o hb e => hsub _ _ (hE4 b o hb e)
  refine r_mn fun u7 hu7 => ?_
  have hu7p := hp7.ne hu7
  have eu7 : up S7 u7 (.lst (as.map .ref)) u7 = some (.lst (as.map .ref)) := up_same
  have hp8 := hp7.new (o := .lst (as.map .ref)) hu7
  have hE8 : Ext p S (up S7 u7 (.lst (as.map .ref))) := hE7.then (hE7.none hu7p hu7)
  have has8 : ∀ a ∈ as, Pool (up S7 u7 (.lst (as.map .ref))) p xs a := fun a h => let ⟨T, h1, h2, h3, h4⟩ := has a h; ⟨T, up_keep hu7 h1, h2, h3, h4⟩
  generalize up S7 u7 (.lst (as.map .ref)) = S8 at eu7 hp8 hE8 has8
  clear hp7 hE7 has hsub hp4 hE4 eu6
  refine z_set ?_
  refine j_dnT ?_
  refine r_mn fun u8 hu8 => ?_
  have hu8p := hp8.ne hu8
  have hu8c : u8 ≠ c := fun z => by subst z; obtain ⟨_, ns, _, _, _, e, _⟩ := hp8; rw [hu8] at e; cases e
  have eu8 : up S8 u8 (.dT []) u8 = some (.dT (kF [])) := up_same
  have hp9 := hp8.new (o := .dT []) hu8
  have hE9 : Ext p S8 (up S8 u8 (.dT [])) := Ext.new hu8
  refine z_for ?_
  refine w_rng1 ?_
  repeat' contradiction
  refine ⟨by omega, by omega, ?_⟩
  have hrl : (rngD 0 ((mn : Nat) : Int).toNat).length = mn := by simp [rngD]
  refine for_ok (fun i ρ V => ∃ (F : List Tri) (o5 o9 : Option D), ρ = [some (.ref p), some (.tup (xs.map .str)), some (.int (m : Nat)), some (.int way), some (.int (mn : Nat)), o5, some (.ref u6), some (.ref u7), some (.ref u8), o9, none, none] ∧ V u8 = some (.dT (kF F)) ∧ F.Nodup ∧ F.length ≤ i ∧ (∀ t ∈ F, okT xs t) ∧ PenOk V p c (n + 220 + 4 * i) ∧ Ext p S8 V) (fun i x ρ V Kn hx' h hKn => ?_) (fun ρ V h => ?_)
    ⟨[], _, _, rfl, eu8, List.Pairwise.nil, Nat.le_refl _, fun t ht => by simp at ht, hp9.mono (by omega), hE9⟩
  · obtain ⟨F, o5, o9, rfl, eV8, hFn, hFl, hFo, hpV, hEV⟩ := h
    obtain ⟨y, rfl⟩ := rng_int hx'
    have hi12 : i < mn := by
      have := (List.getElem?_eq_some_iff.mp hx').1
      omega
    have eV7 := hEV _ _ hu7p eu7
    refine ⟨trivial, bn_name ?_⟩
    refine z_set ?_
    repeat' contradiction
    have fm := fmod_nn (i := y) 2 (by decide)
    obtain ⟨j, hj, hjm⟩ := atI_lt (xs := [D.int 0, .int (y.fmod 2), .int 0, .int 0, .int 0]) w0 w1
    obtain ⟨z, rfl, hz0, hz1⟩ : ∃ z, j = .int z ∧ 0 ≤ z ∧ z < 2 := by
      have all : ∀ d ∈ [D.int 0, .int (y.fmod 2), .int 0, .int 0, .int 0], ∃ i, d = .int i ∧ 0 ≤ i ∧ i < 2 := by
        simp only [List.forall_mem_cons]
        exact ⟨⟨0, rfl, by decide, by decide⟩, ⟨_, rfl, fm.1, fm.2⟩, ⟨0, rfl, by decide, by decide⟩, ⟨0, rfl, by decide, by decide⟩, ⟨0, rfl, by decide, by decide⟩, fun _ z => by cases z⟩
      exact all j hjm
    refine p_lstN hj ?_
    obtain ⟨da, hda, hdam⟩ := atI_lt (xs := as.map D.ref) (i := z) hz0 (by rw [List.length_map, hias]; omega)
    obtain ⟨pa, hpa, rfl⟩ := List.mem_map.mp hdam
    refine p_lst eV7 hda ?_
    refine r_mv ?_
    obtain ⟨T, eT, hTo, hTl, hpap⟩ := (has8 pa hpa).ext hEV
    show wSs _ _ [some (.ref p), some (.tup (xs.map .str)), some (.int (m : Nat)), some (.int way), some (.int (mn : Nat)), some (.int y), some (.ref u6), some (.ref u7), some (.ref u8), some (.ref pa), none, none] _ _
    -- one more is put into the dict
    have put : ∀ (V2 : Sto) (n2 : Nat) (t : Tri), V2 u8 = some (.dT (kF F)) → PenOk V2 p c n2 → n2 ≤ n + 220 + 4 * i + 4 → Ext p S8 V2 → okT xs t → setW (.v (.ref u8)) (.v (triD t)) (.bl true) V2 fun S3 => Kn [some (.ref p), some (.tup (xs.map .str)), some (.int (m : Nat)), some (.int way), some (.int (mn : Nat)), some (.int y), some (.ref u6), some (.ref u7), some (.ref u8), some (.ref pa), none, none] S3 := fun V2 n2 t e8 hp2 hn2 hE2 ht => by
      refine y_kF e8 (lineN _ (by omega)) ?_
      refine hKn _ _ ⟨_, _, _, rfl, up_same, ?_, ?_, fun u hu => ?_, (hp8.upd hu8 hp2).mono (by omega), fun b o hb e => (up_ne (fun z => by rw [z, hu8] at e; cases e)).trans (hE2 b o hb e)⟩
      · split
        · exact hFn
        · rename_i h
          exact List.nodup_append.mpr ⟨hFn, by simp, fun u hu v hv => by rw [List.mem_singleton.mp hv]; intro z; subst z; exact h hu⟩
      · split
        · omega
        · rw [List.length_append, List.length_singleton]; omega
      · split at hu
        · exact hFo u hu
        · rcases List.mem_append.mp hu with hu | hu
          · exact hFo u hu
          · rw [List.mem_singleton.mp hu]; exact ht
    have thenB : ∀ (V2 : Sto) (n2 : Nat), V2 u8 = some (.dT (kF F)) → V2 pa = some (.lst (T.map triD)) → PenOk V2 p c n2 → n2 ≤ n + 220 + 4 * i + 1 → Ext p S8 V2 → T ≠ [] →
        wSs (W B (k + 3)) [.asg (.sub (.var 8) (.ix (.var 9) (.call fd [(.var 0), (.bi .len [(.var 9)])]))) (.cst (.bl true))] [some (.ref p), some (.tup (xs.map .str)), some (.int (m : Nat)), some (.int way), some (.int (mn : Nat)), some (.int y), some (.ref u6), some (.ref u7), some (.ref u8), some (.ref pa), none, none] V2 { nx := fun ρ' S' => wSs (W B (k + 3)) [] ρ' S' { nx := Kn, rt := Q, bk := Kn, ct := Kn }, rt := Q, bk := Kn, ct := Kn } := fun V2 n2 e8 ep hp2 hn2 hE2 hne => by
      have hTpos : 0 < T.length := List.length_pos_iff.mpr hne
      refine z_sub ?_
      repeat' contradiction
      rw [List.length_map]
      refine draw_ok hD hp2 (by omega) (by omega) (by omega) fun V3 r hp3 hf3 r0 r1 => ?_
      obtain ⟨dt, hdt, hdtm⟩ := atI_lt (xs := T.map triD) (i := r) r0 (by rw [List.length_map]; exact r1)
      obtain ⟨t, ht, rfl⟩ := List.mem_map.mp hdtm
      refine p_lst ((hf3 pa hpap).trans ep) hdt ?_
      exact put V3 _ t ((hf3 u8 hu8p).trans e8) hp3 (by omega) (fun b o hb e => (hf3 b hb).trans (hE2 b o hb e)) (hTo t ht)
    have elseB : ∀ (V2 : Sto) (n2 : Nat), V2 u8 = some (.dT (kF F)) → PenOk V2 p c n2 → n2 ≤ n + 220 + 4 * i + 1 → Ext p S8 V2 →
        wSs (W B (k + 3)) [.ife (.cmp .gt (.bi .len [(.var 1)]) (.cst (.int 2))) [.asg (.sub (.var 8) (.call fy [(.var 0), (.var 1)])) (.cst (.bl true))] []] [some (.ref p), some (.tup (xs.map .str)), some (.int (m : Nat)), some (.int way), some (.int (mn : Nat)), some (.int y), some (.ref u6), some (.ref u7), some (.ref u8), some (.ref pa), none, none] V2 { nx := fun ρ' S' => wSs (W B (k + 3)) [] ρ' S' { nx := Kn, rt := Q, bk := Kn, ct := Kn }, rt := Q, bk := Kn, ct := Kn } := fun V2 n2 e8 hp2 hn2 hE2 => by
      repeat' contradiction
      rw [List.length_map, decide_eq_true (by omega)]
      refine i_T ?_
      refine z_sub ?_
      repeat' contradiction
      refine any_tri_ok (k := k + 1) hY hD hp2 (by omega) hx hx13 hnd fun V3 t hp3 hE3 ht => ?_
      refine put V3 _ t (hE3 _ _ hu8p e8) hp3 (by omega) (fun b o hb e => hE3 b o hb (hE2 b o hb e)) ht
    repeat' contradiction
    by_cases hT0 : T = []
    · subst hT0
      rw [show ((([] : List Tri).map triD).isEmpty) = true from rfl]
      refine i_nT ?_
      refine i_F ?_
      exact elseB V _ eV8 hpV (by omega) hEV
    have hT1 : (T.map triD).isEmpty = false := by
      cases T with
      | nil => exact absurd rfl hT0
      | cons _ _ => rfl
    rw [hT1]
    refine i_nF ?_
    repeat' contradiction
    by_cases h2 : way < 2
    · rw [decide_eq_true h2]
      refine i_T ?_
      refine i_T ?_
      exact thenB V _ eV8 eT hpV (by omega) hEV hT0
    rw [decide_eq_false h2]
    refine i_F ?_
    repeat' contradiction
    by_cases h3 : way > 2
    rotate_left
    · rw [decide_eq_false h3]
      refine i_F ?_
      refine i_F ?_
      exact elseB V _ eV8 hpV (by omega) hEV
    rw [decide_eq_true h3]
    refine i_T ?_
    repeat' contradiction
    refine draw_ok hD hpV (by omega) (by omega) (by omega) fun V3 r hp3 hf3 r0 r1 => ?_
    repeat' contradiction
    have e83 := (hf3 u8 hu8p).trans eV8
    have hE3 : Ext p S8 V3 := fun b o hb e => (hf3 b hb).trans (hEV b o hb e)
    by_cases h4 : r > 0
    · rw [decide_eq_true h4]
      refine i_T ?_
      exact thenB V3 _ e83 ((hf3 pa hpap).trans eT) hp3 (by omega) hE3 hT0
    · rw [decide_eq_false h4]
      refine i_F ?_
      exact elseB V3 _ e83 hp3 (by omega) hE3
  · obtain ⟨F, o5, o9, rfl, eV8, hFn, hFl, hFo, hpV, hEV⟩ := h
    rw [hrl] at hFl hpV
    refine ⟨trivial, ?_⟩
    refine z_ret ?_
    repeat' contradiction
    refine j_sortDT rfl eV8 fun T hp => ?_
    repeat' contradiction
    refine q V T (hpV.mono (by omega)) (fun b o hb e => hEV b o hb (hE8 b o hb e)) (hp.nodup_iff.mpr hFn) (by rw [hp.length_eq]; omega) fun t ht => hFo t (hp.subset ht)
end
end DP
set_option maxRecDepth 100000
set_option maxHeartbeats 1000000
namespace DP
open PySem L2
local macro_rules
  | `(tactic| get_elem_tactic_trivial) => `(tactic| first
    | with_reducible assumption
    | exact up_same
    | (refine up_keep (by with_reducible assumption) ?_; get_elem_tactic_trivial))
local macro_rules
  | `(tactic| decreasing_trivial) => `(tactic| first
    | with_reducible assumption
    | (with_unfolding_all exact Nat.le_of_ble_eq_true rfl)
    | omega
    | exact shrt_of (by with_unfolding_all rfl)
    | exact sh_cut (by with_reducible assumption) _ _
    | exact cmul_l (by omega) (by omega)
    | exact cmul_r (by omega) (by omega)
    | exact pow_lit (by decide) (by decide) (by decide))
local macro_rules
  | `(tactic| contradiction) => `(tactic| with_reducible first
    | assumption | (apply r_var; with_unfolding_all rfl)
    | apply r_cst | apply r_glo | apply r_tup | apply r_lst | apply r_dK | apply r_bin | apply r_neg | apply r_cmp | apply r_chn
    | apply r_not | apply r_and | apply r_or | apply r_ite | apply r_ix | apply r_sl | apply r_rev | apply r_isi | apply r_bi | apply r_me | apply r_call | apply r_lc
    | apply r_es0 | apply r_es1 | apply r_rs0 | apply r_rs1 | apply r_o0 | apply r_o1 | apply r_part | apply r_ot0 | apply r_ot1 | apply r_mv
    | apply t_not | apply t_and | apply t_or | apply t_cmp | apply t_chn | (apply t_var; with_unfolding_all rfl) | apply t_isi | apply t_bi | apply t_me | apply t_call | apply t_ix
    | (apply x_len; with_unfolding_all exact Nat.le_of_ble_eq_true rfl) | (apply x_ty; with_unfolding_all exact ⟨_, rfl⟩) | (apply x_tyL; get_elem_tactic_trivial; rfl)
    | apply x_bl | apply x_int | (apply x_tru; with_unfolding_all rfl) | (apply x_isi; with_unfolding_all rfl)
    | apply i_T | apply i_F | apply i_nT | apply i_nF
    | apply o_addI | (apply o_addS; decreasing_trivial) | (apply o_addSS; decreasing_trivial; decreasing_trivial) | (apply o_addT; decreasing_trivial) | (apply o_addTT; decreasing_trivial; decreasing_trivial) | apply o_sub
    | (apply o_mulI; decreasing_trivial) | (apply o_mulS; decreasing_trivial) | (apply o_fdiv; decreasing_trivial) | (apply o_mod; decreasing_trivial) | (apply o_pow; decreasing_trivial)
    | (apply o_addNN; decreasing_trivial) | (apply o_addRN; get_elem_tactic_trivial; decreasing_trivial) | (apply o_addNR; get_elem_tactic_trivial; decreasing_trivial) | (apply o_addRR; get_elem_tactic_trivial; get_elem_tactic_trivial; decreasing_trivial)
    | apply c_eqI | apply c_eqS | apply c_eqB | apply c_neI | apply c_neS | apply c_neB | apply c_ltI | apply c_ltS | apply c_gtI | apply c_leI | apply c_geI | apply c_inS | apply c_ninS
    | (apply p_str; decreasing_trivial; with_unfolding_all rfl) | (apply p_tup; with_unfolding_all rfl) | (apply p_lstN; with_unfolding_all rfl) | (apply p_lst; get_elem_tactic_trivial; with_unfolding_all rfl) | (apply p_dK; get_elem_tactic_trivial; with_unfolding_all rfl)
    | (apply l_strS; decreasing_trivial) | (apply l_str; decreasing_trivial) | apply l_tup | apply l_fz | apply l_lstN | (apply l_lst; get_elem_tactic_trivial) | apply v_tup | apply v_lstN | (apply v_lst; get_elem_tactic_trivial)
    | (apply b_lenS; decreasing_trivial) | apply b_lenT | apply b_lenN | (apply b_lenL; get_elem_tactic_trivial) | apply b_abs | apply b_intI | apply b_intB | apply b_tuplN | apply b_tuplT | (apply b_tuplL; get_elem_tactic_trivial) | apply b_listN | apply b_listT | (apply b_listL; get_elem_tactic_trivial)
    | apply z_nil | apply z_exp | apply z_set | apply z_ret | apply z_ife | apply z_for | apply z_brk | apply z_cnt | apply z_sub
    | apply bn_name | (apply q_str; decreasing_trivial) | apply q_tup | apply q_fz | apply q_n | (apply q_ref; get_elem_tactic_trivial) | apply w_seq | apply w_rng1 | apply w_rng2)
local macro_rules
  | `(tactic| contradiction) => `(tactic| with_reducible first
    | (apply p_cells; get_elem_tactic_trivial) | (apply p_at; get_elem_tactic_trivial) | (apply p_left; get_elem_tactic_trivial)
    | (apply y_at; get_elem_tactic_trivial) | (apply y_left; get_elem_tactic_trivial))
local macro_rules
  | `(tactic| contradiction) => `(tactic| with_reducible first
    | apply r_lc2 | apply w_enum | apply e_n | apply c_isnotB | apply b_min | apply bn_tup2)
/-! ### triples shown, looked for -/
theorem spT_of {ps : List PyData} (h : Sp (.list ps)) : Sp (.tuple ps) := by
  obtain ⟨h1, h2, h3, h4⟩ := h
  refine ⟨?_, ?_, ?_, ?_⟩
  · simpa only [PyData.showable] using h1
  · simpa only [PyData.depth] using h2
  · simpa only [PyData.canLay0] using h3
  · simpa only [wt] using h4
section
variable {S : Sto} {Q : PR} {t : Tri} {T : List Tri}
theorem lots3 {T : List Tri} (h : ∀ t ∈ T, ∀ x ∈ nm3 t, Shrt x) : ∀ l ∈ T.map nm3, ∀ x ∈ l, Shrt x := fun l hl => by
  obtain ⟨t, ht, rfl⟩ := List.mem_map.mp hl
  exact h t ht
theorem sp_tris (hT : ∀ t ∈ T, ∀ x ∈ nm3 t, Shrt x) (hl : T.length ≤ 100) : Sp (encD (tris T)) := by
  have h := sp_lots (ls := T.map nm3) (fun l hl => ⟨lots3 hT l hl, by obtain ⟨t, _, rfl⟩ := List.mem_map.mp hl; show 3 ≤ 100; decide⟩) (by rw [List.length_map]; exact hl)
  rw [tris, encD, map_tri]
  exact spT_of h
theorem pure_tris (T : List Tri) : pureD (tris T) = true := by
  rw [tris, pureD, map_tri]
  exact pureDs_tups _
end
theorem rng_at {n i : Nat} {x : D} (h : (rngD 0 n)[i]? = some x) : i < n ∧ x = .int (i : Nat) := by
  unfold rngD at h
  rw [List.getElem?_map, Option.map_eq_some_iff] at h
  obtain ⟨j, hj, rfl⟩ := h
  obtain ⟨hi, e⟩ := List.getElem?_eq_some_iff.mp hj
  rw [List.length_range] at hi
  rw [List.getElem_range] at e
  subst e
  exact ⟨hi, by simp⟩
theorem nmT_ok {xs : List Str} {T : List Tri} (h : ∀ t ∈ T, okT xs t) : ∀ x ∈ nmT T, x ∈ xs := fun x hx => by
  obtain ⟨t, ht, e⟩ := nmT_mem.mp hx
  exact (h t ht).1 x e
end DP
set_option maxRecDepth 100000
set_option maxHeartbeats 1000000
namespace DP
open PySem L2
local macro_rules
  | `(tactic| get_elem_tactic_trivial) => `(tactic| first
    | with_reducible assumption
    | exact up_same
    | (refine up_keep (by with_reducible assumption) ?_; get_elem_tactic_trivial))
local macro_rules
  | `(tactic| decreasing_trivial) => `(tactic| first
    | with_reducible assumption
    | (with_unfolding_all exact Nat.le_of_ble_eq_true rfl)
    | omega
    | exact shrt_of (by with_unfolding_all rfl)
    | exact sh_cut (by with_reducible assumption) _ _
    | exact cmul_l (by omega) (by omega)
    | exact cmul_r (by omega) (by omega)
    | exact pow_lit (by decide) (by decide) (by decide))
local macro_rules
  | `(tactic| contradiction) => `(tactic| with_reducible first
    | assumption | (apply r_var; with_unfolding_all rfl)
    | apply r_cst | apply r_glo | apply r_tup | apply r_lst | apply r_dK | apply r_bin | apply r_neg | apply r_cmp | apply r_chn
    | apply r_not | apply r_and | apply r_or | apply r_ite | apply r_ix | apply r_sl | apply r_rev | apply r_isi | apply r_bi | apply r_me | apply r_call | apply r_lc
    | apply r_es0 | apply r_es1 | apply r_rs0 | apply r_rs1 | apply r_o0 | apply r_o1 | apply r_part | apply r_ot0 | apply r_ot1 | apply r_mv
    | apply t_not | apply t_and | apply t_or | apply t_cmp | apply t_chn | (apply t_var; with_unfolding_all rfl) | apply t_isi | apply t_bi | apply t_me | apply t_call | apply t_ix
    | (apply x_len; with_unfolding_all exact Nat.le_of_ble_eq_true rfl) | (apply x_ty; with_unfolding_all exact ⟨_, rfl⟩) | (apply x_tyL; get_elem_tactic_trivial; rfl)
    | apply x_bl | apply x_int | (apply x_tru; with_unfolding_all rfl) | (apply x_isi; with_unfolding_all rfl)
    | apply i_T | apply i_F | apply i_nT | apply i_nF
    | apply o_addI | (apply o_addS; decreasing_trivial) | (apply o_addSS; decreasing_trivial; decreasing_trivial) | (apply o_addT; decreasing_trivial) | (apply o_addTT; decreasing_trivial; decreasing_trivial) | apply o_sub
    | (apply o_mulI; decreasing_trivial) | (apply o_mulS; decreasing_trivial) | (apply o_fdiv; decreasing_trivial) | (apply o_mod; decreasing_trivial) | (apply o_pow; decreasing_trivial)
    | (apply o_addNN; decreasing_trivial) | (apply o_addRN; get_elem_tactic_trivial; decreasing_trivial) | (apply o_addNR; get_elem_tactic_trivial; decreasing_trivial) | (apply o_addRR; get_elem_tactic_trivial; get_elem_tactic_trivial; decreasing_trivial)
    | apply c_eqI | apply c_eqS | apply c_eqB | apply c_neI | apply c_neS | apply c_neB | apply c_ltI | apply c_ltS | apply c_gtI | apply c_leI | apply c_geI | apply c_inS | apply c_ninS
    | (apply p_str; decreasing_trivial; with_unfolding_all rfl) | (apply p_tup; with_unfolding_all rfl) | (apply p_lstN; with_unfolding_all rfl) | (apply p_lst; get_elem_tactic_trivial; with_unfolding_all rfl) | (apply p_dK; get_elem_tactic_trivial; with_unfolding_all rfl)
    | (apply l_strS; decreasing_trivial) | (apply l_str; decreasing_trivial) | apply l_tup | apply l_fz | apply l_lstN | (apply l_lst; get_elem_tactic_trivial) | apply v_tup | apply v_lstN | (apply v_lst; get_elem_tactic_trivial)
    | (apply b_lenS; decreasing_trivial) | apply b_lenT | apply b_lenN | (apply b_lenL; get_elem_tactic_trivial) | apply b_abs | apply b_intI | apply b_intB | apply b_tuplN | apply b_tuplT | (apply b_tuplL; get_elem_tactic_trivial) | apply b_listN | apply b_listT | (apply b_listL; get_elem_tactic_trivial)
    | apply z_nil | apply z_exp | apply z_set | apply z_ret | apply z_ife | apply z_for | apply z_brk | apply z_cnt | apply z_sub
    | apply bn_name | (apply q_str; decreasing_trivial) | apply q_tup | apply q_fz | apply q_n | (apply q_ref; get_elem_tactic_trivial) | apply w_seq | apply w_rng1 | apply w_rng2)
local macro_rules
  | `(tactic| contradiction) => `(tactic| with_reducible first
    | (apply p_cells; get_elem_tactic_trivial) | (apply p_at; get_elem_tactic_trivial) | (apply p_left; get_elem_tactic_trivial)
    | (apply y_at; get_elem_tactic_trivial) | (apply y_left; get_elem_tactic_trivial))
local macro_rules
  | `(tactic| contradiction) => `(tactic| with_reducible first
    | apply r_lc2 | apply w_enum | apply e_n | apply c_isnotB | apply b_min | apply bn_tup2)
local macro_rules
  | `(tactic| contradiction) => `(tactic| with_reducible first
    | apply t_emp | apply e_tT | apply e_nT | apply e_nN | (apply e_nL; get_elem_tactic_trivial))
set_option maxRecDepth 100000
set_option maxHeartbeats 1000000
set_option maxRecDepth 100000
set_option maxHeartbeats 1000000
theorem eqv_strs (l m : List Str) : PyData.eqv (.list (l.map .str)) (.list (m.map .str)) = decide (l = m) := by rw [PyData.eqv, any_strL]
section
variable {S : Sto} {Q : PR}
theorem c_eqSS {l m : List Str} (hl : ∀ x ∈ l, Shrt x) (hm : ∀ x ∈ m, Shrt x) (q : Q (.v (.bl (decide (l = m)))) S) : cmpW .eq (.n (.lst (l.map .str))) (.n (.lst (m.map .str))) S Q :=
  ⟨.list (l.map .str), .list (m.map .str), ⟨_, rfl, rdg_strs S l⟩, ⟨_, rfl, rdg_strs S m⟩, strsL_shaped hl, strsL_shaped hm, by rw [eqv_strs]; exact q⟩
end
end DP
set_option maxRecDepth 100000
set_option maxHeartbeats 1000000
namespace DP
open PySem L2
local macro_rules
  | `(tactic| get_elem_tactic_trivial) => `(tactic| first
    | with_reducible assumption
    | exact up_same
    | (refine up_keep (by with_reducible assumption) ?_; get_elem_tactic_trivial))
local macro_rules
  | `(tactic| decreasing_trivial) => `(tactic| first
    | with_reducible assumption
    | (with_unfolding_all exact Nat.le_of_ble_eq_true rfl)
    | omega
    | exact shrt_of (by with_unfolding_all rfl)
    | exact sh_cut (by with_reducible assumption) _ _
    | exact cmul_l (by omega) (by omega)
    | exact cmul_r (by omega) (by omega)
    | exact pow_lit (by decide) (by decide) (by decide))
local macro_rules
  | `(tactic| contradiction) => `(tactic| with_reducible first
    | assumption | (apply r_var; with_unfolding_all rfl)
    | apply r_cst | apply r_glo | apply r_tup | apply r_lst | apply r_dK | apply r_bin | apply r_neg | apply r_cmp | apply r_chn
    | apply r_not | apply r_and | apply r_or | apply r_ite | apply r_ix | apply r_sl | apply r_rev | apply r_isi | apply r_bi | apply r_me | apply r_call | apply r_lc
    | apply r_es0 | apply r_es1 | apply r_rs0 | apply r_rs1 | apply r_o0 | apply r_o1 | apply r_part | apply r_ot0 | apply r_ot1 | apply r_mv
    | apply t_not | apply t_and | apply t_or | apply t_cmp | apply t_chn | (apply t_var; with_unfolding_all rfl) | apply t_isi | apply t_bi | apply t_me | apply t_call | apply t_ix
    | (apply x_len; with_unfolding_all exact Nat.le_of_ble_eq_true rfl) | (apply x_ty; with_unfolding_all exact ⟨_, rfl⟩) | (apply x_tyL; get_elem_tactic_trivial; rfl)
    | apply x_bl | apply x_int | (apply x_tru; with_unfolding_all rfl) | (apply x_isi; with_unfolding_all rfl)
    | apply i_T | apply i_F | apply i_nT | apply i_nF
    | apply o_addI | (apply o_addS; decreasing_trivial) | (apply o_addSS; decreasing_trivial; decreasing_trivial) | (apply o_addT; decreasing_trivial) | (apply o_addTT; decreasing_trivial; decreasing_trivial) | apply o_sub
    | (apply o_mulI; decreasing_trivial) | (apply o_mulS; decreasing_trivial) | (apply o_fdiv; decreasing_trivial) | (apply o_mod; decreasing_trivial) | (apply o_pow; decreasing_trivial)
    | (apply o_addNN; decreasing_trivial) | (apply o_addRN; get_elem_tactic_trivial; decreasing_trivial) | (apply o_addNR; get_elem_tactic_trivial; decreasing_trivial) | (apply o_addRR; get_elem_tactic_trivial; get_elem_tactic_trivial; decreasing_trivial)
    | apply c_eqI | apply c_eqS | apply c_eqB | apply c_neI | apply c_neS | apply c_neB | apply c_ltI | apply c_ltS | apply c_gtI | apply c_leI | apply c_geI | apply c_inS | apply c_ninS
    | (apply p_str; decreasing_trivial; with_unfolding_all rfl) | (apply p_tup; with_unfolding_all rfl) | (apply p_lstN; with_unfolding_all rfl) | (apply p_lst; get_elem_tactic_trivial; with_unfolding_all rfl) | (apply p_dK; get_elem_tactic_trivial; with_unfolding_all rfl)
    | (apply l_strS; decreasing_trivial) | (apply l_str; decreasing_trivial) | apply l_tup | apply l_fz | apply l_lstN | (apply l_lst; get_elem_tactic_trivial) | apply v_tup | apply v_lstN | (apply v_lst; get_elem_tactic_trivial)
    | (apply b_lenS; decreasing_trivial) | apply b_lenT | apply b_lenN | (apply b_lenL; get_elem_tactic_trivial) | apply b_abs | apply b_intI | apply b_intB | apply b_tuplN | apply b_tuplT | (apply b_tuplL; get_elem_tactic_trivial) | apply b_listN | apply b_listT | (apply b_listL; get_elem_tactic_trivial)
    | apply z_nil | apply z_exp | apply z_set | apply z_ret | apply z_ife | apply z_for | apply z_brk | apply z_cnt | apply z_sub
    | apply bn_name | (apply q_str; decreasing_trivial) | apply q_tup | apply q_fz | apply q_n | (apply q_ref; get_elem_tactic_trivial) | apply w_seq | apply w_rng1 | apply w_rng2)
local macro_rules
  | `(tactic| contradiction) => `(tactic| with_reducible first
    | (apply p_cells; get_elem_tactic_trivial) | (apply p_at; get_elem_tactic_trivial) | (apply p_left; get_elem_tactic_trivial)
    | (apply y_at; get_elem_tactic_trivial) | (apply y_left; get_elem_tactic_trivial))
local macro_rules
  | `(tactic| contradiction) => `(tactic| with_reducible first
    | apply r_lc2 | apply w_enum | apply e_n | apply c_isnotB | apply b_min | apply bn_tup2)
local macro_rules
  | `(tactic| contradiction) => `(tactic| with_reducible first
    | apply t_emp | apply e_tT | apply e_nT | apply e_nN | (apply e_nL; get_elem_tactic_trivial) | apply r_get2 | apply w_rngD | apply bn_tup3 | apply r_mn2 | apply r_mnS | apply r_sdf)
/-! ### the tree that is told -/
structure BuTr (T : List Tri) (L : List Str) (d : D) : Prop where
  tr : isTr d
  nm : (nms d).Perm L
  has : ∀ t ∈ T, TriIn L t → ∃ l ∈ lotsB d, t.1 ∈ l ∧ t.2.1 ∈ l ∧ t.2.2 ∉ l
theorem head_marks {L : List Str} {T : List Tri} {x : Str} (h : x ∈ heads L T) : marks L T x = x := beq_iff_eq.mp (List.mem_filter.mp h).2
theorem cls_marks {L : List Str} {T : List Tri} {x y : Str} (h : y ∈ cls L T x) : marks L T y = marks L T x := beq_iff_eq.mp (List.mem_filter.mp h).2
theorem grps_perm {L : List Str} {T : List Tri} (hr : Rise L) {ns : List Str → List Str} (h : ∀ g ∈ grps L T, (ns g).Perm g) : ((grps L T).flatMap ns).Perm L := by
  have hnd : ((grps L T).flatMap ns).Nodup := by
    refine List.pairwise_flatMap.mpr ⟨fun g hg => ?_, ?_⟩
    · obtain ⟨u, hu, rfl⟩ := List.mem_map.mp hg
      exact (h _ hg).nodup_iff.mpr (cls_rise hr).nd
    · unfold grps
      refine List.pairwise_map.mpr ?_
      have hh : (heads L T).Nodup := (hr.filter _).nd
      refine (List.Pairwise.and_mem.mp hh).imp fun {u v} ⟨hu, hv, hne⟩ x hx y hy z => ?_
      subst z
      have h1 := cls_marks ((h _ (List.mem_map.mpr ⟨u, hu, rfl⟩)).subset hx)
      have h2 := cls_marks ((h _ (List.mem_map.mpr ⟨v, hv, rfl⟩)).subset hy)
      rw [head_marks hu] at h1
      rw [head_marks hv] at h2
      exact hne (h1.symm.trans h2)
  refine (List.perm_ext_iff_of_nodup hnd hr.nd).mpr fun x => ?_
  rw [List.mem_flatMap]
  constructor
  · rintro ⟨g, hg, hx⟩
    have := (h g hg).subset hx
    obtain ⟨u, hu, rfl⟩ := List.mem_map.mp hg
    exact cls_sub this
  · intro hx
    have hg : cls L T (marks L T x) ∈ grps L T := List.mem_map.mpr ⟨_, head_mem hx, rfl⟩
    exact ⟨_, hg, (h _ hg).symm.subset (by rw [head_cls hx]; exact cls_self hx)⟩
theorem bu_tree {T : List Tri} (h3 : Tri3 T) : ∀ (n : Nat) {L : List Str}, Rise L → L ≠ [] → (∀ x ∈ L, Wd x) → L.length ≤ n → (bu T n L).1 = true → BuTr T L (bu T n L).2
  | 0, L, _, hne, _, hl, _ => absurd (List.eq_nil_of_length_eq_zero (by omega)) hne
  | n + 1, L, hr, hne, hw, hl, hb => by
    rw [bu] at hb ⊢
    by_cases h1 : L.length = 1
    · rw [if_pos h1]
      obtain ⟨x, rfl⟩ : ∃ x, L = [x] := by
        match L, h1 with
        | [x], _ => exact ⟨x, rfl⟩
      refine ⟨?_, ?_, fun t ht hin => ?_⟩
      · show isTr (.str x)
        rw [isTr]; exact hw x List.mem_cons_self
      · show (nms (.str x)).Perm [x]
        rw [nms]
      · have e1 := List.mem_singleton.mp hin.1
        have e2 := List.mem_singleton.mp hin.2.1
        exact absurd (e1.trans e2.symm) (h3 t ht).1
    rw [if_neg h1] at hb ⊢
    by_cases hg : (grps L T).length = 1
    · rw [if_pos hg] at hb; cases hb
    rw [if_neg hg] at hb ⊢
    have all := hb
    rw [bus_fst, List.all_eq_true] at all
    rw [bus_true all, List.nil_append]
    obtain ⟨x0, hx0⟩ : ∃ x, x ∈ L := List.exists_mem_of_ne_nil L hne
    have lt : ∀ x ∈ L, (cls L T x).length < L.length := fun x hx => Nat.lt_of_le_of_ne cls_len fun z => hg ((grps_one hr hx).mpr z)
    have ih : ∀ g ∈ grps L T, BuTr T g (bu T n g).2 := fun g hgm => by
      obtain ⟨u, hu, rfl⟩ := List.mem_map.mp hgm
      have huL := heads_sub hu
      exact bu_tree h3 n (cls_rise hr) (List.ne_nil_of_mem (cls_self huL)) (fun x hx => hw x (cls_sub hx)) (by have := lt u huL; omega) (all _ hgm)
    have hpos : 0 < (grps L T).length := List.length_pos_iff.mpr (List.ne_nil_of_mem (List.mem_map.mpr ⟨_, head_mem hx0, rfl⟩))
    have efl : nmss ((grps L T).map fun g => (bu T n g).2) = (grps L T).flatMap fun g => nms (bu T n g).2 := by
      rw [nmss_flat, List.flatMap_map]
    have elo : lotsBs ((grps L T).map fun g => (bu T n g).2) = (grps L T).flatMap fun g => lotsB (bu T n g).2 := by
      rw [lotsBs_flat, List.flatMap_map]
    refine ⟨?_, ?_, fun t ht hin => ?_⟩
    · rw [isTr]
      refine ⟨by rw [List.length_map]; omega, isTrs_iff.mpr fun d hd => ?_⟩
      obtain ⟨g, hgm, rfl⟩ := List.mem_map.mp hd
      exact (ih g hgm).tr
    · rw [nms, efl]
      exact grps_perm hr fun g hgm => (ih g hgm).nm
    · have hgm : cls L T (marks L T t.1) ∈ grps L T := List.mem_map.mpr ⟨_, head_mem hin.1, rfl⟩
      have hc := head_cls (T := T) hin.1
      have B := ih _ hgm
      rw [hc] at hgm B
      have ha : t.1 ∈ cls L T t.1 := cls_self hin.1
      have hb2 : t.2.1 ∈ cls L T t.1 := (mem_cls hin.1).mpr ⟨hin.2.1, .fw ht hin (.rf _)⟩
      rw [lotsB, elo]
      by_cases c : t.2.2 ∈ cls L T t.1
      · obtain ⟨l, hl, h⟩ := B.has t ht ⟨ha, hb2, c⟩
        exact ⟨l, List.mem_cons_of_mem _ (List.mem_flatMap.mpr ⟨_, hgm, hl⟩), h⟩
      · have hin2 : ∀ x, x ∈ nms (bu T n (cls L T t.1)).2 ↔ x ∈ cls L T t.1 := fun x => B.nm.mem_iff
        have htr := B.tr
        have key : ∃ l ∈ lotsB (bu T n (cls L T t.1)).2, t.1 ∈ l ∧ t.2.1 ∈ l ∧ t.2.2 ∉ l := by
          generalize (bu T n (cls L T t.1)).2 = d at hin2 htr
          cases hk : kStr d with
          | true =>
            obtain ⟨x, rfl⟩ := tr_leaf hk
            rw [nms] at hin2
            have e1 := List.mem_singleton.mp ((hin2 t.1).mpr ha)
            have e2 := List.mem_singleton.mp ((hin2 t.2.1).mpr hb2)
            exact absurd (e1.trans e2.symm) (h3 t ht).1
          | false =>
            obtain ⟨ds, rfl, _, _⟩ := tr_fork htr hk
            rw [lotsB]
            rw [nms] at hin2
            exact ⟨_, List.mem_cons_self, sortS_mem.mpr ((hin2 _).mpr ha), sortS_mem.mpr ((hin2 _).mpr hb2), fun z => c ((hin2 _).mp (sortS_mem.mp z))⟩
        obtain ⟨l, hl, h⟩ := key
        exact ⟨l, List.mem_cons_of_mem _ (List.mem_flatMap.mpr ⟨_, hgm, hl⟩), h⟩
theorem BuTr.hasT {T : List Tri} {L : List Str} {d : D} (h : BuTr T L d) {t : Tri} (ht : t ∈ T) (hin : TriIn L t) : hasT d t = true := by
  obtain ⟨l, hl, h1, h2, h3⟩ := h.has t ht hin
  exact List.any_eq_true.mpr ⟨l, (sortL_perm _).symm.subset hl, by simp [h1, h2, h3]⟩
/-- a lot that is told: its triples hold it together -/
theorem bu_lot {T : List Tri} (h3 : Tri3 T) : ∀ (n : Nat) {L : List Str}, Rise L → L ≠ [] → L.length ≤ n → (bu T n L).1 = false → ∃ M : List Str, (bu T n L).2 = tupS M ∧ Rise M ∧ 3 ≤ M.length ∧ (∀ x ∈ M, x ∈ L) ∧ ∀ x ∈ M, (cls M T x).length = M.length
  | 0, L, _, hne, hl, _ => absurd (List.eq_nil_of_length_eq_zero (by omega)) hne
  | n + 1, L, hr, hne, hl, hb => by
    rw [bu] at hb ⊢
    by_cases h1 : L.length = 1
    · rw [if_pos h1] at hb; cases hb
    rw [if_neg h1] at hb ⊢
    have hpos : L.length ≠ 0 := fun z => hne (List.eq_nil_of_length_eq_zero z)
    by_cases hg : (grps L T).length = 1
    · rw [if_pos hg]
      refine ⟨L, rfl, hr, ?_, fun x h => h, fun x hx => (grps_one hr hx).mp hg⟩
      refine Classical.byContradiction fun z => ?_
      obtain ⟨x0, hx0⟩ : ∃ x, x ∈ L := List.exists_mem_of_ne_nil L hne
      have hc := (grps_one hr hx0).mp hg
      have : ∀ y ∈ cls L T x0, y = x0 := fun y hy => (con_two h3 (by omega) ((mem_cls hx0).mp hy).2).symm
      have : (cls L T x0).length ≤ [x0].length := List.Nodup.length_le_of_subset (cls_rise hr).nd fun y hy => by rw [this y hy]; exact List.mem_cons_self
      simp at this
      omega
    rw [if_neg hg] at hb ⊢
    have lt : ∀ x ∈ L, (cls L T x).length < L.length := fun x hx => Nat.lt_of_le_of_ne cls_len fun z => hg ((grps_one hr hx).mpr z)
    have go : ∀ (gs : List (List Str)) (acc : List D), (∀ g ∈ gs, g ∈ grps L T) → (bus (bu T n) gs acc).1 = false → ∃ g ∈ gs, (bu T n g).1 = false ∧ (bus (bu T n) gs acc).2 = (bu T n g).2 := by
      intro gs
      induction gs with
      | nil => intro acc _ h; cases h
      | cons g gs ih =>
        intro acc hs h
        rw [bus] at h ⊢
        by_cases c : (bu T n g).1 = false
        · rw [if_pos c]
          exact ⟨g, List.mem_cons_self, c, rfl⟩
        · rw [if_neg c] at h ⊢
          obtain ⟨g2, h1, h2⟩ := ih _ (fun x hx => hs x (List.mem_cons_of_mem _ hx)) h
          exact ⟨g2, List.mem_cons_of_mem _ h1, h2⟩
    obtain ⟨g, hgm, hgb, e⟩ := go _ [] (fun g h => h) hb
    obtain ⟨u, hu, rfl⟩ := List.mem_map.mp hgm
    have huL := heads_sub hu
    obtain ⟨M, m1, m2, m3, m4, m5⟩ := bu_lot h3 n (cls_rise hr) (List.ne_nil_of_mem (cls_self huL)) (by have := lt u huL; omega) hgb
    exact ⟨M, e.trans m1, m2, m3, fun x hx => cls_sub (m4 x hx), m5⟩
def bNameL : List C := [.ife (.or (.not (.isi (.var 0) .str)) (.not (.chn .le .le (.cst (.int 1)) (.bi .len [(.var 0)]) (.cst (.int 8))))) [.ret (.cst (.bl false))] [], .ret (.cmp .eq (.lc (.var 1) (.name 1) (.seq (.var 0)) (some (.cmp .notin (.var 1) (.cst (.str "abcdefghijklmnopqrstuvwxyz")))) [1]) (.lst []))]
def bTold (fi ft : Nat) : List C := [.ife (.isi (.var 0) .str) [.ret (.ite (.call fi [(.var 0)]) (.lst [(.var 0)]) (.cst .non))] [], .ife (.or (.not (.isi (.var 0) .tup)) (.or (.cmp .lt (.bi .len [(.var 0)]) (.cst (.int 2))) (.cmp .eq (.var 1) (.cst (.int 0))))) [.ret (.cst .non)] [], .asg (.name 2) (.lst []), .asg (.name 3) (.cst (.str "")), .for (.name 4) (.seq (.var 0)) [.asg (.name 5) (.call ft [(.var 4), (.bin .sub (.var 1) (.cst (.int 1)))]), .ife (.or (.cmp .is (.var 5) (.cst .non)) (.not (.cmp .lt (.var 3) (.mnS false (.var 5))))) [.ret (.cst .non)] [], .asg (.name 3) (.mnS false (.var 5)), .asg (.name 2) (.bin .add (.var 2) (.var 5))], .ret (.var 2)]
def bTreeOf (ft : Nat) : List C := [.asg (.name 2) (.call ft [(.var 0), (.cst (.int 12))]), .ret (.and (.cmp .isnot (.var 2) (.cst .non)) (.cmp .eq (.bi .sorted [(.var 2)]) (.bi .list [(.var 1)])))]
def bBesideL (fd : Nat) : List C := [.asg (.name 2) (.call fd [(.var 0), (.cst (.int 4))]), .ret (.bi .tupl [(.lc (.var 3) (.name 3) (.seq (.var 1)) (some (.or (.cmp .eq (.var 2) (.cst (.int 0))) (.and (.cmp .gt (.var 2) (.cst (.int 1))) (.cmp .eq (.call fd [(.var 0), (.cst (.int 2))]) (.cst (.int 0)))))) [3])])]
theorem least_uniq {xs : List Str} {m h : Str} (hm : m ∈ xs) (hl : ∀ y, y ∈ xs → (if false = true then ¬ m.cps.toList < y.cps.toList else ¬ y.cps.toList < m.cps.toList)) (hh : h ∈ xs) (hle : ∀ y ∈ xs, ¬ ltS y h) : m = h := by
  have h1 := hl h hh
  simp only [Bool.false_eq_true, if_false] at h1
  exact (ltS_tri h1 (hle m hm)).symm
theorem empty_lt {x : Str} (h : Wd x) : ltS "" x := by
  have h1 := h.1.1
  have e : (("" : Str)).cps.toList = [] := by decide
  show (("" : Str)).cps.toList < x.cps.toList
  rw [e]
  have hne : x.cps.toList ≠ [] := fun z => by
    have : x.cps.toList.length = 0 := by rw [z]; rfl
    have e2 : x.length = x.cps.toList.length := by simp [Str.length]
    omega
  cases h2 : x.cps.toList with
  | nil => exact absurd h2 hne
  | cons c cs => exact List.nil_lt_cons _ _
section
variable {B : List Fn} {f fi ft fd k : Nat} {S : Sto} {Q : PR}
theorem nameL_ok (hT : B[f]? = some ⟨1, 2, bNameL⟩) {x : Str} (hx : Wd x) (q : Q (.v (.bl true)) S) : W B (k + 1) f [.str x] S Q := by
  refine enter (b := ⟨1, 2, bNameL⟩) (ρ := [some (.str x), none]) hT rfl rfl ?_
  show wSs (W B k) bNameL _ _ _
  delta bNameL
  obtain ⟨⟨h1, h8, hc⟩, hl⟩ := hx
  have hsl : x.length ≤ sizeLine := Nat.le_trans h8 (by decide)
  repeat' contradiction
  rw [decide_eq_true (show (1 : Int) ≤ (x.length : Nat) by omega)]
  repeat' contradiction
  rw [decide_eq_true (show ((x.length : Nat) : Int) ≤ 8 by omega)]
  repeat' contradiction
  refine lc_if (fun c => .str ⟨#[c]⟩) (fun c => !inLet c) trivial (fun c hc K hK => ?_) ?_
  · repeat' contradiction
    show if (!inLet c) = true then _ else _
    cases hc2 : inLet c with
    | true =>
      rw [hc2] at hK
      repeat' contradiction
      exact hK
    | false =>
      rw [hc2] at hK
      repeat' contradiction
      exact hK
  · repeat' contradiction
    have em : (x.cps.toList.filter fun c => !inLet c) = [] := by
      rw [List.filter_eq_nil_iff]
      intro c hc
      rw [List.all_eq_true.mp hl c hc]; decide
    rw [em]
    refine c_eq00 ?_
    exact q
theorem told_ok (hT : B[f]? = some ⟨2, 6, bTold fi f⟩) (hI : B[fi]? = some ⟨1, 2, bNameL⟩) {T : List Tri} (h3 : Tri3 T) (j : Nat) : ∀ (n : Nat) {L : List Str} {S : Sto} {Q : PR} {k : Nat}, Rise L → L ≠ [] → (∀ x ∈ L, Wd x) → L.length ≤ n → L.length ≤ k + 1 → n ≤ 60 → (bu T n L).1 = true →
    (∀ (xs : List Str) r S', xs.Perm L → (r = .n (.lst (xs.map .str)) ∨ ∃ a, r = .v (.ref a) ∧ S' a = some (.lst (xs.map .str))) → Sub S S' → Q r S') → W B (j + n + 2) f [(bu T n L).2, .int (k : Nat)] S Q
  | 0, L, S, Q, k, _, hne, _, hl, _, _, _, _ => absurd (List.eq_nil_of_length_eq_zero (by omega)) hne
  | n + 1, L, S, Q, k, hr, hne, hw, hl, hk, h60, hb, q => by
    have BT := bu_tree h3 (n + 1) hr hne hw hl hb
    refine enter (b := ⟨2, 6, bTold fi f⟩) (ρ := [some (bu T (n + 1) L).2, some (.int (k : Nat)), none, none, none, none]) (n := j + n + 2) hT rfl rfl ?_
    show wSs (W B (j + n + 2)) (bTold fi f) _ _ _
    delta bTold
    have htr := BT.tr
    rw [bu] at hb htr ⊢
    repeat' contradiction
    refine x_isi (tr_str htr) ?_
    refine ⟨_, rfl, ?_⟩
    by_cases h1 : L.length = 1
    · rw [if_pos h1] at htr ⊢
      obtain ⟨x, rfl⟩ : ∃ x, L = [x] := by
        match L, h1 with
        | [x], _ => exact ⟨x, rfl⟩
      show if kStr (.str x) = true then _ else _
      refine i_T ?_
      show wSs _ _ [some (.str x), some (.int (k : Nat)), none, none, none, none] _ _
      repeat' contradiction
      refine nameL_ok (k := j + n + 1) hI (hw x List.mem_cons_self) ?_
      repeat' contradiction
      exact q [x] _ S (List.Perm.refl _) (.inl rfl) Sub.rfl
    rw [if_neg h1] at hb htr ⊢
    by_cases hg : (grps L T).length = 1
    · rw [if_pos hg] at hb; cases hb
    rw [if_neg hg] at hb htr ⊢
    have all := hb
    rw [bus_fst, List.all_eq_true] at all
    rw [bus_true all, List.nil_append] at htr ⊢
    show if kStr (.tup _) = true then _ else _
    refine i_F ?_
    have lt : ∀ x ∈ L, (cls L T x).length < L.length := fun x hx => Nat.lt_of_le_of_ne cls_len fun z => hg ((grps_one hr hx).mpr z)
    have h2 : 2 ≤ ((grps L T).map fun g => (bu T n g).2).length := by rw [isTr] at htr; exact htr.1
    have hL2 : 2 ≤ L.length := by
      have : L.length ≠ 0 := fun z => hne (List.eq_nil_of_length_eq_zero z)
      omega
    refine z_nil ?_
    refine z_ife ?_
    repeat' contradiction
    rw [decide_eq_false (by omega)]
    refine i_F ?_
    repeat' contradiction
    rw [decide_eq_false (by omega)]
    refine i_F ?_
    refine z_nil ?_
    refine z_set ?_
    repeat' contradiction
    refine r_mn fun a ha => ?_
    have hSa : S a = none := ha
    refine z_set ?_
    repeat' contradiction
    have hgr : (grps L T).length ≤ 60 := by
      unfold grps heads
      rw [List.length_map]
      exact Nat.le_trans (List.length_filter_le _ _) (by omega)
    have hgok : ∀ (i : Nat) (g : List Str), (grps L T)[i]? = some g → ∃ h, (heads L T)[i]? = some h ∧ g = cls L T h := fun i g e => by
      unfold grps at e
      rw [List.getElem?_map, Option.map_eq_some_iff] at e
      obtain ⟨h, e1, e2⟩ := e
      exact ⟨h, e1, e2.symm⟩
    refine for_ok (fun i ρ U => ∃ (r : Addr) (ah : Str) (o4 o5 : Option D) (xs : List Str), ρ = [some (.tup ((grps L T).map fun g => (bu T n g).2)), some (.int (k : Nat)), some (.ref r), some (.str ah), o4, o5] ∧ U r = some (.lst (xs.map .str)) ∧ xs.Perm (((grps L T).take i).flatMap id) ∧ (∀ (h : Str), (heads L T)[i]? = some h → ltS ah h) ∧ Sub S U) (fun i d ρ U Kn hd h hKn => ?_) (fun ρ U h => ?_)
      ⟨a, "", _, _, [], rfl, up_same, by simp, fun h hh => empty_lt (hw h (heads_sub (List.mem_of_getElem? hh))), Sub.rfl.then ha⟩
    · obtain ⟨r, ah, o4, o5, xs, rfl, eU, hp, hah, sU⟩ := h
      rw [List.getElem?_map, Option.map_eq_some_iff] at hd
      obtain ⟨g, hgi, rfl⟩ := hd
      have hgm := List.mem_of_getElem? hgi
      obtain ⟨h, hh, rfl⟩ := hgok i g hgi
      have hhm := List.mem_of_getElem? hh
      have hhL := heads_sub hhm
      have hlt := lt h hhL
      refine ⟨trivial, bn_name ?_⟩
      refine z_set ?_
      repeat' contradiction
      have ek : ((k : Nat) : Int) - 1 = ((k - 1 : Nat) : Int) := by omega
      rw [ek]
      refine told_ok hT hI h3 j n (cls_rise hr) (List.ne_nil_of_mem (cls_self hhL)) (fun x hx => hw x (cls_sub hx)) (by omega) (by omega) (by omega) (all _ hgm) fun ys rr V hys hor sV => ?_
      have ylen : ys.length ≤ 60 := by rw [hys.length_eq]; omega
      have ypos : 0 < ys.length := by rw [hys.length_eq]; exact List.length_pos_iff.mpr (List.ne_nil_of_mem (cls_self hhL))
      have xlen : xs.length ≤ 4000 := by
        rw [hp.length_eq]
        have := flat_le (f := fun g : List Str => if g ∈ grps L T then g else []) (n := 60) (fun g => by
          by_cases c : g ∈ grps L T
          · simp only [if_pos c]
            obtain ⟨u, _, rfl⟩ := List.mem_map.mp c
            exact Nat.le_trans cls_len (by omega)
          · simp [if_neg c]) ((grps L T).take i)
        have e : ((grps L T).take i).flatMap id = ((grps L T).take i).flatMap fun g : List Str => if g ∈ grps L T then g else [] := by
          rw [List.flatMap_def, List.flatMap_def]
          congr 1
          exact List.map_congr_left fun g hg => by rw [if_pos (List.mem_of_mem_take hg)]; rfl
        rw [e]
        rw [List.length_take] at this
        have h2 : min i (grps L T).length * 60 ≤ 60 * 60 := Nat.mul_le_mul (Nat.le_trans (Nat.min_le_right _ _) hgr) (Nat.le_refl _)
        omega
      -- the rest of the turn
      have rest : ∀ (b : Addr) (V2 : Sto), Sub V V2 → V2 b = some (.lst (ys.map .str)) → wSs (W B (j + n + 2)) [.ife (.or (.cmp .is (.var 5) (.cst .non)) (.not (.cmp .lt (.var 3) (.mnS false (.var 5))))) [.ret (.cst .non)] [], .asg (.name 3) (.mnS false (.var 5)), .asg (.name 2) (.bin .add (.var 2) (.var 5))] [some (.tup ((grps L T).map fun g => (bu T n g).2)), some (.int (k : Nat)), some (.ref r), some (.str ah), some (bu T n (cls L T h)).2, some (.ref b)] V2 { nx := Kn, rt := Q, bk := fun ρ' S' => wSs (W B (j + n + 2)) [.ret (.var 2)] ρ' S' { nx := fun _ S' => Q (.v .non) S', rt := Q }, ct := Kn } := fun b V2 sV2 eb => by
        have mh : ∀ m, m ∈ ys → (∀ y, y ∈ ys → (if false = true then ¬ m.cps.toList < y.cps.toList else ¬ y.cps.toList < m.cps.toList)) → m = h := fun m hm hl => least_uniq hm hl (hys.symm.subset (cls_self hhL)) fun y hy => by
          have hy2 := hys.subset hy
          have e := cls_marks hy2
          rw [head_marks hhm] at e
          have := (marks_ok L T).le y (cls_sub hy2)
          rwa [e] at this
        refine z_ife ?_
        refine t_or ?_
        refine t_cmp ?_
        repeat' contradiction
        refine ⟨false, rfl, ?_⟩
        refine i_F ?_
        refine t_not ?_
        refine t_cmp ?_
        refine r_var rfl ?_
        refine r_mnS ?_
        refine r_var rfl ?_
        refine ⟨ys, seqOf_ref eb, ypos, by omega, fun m hm hl => ?_⟩
        rw [mh m hm hl]
        refine ⟨true, by rw [decide_eq_true (hah h hh)], ?_⟩
        refine i_nT ?_
        refine z_nil ?_
        refine z_set ?_
        refine r_mnS ?_
        refine r_var rfl ?_
        refine ⟨ys, seqOf_ref eb, ypos, by omega, fun m hm hl => ?_⟩
        rw [mh m hm hl]
        refine r_mv ?_
        refine z_set ?_
        refine r_bin ?_
        refine r_var rfl ?_
        refine r_var rfl ?_
        have er := sV2 _ _ (sV _ _ eU)
        refine o_addRR er eb (by rw [List.length_map, List.length_map]; exact Nat.le_of_lt (lineN _ (by omega))) ?_
        refine r_mn fun r2 hr2 => ?_
        refine z_nil (hKn _ _ ⟨r2, h, _, _, xs ++ ys, rfl, by rw [up_same, List.map_append], ?_, fun h2 hh2 => ?_, ((sU.trans sV).trans sV2).then (((sU.trans sV).trans sV2).none hr2)⟩)
        · rw [take_succ hgi, List.flatMap_append]
          refine hp.append ?_
          simpa using hys
        · have hri : Rise (heads L T) := hr.filter _
          obtain ⟨i1, e1⟩ := List.getElem?_eq_some_iff.mp hh
          obtain ⟨i2, e2⟩ := List.getElem?_eq_some_iff.mp hh2
          rw [← e1, ← e2]
          exact List.pairwise_iff_getElem.mp hri i (i + 1) i1 i2 (Nat.lt_succ_self _)
      rcases hor with e | ⟨b, e, hb⟩
      · subst e
        refine r_mn fun b hb => ?_
        exact rest b _ (Sub.rfl.then hb) up_same
      · subst e
        refine r_mv ?_
        exact rest b V Sub.rfl hb
    · obtain ⟨r, ah, o4, o5, xs, rfl, eU, hp, hah, sU⟩ := h
      rw [List.length_map, List.take_length] at hp
      refine ⟨trivial, ?_⟩
      repeat' contradiction
      refine q xs _ U ?_ (.inr ⟨r, rfl, eU⟩) sU
      refine hp.trans ?_
      exact grps_perm hr (ns := id) fun g _ => List.Perm.refl _
theorem tree_of_ok (hT : B[f]? = some ⟨2, 3, bTreeOf ft⟩) (hF : B[ft]? = some ⟨2, 6, bTold fi ft⟩) (hI : B[fi]? = some ⟨1, 2, bNameL⟩) {T : List Tri} (h3 : Tri3 T) (j : Nat) {L : List Str} (hr : Rise L) (hne : L ≠ []) (hw : ∀ x ∈ L, Wd x) (hl : L.length ≤ 13) (hb : (bu T 13 L).1 = true) (q : ∀ S', Sub S S' → Q (.v (.bl true)) S') :
    W B (j + 16) f [(bu T 13 L).2, tupS L] S Q := by
  show W B (j + 16) f [(bu T 13 L).2, .tup (L.map .str)] S Q
  refine enter (b := ⟨2, 3, bTreeOf ft⟩) (ρ := [some (bu T 13 L).2, some (.tup (L.map .str)), none]) (n := j + 15) hT rfl rfl ?_
  show wSs (W B (j + 15)) (bTreeOf ft) _ _ _
  delta bTreeOf
  have sh : ∀ x ∈ L, Shrt x := fun x hx => (hw x hx).1.sh
  refine z_set ?_
  repeat' contradiction
  refine told_ok hF hI h3 j 13 (k := 12) hr hne hw hl hl (by omega) hb fun xs r S1 hp hor s1 => ?_
  have rest : ∀ (b : Addr) (S2 : Sto), Sub S1 S2 → S2 b = some (.lst (xs.map .str)) → wSs (W B (j + 15)) [.ret (.and (.cmp .isnot (.var 2) (.cst .non)) (.cmp .eq (.bi .sorted [(.var 2)]) (.bi .list [(.var 1)])))] [some (bu T 13 L).2, some (.tup (L.map .str)), some (.ref b)] S2 { nx := fun _ S' => Q (.v .non) S', rt := Q } := fun b S2 s2 eb => by
    refine z_ret ?_
    refine r_and ?_
    refine r_cmp ?_
    repeat' contradiction
    show ∃ k, tru S2 (.v (.bl (!false))) = some k ∧ _
    refine ⟨true, rfl, ?_⟩
    refine i_T ?_
    repeat' contradiction
    refine b_sortSR eb ?_
    repeat' contradiction
    have e : xs.mergeSort leS = L := Rise.of_sort (hp.nodup_iff.mpr hr.nd) hr fun x => hp.mem_iff
    rw [e]
    refine c_eqSS sh sh ?_
    rw [decide_eq_true rfl]
    exact q S2 (s1.trans s2)
  rcases hor with e | ⟨b, e, hb⟩
  · subst e
    refine r_mn fun b hb => ?_
    exact rest b _ (Sub.rfl.then hb) up_same
  · subst e
    refine r_mv ?_
    exact rest b S1 Sub.rfl hb
theorem besideL_ok (hT : B[f]? = some ⟨2, 4, bBesideL fd⟩) (hD : B[fd]? = some ⟨2, 8, bDraw⟩) {p c : Addr} {n : Nat} {xs : List Str} (hp : PenOk S p c n) (hn : n + 20 < 60000) (hx : xs.length ≤ 13) (q : ∀ S' (ms : List Str), PenOk S' p c (n + 20) → Ext p S S' → (∀ x ∈ ms, x ∈ xs) → ms.length ≤ 13 → Q (.v (tupS ms)) S') : W B (k + 2) f [.ref p, tupS xs] S Q := by
  show W B (k + 2) f [.ref p, .tup (xs.map .str)] S Q
  refine enter (b := ⟨2, 4, bBesideL fd⟩) (ρ := [some (.ref p), some (.tup (xs.map .str)), none, none]) hT rfl rfl ?_
  show wSs (W B (k + 1)) (bBesideL fd) _ _ _
  delta bBesideL
  repeat' contradiction
  refine draw_ok hD hp (by omega) (by omega) (by omega) fun S1 r hp1 hf1 r0 r1 => ?_
  have hE1 : Ext p S S1 := fun b o hb e => (hf1 b hb).trans e
  repeat' contradiction
  refine lc_ok (fun i acc S' => ∃ ms : List Str, acc = ms.map .str ∧ ms.length ≤ i ∧ (∀ x ∈ ms, x ∈ xs) ∧ PenOk S' p c (n + 1 + i) ∧ Ext p S S') ?_ ?_ ⟨[], rfl, Nat.le_refl _, fun x hx => by simp at hx, hp1, hE1⟩
  · intro i d acc S2 K hd ⟨ms, ha, hi, hm, hp2, hE2⟩ next
    subst ha
    obtain ⟨x, hxi, rfl⟩ := strs_at hd
    have hil : i < xs.length := (List.getElem?_eq_some_iff.mp hxi).1
    refine ⟨trivial, bn_name ?_⟩
    have yes : ∀ (S3 : Sto), PenOk S3 p c (n + 1 + (i + 1)) → Ext p S S3 → K (some (.str x)) S3 := fun S3 hp3 hE3 => next _ _ ⟨ms ++ [x], by rw [List.map_append]; rfl, by rw [List.length_append, List.length_singleton]; omega, fun y hy => by
      rcases List.mem_append.mp hy with hy | hy
      · exact hm y hy
      · rw [List.mem_singleton.mp hy]; exact List.mem_of_getElem? hxi, hp3, hE3⟩
    have no : ∀ (S3 : Sto), PenOk S3 p c (n + 1 + (i + 1)) → Ext p S S3 → K none S3 := fun S3 hp3 hE3 => next _ _ ⟨ms, by simp, by omega, hm, hp3, hE3⟩
    repeat' contradiction
    by_cases c1 : r = 0
    · rw [decide_eq_true c1]
      refine i_T ?_
      refine i_T ?_
      repeat' contradiction
      exact yes S2 (hp2.mono (by omega)) hE2
    rw [decide_eq_false c1]
    refine i_F ?_
    repeat' contradiction
    by_cases c2 : r > 1
    rotate_left
    · rw [decide_eq_false c2]
      refine i_F ?_
      refine i_F ?_
      exact no S2 (hp2.mono (by omega)) hE2
    rw [decide_eq_true c2]
    refine i_T ?_
    repeat' contradiction
    refine draw_ok hD hp2 (by omega) (by omega) (by omega) fun S3 r3 hp3 hf3 _ _ => ?_
    have hE3 : Ext p S S3 := fun b o hb e => (hf3 b hb).trans (hE2 b o hb e)
    repeat' contradiction
    by_cases c3 : r3 = 0
    · rw [decide_eq_true c3]
      refine i_T ?_
      repeat' contradiction
      exact yes S3 (hp3.mono (by omega)) hE3
    · rw [decide_eq_false c3]
      refine i_F ?_
      exact no S3 (hp3.mono (by omega)) hE3
  · intro acc S2 ⟨ms, ha, hi, hm, hp2, hE2⟩
    subst ha
    rw [List.length_map] at hi hp2
    refine ⟨trivial, ?_⟩
    repeat' contradiction
    exact q S2 ms (hp2.mono (by omega)) hE2 hm (by omega)
end
set_option maxRecDepth 100000
set_option maxHeartbeats 1000000
def bRightT (fto fh fg : Nat) : List C := [.ife (.or (.not (.isi (.var 2) .tup)) (.or (.cmp .ne (.bi .len [(.var 2)]) (.cst (.int 2))) (.not (.isi (.ix (.var 2) (.cst (.int 0))) .str)))) [.ret (.cst (.bl false))] [], .ife (.cmp .eq (.ix (.var 2) (.cst (.int 0))) (.cst (.str "tree"))) [.ret (.and (.call fto [(.ix (.var 2) (.cst (.int 1))), (.var 1)]) (.emp false false (.lc (.var 3) (.name 3) (.seq (.var 0)) (some (.not (.call fh [(.ix (.var 2) (.cst (.int 1))), (.var 3)]))) [3])))] [], .ife (.or (.cmp .ne (.ix (.var 2) (.cst (.int 0))) (.cst (.str "lot"))) (.or (.not (.isi (.ix (.var 2) (.cst (.int 1))) .tup)) (.cmp .lt (.bi .len [(.ix (.var 2) (.cst (.int 1)))]) (.cst (.int 3))))) [.ret (.cst (.bl false))] [], .ife (.emp true false (.lc (.var 4) (.name 4) (.seq (.ix (.var 2) (.cst (.int 1)))) (some (.or (.not (.isi (.var 4) .str)) (.cmp .notin (.var 4) (.var 1)))) [4])) [.ret (.cst (.bl false))] [], .ife (.cmp .ne (.sset (.ix (.var 2) (.cst (.int 1)))) (.bi .list [(.ix (.var 2) (.cst (.int 1)))])) [.ret (.cst (.bl false))] [], .ret (.cmp .eq (.bi .len [(.call fg [(.ix (.var 2) (.cst (.int 1))), (.var 0), (.ix (.ix (.var 2) (.cst (.int 1))) (.cst (.int 0)))])]) (.bi .len [(.ix (.var 2) (.cst (.int 1)))]))]
def bChain (fn fd : Nat) : List C := [.asg (.name 1) (.call fn [(.var 0), (.cst (.int 10))]), .asg (.name 2) (.lc (.me .pop (.var 1) [(.call fd [(.var 0), (.bi .len [(.var 1)])])]) (.name 4) (.rng1 (.cst (.int 10))) none [4]), .asg (.name 3) (.lc (.tup [(.ix (.var 2) (.cst (.int 0))), (.ix (.var 2) (.var 4)), (.ix (.var 2) (.bin .add (.var 4) (.cst (.int 1))))]) (.name 4) (.rng2 (.cst (.int 1)) (.cst (.int 9))) none [4]), .ret (.bi .tupl [(.bi .sorted [(.lc (.tup [(.mnS false (.sl (.var 5) none (some (.cst (.int 2))))), (.mnS true (.sl (.var 5) none (some (.cst (.int 2))))), (.ix (.var 5) (.cst (.int 2)))]) (.name 5) (.seq (.var 3)) none [5])])])]
theorem c_neSS {S : Sto} {Q : PR} {l : List Str} (hl : ∀ x ∈ l, Shrt x) (q : Q (.v (.bl false)) S) : cmpW .ne (.n (.lst (l.map .str))) (.n (.lst (l.map .str))) S Q := by
  refine ⟨.list (l.map .str), .list (l.map .str), ⟨_, rfl, rdg_strs S l⟩, ⟨_, rfl, rdg_strs S l⟩, strsL_shaped hl, strsL_shaped hl, ?_⟩
  rw [PyData.eqv, any_strL, decide_eq_true rfl]
  exact q
/-! ### ten names parted one by one -/
def og (os : List Str) (i : Nat) : Str := os.getD i ⟨#[]⟩
def chT (os : List Str) (k : Nat) : Tri := if ltS (og os 0) (og os k) then (og os 0, og os k, og os (k + 1)) else (og os k, og os 0, og os (k + 1))
theorem og_mem {os : List Str} {i : Nat} (h : i < os.length) : og os i ∈ os := by
  unfold og
  rw [List.getD_eq_getElem?_getD, List.getElem?_eq_getElem h]
  exact List.getElem_mem h
theorem og_inj {os : List Str} (hn : os.Nodup) {i j : Nat} (hi : i < os.length) (hj : j < os.length) (e : og os i = og os j) : i = j := by
  unfold og at e
  rw [List.getD_eq_getElem?_getD, List.getD_eq_getElem?_getD, List.getElem?_eq_getElem hi, List.getElem?_eq_getElem hj] at e
  exact nd_at hn e
theorem mem_og {os : List Str} {m : Nat} {x : Str} : x ∈ os.take m ↔ ∃ i, i < m ∧ i < os.length ∧ x = og os i := by
  rw [List.mem_take_iff_getElem]
  constructor
  · rintro ⟨i, hi, e⟩
    refine ⟨i, by omega, by omega, ?_⟩
    unfold og
    rw [List.getD_eq_getElem?_getD, List.getElem?_eq_getElem (by omega)]
    exact e.symm
  · rintro ⟨i, h1, h2, e⟩
    refine ⟨i, by omega, ?_⟩
    rw [e]
    unfold og
    rw [List.getD_eq_getElem?_getD, List.getElem?_eq_getElem h2]
    rfl
theorem chT_ab {os : List Str} {k : Nat} : ((chT os k).1 = og os 0 ∧ (chT os k).2.1 = og os k ∨ (chT os k).1 = og os k ∧ (chT os k).2.1 = og os 0) ∧ (chT os k).2.2 = og os (k + 1) := by
  unfold chT
  by_cases h : ltS (og os 0) (og os k)
  · rw [if_pos h]; exact ⟨.inl ⟨rfl, rfl⟩, rfl⟩
  · rw [if_neg h]; exact ⟨.inr ⟨rfl, rfl⟩, rfl⟩
structure Chain (os : List Str) (T : List Tri) : Prop where
  len : os.length = 10
  tl : T.length = 8
  nd : os.Nodup
  me : ∀ t, t ∈ T ↔ ∃ k, 1 ≤ k ∧ k ≤ 8 ∧ t = chT os k
section
variable {os : List Str} {T : List Tri}
theorem Chain.tri (h : Chain os T) : ∀ t ∈ T, okT os t := fun t ht => by
  obtain ⟨k, h1, h2, rfl⟩ := (h.me t).mp ht
  have hl := h.len
  obtain ⟨ab, c⟩ := chT_ab (os := os) (k := k)
  have ne : ∀ i j, i < 10 → j < 10 → i ≠ j → og os i ≠ og os j := fun i j hi hj hne e => hne (og_inj h.nd (by omega) (by omega) e)
  have n0 := ne 0 k (by omega) (by omega) (by omega)
  have n1 := ne 0 (k + 1) (by omega) (by omega) (by omega)
  have n2 := ne k (k + 1) (by omega) (by omega) (by omega)
  refine ⟨fun x hx => ?_, ?_, ?_, ?_⟩
  · simp only [nm3, List.mem_cons, List.not_mem_nil, or_false] at hx
    rcases hx with e | e | e
    · rcases ab with ⟨a, b⟩ | ⟨a, b⟩ <;> rw [e, a] <;> exact og_mem (by omega)
    · rcases ab with ⟨a, b⟩ | ⟨a, b⟩ <;> rw [e, b] <;> exact og_mem (by omega)
    · rw [e, c]; exact og_mem (by omega)
  · rcases ab with ⟨a, b⟩ | ⟨a, b⟩ <;> rw [a, b]
    · exact n0
    · exact n0.symm
  · rcases ab with ⟨a, b⟩ | ⟨a, b⟩ <;> rw [a, c]
    · exact n1.symm
    · exact n2.symm
  · rcases ab with ⟨a, b⟩ | ⟨a, b⟩ <;> rw [b, c]
    · exact n2.symm
    · exact n1.symm
theorem Chain.ag (h : Chain os T) : ∀ m, m ≤ 10 → Ag T (sortS (os.take m))
  | 0, _ => .few (by simp)
  | m + 1, hm => by
    have hl := h.len
    have ih := h.ag m (by omega)
    have hnt : ∀ i, (os.take i).Nodup := fun i => (List.take_sublist i os).nodup h.nd
    have lenS : ∀ i, i ≤ 10 → (sortS (os.take i)).length = i := fun i hi => by rw [(sortS_perm _).length_eq, List.length_take]; omega
    by_cases h3 : m + 1 < 3
    · exact .few (by rw [lenS _ hm]; exact h3)
    have hmL : ∀ x, x ∈ sortS (os.take (m + 1)) ↔ ∃ i, i < m + 1 ∧ x = og os i := fun x => by
      rw [sortS_mem, mem_og]
      exact ⟨fun ⟨i, a, _, c⟩ => ⟨i, a, c⟩, fun ⟨i, a, c⟩ => ⟨i, a, by omega, c⟩⟩
    have inj : ∀ {i j}, i < 10 → j < 10 → og os i = og os j → i = j := fun hi hj e => og_inj h.nd (by omega) (by omega) e
    have tin : ∀ k, 1 ≤ k → k ≤ 8 → (TriIn (sortS (os.take (m + 1))) (chT os k) ↔ k + 1 < m + 1) := fun k k1 k8 => by
      obtain ⟨ab, c⟩ := chT_ab (os := os) (k := k)
      constructor
      · intro hin
        have := hin.2.2
        rw [c, hmL] at this
        obtain ⟨i, hi, e⟩ := this
        have := inj (by omega) (by omega) e
        omega
      · intro hk
        refine ⟨?_, ?_, ?_⟩
        · rw [hmL]
          rcases ab with ⟨a, _⟩ | ⟨a, _⟩
          · exact ⟨0, by omega, a⟩
          · exact ⟨k, by omega, a⟩
        · rw [hmL]
          rcases ab with ⟨_, b⟩ | ⟨_, b⟩
          · exact ⟨k, by omega, b⟩
          · exact ⟨0, by omega, b⟩
        · rw [hmL]
          exact ⟨k + 1, hk, c⟩
    -- the last stands alone
    have alone : ∀ y, Con (sortS (os.take (m + 1))) T (og os m) y → y = og os m := fun y hc => by
      have key : ∀ t ∈ T, TriIn (sortS (os.take (m + 1))) t → t.1 ≠ og os m ∧ t.2.1 ≠ og os m := fun t ht hin => by
        obtain ⟨k, k1, k8, rfl⟩ := (h.me t).mp ht
        have hk := (tin k k1 k8).mp hin
        obtain ⟨ab, _⟩ := chT_ab (os := os) (k := k)
        have e0 : og os 0 ≠ og os m := fun e => by have := inj (by omega) (by omega) e; omega
        have ek : og os k ≠ og os m := fun e => by have := inj (by omega) (by omega) e; omega
        rcases ab with ⟨a, b⟩ | ⟨a, b⟩ <;> rw [a, b]
        · exact ⟨e0, ek⟩
        · exact ⟨ek, e0⟩
      generalize hz : og os m = z at hc
      induction hc with
      | rf => rfl
      | fw a b _ ih => exact absurd ih (hz ▸ (key _ a b).1)
      | bk a b _ ih => exact absurd ih (hz ▸ (key _ a b).2)
    have con0 : ∀ i, i < m → Con (sortS (os.take (m + 1))) T (og os 0) (og os i) := fun i hi => by
      by_cases i0 : i = 0
      · subst i0; exact .rf _
      have ht : chT os i ∈ T := (h.me _).mpr ⟨i, by omega, by omega, rfl⟩
      have hin := (tin i (by omega) (by omega)).mpr (by omega)
      obtain ⟨ab, _⟩ := chT_ab (os := os) (k := i)
      rcases ab with ⟨a, b⟩ | ⟨a, b⟩
      · have h0 : Con (sortS (os.take (m + 1))) T (og os 0) (chT os i).1 := by rw [a]; exact .rf _
        have := Con.fw ht hin h0
        rwa [b] at this
      · have h0 : Con (sortS (os.take (m + 1))) T (og os 0) (chT os i).2.1 := by rw [b]; exact .rf _
        have := Con.bk ht hin h0
        rwa [a] at this
    have hrL : Rise (sortS (os.take (m + 1))) := Rise.sort (hnt _)
    have cl1 : ∀ i, i < m → cls (sortS (os.take (m + 1))) T (og os i) = sortS (os.take m) := fun i hi => by
      have hiL : og os i ∈ sortS (os.take (m + 1)) := (hmL _).mpr ⟨i, by omega, rfl⟩
      refine (cls_rise hrL).eq (Rise.sort (hnt _)) fun y => ?_
      rw [mem_cls hiL, hmL, sortS_mem, mem_og]
      constructor
      · rintro ⟨⟨k, hk, rfl⟩, hc⟩
        refine ⟨k, ?_, by omega, rfl⟩
        refine Classical.byContradiction fun z => ?_
        have : k = m := by omega
        subst this
        have := inj (by omega) (by omega) (alone _ hc.symm)
        omega
      · rintro ⟨k, hk, _, rfl⟩
        exact ⟨⟨k, by omega, rfl⟩, (con0 i hi).symm.trans (con0 k hk)⟩
    have hmm : og os m ∈ sortS (os.take (m + 1)) := (hmL _).mpr ⟨m, by omega, rfl⟩
    have cl2 : cls (sortS (os.take (m + 1))) T (og os m) = [og os m] := by
      refine (cls_rise hrL).eq (List.pairwise_singleton _ _) fun y => ?_
      rw [mem_cls hmm]
      constructor
      · rintro ⟨_, hc⟩
        rw [alone y hc]; exact List.mem_cons_self
      · intro hy
        rw [List.mem_singleton.mp hy]
        exact ⟨hmm, .rf _⟩
    refine .cut (fun x hx => ?_) fun x hx => ?_
    · obtain ⟨i, hi, rfl⟩ := (hmL x).mp hx
      rw [lenS _ hm]
      by_cases c : i < m
      · rw [cl1 i c, lenS _ (by omega)]; omega
      · have : i = m := by omega
        subst this
        rw [cl2]; simp; omega
    · obtain ⟨i, hi, rfl⟩ := (hmL x).mp hx
      by_cases c : i < m
      · rw [cl1 i c]; exact ih
      · have : i = m := by omega
        subst this
        rw [cl2]; exact .few (by simp)
theorem Chain.ev (h : Chain os T) : DP.ev T [] = sortS (os.take 10) := by
  have hl := h.len
  refine (ev_rise T []).eq (Rise.sort ((List.take_sublist 10 os).nodup h.nd)) fun x => ?_
  rw [ev_mem, sortS_mem, mem_og]
  constructor
  · rintro (hx | hx)
    · obtain ⟨t, ht, e⟩ := nmT_mem.mp hx
      have := (h.tri t ht).1 x e
      obtain ⟨i, hi, e2⟩ := List.getElem_of_mem this
      refine ⟨i, by omega, hi, ?_⟩
      unfold og
      rw [List.getD_eq_getElem?_getD, List.getElem?_eq_getElem hi]
      exact e2.symm
    · cases hx
  · rintro ⟨i, hi, _, rfl⟩
    refine .inl (nmT_mem.mpr ?_)
    by_cases c : i ≤ 8
    · refine ⟨chT os (max i 1), (h.me _).mpr ⟨_, by omega, by omega, rfl⟩, ?_⟩
      obtain ⟨ab, _⟩ := chT_ab (os := os) (k := max i 1)
      by_cases i0 : i = 0
      · subst i0
        rcases ab with ⟨a, b⟩ | ⟨a, b⟩
        · rw [← a]; simp [nm3]
        · rw [← b]; simp [nm3]
      · rw [show max i 1 = i by omega] at ab ⊢
        rcases ab with ⟨a, b⟩ | ⟨a, b⟩
        · rw [← b]; simp [nm3]
        · rw [← a]; simp [nm3]
    · have : i = 9 := by omega
      subst this
      refine ⟨chT os 8, (h.me _).mpr ⟨8, by omega, by omega, rfl⟩, ?_⟩
      rw [show og os 9 = (chT os 8).2.2 from (chT_ab (os := os) (k := 8)).2.symm]
      simp [nm3]
end
/-! ### shown beside each other -/
theorem sp_two {p q : PyData} (hp : Sp p) (hq : Sp q) (h1 : p.depth ≤ 50) (h2 : q.depth ≤ 50) (h3 : wt p ≤ 3000000) (h4 : wt q ≤ 3000000) : Sp (.tuple [p, q]) := by
  refine ⟨?_, ?_, ?_, ?_⟩
  · simp only [PyData.showable, PyData.showableAll, hp.sh, hq.sh, Bool.and_true]
  · simp only [PyData.depth, PyData.depthAll]; omega
  · simp only [PyData.canLay0, PyData.canLayAll0, hp.can, hq.can, Bool.and_true]
  · rw [sizeLine_eq]; simp only [wt, wts]; omega
theorem wt_lot {l : List Str} (h : ∀ x ∈ l, Shrt x) (hl : l.length ≤ 100) : (encD (tupS l)).depth ≤ 1 ∧ wt (encD (tupS l)) ≤ 151003 := by
  rw [enc_tupS, PyData.depth, strs_dep, wt]
  have := strs_wt h
  omega
theorem wt_tris : ∀ {T : List Tri}, (∀ t ∈ T, ∀ x ∈ nm3 t, Shrt x) → PyData.depthAll (encDs (T.map triD)) ≤ 1 ∧ wts (encDs (T.map triD)) ≤ 5000 * T.length
  | [], _ => by simp [encDs, PyData.depthAll, wts]
  | t :: T, h => by
    obtain ⟨h1, h2⟩ := wt_tris fun u hu => h u (List.mem_cons_of_mem _ hu)
    have e : encD (triD t) = .tuple ((nm3 t).map .str) := enc_tupS (nm3 t)
    have hw := strs_wt (h t List.mem_cons_self)
    have hlen : (nm3 t).length = 3 := rfl
    rw [List.map_cons, encDs, e, PyData.depthAll, wts, PyData.depth, strs_dep, wt, List.length_cons]
    omega
theorem sp_threes {T : List Tri} {ms : List Str} (hT : ∀ t ∈ T, ∀ x ∈ nm3 t, Shrt x) (hl : T.length ≤ 100) (hm : ∀ x ∈ ms, Shrt x) (hml : ms.length ≤ 100) : pureD (.tup [tris T, tupS ms]) = true ∧ Sp (encD (.tup [tris T, tupS ms])) := by
  have p1 := pure_tris T
  have p2 : pureD (tupS ms) = true := by rw [tupS, pureD]; exact pureDs_strs ms
  refine ⟨by simp only [pureD, pureDs, p1, p2, Bool.and_true], ?_⟩
  have e : encD (.tup [tris T, tupS ms]) = .tuple [encD (tris T), encD (tupS ms)] := by rw [encD, encDs, encDs, encDs]
  rw [e]
  obtain ⟨d1, w1⟩ := wt_tris hT
  obtain ⟨d2, w2⟩ := wt_lot hm hml
  refine sp_two (sp_tris hT hl) (sp_lot hm hml) ?_ (by omega) ?_ (by omega)
  · rw [tris, encD, PyData.depth]; omega
  · rw [tris, encD, wt]; omega
/-- what agreed tells, looked at -/
theorem sp_told {T : List Tri} (h3 : Tri3 T) {L : List Str} (hr : Rise L) (hne : L ≠ []) (hw : ∀ x ∈ L, Wd x) (hl : L.length ≤ 13) : pureD (.tup [wordD (bu T 13 L).1, (bu T 13 L).2]) = true ∧ Sp (encD (.tup [wordD (bu T 13 L).1, (bu T 13 L).2])) := by
  have e : ∀ d : D, encD (.tup [wordD (bu T 13 L).1, d]) = .tuple [encD (wordD (bu T 13 L).1), encD d] := fun d => by rw [encD, encDs, encDs, encDs]
  have hwd : pureD (wordD (bu T 13 L).1) = true ∧ Sp (encD (wordD (bu T 13 L).1)) ∧ (encD (wordD (bu T 13 L).1)).depth ≤ 50 ∧ wt (encD (wordD (bu T 13 L).1)) ≤ 3000000 := by
    cases (bu T 13 L).1 with
    | true => exact ⟨rfl, ⟨by decide +kernel, by decide +kernel, by decide +kernel, by rw [sizeLine_eq]; decide +kernel⟩, by decide +kernel, by decide +kernel⟩
    | false => exact ⟨rfl, ⟨by decide +kernel, by decide +kernel, by decide +kernel, by rw [sizeLine_eq]; decide +kernel⟩, by decide +kernel, by decide +kernel⟩
  obtain ⟨p1, s1, d1, w1⟩ := hwd
  cases hb : (bu T 13 L).1 with
  | true =>
    have BT := bu_tree h3 13 hr hne hw hl hb
    have htree : Tree (bu T 13 L).2 := ⟨BT.tr, by rw [BT.nm.length_eq]; omega⟩
    rw [hb] at p1 s1 d1 w1 e
    have h1 := htree.sz
    have h2 := htree.ht
    have h4 := enc_dep (bu T 13 L).2
    have h5 := tr_wt _ BT.tr
    refine ⟨by simp only [pureD, pureDs, p1, tr_pure _ BT.tr, Bool.and_true], ?_⟩
    rw [e]
    exact sp_two s1 htree.sp d1 (by omega) w1 (by omega)
  | false =>
    obtain ⟨M, e1, m2, m3, m4, m5⟩ := bu_lot h3 13 hr hne hl hb
    rw [hb] at p1 s1 d1 w1 e
    have hM : ∀ x ∈ M, Shrt x := fun x hx => (hw x (m4 x hx)).1.sh
    have hMl : M.length ≤ 13 := Nat.le_trans (List.Nodup.length_le_of_subset m2.nd fun x hx => m4 x hx) hl
    rw [e1]
    have p2 : pureD (tupS M) = true := by rw [tupS, pureD]; exact pureDs_strs M
    refine ⟨by simp only [pureD, pureDs, p1, p2, Bool.and_true], ?_⟩
    rw [e]
    obtain ⟨d2, w2⟩ := wt_lot hM (by omega)
    exact sp_two s1 (sp_lot hM (by omega)) d1 (by omega) w1 (by omega)
set_option maxRecDepth 100000
set_option maxHeartbeats 1000000
theorem two2 (a b : D) : (!decide (((([a, b] : List D).length : Nat) : Int) = 2)) = false := by simp
section
variable {B : List Fn} {f fto ftd fi fh fl fb fg fn fd : Nat} {S : Sto} {Q : PR}
theorem j_emp {F : Fw} {ρ : DP.Env} {neg tp : Bool} {a : E} (q : wE F a ρ S fun x S1 => ([] : List D).length ≤ sizeLine ∧ empW tp x S1 fun b => Q (.v (.bl (negB neg b))) S1) : wE F (.emp neg tp a) ρ S Q := q
theorem right_tree_ok (hT : B[f]? = some ⟨3, 5, bRightT fto fh fg⟩) (hTo : B[fto]? = some ⟨2, 3, bTreeOf ftd⟩) (hTd : B[ftd]? = some ⟨2, 6, bTold fi ftd⟩) (hI : B[fi]? = some ⟨1, 2, bNameL⟩) (hH : B[fh]? = some ⟨2, 3, bHasL fl⟩) (hL : B[fl]? = some ⟨1, 4, bLots fb⟩) (hB : B[fb]? = some ⟨1, 4, bBelow⟩)
    {T : List Tri} {L : List Str} (j : Nat) (h3 : Tri3 T) (hr : Rise L) (hne : L ≠ []) (hw : ∀ x ∈ L, Wd x) (hl : L.length ≤ 13) (hin : ∀ t ∈ T, TriIn L t) (hb : (bu T 13 L).1 = true) (q : ∀ S', Sub S S' → Q (.v (.bl true)) S') :
    W B (j + 17) f [tris T, tupS L, .tup [wordD (bu T 13 L).1, (bu T 13 L).2]] S Q := by
  have BT := bu_tree h3 13 hr hne hw hl hb
  rw [hb]
  show W B (j + 17) f [.tup (T.map triD), tupS L, .tup [.str "tree", (bu T 13 L).2]] S Q
  refine enter (b := ⟨3, 5, bRightT fto fh fg⟩) (ρ := [some (.tup (T.map triD)), some (tupS L), some (.tup [.str "tree", (bu T 13 L).2]), none, none]) (n := j + 16) hT rfl rfl ?_
  show wSs (W B (j + 16)) (bRightT fto fh fg) _ _ _
  delta bRightT
  have hsz : sz (bu T 13 L).2 ≤ 60 := by
    have := sz_nms _ BT.tr
    rw [BT.nm.length_eq] at this
    omega
  have shT : ∀ t ∈ T, ∀ x ∈ nm3 t, Shrt x := fun t ht x hx => by
    have h := hin t ht
    simp only [nm3, List.mem_cons, List.not_mem_nil, or_false] at hx
    rcases hx with rfl | rfl | rfl
    · exact (hw _ h.1).1.sh
    · exact (hw _ h.2.1).1.sh
    · exact (hw _ h.2.2).1.sh
  repeat' contradiction
  rw [two2]
  refine i_F ?_
  repeat' contradiction
  rw [decide_eq_true rfl]
  refine i_T ?_
  repeat' contradiction
  refine tree_of_ok hTo hTd hI h3 j hr hne hw hl hb fun S1 s1 => ?_
  refine ⟨_, rfl, ?_⟩
  refine i_T ?_
  refine j_emp ?_
  refine r_lc ?_
  refine w_seq ?_
  refine r_var rfl ?_
  refine q_tup ?_
  refine lc_ok (fun i acc S' => acc = [] ∧ Sub S1 S') ?_ ?_ ⟨rfl, Sub.rfl⟩
  · intro i d acc S2 K hd ⟨ha, s2⟩ next
    subst ha
    obtain ⟨t, ht, rfl⟩ := tris_at hd
    have htT := List.mem_of_getElem? ht
    refine ⟨trivial, bn_name ?_⟩
    repeat' contradiction
    refine hasL_ok (k := j + 13) hH hL hB BT.tr hsz (shT t htT) fun S3 s3 => ?_
    rw [BT.hasT htT (hin t htT)]
    refine x_tru rfl ?_
    refine i_nT ?_
    exact next none S3 ⟨rfl, s2.trans s3⟩
  · intro acc S2 ⟨ha, s2⟩
    subst ha
    refine ⟨trivial, ?_⟩
    refine ⟨Nat.zero_le _, ?_⟩
    exact ⟨[], rfl, q S2 (s1.trans s2)⟩
theorem right_lot_ok (hT : B[f]? = some ⟨3, 5, bRightT fto fh fg⟩) (hG : B[fg]? = some ⟨3, 8, bGroupL⟩) {T : List Tri} {L : List Str} (j : Nat) (h3 : Tri3 T) (hr : Rise L) (hne : L ≠ []) (hw : ∀ x ∈ L, Wd x) (hl : L.length ≤ 13) (hts : ∀ y ∈ nmT T, Shrt y) (hb : (bu T 13 L).1 = false) (q : ∀ S', Sub S S' → Q (.v (.bl true)) S') :
    W B (j + 17) f [tris T, tupS L, .tup [wordD (bu T 13 L).1, (bu T 13 L).2]] S Q := by
  obtain ⟨M, e1, m2, m3, m4, m5⟩ := bu_lot h3 13 hr hne hl hb
  rw [hb, e1]
  show W B (j + 17) f [tris T, tupS L, .tup [.str "lot", .tup (M.map .str)]] S Q
  refine enter (b := ⟨3, 5, bRightT fto fh fg⟩) (ρ := [some (tris T), some (tupS L), some (.tup [.str "lot", .tup (M.map .str)]), none, none]) (n := j + 16) hT rfl rfl ?_
  show wSs (W B (j + 16)) (bRightT fto fh fg) _ _ _
  delta bRightT
  have shL : ∀ x ∈ L, Shrt x := fun x hx => (hw x hx).1.sh
  have shM : ∀ x ∈ M, Shrt x := fun x hx => shL x (m4 x hx)
  have hMl : M.length ≤ 13 := Nat.le_trans (List.Nodup.length_le_of_subset m2.nd fun x hx => m4 x hx) hl
  repeat' contradiction
  rw [two2]
  refine i_F ?_
  repeat' contradiction
  rw [decide_eq_false (show ¬ (("lot" : Str) = "tree") by decide)]
  refine i_F ?_
  repeat' contradiction
  rw [decide_eq_true (show (("lot" : Str) = "lot") from rfl)]
  repeat' contradiction
  rw [List.length_map, decide_eq_false (by omega)]
  refine i_F ?_
  refine z_nil ?_
  refine z_ife ?_
  refine t_emp ?_
  refine r_lc ?_
  refine w_seq ?_
  repeat' contradiction
  refine lc_if (f := D.str) D.str (fun _ => false) trivial (fun x hx Kt hKt => ?_) ?_
  · repeat' contradiction
    refine c_ninST' (shM x hx) shL (x_bl ?_)
    rw [decide_eq_true (m4 x hx)]
    exact i_F hKt
  rw [show (M.filter fun _ => false) = [] by simp]
  refine ⟨Nat.zero_le _, [], rfl, false, rfl, ?_⟩
  refine i_F ?_
  refine z_nil ?_
  refine z_ife ?_
  refine t_cmp ?_
  refine r_sset ?_
  repeat' contradiction
  obtain ⟨ks, e1, e2, e3, hk⟩ := x_ssetS (Q := fun r _ => ∃ zs : List Str, r = .n (.lst ((sortS zs).map .str)) ∧ zs.Nodup ∧ ∀ x, x ∈ zs ↔ x ∈ M) (r := .v (.tup (M.map .str))) (S := S) (xs := M) rfl (by omega) fun ys hnd hm => ⟨ys, rfl, hnd, hm⟩
  refine ⟨ks, e1, e2, e3, fun ys hn hm => ?_⟩
  obtain ⟨zs, ez, hnd, hmz⟩ := hk ys hn hm
  rw [ez, Rise.of_sort hnd m2 hmz]
  repeat' contradiction
  refine c_neSS shM ?_
  repeat' contradiction
  obtain ⟨x0, M', rfl⟩ : ∃ x0 M', M = x0 :: M' := by
    cases M with
    | nil => simp at m3
    | cons x M' => exact ⟨x, M', rfl⟩
  refine p_tup (by exact atI_zero _ _) ?_
  repeat' contradiction
  refine group_ok (k := j + 15) hG m2 List.mem_cons_self (.inl rfl) (by omega) shM hts fun S1 s1 => ?_
  repeat' contradiction
  rw [List.length_map, List.length_map, m5 x0 List.mem_cons_self]
  rw [decide_eq_true rfl]
  exact q S1 s1
theorem chain_ok (hT : B[f]? = some ⟨1, 6, bChain fn fd⟩) (hN : B[fn]? = some ⟨2, 4, bNames fd⟩) (hD : B[fd]? = some ⟨2, 8, bDraw⟩) (k : Nat) {p c : Addr} {n : Nat} (hp : PenOk S p c n) (hn : n + 30 < 60000)
    (q : ∀ S' (T : List Tri) (os : List Str), PenOk S' p c (n + 30) → Ext p S S' → Chain os T → (∀ x ∈ os, Wd x) → Q (.v (tris T)) S') : W B (k + 3) f [.ref p] S Q := by
  refine enter (b := ⟨1, 6, bChain fn fd⟩) (ρ := [some (.ref p), none, none, none, none, none]) hT rfl rfl ?_
  show wSs (W B (k + 2)) (bChain fn fd) _ _ _
  delta bChain
  repeat' contradiction
  refine names2_ok (k := k) (m := 10) hN hD hp (by omega) (by omega) fun S1 xs hp1 hE1 hxl hpool _ => ?_
  have hpl : Pooled xs := hpool
  refine r_mn fun t ht => ?_
  have htp : t ≠ p := hp1.ne ht
  have et : up S1 t (.lst (xs.map .str)) t = some (.lst (xs.map .str)) := up_same
  have hp2 := hp1.new (o := .lst (xs.map .str)) ht
  have hE2 : Ext p S (up S1 t (.lst (xs.map .str))) := hE1.then (hE1.none htp ht)
  have hSt : S t = none := hE1.none htp ht
  refine z_set ?_
  repeat' contradiction
  refine ⟨by omega, by omega, ?_⟩
  refine lc_ok (fun i acc S' => ∃ ys rest : List Str, acc = ys.map .str ∧ S' t = some (.lst (rest.map .str)) ∧ (ys ++ rest).Perm xs ∧ ys.length = i ∧ PenOk S' p c (n + 10 + i) ∧ Ext p S S') ?_ ?_ ⟨[], xs, rfl, et, List.Perm.refl _, rfl, hp2, hE2⟩
  · intro i x acc S' K hx' ⟨ys, rest, ha, hS, hP, hi, hpn, hE⟩ next
    refine ⟨trivial, ?_⟩
    have hil : i < 10 := by
      have := (List.getElem?_eq_some_iff.mp hx').1
      simpa [rngD] using this
    have hrl : ys.length + rest.length = 10 := by rw [← List.length_append, hP.length_eq, hxl]
    subst ha
    have hl0 : ((rest.map D.str).length : Int) = rest.length := by rw [List.length_map]
    repeat' contradiction
    refine draw_ok hD hpn (by omega) (by rw [hl0]; omega) (by rw [hl0]; omega) ?_
    intro S2 r hp2 hf h0 h1
    have hSt2 : S2 t = some (.lst (rest.map .str)) := (hf t htp).trans hS
    repeat' contradiction
    refine m_popI hSt2 h0 (by omega) (by omega) fun x hx => ?_
    repeat' contradiction
    refine next _ _ ⟨ys ++ [x], rest.eraseIdx r.toNat, by simp, up_same, ?_, by simp [hi], ?_, ?_⟩
    · refine List.Perm.trans ?_ hP
      rw [List.append_assoc]
      exact List.Perm.append_left ys hx
    · exact (hp1.upd ht hp2)
    · intro b o hb e
      have hbt : b ≠ t := fun z => by subst z; rw [hSt] at e; cases e
      exact (up_ne hbt).trans ((hf b hb).trans (hE b o hb e))
  intro acc S' ⟨os, rest, ha, hS, hP, hi, hpn, hE⟩
  refine ⟨trivial, ?_⟩
  subst ha
  have hol : os.length = 10 := by simpa [rngD] using hi
  rw [show (rngD 0 (10 : Int).toNat).length = 10 by simp [rngD]] at hpn
  have hond : os.Nodup := (List.nodup_append.mp (hP.nodup_iff.mpr hpl.nodup)).1
  have how : ∀ x ∈ os, Wd x := fun x hx => hpl.wd x (hP.subset (List.mem_append_left _ hx))
  refine r_mn fun u hu => ?_
  have eu : up S' u (.lst (os.map .str)) u = some (.lst (os.map .str)) := up_same
  have hp3 := hpn.new (o := .lst (os.map .str)) hu
  have hE3 : Ext p S (up S' u (.lst (os.map .str))) := hE.then (hE.none (hpn.ne hu) hu)
  generalize up S' u (.lst (os.map .str)) = S3 at eu hp3 hE3
  refine z_set ?_
  repeat' contradiction
  refine ⟨1, 9, rfl, rfl, by decide, by decide, ?_⟩
  have at_og : ∀ i : Nat, i < 10 → atI (os.map D.str) (i : Nat) = some (.str (og os i)) := fun i hi => atI_nat (by
    rw [List.getElem?_map, List.getElem?_eq_getElem (by omega)]
    unfold og
    rw [List.getD_eq_getElem?_getD, List.getElem?_eq_getElem (by omega)]
    rfl)
  have erng : rngD 1 ((9 : Int) - 1).toNat = (List.range 8).map fun i : Nat => D.int ((i + 1 : Nat) : Int) := by
    unfold rngD
    refine List.map_congr_left fun i _ => ?_
    congr 1
    omega
  rw [erng]
  refine lc_all (f := fun i : Nat => D.int ((i + 1 : Nat) : Int)) (fun i => .tup [.str (og os 0), .str (og os (i + 1)), .str (og os (i + 2))]) trivial (fun i hi Kt hKt => ?_) ?_
  · have hi8 := List.mem_range.mp hi
    repeat' contradiction
    refine p_lst eu (at_og 0 (by omega)) ?_
    repeat' contradiction
    refine p_lst eu (at_og (i + 1) (by omega)) ?_
    repeat' contradiction
    have e2 : ((i + 1 : Nat) : Int) + 1 = ((i + 2 : Nat) : Int) := by omega
    rw [e2]
    refine p_lst eu (at_og (i + 2) (by omega)) ?_
    repeat' contradiction
  refine r_mn fun v hv => ?_
  have ev' : up S3 v (.lst ((List.range 8).map fun i => D.tup [.str (og os 0), .str (og os (i + 1)), .str (og os (i + 2))])) v = some (.lst ((List.range 8).map fun i => D.tup [.str (og os 0), .str (og os (i + 1)), .str (og os (i + 2))])) := up_same
  have hp4 := hp3.new (o := .lst ((List.range 8).map fun i => D.tup [.str (og os 0), .str (og os (i + 1)), .str (og os (i + 2))])) hv
  have hE4 : Ext p S (up S3 v (.lst ((List.range 8).map fun i => D.tup [.str (og os 0), .str (og os (i + 1)), .str (og os (i + 2))]))) := hE3.then (hE3.none (hp3.ne hv) hv)
  generalize up S3 v (.lst ((List.range 8).map fun i => D.tup [.str (og os 0), .str (og os (i + 1)), .str (og os (i + 2))])) = S4 at ev' hp4 hE4
  refine z_ret ?_
  repeat' contradiction
  refine lc_all (f := fun i : Nat => D.tup [.str (og os 0), .str (og os (i + 1)), .str (og os (i + 2))]) (fun i => triD (chT os (i + 1))) ev' (fun i hi Kt hKt => ?_) ?_
  · have hi8 := List.mem_range.mp hi
    have hne : og os 0 ≠ og os (i + 1) := fun e => by have := og_inj hond (by omega) (by omega) e; omega
    repeat' contradiction
    refine ⟨[og os 0, og os (i + 1)], rfl, by simp, by simp, fun m1 hm1 hl1 => ?_⟩
    repeat' contradiction
    refine ⟨[og os 0, og os (i + 1)], rfl, by simp, by simp, fun m2 hm2 hl2 => ?_⟩
    repeat' contradiction
    have e12 : D.tup [.str m1, .str m2, .str (og os (i + 2))] = triD (chT os (i + 1)) := by
      have a1 := hl1 (og os 0) (by simp)
      have a2 := hl1 (og os (i + 1)) (by simp)
      have a3 := hl2 (og os 0) (by simp)
      have a4 := hl2 (og os (i + 1)) (by simp)
      simp only [if_true, Bool.false_eq_true, if_false] at a1 a2 a3 a4
      simp only [List.mem_cons, List.not_mem_nil, or_false] at hm1 hm2
      unfold chT
      by_cases c : ltS (og os 0) (og os (i + 1))
      · rw [if_pos c]
        have x1 : m1 = og os 0 := hm1.resolve_right fun z => by rw [z] at a1; exact a1 c
        have x2 : m2 = og os (i + 1) := hm2.resolve_left fun z => by rw [z] at a4; exact a4 c
        rw [x1, x2]; rfl
      · rw [if_neg c]
        have c2 : ltS (og os (i + 1)) (og os 0) := Classical.byContradiction fun z => hne (ltS_tri c z)
        have x1 : m1 = og os (i + 1) := hm1.resolve_left fun z => by rw [z] at a2; exact a2 c2
        have x2 : m2 = og os 0 := hm2.resolve_right fun z => by rw [z] at a3; exact a3 c2
        rw [x1, x2]; rfl
    rw [e12]
    exact hKt
  have eT : ((List.range 8).map fun i => triD (chT os (i + 1))) = (((List.range 8).map fun i => chT os (i + 1)).map nm3).map tupS := by
    rw [List.map_map, List.map_map]; rfl
  rw [eT]
  refine r_rs0 ?_
  refine b_sortT (fun l hl z => by obtain ⟨t, _, rfl⟩ := List.mem_map.mp hl; cases z) ?_
  obtain ⟨T', hpT, e⟩ := tri_perm (sortL_perm (((List.range 8).map fun i => chT os (i + 1)).map nm3))
  rw [e, ← map_tri]
  repeat' contradiction
  refine q S4 T' os (hp4.mono (by omega)) hE4 ⟨hol, by rw [hpT.length_eq]; simp, hond, fun t => ?_⟩ how
  rw [hpT.mem_iff, List.mem_map]
  constructor
  · rintro ⟨i, hi, rfl⟩
    have := List.mem_range.mp hi
    exact ⟨i + 1, by omega, by omega, rfl⟩
  · rintro ⟨k, h1, h2, rfl⟩
    exact ⟨k - 1, List.mem_range.mpr (by omega), by rw [show k - 1 + 1 = k by omega]⟩
end
end DP
set_option maxRecDepth 100000
set_option maxHeartbeats 6000000
namespace Dp_k09
open PySem L2 DP
local macro_rules
  | `(tactic| get_elem_tactic_trivial) => `(tactic| first
    | with_reducible assumption
    | exact up_same
    | (refine up_keep (by with_reducible assumption) ?_; get_elem_tactic_trivial))
local macro_rules
  | `(tactic| decreasing_trivial) => `(tactic| first
    | with_reducible assumption
    | (with_unfolding_all exact Nat.le_of_ble_eq_true rfl)
    | omega
    | exact shrt_of (by with_unfolding_all rfl)
    | exact sh_cut (by with_reducible assumption) _ _
    | exact cmul_l (by omega) (by omega)
    | exact cmul_r (by omega) (by omega)
    | exact pow_lit (by decide) (by decide) (by decide))
local macro_rules
  | `(tactic| contradiction) => `(tactic| with_reducible first
    | assumption | (apply r_var; with_unfolding_all rfl)
    | apply r_cst | apply r_glo | apply r_tup | apply r_lst | apply r_dK | apply r_bin | apply r_neg | apply r_cmp | apply r_chn
    | apply r_not | apply r_and | apply r_or | apply r_ite | apply r_ix | apply r_sl | apply r_rev | apply r_isi | apply r_bi | apply r_me | apply r_call | apply r_lc
    | apply r_es0 | apply r_es1 | apply r_rs0 | apply r_rs1 | apply r_o0 | apply r_o1 | apply r_part | apply r_ot0 | apply r_ot1 | apply r_mv
    | apply t_not | apply t_and | apply t_or | apply t_cmp | apply t_chn | (apply t_var; with_unfolding_all rfl) | apply t_isi | apply t_bi | apply t_me | apply t_call | apply t_ix
    | (apply x_len; with_unfolding_all exact Nat.le_of_ble_eq_true rfl) | (apply x_ty; with_unfolding_all exact ⟨_, rfl⟩) | (apply x_tyL; get_elem_tactic_trivial; rfl)
    | apply x_bl | apply x_int | (apply x_tru; with_unfolding_all rfl) | (apply x_isi; with_unfolding_all rfl)
    | apply i_T | apply i_F | apply i_nT | apply i_nF
    | apply o_addI | (apply o_addS; decreasing_trivial) | (apply o_addSS; decreasing_trivial; decreasing_trivial) | (apply o_addT; decreasing_trivial) | (apply o_addTT; decreasing_trivial; decreasing_trivial) | apply o_sub
    | (apply o_mulI; decreasing_trivial) | (apply o_mulS; decreasing_trivial) | (apply o_fdiv; decreasing_trivial) | (apply o_mod; decreasing_trivial) | (apply o_pow; decreasing_trivial)
    | (apply o_addNN; decreasing_trivial) | (apply o_addRN; get_elem_tactic_trivial; decreasing_trivial) | (apply o_addNR; get_elem_tactic_trivial; decreasing_trivial) | (apply o_addRR; get_elem_tactic_trivial; get_elem_tactic_trivial; decreasing_trivial)
    | apply c_eqI | apply c_eqS | apply c_eqB | apply c_neI | apply c_neS | apply c_neB | apply c_ltI | apply c_ltS | apply c_gtI | apply c_leI | apply c_geI | apply c_inS | apply c_ninS
    | (apply p_str; decreasing_trivial; with_unfolding_all rfl) | (apply p_tup; with_unfolding_all rfl) | (apply p_lstN; with_unfolding_all rfl) | (apply p_lst; get_elem_tactic_trivial; with_unfolding_all rfl) | (apply p_dK; get_elem_tactic_trivial; with_unfolding_all rfl)
    | (apply l_strS; decreasing_trivial) | (apply l_str; decreasing_trivial) | apply l_tup | apply l_fz | apply l_lstN | (apply l_lst; get_elem_tactic_trivial) | apply v_tup | apply v_lstN | (apply v_lst; get_elem_tactic_trivial)
    | (apply b_lenS; decreasing_trivial) | apply b_lenT | apply b_lenN | (apply b_lenL; get_elem_tactic_trivial) | apply b_abs | apply b_intI | apply b_intB | apply b_tuplN | apply b_tuplT | (apply b_tuplL; get_elem_tactic_trivial) | apply b_listN | apply b_listT | (apply b_listL; get_elem_tactic_trivial)
    | apply z_nil | apply z_exp | apply z_set | apply z_ret | apply z_ife | apply z_for | apply z_brk | apply z_cnt | apply z_sub
    | apply bn_name | (apply q_str; decreasing_trivial) | apply q_tup | apply q_fz | apply q_n | (apply q_ref; get_elem_tactic_trivial) | apply w_seq | apply w_rng1 | apply w_rng2)
local macro_rules
  | `(tactic| contradiction) => `(tactic| with_reducible first
    | (apply p_cells; get_elem_tactic_trivial) | (apply p_at; get_elem_tactic_trivial) | (apply p_left; get_elem_tactic_trivial)
    | (apply y_at; get_elem_tactic_trivial) | (apply y_left; get_elem_tactic_trivial))
local macro_rules
  | `(tactic| contradiction) => `(tactic| with_reducible first
    | apply r_lc2 | apply w_enum | apply e_n | apply c_isnotB | apply b_min | apply bn_tup2)
local macro_rules
  | `(tactic| contradiction) => `(tactic| with_reducible first
    | apply t_emp | apply e_tT | apply e_nT | apply e_nN | (apply e_nL; get_elem_tactic_trivial) | apply r_get2 | apply w_rngD | apply bn_tup3 | apply r_mn2 | apply r_mnS | apply r_sdf)
variable {D0 : Addr}
theorem b0 : (bodies D0)[0]? = some ⟨2, 4, bAllNames [D0]⟩ := rfl
theorem b1 : (bodies D0)[1]? = some ⟨2, 11, bGroups⟩ := rfl
theorem b2 : (bodies D0)[2]? = some ⟨2, 7, bBuilt 1 2⟩ := rfl
theorem b3 : (bodies D0)[3]? = some ⟨2, 2, bAgreed 0 2⟩ := rfl
theorem b4 : (bodies D0)[4]? = some ⟨1, 1, bPen⟩ := rfl
theorem b5 : (bodies D0)[5]? = some ⟨2, 8, bDraw⟩ := rfl
theorem b6 : (bodies D0)[6]? = some ⟨2, 4, bNames 5⟩ := rfl
theorem b7 : (bodies D0)[7]? = some ⟨1, 1, bLeast⟩ := rfl
theorem b8 : (bodies D0)[8]? = some ⟨1, 5, bFork 7⟩ := rfl
theorem b9 : (bodies D0)[9]? = some ⟨3, 7, bTree 5 8⟩ := rfl
theorem b10 : (bodies D0)[10]? = some ⟨1, 4, bBelow⟩ := rfl
theorem b11 : (bodies D0)[11]? = some ⟨1, 4, bLots 10⟩ := rfl
theorem b12 : (bodies D0)[12]? = some ⟨2, 3, bHasL 11⟩ := rfl
theorem b13 : (bodies D0)[13]? = some ⟨1, 5, bAllOf⟩ := rfl
theorem b14 : (bodies D0)[14]? = some ⟨2, 5, bAnyTri 5⟩ := rfl
theorem b15 : (bodies D0)[15]? = some ⟨3, 12, bTriples 5 9 13 12 14⟩ := rfl
theorem b16 : (bodies D0)[16]? = some ⟨2, 4, bBesideL 5⟩ := rfl
theorem b17 : (bodies D0)[17]? = some ⟨2, 4, bEvery⟩ := rfl
theorem b18 : (bodies D0)[18]? = some ⟨3, 8, bGroupL⟩ := rfl
theorem b19 : (bodies D0)[19]? = some ⟨2, 5, bAgreeL 18 19⟩ := rfl
theorem b20 : (bodies D0)[20]? = some ⟨1, 2, bNameL⟩ := rfl
theorem b21 : (bodies D0)[21]? = some ⟨2, 6, bTold 20 21⟩ := rfl
theorem b22 : (bodies D0)[22]? = some ⟨2, 3, bTreeOf 21⟩ := rfl
theorem b23 : (bodies D0)[23]? = some ⟨3, 5, bRightT 22 12 18⟩ := rfl
theorem b24 : (bodies D0)[24]? = some ⟨1, 6, bChain 6 5⟩ := rfl
/-- triples of some names, others beside -/
structure TM (xs : List Str) (T : List Tri) (ms : List Str) : Prop where
  ok : ∀ t ∈ T, okT xs t
  mm : ∀ x ∈ ms, x ∈ xs
  len : xs.length ≤ 13
  wd : ∀ x ∈ xs, Wd x
  tl : T.length ≤ 64
  ml : ms.length ≤ 64
section
variable {xs ms : List Str} {T : List Tri} (h : TM xs T ms)
include h
theorem TM.t3 : Tri3 T := fun t ht => ⟨(h.ok t ht).2.1, (h.ok t ht).2.2⟩
theorem TM.sub : ∀ x ∈ ev T ms, x ∈ xs := fun x hx => (ev_mem.mp hx).elim (nmT_ok h.ok x) (h.mm x)
theorem TM.evl : (ev T ms).length ≤ 13 := Nat.le_trans (List.Nodup.length_le_of_subset (ev_rise T ms).nd h.sub) h.len
theorem TM.evw : ∀ x ∈ ev T ms, Wd x := fun x hx => h.wd x (h.sub x hx)
theorem TM.shT : ∀ t ∈ T, ∀ x ∈ nm3 t, Shrt x := fun t ht x hx => (h.wd x ((h.ok t ht).1 x hx)).1.sh
theorem TM.shN : ∀ y ∈ nmT T, Shrt y := fun y hy => (h.wd y (nmT_ok h.ok y hy)).1.sh
theorem TM.tin : ∀ t ∈ T, TriIn (ev T ms) t := fun t ht => by
  have m : ∀ x ∈ nm3 t, x ∈ ev T ms := fun x hx => ev_mem.mpr (.inl (nmT_mem.mpr ⟨t, ht, hx⟩))
  exact ⟨m _ (by simp [nm3]), m _ (by simp [nm3]), m _ (by simp [nm3])⟩
theorem TM.none : TM xs T [] := ⟨h.ok, fun x hx => absurd hx List.not_mem_nil, h.len, h.wd, h.tl, by simp⟩
theorem TM.right {S : Sto} {Q : PR} (hne : ev T ms ≠ []) (q : ∀ S', DP.Sub S S' → Q (.v (.bl true)) S') : W (bodies D0) 60 23 [tris T, tupS (ev T ms), .tup [wordD (bu T 13 (ev T ms)).1, (bu T 13 (ev T ms)).2]] S Q := by
  cases hb : (bu T 13 (ev T ms)).1 with
  | true =>
    have := right_tree_ok (S := S) (Q := Q) (B := bodies D0) b23 b22 b21 b20 b12 b11 b10 43 h.t3 (ev_rise T ms) hne h.evw h.evl h.tin hb q
    rwa [hb] at this
  | false =>
    have := right_lot_ok (S := S) (Q := Q) (B := bodies D0) b23 b18 43 h.t3 (ev_rise T ms) hne h.evw h.evl h.shN hb q
    rwa [hb] at this
end
theorem c_eqP2 {S : Sto} {Q : PR} {ds : List D} (h : pureD (.tup ds) = true) (hs : SeqAt.shaped (encD (.tup ds)) = true) (he : PyData.eqv (encD (.tup ds)) (encD (.tup ds)) = true) (q : Q (.v (.bl true)) S) : cmpW .eq (.v (.tup ds)) (.v (.tup ds)) S Q :=
  ⟨_, _, rdg_pure S _ h, rdg_pure S _ h, hs, hs, by rw [he]; exact q⟩
theorem nmT0 {x : Str} (h : x ∈ nmT []) : False := by cases h
theorem ev_a : ev [] [("a" : Str)] = [("a" : Str)] := (ev_rise _ _).eq (List.pairwise_singleton _ _) fun x => ev_mem.trans ⟨fun h => h.elim (fun z => (nmT0 z).elim) id, .inr⟩
theorem ev_ab : ev [] [("a" : Str), ("b" : Str)] = [("a" : Str), ("b" : Str)] := (ev_rise _ _).eq (by decide +kernel) fun x => ev_mem.trans ⟨fun h => h.elim (fun z => (nmT0 z).elim) id, .inr⟩
theorem bu_a : bu [] 13 [("a" : Str)] = (true, .str "a") := rfl
theorem bu_ab : bu [] 13 [("a" : Str), ("b" : Str)] = (true, .tup [.str "a", .str "b"]) := by
  have e : grps [("a" : Str), ("b" : Str)] [] = [[("a" : Str)], [("b" : Str)]] := by decide +kernel
  rw [bu, if_neg (by decide), e, if_neg (by decide)]
  rfl
theorem left : Left 60 := by
  intro D0 ns hns
  refine enter (b := ⟨1, 12, c_law D0⟩) (ρ := [some (.fz (ns.map .int)), none, none, none, none, none, none, none, none, none, none, none]) rfl rfl rfl ?_
  show wSs (W (bodies D0) 60) (c_law D0) _ _ _
  delta c_law
  repeat' contradiction
  refine pen_ok b4 ?_
  intro c ms hc hms
  refine r_mn fun p hp => ?_
  have hpc : p ≠ c := fun z => by subst z; rw [up_same] at hp; cases hp
  have hP1 : PenOk (up (up (fun x => none) c (Ob.lst (List.map D.int ms))) p (Ob.dK (pen c 0 0))) p c (600 * 0) := ⟨hpc, ms, 0, 0, up_same, up_keep hp up_same, by decide, by decide, by decide, hms⟩
  generalize up (up (fun x => none) c (Ob.lst (List.map D.int ms))) p (Ob.dK (pen c 0 0)) = S1 at hP1
  repeat' contradiction
  refine ⟨by decide, by decide, ?_⟩
  refine for_ok (fun i ρ U => ∃ o2 o3 o4 o5 o6 o7 o8 o9 o10 o11, ρ = [some (.fz (ns.map .int)), some (.ref p), o2, o3, o4, o5, o6, o7, o8, o9, o10, o11] ∧ PenOk U p c (600 * i)) (fun i x ρ U K hx hI hK => ⟨trivial, ?_⟩) (fun ρ U hI => ⟨trivial, ?_⟩) ⟨_, _, _, _, _, _, _, _, _, _, rfl, hP1⟩
  · obtain ⟨o2, o3, o4, o5, o6, o7, o8, o9, o10, o11, rfl, hpU⟩ := hI
    obtain ⟨hi, rfl⟩ := rng_at hx
    have hi : i < 5 := hi
    refine bn_name ?_
    repeat' contradiction
    refine draw_ok b5 hpU (by omega) (by decide) (by decide) fun S2 r hp2 hf2 g0 g1 => ?_
    repeat' contradiction
    refine draw_ok b5 hp2 (by omega) (by decide) (by decide) fun S3 r2 hp3 hf3 _ _ => ?_
    repeat' contradiction
    obtain ⟨dm, hdm, hmm⟩ := atI_lt (xs := [D.int (3 + r), .int 10]) (i := if decide (r2 = 0) = true then 1 else 0) (by split <;> omega) (by show (if decide (r2 = 0) = true then (1 : Int) else 0) < 2; split <;> omega)
    obtain ⟨m, rfl, hm3, hm10⟩ : ∃ m : Nat, dm = .int (m : Nat) ∧ 3 ≤ m ∧ m ≤ 10 := by
      simp only [List.mem_cons, List.not_mem_nil, or_false] at hmm
      rcases hmm with rfl | rfl
      · exact ⟨(3 + r).toNat, by congr 1; omega, by omega, by omega⟩
      · exact ⟨10, rfl, by decide, by decide⟩
    refine p_lstN hdm ?_
    repeat' contradiction
    refine names2_ok (k := 58) b6 b5 hp3 (by omega) (by omega) fun S4 xs hp4 hE4 hxl hpool _ => ?_
    have hpl : Pooled xs := hpool
    refine r_rs0 (b_tuplN ?_)
    refine r_mv ?_
    show wSs _ _ [some (.fz (ns.map .int)), some (.ref p), some (.int (i : Nat)), some (.int (m : Nat)), some (tupS xs), o5, o6, o7, o8, o9, o10, o11] _ _
    repeat' contradiction
    refine triples_ok (k := 56) (m := 12) b15 b5 b9 b8 b7 b13 b12 b11 b10 b14 hp4 (by omega) (by omega) (by omega) hpl.nodup hpl.wd (by decide) fun S5 T hp5 hE5 hTn hTl hTo => ?_
    repeat' contradiction
    refine besideL_ok (k := 58) b16 b5 hp5 (by omega) (by omega) fun S6 ms hp6 hE6 hms hmsl => ?_
    have tm : TM xs T ms := ⟨hTo, hms, by omega, hpl.wd, by omega, by omega⟩
    have shm : ∀ x ∈ ms, Shrt x := fun x hx => (hpl.wd x (hms x hx)).1.sh
    repeat' contradiction
    refine every_ok (k := 59) b17 (by omega) (by omega) fun S7 s7 => ?_
    refine r_mv ?_
    have hp7 := hp6.sub s7
    show wSs _ _ [some (.fz (ns.map .int)), some (.ref p), some (.int (i : Nat)), some (.int (m : Nat)), some (tupS xs), some (tris T), some (tupS ms), some (.tup ((ev T ms).map .str)), o8, o9, o10, o11] _ _
    repeat' contradiction
    by_cases hne : ev T ms = []
    · rw [hne]
      refine i_nT ?_
      refine z_nil ?_
      refine z_nil (hK _ _ ⟨_, _, _, _, _, _, _, _, _, _, rfl, hp7.mono (by omega)⟩)
    rw [show ((ev T ms).map D.str).isEmpty = false by
      cases h : ev T ms with
      | nil => exact absurd h hne
      | cons _ _ => rfl]
    refine i_nF ?_
    obtain ⟨pu1, sp1⟩ := sp_threes tm.shT (by omega) shm (by omega)
    obtain ⟨pu2, sp2⟩ := sp_told tm.t3 (ev_rise T ms) hne tm.evw tm.evl
    refine z_set ?_
    repeat' contradiction
    refine b_reprV pu1 sp1 ?_
    generalize hk1 : (encD (.tup [tris T, tupS ms])).shown = kept1
    repeat' contradiction
    refine agreed_ok b3 b0 b2 b1 44 (.inr rfl) (by omega) (by omega) hne tm.evl fun S8 s8 => ?_
    refine r_mv ?_
    refine z_set ?_
    repeat' contradiction
    refine agree_ok b19 b18 tm.shN 45 13 (ev_rise T ms) (.inl rfl) (fun y hy => (tm.evw y hy).1.sh) tm.evl (by omega) fun b S9 hb s9 => ?_
    have hbb : b = (bu T 13 (ev T ms)).1 := by
      rw [Bool.eq_iff_iff]
      exact hb.trans (bu_ag tm.t3 13 _ (ev_rise T ms) hne tm.evl).symm
    subst hbb
    have hdue : atI [D.str "lot", .str "tree"] (if (bu T 13 (ev T ms)).1 = true then 1 else 0) = some (wordD (bu T 13 (ev T ms)).1) := by
      cases (bu T 13 (ev T ms)).1 <;> rfl
    repeat' contradiction
    refine p_lstN hdue ?_
    refine r_mv ?_
    have hp9 := (hp7.sub s8).sub s9
    show wSs _ _ [some (.fz (ns.map .int)), some (.ref p), some (.int (i : Nat)), some (.int (m : Nat)), some (tupS xs), some (tris T), some (tupS ms), some (.tup ((ev T ms).map .str)), some (.str kept1), some (.tup [wordD (bu T 13 (ev T ms)).1, (bu T 13 (ev T ms)).2]), some (wordD (bu T 13 (ev T ms)).1), o11] _ _
    repeat' contradiction
    refine tm.right hne fun S10 s10 => ?_
    refine x_tru rfl ?_
    refine i_nT ?_
    repeat' contradiction
    show cmpW .ne (.v (.str _)) (.v (.str _)) _ _
    refine c_neS (x_bl ?_)
    rw [decide_eq_true rfl]
    refine i_F ?_
    repeat' contradiction
    refine b_reprV pu1 sp1 ?_
    rw [hk1]
    repeat' contradiction
    rw [decide_eq_true (show kept1 = kept1 from rfl)]
    repeat' contradiction
    refine agreed_ok b3 b0 b2 b1 44 (.inr rfl) (by omega) (by omega) hne tm.evl fun S11 s11 => ?_
    refine r_rs0 ?_
    refine b_reprV pu2 sp2 ?_
    repeat' contradiction
    refine b_reprV pu2 sp2 ?_
    refine c_neS (x_bl ?_)
    rw [decide_eq_true rfl]
    refine i_F ?_
    refine z_nil ?_
    refine z_set ?_
    repeat' contradiction
    refine every_ok (k := 59) (ms := []) b17 (by omega) (by decide) fun S12 s12 => ?_
    refine r_mv ?_
    have hp12 := ((hp9.sub s10).sub s11).sub s12
    show wSs _ _ [some (.fz (ns.map .int)), some (.ref p), some (.int (i : Nat)), some (.int (m : Nat)), some (tupS xs), some (tris T), some (tupS ms), some (.tup ((ev T ms).map .str)), some (.str kept1), some (.tup [wordD (bu T 13 (ev T ms)).1, (bu T 13 (ev T ms)).2]), some (wordD (bu T 13 (ev T ms)).1), some (.tup ((ev T []).map .str))] _ _
    repeat' contradiction
    by_cases hno : ev T [] = []
    · rw [hno]
      refine i_nT ?_
      refine i_F ?_
      refine z_nil ?_
      refine z_nil ?_
      refine z_nil (hK _ _ ⟨_, _, _, _, _, _, _, _, _, _, rfl, hp12.mono (by omega)⟩)
    rw [show ((ev T []).map D.str).isEmpty = false by
      cases h : ev T [] with
      | nil => exact absurd h hno
      | cons _ _ => rfl]
    refine i_nF ?_
    repeat' contradiction
    refine agreed_ok (ms := []) b3 b0 b2 b1 44 (.inl ⟨D0, List.mem_cons_self, rfl, rfl⟩) (by omega) (by decide) hno tm.none.evl fun S13 s13 => ?_
    repeat' contradiction
    refine tm.none.right hno fun S14 s14 => ?_
    refine x_tru rfl ?_
    refine i_nT ?_
    refine z_nil ?_
    refine z_nil ?_
    refine z_nil (hK _ _ ⟨_, _, _, _, _, _, _, _, _, _, rfl, ((hp12.sub s13).sub s14).mono (by omega)⟩)
  · obtain ⟨o2, o3, o4, o5, o6, o7, o8, o9, o10, o11, rfl, hpU⟩ := hI
    rw [show (rngD 0 (5 : Int).toNat).length = 5 by simp [rngD]] at hpU
    repeat' contradiction
    refine chain_ok b24 b6 b5 57 hpU (by omega) fun S3 T os hp3 hE3 ch how => ?_
    have tm : TM os T [] := ⟨ch.tri, fun x hx => absurd hx List.not_mem_nil, by rw [ch.len]; decide, how, by rw [ch.tl]; decide, by simp⟩
    have hT0 : T ≠ [] := fun z => by have := ch.tl; rw [z] at this; cases this
    have hne : ev T [] ≠ [] := ev_ne hT0
    have htl := ch.tl
    have hbu : (bu T 13 (ev T [])).1 = true := (bu_ag tm.t3 13 _ (ev_rise T []) hne tm.evl).mpr (by rw [ch.ev]; exact ch.ag 10 (Nat.le_refl _))
    refine r_mv ?_
    show wSs _ _ [some (.fz (ns.map .int)), some (.ref p), o2, o3, o4, some (tris T), o6, o7, o8, o9, o10, o11] _ _
    repeat' contradiction
    refine agreed_ok (ms := []) b3 b0 b2 b1 44 (.inl ⟨D0, List.mem_cons_self, rfl, rfl⟩) (by omega) (by decide) hne tm.evl fun S4 s4 => ?_
    rw [hbu]
    repeat' contradiction
    show cmpW .ne (.v (.str "tree")) (.v (.str "tree")) _ _
    refine c_neS (x_bl ?_)
    rw [decide_eq_true (show (("tree" : Str) = "tree") from rfl)]
    refine i_F ?_
    repeat' contradiction
    refine every_ok (k := 59) (ms := []) b17 (by omega) (by decide) fun S5 s5 => ?_
    repeat' contradiction
    refine agreed_ok (ms := []) b3 b0 b2 b1 44 (.inl ⟨D0, List.mem_cons_self, rfl, rfl⟩) (by omega) (by decide) hne tm.evl fun S6 s6 => ?_
    repeat' contradiction
    refine tm.right hne fun S7 s7 => ?_
    refine x_tru rfl ?_
    refine i_nT ?_
    refine z_nil ?_
    refine z_ret ?_
    refine r_and ?_
    refine r_cmp ?_
    repeat' contradiction
    refine agreed_ok (T := []) (ms := ["a"]) b3 b0 b2 b1 44 (.inr rfl) (by decide) (by decide) (by rw [ev_a]; decide) (by rw [ev_a]; decide) fun S8 s8 => ?_
    rw [ev_a, bu_a]
    repeat' contradiction
    refine c_eqP2 (ds := [.str "tree", .str "a"]) rfl (by decide +kernel) (by decide +kernel) ?_
    refine ⟨true, rfl, ?_⟩
    refine i_T ?_
    refine r_cmp ?_
    repeat' contradiction
    refine agreed_ok (T := []) (ms := ["a", "b"]) b3 b0 b2 b1 44 (.inr rfl) (by decide) (by decide) (by rw [ev_ab]; decide) (by rw [ev_ab]; decide) fun S9 s9 => ?_
    rw [ev_ab, bu_ab]
    repeat' contradiction
    refine c_eqP2 (ds := [.str "tree", .tup [.str "a", .str "b"]]) rfl (by decide +kernel) (by decide +kernel) ?_
    rfl
theorem holds : PySem.Challenge.rw_joinedtrees_k09_trees_of_triples.Holds := holds_of (depth := 60) ⟨rfl, by decide, by decide⟩ left
end Dp_k09
theorem PySem.Challenge.cw_joinedtrees_k09_trees_of_triples_holds : PySem.Challenge.rw_joinedtrees_k09_trees_of_triples.Holds := by
  exact Dp_k09.holds
