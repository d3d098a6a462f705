import PyProof.Rows.All
import Wide.All
import OpenK.AllK
import Wide.FinOn
import HandS.ForMost
import HandS.IsInst
import HandS.Codes
import HandS.TupLe
import KE.SortData
import HandS.Exc
import HandS.Lambda
import HandS.HeadHook1
import HandS.CallSlots
import HandS.More
import HandS.Property
import HandS.ExcOwn
import HandS.TupAny
import HandS.Deep
import HandS.Star
import HandS.Text
import OpenK.KOps
import KE.KCallOwn
import HandS.HeadWalk
import HandS.RaiseMore
import HandS.WordsDict
import HandS.TupLen
import HandS.IntHex
import HandS.DictTup
import HandS.Iter
import HandS.Zip
import KE.GoesDict
import KE.GoesEnum
import HandS.Small
import HandS.Style
import PyProof.DictMoreH
import HandS.FStr
import KE.SortKeyHeap
import KE.KSortKey
import HandS.Head0
import HandS.Head1
import HandS.Head2
import HandS.HeadHook4
import HandS.EndTab
import HandS.Defaults
import PySem.Challenge.RW_bothvanish_k73_whole_lines_about_standin
section
set_option Elab.async false
set_option linter.all false
set_option maxRecDepth 100000
set_option maxHeartbeats 2000000
/-! Mini: a small Python over pure data, by evaluation. Values, store, syntax, evaluator. -/
namespace Mn
open PySem

/-- data: none, bools, ints, texts, tuples, lists and dicts that nobody changes any more, places in the store -/
inductive D where
  | non | bl (b : Bool) | int (i : Int) | str (s : Str)
  | tup (xs : List D) | lst (xs : List D) | dct (t : Bool) (kvs : List (D × D)) | loc (j : Nat)

mutual
def D.beq : D → D → Bool
  | .non, .non => true
  | .bl a, .bl b => a == b
  | .int a, .int b => a == b
  | .str a, .str b => decide (a = b)
  | .tup a, .tup b => D.beqs a b
  | .lst a, .lst b => D.beqs a b
  | .dct t a, .dct u b => t == u && D.beqp a b
  | .loc a, .loc b => a == b
  | _, _ => false
def D.beqs : List D → List D → Bool
  | [], [] => true
  | x :: xs, y :: ys => D.beq x y && D.beqs xs ys
  | _, _ => false
def D.beqp : List (D × D) → List (D × D) → Bool
  | [], [] => true
  | (x, u) :: xs, (y, v) :: ys => D.beq x y && (D.beq u v && D.beqp xs ys)
  | _, _ => false
end
mutual
theorem D.beq_refl : ∀ a : D, D.beq a a = true
  | .non => rfl
  | .bl b => by simp [D.beq]
  | .int i => by simp [D.beq]
  | .str s => by simp [D.beq]
  | .tup xs => by simp only [D.beq]; exact D.beqs_refl xs
  | .lst xs => by simp only [D.beq]; exact D.beqs_refl xs
  | .dct t kvs => by simp only [D.beq, beq_self_eq_true, Bool.true_and]; exact D.beqp_refl kvs
  | .loc j => by simp [D.beq]
theorem D.beqs_refl : ∀ a : List D, D.beqs a a = true
  | [] => rfl
  | x :: xs => by simp only [D.beqs, D.beq_refl x, D.beqs_refl xs, Bool.and_self]
theorem D.beqp_refl : ∀ a : List (D × D), D.beqp a a = true
  | [] => rfl
  | (x, u) :: xs => by simp only [D.beqp, D.beq_refl x, D.beq_refl u, D.beqp_refl xs, Bool.and_self]
end
mutual
theorem D.beq_eq : ∀ {a b : D}, D.beq a b = true → a = b
  | .non, b, h => by cases b <;> simp_all [D.beq]
  | .bl x, b, h => by cases b <;> simp_all [D.beq]
  | .int i, b, h => by cases b <;> simp_all [D.beq]
  | .str s, b, h => by cases b <;> simp_all [D.beq]
  | .tup xs, b, h => by
    cases b with
    | tup ys => simp only [D.beq] at h; rw [D.beqs_eq h]
    | _ => simp [D.beq] at h
  | .lst xs, b, h => by
    cases b with
    | lst ys => simp only [D.beq] at h; rw [D.beqs_eq h]
    | _ => simp [D.beq] at h
  | .dct t xs, b, h => by
    cases b with
    | dct u ys =>
      simp only [D.beq, Bool.and_eq_true] at h
      obtain ⟨h1, h2⟩ := h
      rw [D.beqp_eq h2, eq_of_beq h1]
    | _ => simp [D.beq] at h
  | .loc j, b, h => by cases b <;> simp_all [D.beq]
theorem D.beqs_eq : ∀ {a b : List D}, D.beqs a b = true → a = b
  | [], b, h => by cases b <;> simp_all [D.beqs]
  | x :: xs, b, h => by
    cases b with
    | nil => simp [D.beqs] at h
    | cons y ys =>
      simp only [D.beqs, Bool.and_eq_true] at h
      rw [D.beq_eq h.1, D.beqs_eq h.2]
theorem D.beqp_eq : ∀ {a b : List (D × D)}, D.beqp a b = true → a = b
  | [], b, h => by cases b <;> simp_all [D.beqp]
  | (x, u) :: xs, b, h => by
    cases b with
    | nil => simp [D.beqp] at h
    | cons y ys =>
      obtain ⟨y, v⟩ := y
      simp only [D.beqp, Bool.and_eq_true] at h
      rw [D.beq_eq h.1, D.beq_eq h.2.1, D.beqp_eq h.2.2]
end
instance : DecidableEq D := fun a b => if h : D.beq a b = true then isTrue (D.beq_eq h) else isFalse fun e => h (by rw [e]; exact D.beq_refl b)

/-! all places in it lie below n -/
mutual
def D.bnd (n : Nat) : D → Bool
  | .tup xs => D.bnds n xs
  | .lst xs => D.bnds n xs
  | .dct _ kvs => D.bndp n kvs
  | .loc j => Nat.blt j n
  | _ => true
def D.bnds (n : Nat) : List D → Bool
  | [] => true
  | x :: xs => D.bnd n x && D.bnds n xs
def D.bndp (n : Nat) : List (D × D) → Bool
  | [] => true
  | (_, u) :: xs => D.bnd n u && D.bndp n xs
end

/-- what stands in the store -/
inductive AO where
  /-- k: nobody may change it -/
  | lst (k : Bool) (xs : List D)
  /-- t: the keys are tuples; k: it is being walked -/
  | dct (t k : Bool) (kvs : List (D × D))
  | ins (c : Str) (fs : List (Str × D))
deriving DecidableEq
def bndf (n : Nat) : List (Str × D) → Bool
  | [] => true
  | (_, u) :: xs => D.bnd n u && bndf n xs
def AO.bnd (n : Nat) : AO → Bool
  | .lst _ xs => D.bnds n xs
  | .dct _ _ kvs => D.bndp n kvs
  | .ins _ fs => bndf n fs
abbrev Store := List AO
/-- a value that comes: data, or a list, a dict that is new and nobody's yet -/
inductive RV where
  | d (d : D)
  | fl (xs : List D)
  | fd (t : Bool) (kvs : List (D × D))
def RV.toD : RV → D
  | .d x => x
  | .fl xs => .lst xs
  | .fd t kvs => .dct t kvs
/-- an exception of the program's own: its class, its fields -/
structure Ex where
  cls : Str
  fs : List (Str × D)
inductive Res (α : Type) where
  | ok (a : α) (st : Store)
  | exc (e : Ex) (st : Store)
  | bad
def Res.bind {α β : Type} (r : Res α) (k : α → Store → Res β) : Res β := match r with
  | .ok a st => k a st
  | .exc e st => .exc e st
  | .bad => .bad
abbrev Env := List (Option D)
/-- how a statement ends -/
inductive RS where
  | nx (env : Env) (st : Store)
  | rt (r : RV) (st : Store)
  | bk (env : Env) (st : Store)
  | ct (env : Env) (st : Store)
  | exc (e : Ex) (env : Env) (st : Store)
  | bad

/-! ### operations on data -/
def lim : Nat := 1000000
/-- the list or tuple that a value is, for reading -/
def seqOf (st : Store) : D → Option (List D)
  | .tup xs => some xs
  | .lst xs => some xs
  | .loc j => match st[j]? with
    | some (.lst _ xs) => some xs
    | _ => none
  | _ => none
/-- the dict that a value is, for reading -/
def dctOf (st : Store) : D → Option (List (D × D))
  | .dct _ kvs => some kvs
  | .loc j => match st[j]? with
    | some (.dct _ _ kvs) => some kvs
    | _ => none
  | _ => none
/-! as the library's plain data -/
mutual
def pd : D → Option PyData
  | .non => some .none
  | .bl b => some (.bool b)
  | .int i => some (.int i)
  | .str s => some (.str s)
  | .tup xs => (pds xs).map .tuple
  | .lst xs => (pds xs).map .list
  | _ => none
def pds : List D → Option (List PyData)
  | [] => some []
  | x :: xs => match pd x with
    | some y => (pds xs).map fun ys => y :: ys
    | none => none
end
def pdS (st : Store) : D → Option PyData
  | .loc j => match st[j]? with
    | some (.lst _ xs) => (pds xs).map .list
    | _ => none
  | d => pd d
/-- == -/
def eqD (st : Store) (a b : D) : Option Bool := match pdS st a, pdS st b with
  | some x, some y => if SeqAt.shaped x = true ∧ SeqAt.shaped y = true then some (PyData.eqv x y) else none
  | _, _ => none
/-- a key of a dict -/
def keyK : D → Option L2.Key
  | .int i => some (.inl i)
  | .str s => some (.inr s)
  | _ => none
def keysK : List D → Option (List L2.Key)
  | [] => some []
  | x :: xs => match keyK x with
    | some k => (keysK xs).map fun ks => k :: ks
    | none => none
def keyT : D → Option (List L2.Key)
  | .tup xs => keysK xs
  | _ => none
/-- it may be a key of such a dict -/
def isKey (t : Bool) (d : D) : Bool := if t then (keyT d).isSome else (keyK d).isSome
def look (kvs : List (D × D)) (k : D) : Option D := match kvs with
  | [] => none
  | (a, v) :: r => if a = k then some v else look r k
def putD (kvs : List (D × D)) (k v : D) : List (D × D) := if (look kvs k).isSome then kvs.map fun q => if q.1 = k then (q.1, v) else q else kvs ++ [(k, v)]
def delD (kvs : List (D × D)) (k : D) : List (D × D) := kvs.filter fun q => decide (q.1 ≠ k)
/-- the place that an index tells -/
def atD (xs : List D) (i : Int) : Option D := L2.atI xs i
def intsOf : List D → Option (List Int)
  | [] => some []
  | .int i :: r => (intsOf r).map fun is => i :: is
  | _ => none
def strsOf : List D → Option (List Str)
  | [] => some []
  | .str i :: r => (strsOf r).map fun is => i :: is
  | _ => none

/-- it may be a list -/
def isL : D → Bool
  | .lst _ => true
  | .loc _ => true
  | _ => false
inductive Bop where
  | add | sub | mul | fdiv | mod | pow | xor
deriving DecidableEq
def binI (o : Bop) (i j : Int) : Option D := match o with
  | .add => some (.int (i + j))
  | .sub => some (.int (i - j))
  | .mul => if (-(2 ^ 64) < i ∧ i < 2 ^ 64) ∨ (-(2 ^ 64) < j ∧ j < 2 ^ 64) then some (.int (i * j)) else none
  | .fdiv => if 0 < j ∧ j < 1073741824 then some (.int (i / j)) else none
  | .mod => if 0 < j then some (.int (i % j)) else none
  | .pow => if 0 ≤ j ∧ j ≤ 1000000 ∧ i.natAbs < 2 ^ 64 then some (.int (i ^ j.toNat)) else none
  | .xor => some (.int (Builtin.bitXor i j))
def binD (st : Store) (o : Bop) (a b : D) : Option RV := match a, b with
  | .int i, .int j => (binI o i j).map .d
  | .str x, .str y => if o = .add ∧ x.length + y.length ≤ lim then some (.d (.str (x ++ y))) else none
  | .tup xs, .tup ys => if o = .add ∧ xs.length + ys.length ≤ lim then some (.d (.tup (xs ++ ys))) else none
  | .lst xs, .int k => if o = .mul ∧ 0 ≤ k ∧ k ≤ 1000000 ∧ xs.length * k.toNat ≤ lim then some (.fl (List.replicate k.toNat xs).flatten) else none
  | a, b => if o = .add ∧ isL a = true ∧ isL b = true then (match seqOf st a, seqOf st b with
    | some xs, some ys => if xs.length + ys.length ≤ lim then some (.fl (xs ++ ys)) else none
    | _, _ => none) else none

inductive Cop where
  | eq | ne | lt | le | gt | ge | inn | nin | isN | ntN
deriving DecidableEq
/-- the kind of a dict's keys -/
def dkOf (st : Store) : D → Option Bool
  | .dct t _ => some t
  | .loc j => match st[j]? with
    | some (.dct t _ _) => some t
    | _ => none
  | _ => none
/-- a look into a dict -/
def dgetD (st : Store) (d k : D) : Option (Option D) := match dkOf st d, dctOf st d with
  | some t, some kvs => if isKey t k = true then some (look kvs k) else none
  | _, _ => none
/-- x in y -/
def inD (st : Store) (x y : D) : Option Bool := match x, y with
  | .str z, .str s => some (!(Builtin.Str.occurrences s z 0 s.length 1).isEmpty)
  | x, y => match seqOf st y with
    | some ys => match pdS st x, pds ys with
      | some p, some qs => if SeqAt.shaped p = true ∧ SeqAt.shaped (.list qs) = true then some (qs.any fun z => PyData.eqv z p) else none
      | _, _ => none
    | none => (dgetD st y x).map fun o => o.isSome
def ltD (a b : D) : Option Bool := match a, b with
  | .int i, .int j => some (decide (i < j))
  | .tup xs, .tup ys => match intsOf xs, intsOf ys with
    | some is, some js => some (HT.lexLt is js)
    | _, _ => none
  | _, _ => none
def leT (ns ms : List Int) : Bool := Ob.lexAt (fun j => decide (ns.getD j 0 = ms.getD j 0)) (fun j => decide (ns.getD j 0 ≤ ms.getD j 0)) (decide (ns.length ≤ ms.length)) 0 (min ns.length ms.length)
def leD (a b : D) : Option Bool := match a, b with
  | .int i, .int j => some (decide (i ≤ j))
  | .tup xs, .tup ys => match intsOf xs, intsOf ys with
    | some is, some js => some (leT is js)
    | _, _ => none
  | _, _ => none
def gtD (a b : D) : Option Bool := match a, b with
  | .int i, .int j => some (decide (j < i))
  | _, _ => none
def geD (a b : D) : Option Bool := match a, b with
  | .int i, .int j => some (decide (j ≤ i))
  | _, _ => none
def cmpD (st : Store) (o : Cop) (a b : D) : Option Bool := match o with
  | .eq => eqD st a b
  | .ne => (eqD st a b).map not
  | .lt => ltD a b
  | .gt => gtD a b
  | .le => leD a b
  | .ge => geD a b
  | .inn => inD st a b
  | .nin => (inD st a b).map not
  | .isN => if b = .non then some (decide (a = .non)) else none
  | .ntN => if b = .non then some (!decide (a = .non)) else none

/-! ### the syntax -/
inductive Tg where
  | name (i : Nat)
  | tup (is : List Nat)
/-- built-in functions -/
inductive Bif where
  | len | int | str | repr | abs | divmod | max | min | tuple | list | sorted | all | any
deriving DecidableEq
/-- methods of built-in types -/
inductive Bmt where
  | append | pop | index | get | join | split
deriving DecidableEq
mutual
inductive E where
  | var (i : Nat)
  | cst (d : D)
  | glo (x : Str)
  | bin (o : Bop) (a b : E)
  | neg (a : E)
  | cmp (o : Cop) (a b : E)
  | chn (o u : Cop) (a b c : E)
  | andv (a b : E)
  | orv (a b : E)
  | notv (a : E)
  | ife (t : T) (a b : E)
  | fld (a : E) (f : Str)
  | ix (a b : E)
  | sl (a : E) (lo hi : Es)
  | tup (es : Es)
  | lst (es : Es)
  | star (a : E) (es : Es)
  | dct (t : Bool)
  | lc (elt : E) (tg : Tg) (it : It) (c : T)
  | call (f : Str) (es : Es)
  | new (c : Str) (es : Es)
  | meth (a : E) (m : Str) (es : Es)
  | bif (f : Bif) (es : Es)
  | isi (a : E) (t : String ⊕ Str)
  | bmt (m : Bmt) (a : E) (es : Es)
  | fst (es : Es)
  | sortL (a : E)
  | callK (f : Str) (ps ks : List Str) (es : Es)
  | newK (c : Str) (ps ks : List Str) (es : Es)
  | methK (a : E) (m : Str) (ps ks : List Str) (es : Es)
inductive Es where
  | nil
  | cons (h : Bool) (e : E) (r : Es)
inductive T where
  | tt
  | val (e : E)
  | and (a b : T)
  | or (a b : T)
  | not (a : T)
inductive It where
  | val (e : E)
  | rng (a : E)
  | rng2 (a b : E)
  | enu (e : E)
  | items (e : E)
end
mutual
inductive S where
  | asg (i : Nat) (h : Bool) (e : E)
  | asgs (is : List Nat) (es : Es)
  | unp (is : List Nat) (e : E)
  | unpS (o i : E) (j : Nat) (e : E)
  | fset (o : E) (f : Str) (e : E)
  | iset (o i : E) (h : Bool) (e : E)
  | aug (i : Nat) (o : Bop) (e : E)
  | del (o i : E)
  | ifs (t : T) (a b : Ss)
  | whl (t : T) (b : Ss)
  | frs (tg : Tg) (it : It) (b : Ss)
  | ret (e : E)
  | retN
  | ex (e : E)
  | pass
  | brk
  | cnt
  | rse (c : Str) (es : Es)
  | bad
inductive Ss where
  | nil
  | cons (s : S) (r : Ss)
end

/-! ### evaluation -/
/-- the program as the evaluator sees it: module constants, which names of a class are properties, which are names of attributes of its instances, which of methods, which classes stand above a class -/
structure PTab where
  con : List (Str × D)
  prop : Str → Str → Bool
  isF : Str → Str → Bool
  isM : Str → Str → Bool
  sub : Str → Str → Bool
  cls : List Str
  exf : Str → List Str
/-- a def of the module, a method of a class -/
abbrev Fn := Str × Option Str
abbrev Calls := Fn → List D → Store → Res RV
def Res.ofOpt {α : Type} (o : Option α) (st : Store) : Res α := match o with
  | some a => .ok a st
  | none => .bad
/-- a new list, a new dict becomes an object of the store -/
def Res.kept (r : Res RV) : Res D := r.bind fun v st => match v with
  | .d x => .ok x st
  | .fl xs => .ok (.loc st.length) (st ++ [.lst false xs])
  | .fd t kvs => .ok (.loc st.length) (st ++ [.dct t false kvs])
def Res.froz (r : Res RV) : Res D := r.bind fun v st => .ok v.toD st
/-- a part of a slice -/
def Res.part (r : Res (List D)) : Res (Option Int) := r.bind fun ds st => match intsOf ds with
  | some l => .ok l.head? st
  | none => .bad
/-- nothing is raised -/
def Res.calm {α : Type} (r : Res α) : Res α := match r with
  | .exc _ _ => .bad
  | r => r
def Res.bool (r : Res D) : Res Bool := r.bind fun v st => match v with
  | .bl b => .ok b st
  | _ => .bad
def setAll (env : Env) : List Nat → List D → Env
  | i :: is, d :: ds => setAll (env.set i (some d)) is ds
  | _, _ => env
def bindTg (tg : Tg) (d : D) (env : Env) : Option Env := match tg with
  | .name i => some (env.set i (some d))
  | .tup is => match d with
    | .tup xs => if xs.length = is.length then some (setAll env is xs) else none
    | _ => none
def tgs : Tg → List Nat
  | .name i => [i]
  | .tup is => is
/-- the slots forgotten -/
def wipeE (env : Env) : List Nat → Env
  | [] => env
  | v :: vs => (wipeE env vs).set v none
/-- what a loop walks: the items, and what must stand still meanwhile -/
structure Src where
  items : List D
  still : Store → Bool
  lk : Option Nat
def stillL (st0 : Store) (d : D) (st : Store) : Bool := match d with
  | .loc j => decide (st[j]? = st0[j]?)
  | _ => true
/-- the dict at j is walked no more -/
def unlock (st : Store) (lk : Option Nat) : Store := match lk with
  | some j => match st[j]? with
    | some (.dct t _ kvs) => st.set j (.dct t false kvs)
    | _ => st
  | none => st
def intRange (lo : Int) (n : Nat) : List D := (List.range n).map fun (i : Nat) => D.int (lo + (i : Int))
def enumD (i : Nat) : List D → List D
  | [] => []
  | x :: xs => .tup [.int (i : Int), x] :: enumD (i + 1) xs
/-- a comprehension: f gives the item, or none where the test fails -/
def lcLoop (f : D → Store → Res (Option D)) : List D → List D → Store → Res RV
  | [], acc, st => .ok (.fl acc) st
  | d :: ds, acc, st => (f d st).bind fun o st' => match o with
    | some x => lcLoop f ds (acc ++ [x]) st'
    | none => lcLoop f ds acc st'
def frLoop (f : D → Env → Store → RS) : List D → Env → Store → RS
  | [], env, st => .nx env st
  | d :: ds, env, st => match f d env st with
    | .nx env' st' => frLoop f ds env' st'
    | .ct env' st' => frLoop f ds env' st'
    | .bk env' st' => .nx env' st'
    | r => r
def whLoop (c : Env → Store → Res Bool) (b : Env → Store → RS) : Nat → Env → Store → RS
  | 0, _, _ => .bad
  | n + 1, env, st => match c env st with
    | .ok true st' => match b env st' with
      | .nx env' st'' => whLoop c b n env' st''
      | .ct env' st'' => whLoop c b n env' st''
      | .bk env' st'' => .nx env' st''
      | r => r
    | .ok false st' => .nx env st'
    | .exc e st' => .exc e env st'
    | .bad => .bad
/-- the text of an int, a text -/
def fmtD : D → Option Str
  | .str s => if s.length ≤ lim then some s else none
  | .int i => if i.natAbs < 2 ^ 1900 then some (toString i) else none
  | _ => none
/-- repr of data -/
def showP (x : PyData) : Option Str := if (x.showable && (!x.hasDict && (decide (x.depth ≤ 50) && decide (x.shown.length ≤ lim)))) = true then some x.shown else none
def pdShow (st : Store) (d : D) : Option Str := (pdS st d).bind showP
/-- keywords: the values by the parameters' order -/
def kwOk (ps ks : List Str) (n : Nat) : Bool := decide (n = ps.length) && (decide (ks.length ≤ n) && (decide ks.Nodup && ((ks.all fun k => (ps.drop (n - ks.length)).contains k) && (ps.drop (n - ks.length)).all fun k => ks.contains k)))
def kwPerm {α : Type} (ps ks : List Str) (ds : List α) : List α := ps.filterMap fun x => (ps.zip (ds.take (ds.length - ks.length)) ++ ks.zip (ds.drop (ds.length - ks.length))).lookup x
/-- the key (len(x), x) -/
def keyLen : D → Option PyData
  | .tup xs => (intsOf xs).map fun is => .tuple [.int is.length, .tuple (is.map .int)]
  | _ => none
def keysLen : List D → Option (List PyData)
  | [] => some []
  | x :: xs => match keyLen x with
    | some k => (keysLen xs).map fun ks => k :: ks
    | none => none
def sortLen (xs : List D) : Option (List D) := (keysLen xs).bind fun ks => if xs.length ≤ lim then some (((xs.zip ks).mergeSort (PySem.W.dataLe false fun q => q.2)).map fun q => q.1) else none
def alikeB (ps : List PyData) : Bool := ps.all fun p => ps.all fun q => PySem.W.alike p q
def tupB : PyData → Bool
  | .tuple (_ :: _) => true
  | _ => false
def flatB : PyData → Bool
  | .none => false
  | .tuple _ => false
  | _ => true
def sortableB (ps : List PyData) : Bool := ps.all tupB || ps.all flatB
def isTu : D → Bool
  | .tup _ => true
  | _ => false
/-- sorted -/
def sortD (xs : List D) : Option (List D) := (pds xs).bind fun ps => if (alikeB ps && (sortableB ps && (decide (xs.length ≤ lim) && ps.all fun p => decide (p.depth ≤ 50)))) = true then
  some (((xs.zip ps).mergeSort (PySem.W.dataLe false fun q => q.2)).map fun q => q.1) else none
def lenD (st : Store) : List D → Option RV
  | [.str s] => if s.length ≤ lim then some (.d (.int s.length)) else none
  | [d] => (seqOf st d).map fun xs => .d (.int xs.length)
  | _ => none
def intD : List D → Option RV
  | [.int i] => some (.d (.int i))
  | [.bl b] => some (.d (.int (if b then 1 else 0)))
  | [.str s] => if s.length ≤ 640 then (intText? s).map fun i => .d (.int i) else none
  | _ => none
def strD : List D → Option RV
  | [.int i] => if i.natAbs < 2 ^ 1900 then some (.d (.str (toString i))) else none
  | [.str s] => some (.d (.str s))
  | _ => none
def reprD (st : Store) : List D → Option RV
  | [d] => (pdShow st d).map fun s => .d (.str s)
  | _ => none
def absD : List D → Option RV
  | [.int i] => some (.d (.int (if i < 0 then -i else i)))
  | _ => none
def dmD : List D → Option RV
  | [.int i, .int j] => if 0 < j ∧ j < 1073741824 then some (.d (.tup [.int (i / j), .int (i % j)])) else none
  | _ => none
def maxD : List D → Option RV
  | [.int i, .int j] => some (.d (.int (if j > i then j else i)))
  | _ => none
def minD : List D → Option RV
  | [.int i, .int j] => some (.d (.int (if j < i then j else i)))
  | _ => none
def tupD (st : Store) : List D → Option RV
  | [d] => (seqOf st d).map fun xs => .d (.tup xs)
  | _ => none
def lstD (st : Store) : List D → Option RV
  | [d] => (seqOf st d).map fun xs => .fl xs
  | _ => none
def srtD (st : Store) : List D → Option RV
  | [d] => if isL d = true ∨ isTu d = true then (seqOf st d).bind fun xs => (sortD xs).map .fl else none
  | _ => none
def isBl : D → Bool
  | .bl _ => true
  | _ => false
def allD (st : Store) : List D → Option RV
  | [d] => if isL d = true then (seqOf st d).bind fun xs => if xs.all isBl = true then some (.d (.bl (xs.all fun x => decide (x = .bl true)))) else none else none
  | _ => none
def anyD (st : Store) : List D → Option RV
  | [d] => if isL d = true then (seqOf st d).bind fun xs => if xs.all isBl = true then some (.d (.bl (xs.any fun x => decide (x = .bl true)))) else none else none
  | _ => none
def bifD (st : Store) (f : Bif) (vs : List D) : Option RV := match f with
  | .len => lenD st vs
  | .int => intD vs
  | .str => strD vs
  | .repr => reprD st vs
  | .abs => absD vs
  | .divmod => dmD vs
  | .max => maxD vs
  | .min => minD vs
  | .tuple => tupD st vs
  | .list => lstD st vs
  | .sorted => srtD st vs
  | .all => allD st vs
  | .any => anyD st vs
def ixD (st : Store) (a b : D) : Option D := match a, b with
  | .str s, .int i => if s.length ≤ lim then (L2.atI s.cps.toList i).map fun c => .str ⟨#[c]⟩ else none
  | a, b => match seqOf st a with
    | some xs => match b with
      | .int i => atD xs i
      | _ => none
    | none => (dgetD st a b).bind fun o => o
def cutD (xs : List D) (lo hi : Option Int) : List D := (xs.drop (HT.sIx xs.length 0 lo)).take (HT.sIx xs.length xs.length hi - HT.sIx xs.length 0 lo)
def slD (st : Store) (a : D) (lo hi : Option Int) : Option RV := match a with
  | .str s => if s.length ≤ lim then some (.d (.str (Txt.slice s lo hi))) else none
  | .tup xs => some (.d (.tup (cutD xs lo hi)))
  | a => (seqOf st a).map fun xs => .fl (cutD xs lo hi)
/-! methods of built-in types -/
def appD (st : Store) (a : D) : List D → Res RV
  | [v] => match a with
    | .loc j => match st[j]? with
      | some (.lst false xs) => if xs.length < lim then .ok (.d .non) (st.set j (.lst false (xs ++ [v]))) else .bad
      | _ => .bad
    | _ => .bad
  | _ => .bad
def popD (st : Store) (a : D) : List D → Res RV
  | [] => match a with
    | .loc j => match st[j]? with
      | some (.lst false xs) => match xs[xs.length - 1]? with
        | some v => .ok (.d v) (st.set j (.lst false xs.dropLast))
        | none => .bad
      | _ => .bad
    | _ => .bad
  | _ => .bad
def getD (st : Store) (d : D) : List D → Res RV
  | [k] => match dgetD st d k with
    | some o => .ok (.d (o.getD .non)) st
    | none => .bad
  | [k, x] => match dgetD st d k with
    | some o => .ok (.d (o.getD x)) st
    | none => .bad
  | _ => .bad
def joinD (st : Store) (a : D) : List D → Res RV
  | [d] => match a with
    | .str s => match (seqOf st d).bind strsOf with
      | some ys => if (ys.map (·.length)).sum + ys.length * s.length ≤ lim then .ok (.d (.str (Txt.join s ys))) st else .bad
      | none => .bad
    | _ => .bad
  | _ => .bad
def splitD (st : Store) (a : D) : List D → Res RV
  | [.str z] => match a with
    | .str s => if z.length ≠ 0 ∧ s.length + 2 ≤ lim then .ok (.fl ((Txt.split s z).map .str)) st else .bad
    | _ => .bad
  | _ => .bad
def bmtD (st : Store) (m : Bmt) (a : D) (vs : List D) : Res RV := match m with
  | .append => appD st a vs
  | .pop => popD st a vs
  | .get => getD st a vs
  | .join => joinD st a vs
  | .split => splitD st a vs
  | .index => .bad
/-- the receiver is of the method's type -/
def tyB (m : Bmt) (st : Store) (x : D) : Bool := match m with
  | .get => (dkOf st x).isSome && (dctOf st x).isSome
  | .join => match x with
    | .str _ => true
    | _ => false
  | .split => match x with
    | .str _ => true
    | _ => false
  | _ => isL x && (seqOf st x).isSome
/-- the built-in types that are asked for -/
def tyNames : List String := ["tuple", "int", "bool", "str"]
/-- the class or built-in type of a value -/
def ownT (p : PTab) (t : String ⊕ Str) (T : String) : Option Bool := match t with
  | .inl n => L2.kitB T n
  | .inr c => if p.cls.contains c then some false else none
def isiD (p : PTab) (st : Store) (d : D) (t : String ⊕ Str) : Option Bool := match d with
    | .non => ownT p t "NoneType"
    | .bl _ => ownT p t "bool"
    | .int _ => ownT p t "int"
    | .str _ => ownT p t "str"
    | .tup _ => ownT p t "tuple"
    | .lst _ => ownT p t "list"
    | .dct _ _ => none
    | .loc j => match st[j]? with
      | some (.lst _ _) => ownT p t "list"
      | some (.dct _ false _) => ownT p t "dict"
      | some (.ins k _) => if p.cls.contains k then (match t with
        | .inl n => if tyNames.contains n then some false else none
        | .inr c => if p.cls.contains c then some (p.sub k c) else none) else none
      | _ => none
/-- the method of a class that a built-in function asks -/
def spcOf : Bif → Option Str
  | .len => some "__len__"
  | .repr => some "__repr__"
  | .str => some "__str__"
  | _ => none
def spcOk : Bif → RV → Bool
  | .len, .d (.int n) => decide (0 ≤ n ∧ n < 1000000)
  | .repr, .d (.str _) => true
  | .str, .d (.str _) => true
  | _, _ => false
def setF (fs : List (Str × D)) (f : Str) (d : D) : List (Str × D) := match fs with
  | [] => [(f, d)]
  | (g, u) :: r => if g = f then (f, d) :: r else (g, u) :: setF r f d
/-- a list that nobody walks and that is no script -/
def lstOf (st : Store) : D → Option (List D)
  | .lst xs => some xs
  | .loc j => match st[j]? with
    | some (.lst false xs) => some xs
    | _ => none
  | _ => none
def augD (st : Store) (o : Bop) (a b : D) : Res D := if o = .add then (match a, b with
  | .int i, .int j => .ok (.int (i + j)) st
  | .loc j, b => match st[j]?, lstOf st b with
    | some (.lst false xs), some ys => if xs.length + ys.length ≤ lim then .ok (.loc j) (st.set j (.lst false (xs ++ ys))) else .bad
    | _, _ => .bad
  | _, _ => .bad) else .bad
def isetD (st : Store) (o i v : D) : Option Store := match o with
  | .loc j => match st[j]? with
    | some (.lst false xs) => match i with
      | .int k => (L2.ixN xs.length k).map fun n => st.set j (.lst false (xs.set n v))
      | _ => none
    | some (.dct t false kvs) => if isKey t i ∧ kvs.length < lim then some (st.set j (.dct t false (putD kvs i v))) else none
    | _ => none
  | _ => none
def delAt (st : Store) (o i : D) : Option Store := match o with
  | .loc j => match st[j]? with
    | some (.dct t false kvs) => if isKey t i ∧ (look kvs i).isSome then some (st.set j (.dct t false (delD kvs i))) else none
    | _ => none
  | _ => none
def fsetD (p : PTab) (st : Store) (o : D) (f : Str) (v : D) : Option Store := match o with
  | .loc j => match st[j]? with
    | some (.ins c fs) => if fs.length < 100 ∧ p.isF c f = true then some (st.set j (.ins c (setF fs f v))) else none
    | _ => none
  | _ => none

/-- the argument is an instance -/
def spcAt (st : Store) (ds : List D) : Option (Str × D) := match ds with
  | [.loc j] => match st[j]? with
    | some (.ins c _) => some (c, .loc j)
    | _ => none
  | _ => none
def bifR (p : PTab) (C : Calls) (f : Bif) (ds : List D) (st : Store) : Res RV := match spcAt st ds with
  | some (c, x) => match spcOf f with
    | some m => if p.isM c m = true then (C (c, some m) [x] st).bind fun v st => if spcOk f v then .ok v st else .bad else .bad
    | none => .bad
  | none => Res.ofOpt (bifD st f ds) st
/-- a dict that is walked: it may not change meanwhile -/
def lockD (st : Store) (x : D) (f : List (D × D) → List D) : Res Src := match x with
  | .loc j => match st[j]? with
    | some (.dct t false kvs) => .ok ⟨f kvs, stillL (st.set j (.dct t true kvs)) x, some j⟩ (st.set j (.dct t true kvs))
    | _ => .bad
  | _ => .bad
section
variable (p : PTab) (C : Calls) (fuel : Nat)
mutual
def evE : E → Env → Store → Res RV
  | .var i, env, st => match env[i]? with
    | some (some d) => .ok (.d d) st
    | _ => .bad
  | .cst d, _, st => .ok (.d d) st
  | .glo x, _, st => Res.ofOpt ((p.con.lookup x).map .d) st
  | .bin o a b, env, st => (evE a env st).froz.bind fun x st => (evE b env st).froz.bind fun y st => Res.ofOpt (binD st o x y) st
  | .neg a, env, st => (evE a env st).froz.bind fun x st => match x with
    | .int i => .ok (.d (.int (-i))) st
    | _ => .bad
  | .cmp o a b, env, st => (evE a env st).froz.bind fun x st => (evE b env st).froz.bind fun y st => Res.ofOpt ((cmpD st o x y).map fun b => .d (.bl b)) st
  | .chn o u a b c, env, st => (evE a env st).froz.bind fun x st => (evE b env st).froz.bind fun y st => match cmpD st o x y with
    | some true => (evE c env st).froz.bind fun z st => Res.ofOpt ((cmpD st u y z).map fun b => .d (.bl b)) st
    | some false => .ok (.d (.bl false)) st
    | none => .bad
  | .andv a b, env, st => (evE a env st).froz.bool.bind fun x st => if x then (evE b env st).froz.bool.bind fun y st => .ok (.d (.bl y)) st else .ok (.d (.bl false)) st
  | .orv a b, env, st => (evE a env st).froz.bool.bind fun x st => if x then .ok (.d (.bl true)) st else (evE b env st).froz.bool.bind fun y st => .ok (.d (.bl y)) st
  | .notv a, env, st => (evE a env st).froz.bool.bind fun x st => .ok (.d (.bl (!x))) st
  | .ife t a b, env, st => (evT t env st).bind fun x st => if x then evE a env st else evE b env st
  | .fld a f, env, st => (evE a env st).froz.bind fun x st => match x with
    | .loc j => match st[j]? with
      | some (.ins c fs) => if p.prop c f then (C (c, some f) [x] st).calm else if p.isF c f then Res.ofOpt ((fs.lookup f).map .d) st else .bad
      | _ => .bad
    | _ => .bad
  | .ix a b, env, st => (evE a env st).froz.bind fun x st => (evE b env st).froz.bind fun y st => Res.ofOpt ((ixD st x y).map .d) st
  | .sl a lo hi, env, st => (evE a env st).froz.bind fun x st => (evEs lo env st).part.bind fun l st => (evEs hi env st).part.bind fun h st => Res.ofOpt (slD st x l h) st
  | .tup es, env, st => (evEs es env st).bind fun ds st => .ok (.d (.tup ds)) st
  | .lst es, env, st => (evEs es env st).bind fun ds st => .ok (.fl ds) st
  | .star a es, env, st => (evE a env st).froz.bind fun x st => match seqOf st x with
    | some xs => (evEs es env st).bind fun ds st => if xs.length + ds.length ≤ lim then .ok (.fl (xs ++ ds)) st else .bad
    | none => .bad
  | .dct t, _, st => .ok (.fd t []) st
  | .lc elt tg it c, env, st => (evI it env st).bind fun src st => if src.still st = true ∧ src.items.length ≤ lim then (lcLoop (fun d st => match bindTg tg d (wipeE env (tgs tg)) with
    | some env' => (evT c env' st).calm.bind fun b st => if b then (evE elt env' st).froz.calm.bind fun x st => if src.still st then .ok (some x) st else .bad
      else if src.still st then .ok none st else .bad
    | none => .bad) src.items [] st).bind fun r st => .ok r (unlock st src.lk) else .bad
  | .call f es, env, st => (evEs es env st).bind fun ds st => C (f, none) ds st
  | .new c es, env, st => (evEs es env st).bind fun ds st => (C (c, some "__init__") (.loc st.length :: ds) (st ++ [.ins c []])).bind fun v st' => match v with
    | .d .non => .ok (.d (.loc st.length)) st'
    | _ => .bad
  | .meth a m es, env, st => (evE a env st).froz.bind fun x st => match x with
    | .loc j => match st[j]? with
      | some (.ins c fs) => if (fs.lookup m).isNone ∧ p.isM c m = true then (evEs es env st).bind fun ds st => C (c, some m) (x :: ds) st else .bad
      | _ => .bad
    | _ => .bad
  | .bif f es, env, st => (evEs es env st).bind fun ds st => bifR p C f ds st
  | .isi a t, env, st => (evE a env st).froz.bind fun x st => Res.ofOpt ((isiD p st x t).map fun b => .d (.bl b)) st
  | .bmt m a es, env, st => (evE a env st).froz.bind fun x st => if tyB m st x = true then (evEs es env st).bind fun ds st => bmtD st m x ds else .bad
  | .fst es, env, st => (evF es Str.empty env st).bind fun s st => .ok (.d (.str s)) st
  | .sortL a, env, st => (evE a env st).froz.bind fun x st => if isL x = true then (match seqOf st x with
    | some xs => Res.ofOpt ((sortLen xs).map .fl) st
    | none => .bad) else .bad
  | .callK f ps ks es, env, st => (evEs es env st).bind fun ds st => if kwOk ps ks ds.length = true then C (f, none) (kwPerm ps ks ds) st else .bad
  | .newK c ps ks es, env, st => (evEs es env st).bind fun ds st => if kwOk ps ks (ds.length + 1) = true then (C (c, some "__init__") (kwPerm ps ks (.loc st.length :: ds)) (st ++ [.ins c []])).bind fun v st' => match v with
    | .d .non => .ok (.d (.loc st.length)) st'
    | _ => .bad else .bad
  | .methK a m ps ks es, env, st => (evE a env st).froz.bind fun x st => match x with
    | .loc j => match st[j]? with
      | some (.ins c fs) => if (fs.lookup m).isNone ∧ p.isM c m = true then (evEs es env st).bind fun ds st => if kwOk ps ks (ds.length + 1) = true then C (c, some m) (kwPerm ps ks (x :: ds)) st else .bad else .bad
      | _ => .bad
    | _ => .bad
def evEs : Es → Env → Store → Res (List D)
  | .nil, _, st => .ok [] st
  | .cons h e r, env, st => (if h then (evE e env st).kept else (evE e env st).froz).bind fun x st => (evEs r env st).bind fun xs st => .ok (x :: xs) st
def evF : Es → Str → Env → Store → Res Str
  | .nil, acc, _, st => .ok acc st
  | .cons _ e r, acc, env, st => (evE e env st).froz.bind fun x st => match fmtD x with
    | some a => if acc.length + a.length ≤ lim then evF r (acc ++ a) env st else .bad
    | none => .bad
def evT : T → Env → Store → Res Bool
  | .tt, _, st => .ok true st
  | .val e, env, st => (evE e env st).froz.bool
  | .and a b, env, st => (evT a env st).bind fun x st => if x then evT b env st else .ok false st
  | .or a b, env, st => (evT a env st).bind fun x st => if x then .ok true st else evT b env st
  | .not a, env, st => (evT a env st).bind fun x st => .ok (!x) st
def evI : It → Env → Store → Res Src
  | .val e, env, st => (evE e env st).froz.bind fun x st => match seqOf st x with
    | some xs => .ok ⟨xs, stillL st x, none⟩ st
    | none => lockD st x fun kvs => kvs.map (·.1)
  | .rng a, env, st => (evE a env st).froz.bind fun x st => match x with
    | .int n => if -1000000 ≤ n ∧ n ≤ 1000000 then .ok ⟨intRange 0 n.toNat, fun _ => true, none⟩ st else .bad
    | _ => .bad
  | .rng2 a b, env, st => (evE a env st).froz.bind fun x st => (evE b env st).froz.bind fun y st => match x, y with
    | .int lo, .int hi => if (-1000000 ≤ lo ∧ lo ≤ 1000000) ∧ -1000000 ≤ hi ∧ hi ≤ 1000000 then .ok ⟨intRange lo (hi - lo).toNat, fun _ => true, none⟩ st else .bad
    | _, _ => .bad
  | .enu e, env, st => (evE e env st).froz.bind fun x st => match seqOf st x with
    | some xs => .ok ⟨enumD 0 xs, stillL st x, none⟩ st
    | none => .bad
  | .items e, env, st => (evE e env st).froz.bind fun x st => lockD st x fun kvs => kvs.map fun q => .tup [q.1, q.2]
end
def Res.toS {α : Type} (r : Res α) (env : Env) (k : α → Store → RS) : RS := match r with
  | .ok a st => k a st
  | .exc e st => .exc e env st
  | .bad => .bad
def RS.seq (r : RS) (k : Env → Store → RS) : RS := match r with
  | .nx env st => k env st
  | r => r
def RS.unl (lk : Option Nat) : RS → RS
  | .nx env st => .nx env (unlock st lk)
  | .rt r st => .rt r (unlock st lk)
  | r => r
def nxOpt (env : Env) (o : Option Store) : RS := match o with
  | some st => .nx env st
  | none => .bad
/-- the end of a turn -/
def turnR (src : Src) : RS → RS
  | .nx env st => if src.still st then .nx env st else .bad
  | .ct env st => if src.still st then .ct env st else .bad
  | .bk env st => if src.lk = none ∨ src.still st = true then .bk env st else .bad
  | .rt r st => if src.lk = none ∨ src.still st = true then .rt r st else .bad
  | r => r
mutual
def evS : S → Env → Store → RS
  | .asg i h e, env, st => Res.toS (if h then (evE p C e env st).kept else (evE p C e env st).froz) env fun d st => .nx (env.set i (some d)) st
  | .asgs is es, env, st => (evEs p C es env st).toS env fun ds st => if ds.length = is.length then .nx (setAll env is ds) st else .bad
  | .unp is e, env, st => (evE p C e env st).froz.toS env fun d st => match d with
    | .tup ds => if ds.length = is.length then .nx (setAll env is ds) st else .bad
    | _ => .bad
  | .unpS o i j e, env, st => (evE p C e env st).froz.toS env fun d st => match d with
    | .tup [a, b] => (evE p C o env st).froz.toS env fun x st => (evE p C i env st).froz.toS env fun y st => nxOpt (env.set j (some b)) (isetD st x y a)
    | _ => .bad
  | .fset o f e, env, st => (evE p C e env st).kept.toS env fun v st => (evE p C o env st).froz.toS env fun x st => nxOpt env (fsetD p st x f v)
  | .iset o i h e, env, st => Res.toS (if h then (evE p C e env st).kept else (evE p C e env st).froz) env fun v st => (evE p C o env st).froz.toS env fun x st =>
      (evE p C i env st).froz.toS env fun y st => nxOpt env (isetD st x y v)
  | .aug i o e, env, st => match env[i]? with
    | some (some x) => (evE p C e env st).froz.toS env fun y st => (augD st o x y).toS env fun z st => .nx (env.set i (some z)) st
    | _ => .bad
  | .del o i, env, st => (evE p C o env st).froz.toS env fun x st => (evE p C i env st).froz.toS env fun y st => nxOpt env (delAt st x y)
  | .ifs t a b, env, st => (evT p C t env st).toS env fun x st => if x then evSs a env st else evSs b env st
  | .whl t b, env, st => whLoop (fun env st => evT p C t env st) (fun env st => evSs b env st) fuel env st
  | .frs tg it b, env, st => (evI p C it env st).toS env fun src st => if src.still st = true then RS.unl src.lk (frLoop (fun d env st => match bindTg tg d env with
    | some env' => turnR src (evSs b env' st)
    | none => .bad) src.items env st) else .bad
  | .ret e, env, st => (evE p C e env st).toS env fun r st => .rt r st
  | .retN, _, st => .rt (.d .non) st
  | .ex e, env, st => (evE p C e env st).froz.toS env fun _ st => .nx env st
  | .pass, env, st => .nx env st
  | .brk, env, st => .bk env st
  | .cnt, env, st => .ct env st
  | .rse c es, env, st => (evEs p C es env st).toS env fun ds st => if ds.length = (p.exf c).length then .exc ⟨c, (p.exf c).zip ds⟩ env st else .bad
  | .bad, _, _ => .bad
def evSs : Ss → Env → Store → RS
  | .nil, env, st => .nx env st
  | .cons s r, env, st => (evS s env st).seq fun env st => evSs r env st
end
end
/-! ### calls -/
structure MDef where
  /-- slots, parameters -/
  n : Nat
  np : Nat
  body : Ss
/-- each of the first objects is as it was, or names nothing new -/
def okPre (n : Nat) : Store → Store → Bool
  | [], _ => true
  | o :: st, o' :: st' => (decide (o = o') || o'.bnd n) && okPre n st st'
  | _ :: _, [] => false
def RV.fresh (n : Nat) (st : Store) : RV → Option RV
  | .fl xs => if D.bnds n xs then some (.fl xs) else none
  | .fd t kvs => if D.bndp n kvs then some (.fd t kvs) else none
  | .d (.loc j) => if j < n then some (.d (.loc j)) else match st[j]? with
    | some (.lst false xs) => if D.bnds n xs then some (.fl xs) else none
    | some (.dct t false kvs) => if D.bndp n kvs then some (.fd t kvs) else none
    | _ => none
  | .d x => if D.bnd n x then some (.d x) else none
def trim (st st' : Store) (r : RV) : Res RV :=
  if okPre st.length st st' then match r.fresh st.length st' with
    | some r' => .ok r' (st'.take st.length)
    | none => .ok r st'
  else .ok r st'
def endS (st : Store) : RS → Res RV
  | .nx _ st' => trim st st' (.d .non)
  | .rt r st' => trim st st' r
  | .exc e _ st' => .exc e st'
  | _ => .bad
def callN (p : PTab) (fuel : Nat) (defs : Fn → Option MDef) : Nat → Calls
  | 0 => fun _ _ _ => .bad
  | n + 1 => fun f vs st => match defs f with
    | some d => if vs.length = d.np then endS st (evSs p (callN p fuel defs n) fuel d.body (vs.map some ++ List.replicate (d.n - d.np) none) st) else .bad
    | none => .bad
end Mn
end

section
set_option Elab.async false
set_option linter.all false
set_option maxRecDepth 100000
set_option maxHeartbeats 2000000
/-! Mini: what the evaluator's data stand for in the layer's abstract heap. -/
namespace Mn
open PySem L2

inductive Tag where
  | fz | obj (j : Nat) | lk (j : Nat) (od : Obj) | pv
abbrev Own := Addr → Option Tag
def kD : Key → D
  | .inl i => .int i
  | .inr s => .str s
def kDT (ks : List Key) : D := .tup (ks.map kD)
section
variable (K : PySem.W.Frag) (O : Own) (μ : List Addr) (H : Hp)
mutual
/-- the data d is the value v -/
def VR : D → V → Prop
  | .non, v => v = .non
  | .bl b, v => v = .bl b
  | .int i, v => v = .int i
  | .str s, v => v = .str s
  | .tup xs, v => ∃ a vs, v = .ref a ∧ H a = some (.tup vs) ∧ VRs xs vs
  | .lst xs, v => ∃ a vs, v = .ref a ∧ O a = some .fz ∧ H a = some (.lst vs) ∧ VRs xs vs
  | .dct t kvs, v => ∃ a l, v = .ref a ∧ O a = some .fz ∧ (if t then ∃ z : List (List Key × V), Rd H a (.dT z) ∧ l = z.map fun q => (kDT q.1, q.2) else ∃ z : List (Key × V), Rd H a (.dK z) ∧ l = z.map fun q => (kD q.1, q.2)) ∧ VRk kvs l
  | .loc j, v => ∃ a, v = .ref a ∧ μ[j]? = some a
def VRs : List D → List V → Prop
  | [], vs => vs = []
  | x :: xs, vs => ∃ v r, vs = v :: r ∧ VR x v ∧ VRs xs r
def VRk : List (D × D) → List (D × V) → Prop
  | [], l => l = []
  | (k, x) :: xs, l => ∃ v r, l = (k, v) :: r ∧ VR x v ∧ VRk xs r
end
def VRf : List (Str × D) → List (Str × V) → Prop
  | [], l => l = []
  | (k, x) :: xs, l => ∃ v r, l = (k, v) :: r ∧ VR O μ H x v ∧ VRf xs r
/-- a dict that is to be read, to be written -/
def DctAt (t : Bool) (rd : HO → Prop) (l : List (D × V)) : Prop :=
  if t then ∃ z : List (List Key × V), rd (.dT z) ∧ l = z.map fun q => (kDT q.1, q.2) else ∃ z : List (Key × V), rd (.dK z) ∧ l = z.map fun q => (kD q.1, q.2)
def OR : AO → Addr → Prop
  | .lst k xs, a => ∃ vs, (if k then ∃ o, H a = some (.frz o (.lst vs)) else H a = some (.lst vs)) ∧ VRs O μ H xs vs
  | .dct t k kvs, a => ∃ l, DctAt t (fun u => if k then ∃ j o, O a = some (.lk j o) ∧ H a = some (.frz o u) else H a = some u) l ∧ VRk O μ H kvs l
  | .ins c fs, a => ∃ dx fs', H a = some (.ins (He.ga K c) dx fs') ∧ VRf O μ H fs fs'
def RVR : RV → V → Prop
  | .d d, v => VR O μ H d v
  | .fl xs, v => ∃ a vs, v = .ref a ∧ O a = none ∧ H a = some (.lst vs) ∧ VRs O μ H xs vs
  | .fd t kvs, v => ∃ a l, v = .ref a ∧ O a = none ∧ DctAt t (fun u => H a = some u) l ∧ VRk O μ H kvs l
end
/-- not a table of code objects -/
def NT (u : HO) : Prop := ∀ ps, u ≠ .tbl ps
structure Ext (O : Own) (μ : List Addr) (H : Hp) (O' : Own) (μ' : List Addr) (H' : Hp) : Prop where
  fz : ∀ a, O a = some .fz → O' a = some .fz ∧ (∀ u, NT u → Rd H a u → Rd H' a u) ∧ ∀ xs, H a = some (.lst xs) → H' a = some (.lst xs)
  tup : ∀ a xs, H a = some (.tup xs) → H' a = some (.tup xs)
  mu : ∀ (j : Nat) (a : Addr), μ[j]? = some a → μ'[j]? = some a
  lk : ∀ a j od u, O a = some (.lk j od) → H a = some (.frz od u) → O' a = some (.lk j od) ∧ H' a = some (.frz od u)
  pv : ∀ a xs, O a = some .pv → H a = some (.lst xs) → O' a = some .pv ∧ H' a = some (.lst xs)
  dom : ∀ a u, H a = some u → ∃ u', H' a = some u'
theorem upd_dom {H : Hp} {p a : Addr} {o u : HO} (h : H a = some u) : ∃ u', upd H p o a = some u' := by
  by_cases e : a = p
  · exact ⟨o, by rw [e, upd_same]⟩
  · exact ⟨u, by rw [upd_ne e]; exact h⟩
/-- as far as data lean on it -/
structure ExtV (O : Own) (μ : List Addr) (H : Hp) (O' : Own) (μ' : List Addr) (H' : Hp) : Prop where
  fz : ∀ a, O a = some .fz → O' a = some .fz ∧ (∀ u, NT u → Rd H a u → Rd H' a u) ∧ ∀ xs, H a = some (.lst xs) → H' a = some (.lst xs)
  tup : ∀ a xs, H a = some (.tup xs) → H' a = some (.tup xs)
  mu : ∀ (j : Nat) (a : Addr), μ[j]? = some a → μ'[j]? = some a
theorem Ext.toV {O : Own} {μ : List Addr} {H : Hp} {O' : Own} {μ' : List Addr} {H' : Hp} (e : Ext O μ H O' μ' H') : ExtV O μ H O' μ' H' := ⟨e.fz, e.tup, e.mu⟩
/-- the address is the j-th object's -/
def OwnJ (O : Own) (a : Addr) (j : Nat) : Prop := O a = some (.obj j) ∨ ∃ od, O a = some (.lk j od)
theorem OwnJ.inj {O : Own} {a : Addr} {i j : Nat} (h : OwnJ O a i) (h' : OwnJ O a j) : i = j := by
  rcases h with h | ⟨o, h⟩ <;> rcases h' with h' | ⟨o', h'⟩ <;> rw [h] at h' <;> cases h' <;> rfl
theorem OwnJ.nfz {O : Own} {a : Addr} {j : Nat} (h : OwnJ O a j) : O a ≠ some .fz := by
  intro e
  rcases h with h | ⟨o, h⟩ <;> rw [e] at h <;> cases h
theorem OwnJ.nn {O : Own} {a : Addr} {j : Nat} (h : OwnJ O a j) : O a ≠ none := by
  intro e
  rcases h with h | ⟨o, h⟩ <;> rw [e] at h <;> cases h
theorem OwnJ.npv {O : Own} {a : Addr} {j : Nat} (h : OwnJ O a j) : O a ≠ some .pv := by
  intro e
  rcases h with h | ⟨o, h⟩ <;> rw [e] at h <;> cases h
theorem OwnJ.cong {O O' : Own} {a : Addr} {j : Nat} (e : O' a = O a) (h : OwnJ O a j) : OwnJ O' a j := by
  unfold OwnJ at h ⊢; rw [e]; exact h
theorem Ext.refl {O : Own} {μ : List Addr} {H : Hp} : Ext O μ H O μ H := ⟨fun _ h => ⟨h, fun _ _ q => q, fun _ q => q⟩, fun _ _ q => q, fun _ _ q => q, fun _ _ _ _ q r => ⟨q, r⟩, fun _ _ q r => ⟨q, r⟩, fun _ u q => ⟨u, q⟩⟩
theorem Ext.trans {O O1 O2 : Own} {μ μ1 μ2 : List Addr} {H H1 H2 : Hp} (a : Ext O μ H O1 μ1 H1) (b : Ext O1 μ1 H1 O2 μ2 H2) : Ext O μ H O2 μ2 H2 :=
  ⟨fun x h => ⟨(b.fz x (a.fz x h).1).1, fun u n q => (b.fz x (a.fz x h).1).2.1 u n ((a.fz x h).2.1 u n q), fun u q => (b.fz x (a.fz x h).1).2.2 u ((a.fz x h).2.2 u q)⟩, fun x xs q => b.tup x xs (a.tup x xs q), fun j x q => b.mu j x (a.mu j x q), fun x j od u q r => b.lk x j od u (a.lk x j od u q r).1 (a.lk x j od u q r).2, fun x u q r => b.pv x u (a.pv x u q r).1 (a.pv x u q r).2, fun x u q => let ⟨u', q'⟩ := a.dom x u q; b.dom x u' q'⟩
section
variable {K : PySem.W.Frag} {O O' : Own} {μ μ' : List Addr} {H H' : Hp}
mutual
theorem VR.monoV (e : ExtV O μ H O' μ' H') : ∀ (d : D) {v : V}, VR O μ H d v → VR O' μ' H' d v
  | .non, _, h => h
  | .bl _, _, h => h
  | .int _, _, h => h
  | .str _, _, h => h
  | .tup xs, _, h => by
    simp only [VR] at h ⊢
    obtain ⟨a, vs, h1, h2, h3⟩ := h
    exact ⟨a, vs, h1, e.tup a vs h2, VRs.monoV e xs h3⟩
  | .lst xs, _, h => by
    simp only [VR] at h ⊢
    obtain ⟨a, vs, h1, h2, h3, h4⟩ := h
    exact ⟨a, vs, h1, (e.fz a h2).1, (e.fz a h2).2.2 _ h3, VRs.monoV e xs h4⟩
  | .dct t kvs, _, h => by
    simp only [VR] at h ⊢
    obtain ⟨a, l, h1, h2, h3, h4⟩ := h
    refine ⟨a, l, h1, (e.fz a h2).1, ?_, VRk.monoV e kvs h4⟩
    cases t
    · obtain ⟨z, z1, z2⟩ := h3
      exact ⟨z, (e.fz a h2).2.1 _ (fun ps x => by cases x) z1, z2⟩
    · obtain ⟨z, z1, z2⟩ := h3
      exact ⟨z, (e.fz a h2).2.1 _ (fun ps x => by cases x) z1, z2⟩
  | .loc j, _, h => by
    simp only [VR] at h ⊢
    obtain ⟨a, h1, h2⟩ := h
    exact ⟨a, h1, e.mu j a h2⟩
theorem VRs.monoV (e : ExtV O μ H O' μ' H') : ∀ (ds : List D) {vs : List V}, VRs O μ H ds vs → VRs O' μ' H' ds vs
  | [], _, h => h
  | x :: xs, _, h => by
    simp only [VRs] at h ⊢
    obtain ⟨v, r, h1, h2, h3⟩ := h
    exact ⟨v, r, h1, VR.monoV e x h2, VRs.monoV e xs h3⟩
theorem VRk.monoV (e : ExtV O μ H O' μ' H') : ∀ (ds : List (D × D)) {l : List (D × V)}, VRk O μ H ds l → VRk O' μ' H' ds l
  | [], _, h => h
  | (k, x) :: xs, _, h => by
    simp only [VRk] at h ⊢
    obtain ⟨v, r, h1, h2, h3⟩ := h
    exact ⟨v, r, h1, VR.monoV e x h2, VRk.monoV e xs h3⟩
end
theorem VRf.monoV (e : ExtV O μ H O' μ' H') : ∀ (ds : List (Str × D)) {l : List (Str × V)}, VRf O μ H ds l → VRf O' μ' H' ds l
  | [], _, h => h
  | (k, x) :: xs, _, h => by
    simp only [VRf] at h ⊢
    obtain ⟨v, r, h1, h2, h3⟩ := h
    exact ⟨v, r, h1, VR.monoV e x h2, VRf.monoV e xs h3⟩
theorem VR.mono (e : Ext O μ H O' μ' H') (d : D) {v : V} (h : VR O μ H d v) : VR O' μ' H' d v := VR.monoV e.toV d h
theorem VRs.mono (e : Ext O μ H O' μ' H') (ds : List D) {vs : List V} (h : VRs O μ H ds vs) : VRs O' μ' H' ds vs := VRs.monoV e.toV ds h
theorem VRk.mono (e : Ext O μ H O' μ' H') (ds : List (D × D)) {l : List (D × V)} (h : VRk O μ H ds l) : VRk O' μ' H' ds l := VRk.monoV e.toV ds h
theorem VRf.mono (e : Ext O μ H O' μ' H') (ds : List (Str × D)) {l : List (Str × V)} (h : VRf O μ H ds l) : VRf O' μ' H' ds l := VRf.monoV e.toV ds h
theorem VRs.length : ∀ {ds : List D} {vs : List V}, VRs O μ H ds vs → ds.length = vs.length
  | [], _, h => by simp only [VRs] at h; rw [h]; rfl
  | x :: xs, _, h => by
    simp only [VRs] at h
    obtain ⟨v, r, h1, _, h3⟩ := h
    rw [h1, List.length_cons, List.length_cons, VRs.length h3]
theorem VRs.get : ∀ {ds : List D} {vs : List V} {i : Nat} {d : D}, VRs O μ H ds vs → ds[i]? = some d → ∃ v, vs[i]? = some v ∧ VR O μ H d v
  | [], _, _, _, _, e => by simp at e
  | x :: xs, _, 0, d, h, e => by
    simp only [VRs] at h
    obtain ⟨v, r, h1, h2, _⟩ := h
    simp at e
    subst e
    exact ⟨v, by rw [h1]; rfl, h2⟩
  | x :: xs, _, i + 1, d, h, e => by
    simp only [VRs] at h
    obtain ⟨v, r, h1, _, h3⟩ := h
    obtain ⟨u, h4, h5⟩ := VRs.get (i := i) h3 (by simpa using e)
    exact ⟨u, by rw [h1]; simpa using h4, h5⟩
theorem VRs.append : ∀ {ds es : List D} {vs us : List V}, VRs O μ H ds vs → VRs O μ H es us → VRs O μ H (ds ++ es) (vs ++ us)
  | [], _, _, _, h, h' => by simp only [VRs] at h; rw [h]; exact h'
  | x :: xs, _, _, _, h, h' => by
    simp only [VRs] at h
    obtain ⟨v, r, h1, h2, h3⟩ := h
    rw [h1]
    simp only [List.cons_append, VRs]
    exact ⟨v, _, rfl, h2, VRs.append h3 h'⟩
theorem VRs.cons {d : D} {ds : List D} {v : V} {vs : List V} (h : VR O μ H d v) (h' : VRs O μ H ds vs) : VRs O μ H (d :: ds) (v :: vs) := by
  simp only [VRs]; exact ⟨v, vs, rfl, h, h'⟩
theorem VRs.nil : VRs O μ H [] [] := by simp only [VRs]
theorem VRs.set {d : D} {v : V} (hv : VR O μ H d v) : ∀ {ds : List D} {vs : List V} (i : Nat), VRs O μ H ds vs → VRs O μ H (ds.set i d) (vs.set i v)
  | [], _, _, h => by simp only [VRs] at h; rw [h]; simp [VRs]
  | x :: xs, _, 0, h => by
    simp only [VRs] at h
    obtain ⟨v', r, h1, h2, h3⟩ := h
    rw [h1]
    simp only [List.set_cons_zero]
    exact VRs.cons hv h3
  | x :: xs, _, i + 1, h => by
    simp only [VRs] at h
    obtain ⟨v', r, h1, h2, h3⟩ := h
    rw [h1]
    simp only [List.set_cons_succ]
    exact VRs.cons h2 (VRs.set hv i h3)
theorem VRs.dropLast : ∀ {ds : List D} {vs : List V}, VRs O μ H ds vs → VRs O μ H ds.dropLast vs.dropLast
  | [], _, h => by simp only [VRs] at h; rw [h]; simp [VRs]
  | [x], _, h => by
    simp only [VRs] at h
    obtain ⟨v, r, h1, h2, h3⟩ := h
    rw [h1, h3]
    simp [VRs]
  | x :: y :: xs, _, h => by
    simp only [VRs] at h
    obtain ⟨v, r, h1, h2, u, s, h3, h4, h5⟩ := h
    rw [h1, h3]
    simp only [List.dropLast_cons_cons]
    exact VRs.cons h2 (VRs.dropLast (VRs.cons h4 h5))
theorem VRs.drop : ∀ {ds : List D} {vs : List V} (n : Nat), VRs O μ H ds vs → VRs O μ H (ds.drop n) (vs.drop n)
  | _, _, 0, h => h
  | [], _, n + 1, h => by simp only [VRs] at h; rw [h]; simp [VRs]
  | x :: xs, _, n + 1, h => by
    simp only [VRs] at h
    obtain ⟨v, r, h1, _, h3⟩ := h
    rw [h1]
    exact VRs.drop n h3
theorem VRs.take : ∀ {ds : List D} {vs : List V} (n : Nat), VRs O μ H ds vs → VRs O μ H (ds.take n) (vs.take n)
  | _, _, 0, h => by simp [VRs]
  | [], _, n + 1, h => by simp only [VRs] at h; rw [h]; simp [VRs]
  | x :: xs, _, n + 1, h => by
    simp only [VRs] at h
    obtain ⟨v, r, h1, h2, h3⟩ := h
    rw [h1]
    exact VRs.cons h2 (VRs.take n h3)
end

/-- the evaluator's state is the layer's -/
structure StR (K : PySem.W.Frag) (T : List (Addr × Str)) (O : Own) (μ : List Addr) (env : Env) (st : Store) (σ : L2.St) (H : Hp) : Prop where
  vars : ∀ (i : Nat) (d : D), env[i]? = some (some d) → ∃ v, σ[i]? = some (some v) ∧ VR O μ H d v
  len : env.length = σ.length
  mu : μ.length = st.length
  obj : ∀ (j : Nat) (o : AO), st[j]? = some o → ∃ a, μ[j]? = some a ∧ OwnJ O a j ∧ OR K O μ H o a
  own : ∀ a t, O a = some t → ∃ u, H a = some u
  tab : LamX.Tabs T H
  tgs : ∀ a j, OwnJ O a j → μ[j]? = some a
section
variable {K : PySem.W.Frag} {T : List (Addr × Str)} {O O' : Own} {μ μ' : List Addr} {H H' : Hp} {env : Env} {st : Store} {σ : L2.St}
theorem rd_upd {a p : Addr} {u o : HO} (h : Rd H a u) (hp : H p = none) : Rd (upd H p o) a u := by
  rcases h with h | ⟨x, h⟩
  · exact .inl (by rw [upd_ne (ne_of_none h hp)]; exact h)
  · exact .inr ⟨x, by rw [upd_ne (ne_of_none h hp)]; exact h⟩
/-- a new object -/
theorem Ext.new {p : Addr} {o : HO} (hp : H p = none) : Ext O μ H O μ (upd H p o) :=
  ⟨fun a h => ⟨h, fun u _ q => rd_upd q hp, fun xs q => by rw [upd_ne (ne_of_none q hp)]; exact q⟩, fun a xs q => by rw [upd_ne (ne_of_none q hp)]; exact q, fun _ _ q => q, fun a j od u q r => ⟨q, by rw [upd_ne (ne_of_none r hp)]; exact r⟩, fun a u q r => ⟨q, by rw [upd_ne (ne_of_none r hp)]; exact r⟩, fun a u q => upd_dom q⟩
theorem OR.monoV (e : ExtV O μ H O' μ' H') : ∀ {o : AO} {a : Addr}, (∀ u, H a = some u → H' a = some u) → (∀ i x, O a = some (.lk i x) → O' a = some (.lk i x)) → OR K O μ H o a → OR K O' μ' H' o a
  | .lst b xs, a, k, kl, h => by
    obtain ⟨vs, h1, h2⟩ := h
    refine ⟨vs, ?_, VRs.monoV e xs h2⟩
    cases b
    · exact k _ h1
    · obtain ⟨o, z⟩ := h1
      exact ⟨o, k _ z⟩
  | .dct t b kvs, a, k, kl, h => by
    obtain ⟨l, h1, h2⟩ := h
    refine ⟨l, ?_, VRk.monoV e kvs h2⟩
    cases t <;> cases b
    · obtain ⟨z, z1, z2⟩ := h1
      exact ⟨z, k _ z1, z2⟩
    · obtain ⟨z, ⟨j, x, z0, z1⟩, z2⟩ := h1
      exact ⟨z, ⟨j, x, kl _ _ z0, k _ z1⟩, z2⟩
    · obtain ⟨z, z1, z2⟩ := h1
      exact ⟨z, k _ z1, z2⟩
    · obtain ⟨z, ⟨j, x, z0, z1⟩, z2⟩ := h1
      exact ⟨z, ⟨j, x, kl _ _ z0, k _ z1⟩, z2⟩
  | .ins c fs, a, k, kl, h => by
    obtain ⟨dx, fs', h1, h2⟩ := h
    exact ⟨dx, fs', k _ h1, VRf.monoV e fs h2⟩
theorem OR.mono (e : Ext O μ H O' μ' H') : ∀ {o : AO} {a : Addr}, (∀ u, H a = some u → H' a = some u) → OR K O μ H o a → OR K O' μ' H' o a
  | .lst b xs, a, k, h => by
    obtain ⟨vs, h1, h2⟩ := h
    refine ⟨vs, ?_, VRs.mono e xs h2⟩
    cases b
    · exact k _ h1
    · obtain ⟨o, z⟩ := h1
      exact ⟨o, k _ z⟩
  | .dct t b kvs, a, k, h => by
    obtain ⟨l, h1, h2⟩ := h
    refine ⟨l, ?_, VRk.mono e kvs h2⟩
    cases t <;> cases b
    · obtain ⟨z, z1, z2⟩ := h1
      exact ⟨z, k _ z1, z2⟩
    · obtain ⟨z, ⟨j, x, z0, z1⟩, z2⟩ := h1
      exact ⟨z, ⟨j, x, e.lk _ _ _ _ z0 z1⟩, z2⟩
    · obtain ⟨z, z1, z2⟩ := h1
      exact ⟨z, k _ z1, z2⟩
    · obtain ⟨z, ⟨j, x, z0, z1⟩, z2⟩ := h1
      exact ⟨z, ⟨j, x, e.lk _ _ _ _ z0 z1⟩, z2⟩
  | .ins c fs, a, k, h => by
    obtain ⟨dx, fs', h1, h2⟩ := h
    exact ⟨dx, fs', k _ h1, VRf.mono e fs h2⟩
/-- the heap has grown -/
theorem StR.grow (R : StR K T O μ env st σ H) (k : ∀ a u, H a = some u → H' a = some u) : StR K T O μ env st σ H' ∧ Ext O μ H O μ H' := by
  have rd : ∀ {a u}, Rd H a u → Rd H' a u := fun {a u} h => by
    rcases h with h | ⟨x, h⟩
    · exact .inl (k _ _ h)
    · exact .inr ⟨x, k _ _ h⟩
  have e : Ext O μ H O μ H' := ⟨fun a h => ⟨h, fun u _ q => rd q, fun xs q => k _ _ q⟩, fun a xs q => k _ _ q, fun _ _ q => q, fun a j od u q r => ⟨q, k _ _ r⟩, fun a u q r => ⟨q, k _ _ r⟩, fun a u q => ⟨u, k _ _ q⟩⟩
  refine ⟨⟨fun i d h => ?_, R.len, R.mu, fun j o h => ?_, fun a t h => ?_, R.tab.ext k, R.tgs⟩, e⟩
  · obtain ⟨v, h1, h2⟩ := R.vars i d h
    exact ⟨v, h1, VR.mono e d h2⟩
  · obtain ⟨a, h1, h2, h3⟩ := R.obj j o h
    exact ⟨a, h1, h2, OR.mono e (fun u q => k _ _ q) h3⟩
  · obtain ⟨u, q⟩ := R.own a t h
    exact ⟨u, k _ _ q⟩
theorem StR.new (R : StR K T O μ env st σ H) {p : Addr} {o : HO} (hp : H p = none) : StR K T O μ env st σ (upd H p o) ∧ Ext O μ H O μ (upd H p o) :=
  R.grow fun a u q => by rw [upd_ne (ne_of_none q hp)]; exact q
/-- a new tag at an address without one -/
def tagAt (O : Own) (a : Addr) (t : Tag) : Own := fun b => if b = a then some t else O b
theorem tagAt_same {a : Addr} {t : Tag} : tagAt O a t a = some t := if_pos rfl
theorem tagAt_ne {a b : Addr} {t : Tag} (h : b ≠ a) : tagAt O a t b = O b := if_neg h
theorem Ext.tag {a : Addr} {t : Tag} (h : O a = none) : Ext O μ H (tagAt O a t) μ H := by
  refine ⟨fun b q => ⟨?_, fun _ _ z => z, fun _ z => z⟩, fun _ _ z => z, fun _ _ z => z, fun b j od u q r => ⟨?_, r⟩, fun b u q r => ⟨?_, r⟩, fun b u q => ⟨u, q⟩⟩
  · rw [tagAt_ne (fun e => by rw [e, h] at q; cases q)]
    exact q
  · rw [tagAt_ne (fun e => by rw [e, h] at q; cases q)]
    exact q
  · rw [tagAt_ne (fun e => by rw [e, h] at q; cases q)]
    exact q
theorem StR.tagFz (R : StR K T O μ env st σ H) {a : Addr} {u : HO} (h : O a = none) (hu : H a = some u) : StR K T (tagAt O a .fz) μ env st σ H := by
  have e : Ext O μ H (tagAt O a .fz) μ H := Ext.tag h
  refine ⟨fun i d q => ?_, R.len, R.mu, fun j o q => ?_, fun b t q => ?_, R.tab, fun b j q => R.tgs b j (q.cong (tagAt_ne fun z => q.nfz (by rw [z]; exact tagAt_same)).symm)⟩
  · obtain ⟨v, h1, h2⟩ := R.vars i d q
    exact ⟨v, h1, VR.mono e d h2⟩
  · obtain ⟨b, h1, h2, h3⟩ := R.obj j o q
    exact ⟨b, h1, h2.cong (tagAt_ne (fun z => h2.nn (by rw [z]; exact h))), OR.mono e (fun _ z => z) h3⟩
  · by_cases hb : b = a
    · rw [hb]; exact ⟨u, hu⟩
    · rw [tagAt_ne hb] at q
      exact R.own b t q
/-- a new object joins the store -/
theorem StR.push (R : StR K T O μ env st σ H) {a : Addr} {u : HO} {o : AO} (h : O a = none) (hu : H a = some u) (ho : OR K O μ H o a) :
    StR K T (tagAt O a (.obj st.length)) (μ ++ [a]) env (st ++ [o]) σ H ∧ Ext O μ H (tagAt O a (.obj st.length)) (μ ++ [a]) H := by
  have e : Ext O μ H (tagAt O a (.obj st.length)) (μ ++ [a]) H := by
    refine ⟨fun b q => ⟨?_, fun _ _ z => z, fun _ z => z⟩, fun _ _ z => z, fun j b z => ?_, fun b j od u q r => ⟨by rw [tagAt_ne (fun e => by rw [e, h] at q; cases q)]; exact q, r⟩, fun b u q r => ⟨by rw [tagAt_ne (fun e => by rw [e, h] at q; cases q)]; exact q, r⟩, fun b u q => ⟨u, q⟩⟩
    · rw [tagAt_ne (fun e => by rw [e, h] at q; cases q)]
      exact q
    · have hj : j < μ.length := (List.getElem?_eq_some_iff.mp z).1
      rw [List.getElem?_append_left hj]
      exact z
  refine ⟨⟨fun i d q => ?_, R.len, by simp [R.mu], fun j o' q => ?_, fun b t q => ?_, R.tab, fun b j q => ?_⟩, e⟩
  · obtain ⟨v, h1, h2⟩ := R.vars i d q
    exact ⟨v, h1, VR.mono e d h2⟩
  · by_cases hj : j < st.length
    · rw [List.getElem?_append_left hj] at q
      obtain ⟨b, h1, h2, h3⟩ := R.obj j o' q
      exact ⟨b, e.mu j b h1, h2.cong (tagAt_ne (fun z => h2.nn (by rw [z]; exact h))), OR.mono e (fun _ z => z) h3⟩
    · have hj2 : j < (st ++ [o]).length := (List.getElem?_eq_some_iff.mp q).1
      have ej : j = st.length := by simp at hj2; omega
      subst ej
      rw [List.getElem?_append_right (Nat.le_refl _)] at q
      simp at q
      subst q
      refine ⟨a, ?_, .inl tagAt_same, OR.mono e (fun _ z => z) ho⟩
      rw [← R.mu, List.getElem?_append_right (Nat.le_refl _)]
      simp
  · by_cases hb : b = a
    · rw [hb]; exact ⟨u, hu⟩
    · rw [tagAt_ne hb] at q
      exact R.own b t q
  · by_cases hb : b = a
    · have e1 : OwnJ (tagAt O a (.obj st.length)) a st.length := .inl tagAt_same
      rw [hb] at q ⊢
      rw [q.inj e1, ← R.mu, List.getElem?_append_right (Nat.le_refl _)]
      simp
    · exact e.mu _ _ (R.tgs b j (q.cong (tagAt_ne hb).symm))
end
end Mn
end

section
set_option Elab.async false
set_option linter.all false
set_option maxRecDepth 100000
set_option maxHeartbeats 4000000
/-! Mini: binding of plain parameters. -/
namespace Mn
open PySem PySem.Spec PyProof.Rows
def plainP (a : Arguments) : Bool := a.posonlyargs.isEmpty && (a.vararg.isNone && (a.kwonlyargs.isEmpty && a.kwarg.isNone))
/-! ### binding -/
theorem fm_congr {α β : Type} {f g : α → Option β} : ∀ {l : List α}, (∀ x ∈ l, f x = g x) → l.filterMap f = l.filterMap g
  | [], _ => rfl
  | a :: l, h => by
    rw [List.filterMap_cons, List.filterMap_cons, h a (List.mem_cons_self ..), fm_congr fun x hx => h x (List.mem_cons_of_mem _ hx)]
theorem lookup_zip {α : Type} : ∀ {ps : List Str} {us : List α}, ps.Nodup → ps.length = us.length → ps.filterMap (fun n => ((ps.zip us).lookup n).map fun v => (n, v)) = ps.zip us
  | [], [], _, _ => rfl
  | p :: ps, u :: us, nd, h => by
    have nd' := List.nodup_cons.mp nd
    rw [List.zip_cons_cons, List.filterMap_cons]
    have e1 : ((p, u) :: ps.zip us).lookup p = some u := by simp
    rw [e1]
    have e2 : ps.filterMap (fun n => (((p, u) :: ps.zip us).lookup n).map fun v => (n, v)) = ps.filterMap (fun n => ((ps.zip us).lookup n).map fun v => (n, v)) := by
      apply fm_congr
      intro x hx
      have hne : (x == p) = false := by
        rw [beq_eq_false_iff_ne]
        intro z
        exact nd'.1 (z ▸ hx)
      rw [List.lookup_cons, hne]
    simp only [Option.map_some]
    rw [e2, lookup_zip nd'.2 (Nat.succ.inj h)]
  | [], _ :: _, _, h => by cases h
  | _ :: _, [], _, h => by cases h
theorem zip_lookup_some {α : Type} {ps : List Str} {us : List α} (h : ps.length = us.length) {n : Str} (hn : n ∈ ps) : ((ps.zip us).lookup n).isSome = true := by
  induction ps generalizing us with
  | nil => cases hn
  | cons p ps ih =>
    cases us with
    | nil => cases h
    | cons u us =>
      rw [List.zip_cons_cons, List.lookup_cons]
      by_cases e : (n == p) = true
      · rw [e]; rfl
      · rw [Bool.not_eq_true] at e
        rw [e]
        rcases List.mem_cons.mp hn with z | z
        · rw [z] at e; simp at e
        · exact ih (Nat.succ.inj h) z

theorem forIn_keep {α σ : Type} {l : List α} {s : σ} {f : α → σ → Sem (ForInStep σ)} (h : ∀ a ∈ l, f a s = pure (.yield s)) : forIn l s f = (pure s : Sem σ) := by
  induction l with
  | nil => rfl
  | cons a l ih =>
    rw [List.forIn_cons, h a (List.mem_cons_self ..), pure_bind]
    exact ih fun b hb => h b (List.mem_cons_of_mem _ hb)
theorem bind_plain {fd : FuncData} {us : List Value} (hp : plainP fd.params = true) (nd : (fd.params.args.map (·.arg)).Nodup) (hl : us.length = (fd.params.args.map (·.arg)).length) :
    ∃ k : Option (Array Value) → Sem (List (Str × Value)), bindArgs fd ⟨us, []⟩ = seqItems? fd.defaults >>= k ∧ ∀ o, k o = pure ((fd.params.args.map (·.arg)).zip us) := by
  unfold plainP at hp
  simp only [Bool.and_eq_true, List.isEmpty_iff, Option.isNone_iff_eq_none] at hp
  obtain ⟨h1, h2, h3, h4⟩ := hp
  refine ⟨_, rfl, fun o => ?_⟩
  simp only [h1, h2, h3, h4, List.map_nil, List.nil_append, List.append_nil, Option.isNone_none, Bool.and_true, List.forIn_nil]
  generalize hps : fd.params.args.map (fun x => x.arg) = ps at nd hl ⊢
  have e1 : decide (us.length > ps.length) = false := by rw [hl]; simp
  have e2 : ∀ m, (ps.take m).filter (fun n => ((ps.zip us).lookup n).isNone) = [] := fun m => by
    rw [List.filter_eq_nil_iff]
    intro n hn
    have z := zip_lookup_some hl.symm (List.mem_of_mem_take hn)
    cases q : (ps.zip us).lookup n with
    | none => rw [q] at z; cases z
    | some v => simp
  simp only [e1, e2, Bool.false_eq_true, if_false, List.isEmpty_nil, Bool.not_true]
  rw [forIn_keep (fun q hq => ?_)]
  · simp only [pure_bind, List.isEmpty_nil, Bool.not_true, Bool.false_eq_true, if_false]
    rw [lookup_zip nd hl.symm]
  · obtain ⟨n, d⟩ := q
    have hn : n ∈ ps := List.mem_of_mem_drop (List.of_mem_zip hq).1
    have z := zip_lookup_some hl.symm hn
    cases e : (ps.zip us).lookup n with
    | none => rw [e] at z; cases z
    | some v => simp [e]
theorem bindsTo_plain {s : Shared} {fd : FuncData} {us : List Value} (hp : plainP fd.params = true) (nd : (fd.params.args.map (·.arg)).Nodup) (hl : us.length = (fd.params.args.map (·.arg)).length)
    (hd : fd.defaults = .none ∨ ∃ T o its n, fd.defaults = .ref T ∧ s.heap.get? T = some o ∧ o.data = .seq its n) : BindsTo s fd ⟨us, []⟩ ((fd.params.args.map (·.arg)).zip us) := by
  obtain ⟨k, h1, h2⟩ := bind_plain hp nd hl
  rcases hd with hd | ⟨T, o, its, n, hd, ho, hs⟩
  · refine .of_eq ?_
    rw [h1, hd, ← h2 none]
    rfl
  · exact .of_defaults hd ho hs h1 (h2 _)
theorem bind_one {fd : FuncData} {v : Value} {x : Str} (hp : plainP fd.params = true) (hx : fd.params.args.map (·.arg) = [x]) (hd : fd.defaults = .none) : bindArgs fd ⟨[v], []⟩ = pure [(x, v)] := by
  obtain ⟨k, h1, h2⟩ := bind_plain (us := [v]) hp (by rw [hx]; simp) (by rw [hx]; rfl)
  rw [h1, hd, show (pure [(x, v)] : Sem (List (Str × Value))) = k none by rw [h2, hx]; rfl]
  rfl
theorem forIn_steps {α σ : Type} {f : α → σ → Sem (ForInStep σ)} (S : List α → σ) : ∀ (l pre : List α), (∀ p a q, pre ++ l = p ++ a :: q → pre.length ≤ p.length → f a (S p) = pure (.yield (S (p ++ [a])))) → forIn l (S pre) f = (pure (S (pre ++ l)) : Sem σ)
  | [], pre, _ => by rw [List.append_nil]; rfl
  | a :: l, pre, h => by
    rw [List.forIn_cons, h pre a l rfl (Nat.le_refl _), pure_bind]
    dsimp only
    have := forIn_steps (f := f) S l (pre ++ [a]) fun p b q e hl => h p b q (by rw [← e]; simp) (by simp at hl; omega)
    rw [this]
    simp
theorem forIn_go {α σ : Type} {f : α → σ → Sem (ForInStep σ)} {S : List α → σ} {l : List α} {s0 : σ} (h0 : s0 = S []) (h : ∀ p a q, l = p ++ a :: q → f a (S p) = pure (.yield (S (p ++ [a])))) : forIn l s0 f = (pure (S l) : Sem σ) := by
  rw [h0]
  exact forIn_steps S l [] fun p a q e _ => h p a q e
theorem lookK_app {α : Type} {x : Str} : ∀ {l m : List (Str × α)}, (l ++ m).lookup x = (l.lookup x).or (m.lookup x)
  | [], m => by simp
  | (y, v) :: l, m => by
    rw [List.cons_append, List.lookup_cons, List.lookup_cons]
    cases x == y
    · exact lookK_app
    · rfl
theorem lookup_none_of {α : Type} {x : Str} : ∀ {l : List (Str × α)}, x ∉ l.map (·.1) → l.lookup x = none
  | [], _ => rfl
  | (y, v) :: l, h => by
    simp only [List.map_cons, List.mem_cons, not_or] at h
    rw [List.lookup_cons, beq_eq_false_iff_ne.mpr h.1]
    exact lookup_none_of h.2
theorem fm_zip {α : Type} {f : Str → Option α} : ∀ {ps : List Str}, (∀ n ∈ ps, (f n).isSome = true) → ps.filterMap (fun n => (f n).map fun v => (n, v)) = ps.zip (ps.filterMap f)
  | [], _ => rfl
  | p :: ps, h => by
    obtain ⟨v, e⟩ := Option.isSome_iff_exists.mp (h p (List.mem_cons_self ..))
    rw [List.filterMap_cons, List.filterMap_cons, e, fm_zip fun n hn => h n (List.mem_cons_of_mem _ hn)]
    rfl
theorem zip_take {α : Type} : ∀ {ps : List Str} {us : List α}, us.length ≤ ps.length → (ps.take us.length).zip us = ps.zip us
  | _, [], _ => by simp
  | [], _ :: _, h => by simp at h
  | p :: ps, u :: us, h => by
    simp only [List.length_cons, List.take_succ_cons, List.zip_cons_cons]
    rw [zip_take (by simpa using h)]
theorem kw_some {α : Type} {ps ks : List Str} {us ws : List α} (hk : kwOk ps ks (us ++ ws).length = true) (hw : ws.length = ks.length) : (∀ n ∈ ps, ((ps.zip us ++ ks.zip ws).lookup n).isSome = true) := by
  simp only [kwOk, Bool.and_eq_true, decide_eq_true_eq, List.all_eq_true, List.length_append] at hk
  obtain ⟨h1, h2, h3, h4, h5⟩ := hk
  intro n hn
  rw [lookK_app]
  by_cases hm : n ∈ ps.take us.length
  · have := zip_lookup_some (us := us) (ps := ps.take us.length) (by rw [List.length_take]; omega) hm
    rw [zip_take (by omega)] at this
    cases q : (ps.zip us).lookup n with
    | none => rw [q] at this; cases this
    | some v => rfl
  · have hd : n ∈ ps.drop us.length := by
      rw [← List.take_append_drop us.length ps] at hn
      rcases List.mem_append.mp hn with h | h
      · exact absurd h hm
      · exact h
    have e : us.length + ws.length - ks.length = us.length := by omega
    rw [e] at h5
    have := zip_lookup_some hw.symm (List.contains_iff_mem.mp (h5 n hd))
    cases (ps.zip us).lookup n with
    | none => simpa using this
    | some v => rfl
theorem bind_kw {fd : FuncData} {us ws : List Value} {ks : List Str} (hp : plainP fd.params = true) (nd : (fd.params.args.map (·.arg)).Nodup) (hk : kwOk (fd.params.args.map (·.arg)) ks (us ++ ws).length = true) (hw : ws.length = ks.length) :
    ∃ k : Option (Array Value) → Sem (List (Str × Value)), bindArgs fd ⟨us, ks.zip ws⟩ = seqItems? fd.defaults >>= k ∧ ∀ o, k o = pure ((fd.params.args.map (·.arg)).zip (kwPerm (fd.params.args.map (·.arg)) ks (us ++ ws))) := by
  have hsome := kw_some hk hw
  have hk' := hk
  simp only [kwOk, Bool.and_eq_true, decide_eq_true_eq, List.all_eq_true, List.length_append] at hk
  obtain ⟨c1, c2, c3, c4, c5⟩ := hk
  have eu : us.length + ws.length - ks.length = us.length := by omega
  rw [eu] at c4 c5
  unfold plainP at hp
  simp only [Bool.and_eq_true, List.isEmpty_iff, Option.isNone_iff_eq_none] at hp
  obtain ⟨h1, h2, h3, h4⟩ := hp
  unfold bindArgs
  simp only [h1, h2, h3, h4, List.map_nil, List.nil_append, List.append_nil]
  generalize hps : fd.params.args.map (fun x => x.arg) = ps at nd c1 c4 c5 hsome ⊢
  rw [forIn_go (S := fun pre => (ps.zip us ++ pre, [])) (by simp) ?step]
  case step =>
    intro p a q e
    have ha : a ∈ ks.zip ws := by rw [e]; simp
    have hak : a.1 ∈ ks := (List.of_mem_zip ha).1
    have had := List.contains_iff_mem.mp (c4 a.1 hak)
    have h5 : ps.contains a.1 = true := List.contains_iff_mem.mpr (List.mem_of_mem_drop had)
    have h6 : (ps.zip us ++ p).lookup a.1 = none := by
      rw [lookK_app, lookup_none_of (l := ps.zip us), lookup_none_of (l := p)]
      · rfl
      · have e2 := congrArg (List.map (·.1)) e
        rw [List.map_append, List.map_cons, List.map_fst_zip (by omega)] at e2
        rw [e2] at c3
        have := (List.nodup_append.mp c3).2.2
        intro z
        exact this _ z _ (List.mem_cons_self ..) rfl
      · rw [← zip_take (by omega : us.length ≤ ps.length), List.map_fst_zip (by rw [List.length_take]; omega)]
        intro z
        rw [← List.take_append_drop us.length ps] at nd
        exact (List.nodup_append.mp nd).2.2 _ z _ had rfl
    have h7 := List.contains_iff_mem.mp h5
    simp [h7, h6]
  rw [pure_bind]
  refine ⟨_, rfl, fun o => ?_⟩
  have e1 : decide (us.length > ps.length) = false := decide_eq_false (by omega)
  have e2 : ∀ m, (ps.take m).filter (fun n => ((ps.zip us ++ ks.zip ws).lookup n).isNone) = [] := fun m => by
    rw [List.filter_eq_nil_iff]
    intro n hn
    have z := hsome n (List.mem_of_mem_take hn)
    cases q : (ps.zip us ++ ks.zip ws).lookup n with
    | none => rw [q] at z; cases z
    | some v => simp
  simp only [e1, e2, Option.isNone_none, Bool.and_true, Bool.false_eq_true, if_false, List.isEmpty_nil, Bool.not_true, List.forIn_nil]
  rw [forIn_keep (fun q hq => ?_)]
  · simp only [pure_bind, List.isEmpty_nil, Bool.not_true, Bool.false_eq_true, if_false]
    rw [fm_zip hsome]
    have ed : (us ++ ws).length - ks.length = us.length := by rw [List.length_append]; exact eu
    unfold kwPerm
    rw [ed, List.take_left, List.drop_left]
  · obtain ⟨n, d⟩ := q
    have z := hsome n (List.mem_of_mem_drop (List.of_mem_zip hq).1)
    cases e : (ps.zip us ++ ks.zip ws).lookup n with
    | none => rw [e] at z; cases z
    | some v => simp
theorem bindsTo_kw {s : Shared} {fd : FuncData} {us ws : List Value} {ks : List Str} (hp : plainP fd.params = true) (nd : (fd.params.args.map (·.arg)).Nodup) (hk : kwOk (fd.params.args.map (·.arg)) ks (us ++ ws).length = true) (hw : ws.length = ks.length)
    (hd : fd.defaults = .none ∨ ∃ T o its n, fd.defaults = .ref T ∧ s.heap.get? T = some o ∧ o.data = .seq its n) : BindsTo s fd ⟨us, ks.zip ws⟩ ((fd.params.args.map (·.arg)).zip (kwPerm (fd.params.args.map (·.arg)) ks (us ++ ws))) := by
  obtain ⟨k, h1, h2⟩ := bind_kw hp nd hk hw
  rcases hd with hd | ⟨T, o, its, n, hd, ho, hs⟩
  · refine .of_eq ?_
    rw [h1, hd, ← h2 none]
    rfl
  · exact .of_defaults hd ho hs h1 (h2 _)
end Mn
end

section
set_option Elab.async false
set_option linter.all false
set_option maxRecDepth 100000
set_option maxHeartbeats 2000000
/-! Mini: what the evaluator says holds; the frame of the soundness proof; names, constants, operators, tests. -/
namespace Mn
open PySem L2
abbrev Frag := PySem.W.Frag
/-- a related end -/
def Got {α β : Type} (rel : Own → List Addr → Hp → α → β → Prop) (K : Frag) (T : List (Addr × Str)) (O : Own) (μ : List Addr) (H : Hp) (env : Env) (σ : L2.St) (st' : Store) (a : α) (v : β) (H' : Hp) : Prop :=
  ∃ O' μ', StR K T O' μ' env st' σ H' ∧ Ext O μ H O' μ' H' ∧ rel O' μ' H' a v
def ExR (K : Frag) (O : Own) (μ : List Addr) (H : Hp) (e : Ex) (cls : Value) (d : Option Addr) : Prop :=
  cls = .ref (He.ga K e.cls) ∧ (if e.fs.isEmpty then d = none else ∃ dx fs', d = some dx ∧ O dx = some .fz ∧ H dx = some (.xd fs') ∧ VRf O μ H e.fs fs')
def GotX (K : Frag) (T : List (Addr × Str)) (O : Own) (μ : List Addr) (H : Hp) (env : Env) (σ : L2.St) (st' : Store) (e : Ex) (cls : Value) (d : Option Addr) (H' : Hp) : Prop :=
  ∃ O' μ', StR K T O' μ' env st' σ H' ∧ Ext O μ H O' μ' H' ∧ ExR K O' μ' H' e cls d
def Post {α β : Type} (rel : Own → List Addr → Hp → α → β → Prop) (K : Frag) (T : List (Addr × Str)) (O : Own) (μ : List Addr) (H : Hp) (env : Env) (σ : L2.St) (W : WX) (r : Res α) (Q : β → Hp → Prop) : Prop := match r with
  | .ok a st' => ∀ v H', Got rel K T O μ H env σ st' a v H' → Q v H'
  | .exc e st' => ∀ cls d H', GotX K T O μ H env σ st' e cls d H' → W cls d σ H'
  | .bad => False
def rB (O : Own) (μ : List Addr) (H : Hp) (a b : Bool) : Prop := a = b
section
variable {K : Frag} {T : List (Addr × Str)} {O O1 : Own} {μ μ1 : List Addr} {H H1 : Hp} {env : Env} {st st1 : Store} {σ : L2.St} {W : WX} {α β γ δ : Type}
  {rel : Own → List Addr → Hp → α → β → Prop} {relA : Own → List Addr → Hp → γ → δ → Prop}
theorem Got.back {a : α} {v : β} {st' : Store} {H' : Hp} (e : Ext O μ H O1 μ1 H1) (g : Got rel K T O1 μ1 H1 env σ st' a v H') : Got rel K T O μ H env σ st' a v H' := by
  obtain ⟨O', μ', h1, h2, h3⟩ := g
  exact ⟨O', μ', h1, e.trans h2, h3⟩
theorem Post.fwd {r : Res α} {Q : β → Hp → Prop} (e : Ext O μ H O1 μ1 H1) (q : Post rel K T O μ H env σ W r Q) : Post rel K T O1 μ1 H1 env σ W r Q := by
  cases r with
  | ok a st' => exact fun v H' g => q v H' (g.back e)
  | exc x st' => exact fun cls d H' ⟨O', μ', h1, h2, h3⟩ => q cls d H' ⟨O', μ', h1, e.trans h2, h3⟩
  | bad => exact q
theorem Post.mono {r : Res α} {Q Q' : β → Hp → Prop} (q : Post rel K T O μ H env σ W r Q) (h : ∀ v H', Q v H' → Q' v H') : Post rel K T O μ H env σ W r Q' := by
  cases r with
  | ok a st' => exact fun v H' g => h v H' (q v H' g)
  | exc x st' => exact q
  | bad => exact q
/-- what is left behind a first part -/
def Rest (rel : Own → List Addr → Hp → α → β → Prop) (relA : Own → List Addr → Hp → γ → δ → Prop) (K : Frag) (T : List (Addr × Str)) (O : Own) (μ : List Addr) (H : Hp) (env : Env) (σ : L2.St) (W : WX) (k : γ → Store → Res α) (Q : β → Hp → Prop) (v : δ) (H1 : Hp) : Prop :=
  ∃ O1 μ1 st1 a, StR K T O1 μ1 env st1 σ H1 ∧ Ext O μ H O1 μ1 H1 ∧ relA O1 μ1 H1 a v ∧ Post rel K T O1 μ1 H1 env σ W (k a st1) Q
theorem post_bind {r : Res γ} {k : γ → Store → Res α} {Q : β → Hp → Prop} (relA : Own → List Addr → Hp → γ → δ → Prop) (q : Post rel K T O μ H env σ W (r.bind k) Q) :
    Post relA K T O μ H env σ W r (Rest rel relA K T O μ H env σ W k Q) := by
  cases r with
  | ok a st' =>
    intro v H' ⟨O', μ', h1, h2, h3⟩
    exact ⟨O', μ', st', a, h1, h2, h3, Post.fwd h2 q⟩
  | exc x st' => exact q
  | bad => exact q
/-- an end by an option -/
theorem post_opt {o : Option α} {Q : β → Hp → Prop} (q : Post rel K T O μ H env σ W (Res.ofOpt o st) Q) : ∃ a, o = some a ∧ ∀ v H', Got rel K T O μ H env σ st a v H' → Q v H' := by
  cases o with
  | some a => exact ⟨a, rfl, q⟩
  | none => exact q.elim
/-- a new list, a new dict is from now on never changed -/
theorem rvr_froz {r : RV} {v : V} (R : StR K T O μ env st σ H) (h : RVR O μ H r v) : ∃ O', StR K T O' μ env st σ H ∧ Ext O μ H O' μ H ∧ VR O' μ H r.toD v := by
  cases r with
  | d x => exact ⟨O, R, Ext.refl, h⟩
  | fl xs =>
    obtain ⟨a, vs, rfl, h1, h2, h3⟩ := h
    refine ⟨_, R.tagFz h1 h2, Ext.tag h1, ?_⟩
    simp only [RV.toD, VR]
    exact ⟨a, vs, rfl, tagAt_same, h2, VRs.mono (Ext.tag h1) xs h3⟩
  | fd t kvs =>
    obtain ⟨a, l, rfl, h1, h2, h3⟩ := h
    have hs : ∃ u, H a = some u := by
      unfold DctAt at h2
      cases t
      · obtain ⟨z, q, _⟩ := h2; exact ⟨_, q⟩
      · obtain ⟨z, q, _⟩ := h2; exact ⟨_, q⟩
    obtain ⟨u, hu⟩ := hs
    refine ⟨_, R.tagFz h1 hu, Ext.tag h1, ?_⟩
    simp only [RV.toD, VR]
    refine ⟨a, l, rfl, tagAt_same, ?_, VRk.mono (Ext.tag h1) kvs h3⟩
    unfold DctAt at h2
    cases t
    · obtain ⟨z, q, e⟩ := h2; exact ⟨z, .inl q, e⟩
    · obtain ⟨z, q, e⟩ := h2; exact ⟨z, .inl q, e⟩
theorem post_froz {r : Res RV} {Q : V → Hp → Prop} (q : Post VR K T O μ H env σ W r.froz Q) : Post RVR K T O μ H env σ W r Q := by
  cases r with
  | ok a st' =>
    intro v H' ⟨O', μ', h1, h2, h3⟩
    obtain ⟨O2, k1, k2, k3⟩ := rvr_froz h1 h3
    exact q v H' ⟨O2, μ', k1, h2.trans k2, k3⟩
  | exc x st' => exact q
  | bad => exact q
/-- a new list, a new dict joins the store -/
theorem rvr_kept {r : RV} {v : V} (R : StR K T O μ env st σ H) (h : RVR O μ H r v) : ∃ O' μ' d st', (Res.ok r st : Res RV).kept = .ok d st' ∧ StR K T O' μ' env st' σ H ∧ Ext O μ H O' μ' H ∧ VR O' μ' H d v := by
  cases r with
  | d x => exact ⟨O, μ, x, st, rfl, R, Ext.refl, h⟩
  | fl xs =>
    obtain ⟨a, vs, rfl, h1, h2, h3⟩ := h
    obtain ⟨k1, k2⟩ := R.push (o := .lst false xs) h1 h2 ⟨vs, h2, h3⟩
    refine ⟨_, _, .loc st.length, _, rfl, k1, k2, ?_⟩
    simp only [VR]
    exact ⟨a, rfl, by rw [← R.mu, List.getElem?_append_right (Nat.le_refl _)]; simp⟩
  | fd t kvs =>
    obtain ⟨a, l, rfl, h1, h2, h3⟩ := h
    have hs : ∃ u, H a = some u := by
      unfold DctAt at h2
      cases t
      · obtain ⟨z, q, _⟩ := h2; exact ⟨_, q⟩
      · obtain ⟨z, q, _⟩ := h2; exact ⟨_, q⟩
    obtain ⟨u, hu⟩ := hs
    obtain ⟨k1, k2⟩ := R.push (o := .dct t false kvs) h1 hu ⟨l, by simpa using h2, h3⟩
    refine ⟨_, _, .loc st.length, _, rfl, k1, k2, ?_⟩
    simp only [VR]
    exact ⟨a, rfl, by rw [← R.mu, List.getElem?_append_right (Nat.le_refl _)]; simp⟩
theorem post_kept {r : Res RV} {Q : V → Hp → Prop} (q : Post VR K T O μ H env σ W r.kept Q) : Post RVR K T O μ H env σ W r Q := by
  cases r with
  | ok a st' =>
    intro v H' ⟨O', μ', h1, h2, h3⟩
    obtain ⟨O2, μ2, d, st2, e, k1, k2, k3⟩ := rvr_kept h1 h3
    rw [e] at q
    exact q v H' ⟨O2, μ2, k1, h2.trans k2, k3⟩
  | exc x st' => exact q
  | bad => exact q
end

/-! ### defs and where a piece of text runs -/
def PostC (K : Frag) (T : List (Addr × Str)) (O : Own) (μ : List Addr) (H : Hp) (r : Res RV) (Q : VK) (E : XK) : Prop := match r with
  | .ok rv st' => ∀ v H', Got RVR K T O μ H [] [] st' rv v H' → Q v H'
  | .exc e st' => ∀ cls d H', GotX K T O μ H [] [] st' e cls d H' → E cls d H'
  | .bad => False
/-- the program: what the evaluator knows of it, its text's tables -/
structure Pg where
  p : PTab
  fuel : Nat
  defs : Fn → Option MDef
  /-- the parameters' names -/
  prm : Fn → List Str
  T : List (Addr × Str)
  /-- the defs in which lambdas are made -/
  lams : List Str
abbrev Pg.C (g : Pg) (n : Nat) : Calls := callN g.p g.fuel g.defs n
/-- a def's promise: it does what the evaluator says -/
def spOf (g : Pg) (K : Frag) (n : Nat) (q : Fn) (np : Nat) : Sp := fun vs H Q E =>
  vs.length = np ∧ ∃ O μ st ds, StR K g.T O μ [] st [] H ∧ VRs O μ H ds vs ∧ PostC K g.T O μ H (g.C n q ds st) Q E
/-- where the function of a name stands; a property's getter -/
def fA (g : Pg) (K : Frag) (q : Fn) : Addr := match q.2 with
  | none => He.ga K q.1
  | some m => if g.p.prop q.1 m then (match PySem.W.recIn K (He.ma K (He.ga K q.1) m) "property" with
    | some (.ref a :: _) => a
    | _ => 0) else He.ma K (He.ga K q.1) m
/-- room, and nothing is being shown -/
structure RoomG (k : Nat) (A : Around) : Prop extends Room k A where
  gd : A.guards = some []
theorem RoomG.mono {j k : Nat} {A : Around} (r : RoomG k A) (h : j ≤ k) : RoomG j A := ⟨r.toRoom.mono h, r.gd⟩
theorem RoomG.in1 {k : Nat} {A : Around} (r : RoomG (k + 1) A) : RoomG k A.in1 := ⟨r.toRoom.in1, r.gd⟩
theorem RoomG.make {k : Nat} {A : Around} (r : RoomG (k + 1) A) (C : Addr) (us : List Value) (kw : List (Str × Value)) : RoomG k (A.under (.builtin "type.__call__" ⟨.ref C :: us, kw⟩)) := by
  refine ⟨r.toRoom.make C us kw, ?_⟩
  unfold Around.under
  dsimp only
  rw [r.gd]
  first | rfl | simp [pushGuards, Code.guards, guardIds, Code.isGuard]
theorem RoomG.deeper {k : Nat} {A : Around} (r : RoomG (k + 1) A) (env : PySem.Env) : RoomG k (A.deeper env) := ⟨r.toRoom.deeper env, r.gd⟩
/-- how values come to a def: by place, or the last ones by name -/
def ArgsOk (ps : List Str) (args : Args) (us : List Value) : Prop := (args = ⟨us, []⟩ ∧ us.length = ps.length) ∨ ∃ (u1 ws : List Value) (ks : List Str), args = ⟨u1, ks.zip ws⟩ ∧ ws.length = ks.length ∧ kwOk ps ks (u1 ++ ws).length = true ∧ us = kwPerm ps ks (u1 ++ ws)
/-- a def's promise, wherever nothing is being shown -/
def FnG (P : Program) (w : World) (K : Frag) (mg : Str → Option Value) (base : Heap) (CX : CXT) (k : Nat) (f : Addr) (ps : List Str) (sp : Sp) : Prop :=
  ∀ (A : Around) (outer : List PySem.Env) (s : Shared) (H : Hp) (args : Args) (us : List Value) (vs : List V) (Q : VK) (E : XK), RoomG k A → Env0 P w K mg base A outer s H → ArgsOk ps args us → Vals vs us → sp vs H Q E →
    codeAny (model P w) A (.call (.ref f) args) (CR CX outer P w H s Q E) s
def FnRG (P : Program) (w : World) (K : Frag) (mg : Str → Option Value) (base : Heap) (CX : CXT) (k : Nat) (f : Addr) (sp : Sp) : Prop :=
  ∀ (A : Around) (outer : List PySem.Env) (s : Shared) (H : Hp) (us : List Value) (vs : List V) (Q : VK) (E : XK), RoomG k A → Env0 P w K mg base A outer s H → Vals vs us → sp vs H Q E →
    codeAny (model P w) A (.call (.ref f) ⟨us, []⟩) (CR CX outer P w H s Q E) s
structure CallOk (g : Pg) (P : Program) (w : World) (K : Frag) (mg : Str → Option Value) (base : Heap) (n : Nat) (q : Fn) (d : MDef) : Prop where
  okG : FnG P w K mg base (L2.CX P w) (4 * n) (fA g K q) (g.prm q) (spOf g K n q d.np)
  np : d.np = (g.prm q).length
  gl : q.2 = none → mg q.1 = some (.ref (fA g K q)) ∧ PySem.W.keepIn K (.ref (fA g K q)) = true
  me : ∀ m, q.2 = some m → Cls K (He.ga K q.1) ∧ (m = "__init__" → Mk K (He.ga K q.1) (fA g K q) ∧ mg q.1 = some (.ref (He.ga K q.1))) ∧ (g.p.prop q.1 m = true → ∃ pa, PropOf K (He.ga K q.1) m pa (fA g K q)) ∧
    (m ≠ "__init__" → g.p.prop q.1 m = false → Meth K (He.ga K q.1) m (fA g K q))
theorem CallOk.ok {g : Pg} {P : Program} {w : World} {K : Frag} {mg : Str → Option Value} {base : Heap} {n : Nat} {q : Fn} {d : MDef} (c : CallOk g P w K mg base n q d) : FnRG P w K mg base (L2.CX P w) (4 * n) (fA g K q) (spOf g K n q d.np) :=
  fun A outer s H us vs Q E hr e0 r h => c.okG A outer s H ⟨us, []⟩ us vs Q E hr e0 (.inl ⟨rfl, by rw [← r.length, h.1, c.np]⟩) r h
def CallsOk (g : Pg) (P : Program) (w : World) (K : Frag) (mg : Str → Option Value) (base : Heap) (n : Nat) : Prop :=
  ∀ q d, g.defs q = some d → CallOk g P w K mg base n q d
/-- a class of the module, as isinstance asks for it -/
structure KitC (p : PTab) (K : Frag) (mg : Str → Option Value) (c : Str) : Prop where
  cl : Cls K (He.ga K c)
  ha : PySem.W.findIn K (.ref (He.ga K c)) "__class__" = some (some (.builtin "object.__class__"))
  hn : PySem.W.specialIn K (.builtin "object.__class__") "__get__" = some (some (.builtin "getset_descriptor.__get__"))
  htk : PySem.W.takesIn K (.builtin "object.__class__") = some true
  hm : PySem.W.mroIn K (He.ga K c) (.type "object") = some true
  bt : ∀ T, ["NoneType", "bool", "int", "str", "tuple", "list", "dict"].contains T = true → PySem.W.kitOne K (.type T) (.ref (He.ga K c)) = some false
  tb : ∀ n, tyNames.contains n = true → PySem.W.kitOne K (.ref (He.ga K c)) (.type n) = some false
  own : ∀ k, p.cls.contains k = true → PySem.W.kitOne K (.ref (He.ga K k)) (.ref (He.ga K c)) = some (p.sub k c)
  mgc : mg c = some (.ref (He.ga K c))
structure XOk (g : Pg) (n : Nat) (N : List Str) (sc : Scope) (X : Cx) : Prop where
  nm : X.N = N
  nd : N.Nodup
  scp : X.env.scope = sc
  calm : X.calm = true
  room : RoomG (4 * n + 3) X.A
  mth : ∀ c m, g.p.isM c m = true → (g.defs (c, some m)).isSome = true ∧ g.p.prop c m = false ∧ m ≠ "__init__"
  fld : ∀ c f, g.p.isF c f = true → Cls X.K (He.ga X.K c) ∧ NoAttr X.K (He.ga X.K c) f
  calls : CallsOk g X.prog X.w X.K X.mg X.base n
  kit : ∀ c, g.p.cls.contains c = true → KitC g.p X.K X.mg c
  con : ∀ x d, g.p.con.lookup x = some d → ∃ u v, X.mg x = some u ∧ RelV v u ∧ ∀ O μ H, VR O μ H d v
  lam : g.lams.contains X.env.qual = true → ∃ c Pt, X.env.code = .ref c ∧ LamX.TabB X.base X.mg c Pt ∧ (Pt, X.env.qual ++ "<lambda>") ∈ g.T ∧ ∀ p ∈ g.T, p.1 = Pt → p.2 = X.env.qual ++ "<lambda>"
section
variable (g : Pg) (n : Nat) (X : Cx) (W : WX)
def TE_ (m : E) : TE := fun σ H Q => ∃ O μ env st, StR X.K g.T O μ env st σ H ∧ Post RVR X.K g.T O μ H env σ W (evE g.p (g.C n) m env st) Q
def TF_ (m : E) : TE := fun σ H Q => ∃ O μ env st, StR X.K g.T O μ env st σ H ∧ Post VR X.K g.T O μ H env σ W (evE g.p (g.C n) m env st).froz Q
def TK_ (m : E) : TE := fun σ H Q => ∃ O μ env st, StR X.K g.T O μ env st σ H ∧ Post VR X.K g.T O μ H env σ W (evE g.p (g.C n) m env st).kept Q
def TT_ (m : Mn.T) : TT := fun σ H Q => ∃ O μ env st, StR X.K g.T O μ env st σ H ∧ Post rB X.K g.T O μ H env σ W (evT g.p (g.C n) m env st) Q
def TA_ (m : Es) : TA := fun σ H Q => ∃ O μ env st, StR X.K g.T O μ env st σ H ∧ Post VRs X.K g.T O μ H env σ W (evEs g.p (g.C n) m env st) Q
end
theorem PE.weak {X : Cx} {e : Expr} {t t' : TE} (h : PE X e t) (k : ∀ σ H Q, t' σ H Q → t σ H Q) : PE X e t' := ⟨fun pins s σ H Q I q => h.run pins s σ H Q I (k σ H Q q)⟩
theorem PT.weak {X : Cx} {e : Expr} {t t' : TT} (h : PT X e t) (k : ∀ σ H Q, t' σ H Q → t σ H Q) : PT X e t' := ⟨fun pins s σ H Q I q => h.run pins s σ H Q I (k σ H Q q)⟩
theorem PA.weak {X : Cx} {e : List Expr} {t t' : TA} (h : PA X e t) (k : ∀ σ H Q, t' σ H Q → t σ H Q) : PA X e t' := ⟨fun pos pins s σ H Q I q => h.run pos pins s σ H Q I (k σ H Q q)⟩
section
variable {g : Pg} {n : Nat} {X : Cx} {W : WX} {N : List Str} {sc : Scope} {a b c : Expr} {ma mb mc : E} {pos : Pos}
theorem pf (h : PE X a (TE_ g n X W ma)) : PE X a (TF_ g n X W ma) := PE.weak h fun σ H Q ⟨O, μ, env, st, R, q⟩ => ⟨O, μ, env, st, R, post_froz q⟩
theorem pk (h : PE X a (TE_ g n X W ma)) : PE X a (TK_ g n X W ma) := PE.weak h fun σ H Q ⟨O, μ, env, st, R, q⟩ => ⟨O, μ, env, st, R, post_kept q⟩
/-- a value of plain data, the state as it is -/
theorem got_d {K : Frag} {T : List (Addr × Str)} {O : Own} {μ : List Addr} {H : Hp} {env : Env} {st : Store} {σ : L2.St} {d : D} {v : V} (R : StR K T O μ env st σ H) (h : VR O μ H d v) : Got RVR K T O μ H env σ st (.d d) v H := ⟨O, μ, R, Ext.refl, h⟩

/-! ### names, constants -/
theorem se_var {i : Nat} {x : Str} (hN : X.N[i]? = some x) (hv : Vis X.env.scope x) (hd : (x == ("__debug__" : Str)) = false) (hcd : (x == ("__classdict__" : Str)) = false) : PE X (.Name x pos) (TE_ g n X W (.var i)) :=
  PE.weak (pe_var hN hv hd hcd) fun σ H Q ⟨O, μ, env, st, R, q⟩ => by
    simp only [evE] at q
    cases e : env[i]? with
    | none => rw [e] at q; exact q.elim
    | some o =>
      cases o with
      | none => rw [e] at q; exact q.elim
      | some d =>
        rw [e] at q
        obtain ⟨v, h1, h2⟩ := R.vars i d e
        exact ⟨v, h1, q v H (got_d R h2)⟩
theorem se_cst {d : D} {v : V} {e : Expr} (h : PE X e (tC v)) (hd : ∀ O μ H, VR O μ H d v) : PE X e (TE_ g n X W (.cst d)) :=
  PE.weak h fun σ H Q ⟨O, μ, env, st, R, q⟩ => by
    simp only [evE] at q
    exact q v H (got_d R (hd O μ H))
theorem se_glo {x : Str} {d : D} (ok : XOk g n N sc X) (hg : Gl X x) (hl : g.p.con.lookup x = some d) (hd : (x == ("__debug__" : Str)) = false) : PE X (.Name x pos) (TE_ g n X W (.glo x)) := by
  obtain ⟨u, v, h1, h2, h3⟩ := ok.con x d hl
  refine PE.weak (pe_glob hg h1 h2 hd) fun σ H Q ⟨O, μ, env, st, R, q⟩ => ?_
  simp only [evE, hl, Option.map_some, Res.ofOpt] at q
  exact q v H (got_d R (h3 O μ H))

/-! ### operators -/
theorem lim_le : lim ≤ sizeLine := by decide
theorem toV {O : Own} {μ : List Addr} {H : Hp} {i : Int} {v : V} (h : VR O μ H (.int i) v) : v = .int i := h
/-- a list that is to be read, by its place -/
theorem seq_at {K : Frag} {T : List (Addr × Str)} {O : Own} {μ : List Addr} {H : Hp} {env : Env} {st : Store} {σ : L2.St} {d : D} {v : V} {xs : List D} (R : StR K T O μ env st σ H) (h : VR O μ H d v) (e : seqOf st d = some xs) :
    ∃ a vs, v = .ref a ∧ VRs O μ H xs vs ∧ ((∃ ys, d = .tup ys ∧ H a = some (.tup vs)) ∨ ((∀ ys, d ≠ .tup ys) ∧ Rd H a (.lst vs) ∧ (∀ ys, d = .lst ys → H a = some (.lst vs)))) := by
  cases d with
  | tup ys =>
    simp only [VR] at h
    obtain ⟨a, vs, h1, h2, h3⟩ := h
    cases e
    exact ⟨a, vs, h1, h3, .inl ⟨_, rfl, h2⟩⟩
  | lst ys =>
    simp only [VR] at h
    obtain ⟨a, vs, h1, h2, h3, h4⟩ := h
    cases e
    exact ⟨a, vs, h1, h4, .inr ⟨(fun _ z => by cases z), .inl h3, fun _ _ => h3⟩⟩
  | loc j =>
    simp only [VR] at h
    obtain ⟨a, h1, h2⟩ := h
    simp only [seqOf] at e
    cases q : st[j]? with
    | none => rw [q] at e; cases e
    | some o =>
      rw [q] at e
      cases o with
      | lst b ys =>
        cases e
        obtain ⟨b', k1, k2, vs, k3, k4⟩ := R.obj j _ q
        rw [h2] at k1
        cases k1
        refine ⟨a, vs, h1, k4, .inr ⟨(fun _ z => by cases z), ?_, (fun _ z => by cases z)⟩⟩
        cases b
        · exact .inl k3
        · exact .inr k3
      | dct _ _ _ => cases e
      | ins _ _ => cases e
  | _ => cases e
end
end Mn
end

section
set_option Elab.async false
set_option linter.all false
set_option maxRecDepth 100000
set_option maxHeartbeats 2000000
/-! Mini: operators, comparisons, tests. -/
namespace Mn
open PySem L2
/-- an operation on data -/
def SOp (g : Pg) (X : Cx) (F : D → D → Store → Option RV) : R2 := fun x y H Q => ∃ O μ env st σ0 dx dy rv, StR X.K g.T O μ env st σ0 H ∧ VR O μ H dx x ∧ VR O μ H dy y ∧ F dx dy st = some rv ∧
  ∀ v H', Got RVR X.K g.T O μ H env σ0 st rv v H' → Q v H'
section
variable {g : Pg} {n : Nat} {X : Cx} {W : WX} {N : List Str} {sc : Scope} {a b c : Expr} {ma mb mc : E} {pos : Pos}
theorem bin_tOp {F : D → D → Store → Option RV} {O : Own} {μ : List Addr} {H : Hp} {env : Env} {st : Store} {σ : L2.St} {Q : VK} (R : StR X.K g.T O μ env st σ H)
    (q : Post RVR X.K g.T O μ H env σ W ((evE g.p (g.C n) ma env st).froz.bind fun x st => (evE g.p (g.C n) mb env st).froz.bind fun y st => Res.ofOpt (F x y st) st) Q) :
    tOp (SOp g X F) (TF_ g n X W ma) (TF_ g n X W mb) σ H Q := by
  refine ⟨O, μ, env, st, R, (post_bind VR q).mono ?_⟩
  rintro x H1 ⟨O1, μ1, st1, dx, R1, E1, r1, q1⟩
  refine ⟨O1, μ1, env, st1, R1, (post_bind VR q1).mono ?_⟩
  rintro y H2 ⟨O2, μ2, st2, dy, R2, E2, r2, q2⟩
  obtain ⟨rv, e, q3⟩ := post_opt q2
  exact ⟨O2, μ2, env, st2, σ, dx, dy, rv, R2, VR.mono E2 dx r1, r2, e, q3⟩
/-- an end that makes a new list, a new tuple -/
theorem got_fl {K : Frag} {T : List (Addr × Str)} {O : Own} {μ : List Addr} {H : Hp} {env : Env} {st : Store} {σ : L2.St} {xs : List D} {vs : List V} {p : Addr} (R : StR K T O μ env st σ H) (h : VRs O μ H xs vs) (hp : H p = none) :
    Got RVR K T O μ H env σ st (.fl xs) (.ref p) (upd H p (.lst vs)) := by
  obtain ⟨R1, E1⟩ := R.new (o := .lst vs) hp
  refine ⟨O, μ, R1, E1, p, vs, rfl, ?_, upd_same, VRs.mono E1 xs h⟩
  cases e : O p with
  | none => rfl
  | some t =>
    obtain ⟨u, q⟩ := R.own p t e
    rw [hp] at q
    cases q
theorem got_tup {K : Frag} {T : List (Addr × Str)} {O : Own} {μ : List Addr} {H : Hp} {env : Env} {st : Store} {σ : L2.St} {xs : List D} {vs : List V} {p : Addr} (R : StR K T O μ env st σ H) (h : VRs O μ H xs vs) (hp : H p = none) :
    Got RVR K T O μ H env σ st (.d (.tup xs)) (.ref p) (upd H p (.tup vs)) := by
  obtain ⟨R1, E1⟩ := R.new (o := .tup vs) hp
  refine ⟨O, μ, R1, E1, ?_⟩
  simp only [RVR, VR]
  exact ⟨p, vs, rfl, upd_same, VRs.mono E1 xs h⟩
theorem vr_tup {O : Own} {μ : List Addr} {H : Hp} {xs : List D} {v : V} (h : VR O μ H (.tup xs) v) : ∃ a vs, v = .ref a ∧ H a = some (.tup vs) ∧ VRs O μ H xs vs := by simpa only [VR] using h
theorem vr_lst {O : Own} {μ : List Addr} {H : Hp} {xs : List D} {v : V} (h : VR O μ H (.lst xs) v) : ∃ a vs, v = .ref a ∧ O a = some .fz ∧ H a = some (.lst vs) ∧ VRs O μ H xs vs := by simpa only [VR] using h
theorem VRs.nil_iff {O : Own} {μ : List Addr} {H : Hp} {xs : List D} {vs : List V} (h : VRs O μ H xs vs) : xs = [] ↔ vs = [] := by
  have := h.length
  constructor
  · intro e; rw [e] at this; exact List.length_eq_zero_iff.mp this.symm
  · intro e; rw [e] at this; exact List.length_eq_zero_iff.mp this
/-- list + list, of any that may be read -/
theorem op_catR {pins : List (Addr × Obj)} {s : Shared} {σ : L2.St} {H : Hp} {l b : Addr} {xs zs : List V} {Q : VK} (I : Inv X pins σ H s) (hH : Rd H l (.lst xs)) (hB : Rd H b (.lst zs)) (hz : xs.length + zs.length ≤ sizeLine) (q : ∀ p, H p = none → Q (.ref p) (upd H p (.lst (xs ++ zs)))) :
    wpAny (model X.prog X.w) X.A (binaryOp .Add (.ref l) (.ref b)) (EP X pins σ Q) X.xe s := by
  obtain ⟨z, its, n, r, e⟩ := hH.ok I.hok
  obtain ⟨z2, its2, n2, r2, e2⟩ := hB.ok I.hok
  have hl := r.length
  have hl2 := r2.length
  refine PySem.P.add_list e e2 ?_ (by rw [List.size_toArray, List.size_toArray]; omega)
  have ea : its.toArray ++ its2.toArray = (its ++ its2).toArray := by simp
  rw [ea]
  exact ⟨.ref _, _, I.lnew (t' := s.toks) (r.append r2) (by rw [List.length_append]; omega), rfl, q _ I.fresh⟩
theorem le_line {k : Nat} (h : k ≤ lim) : k ≤ sizeLine := Nat.le_trans h lim_le
theorem VRs.rep {O : Own} {μ : List Addr} {H : Hp} {xs : List D} {vs : List V} (h : VRs O μ H xs vs) : ∀ k : Nat, VRs O μ H (List.replicate k xs).flatten (List.replicate k vs).flatten
  | 0 => by simp [VRs]
  | k + 1 => by
    rw [List.replicate_succ, List.replicate_succ, List.flatten_cons, List.flatten_cons]
    exact h.append (VRs.rep h k)
theorem opS_add : OpR X (binaryOp .Add) (SOp g X fun x y st => binD st .add x y) := by
  intro pins s σ H x y v u Q I rx ry h
  obtain ⟨O, μ, env, st, σ0, dx, dy, rv, R, h1, h2, e, q⟩ := h
  have lists : ∀ xs ys, isL dx = true → isL dy = true → seqOf st dx = some xs → seqOf st dy = some ys → xs.length + ys.length ≤ lim → rv = .fl (xs ++ ys) → wpAny (model X.prog X.w) X.A (binaryOp .Add v u) (EP X pins σ Q) X.xe s := by
    intro xs ys l1 l2 s1 s2 hz er
    obtain ⟨p, vs, rfl, k1, k2⟩ := seq_at R h1 s1
    obtain ⟨p2, vs2, rfl, k3, k4⟩ := seq_at R h2 s2
    cases rx
    cases ry
    have m1 : Rd H p (.lst vs) := by
      rcases k2 with ⟨ys, rfl, _⟩ | ⟨_, z, _⟩
      · cases l1
      · exact z
    have m2 : Rd H p2 (.lst vs2) := by
      rcases k4 with ⟨ys, rfl, _⟩ | ⟨_, z, _⟩
      · cases l2
      · exact z
    refine op_catR I m1 m2 (le_line (by rw [← k1.length, ← k3.length]; exact hz)) fun p' hp => q _ _ ?_
    rw [er]
    exact got_fl R (k1.append k3) hp
  cases dx with
  | int i =>
    cases dy with
    | int j =>
      simp only [binD, binI, Option.map_some, Option.some.injEq] at e
      subst e
      exact op_add pins s σ H x y v u Q I rx ry ⟨i, j, h1, h2, q _ _ (got_d R rfl)⟩
    | _ => simp [binD, isL] at e
  | str i =>
    cases dy with
    | str j =>
      simp only [binD, true_and] at e
      split at e
      · cases e
        exact op_add_str pins s σ H x y v u Q I rx ry ⟨i, j, h1, h2, le_line (by assumption), q _ _ (got_d R rfl)⟩
      · cases e
    | _ => simp [binD, isL] at e
  | tup xs =>
    cases dy with
    | tup ys =>
      simp only [binD, true_and] at e
      split at e
      · rename_i hz
        cases e
        obtain ⟨p, vs, rfl, k1, k2⟩ := vr_tup h1
        obtain ⟨p2, vs2, rfl, k3, k4⟩ := vr_tup h2
        refine op_catA pins s σ H _ _ v u Q I rx ry ⟨p, p2, vs, vs2, rfl, rfl, SqT.of k1, SqT.of k3, le_line (by rw [← k2.length, ← k4.length]; exact hz), fun e => ?_, fun _ e => ?_, fun _ _ p' hp => ?_⟩
        · have e2 := k2.nil_iff.mpr e
          subst e2
          exact q _ _ (got_d R h2)
        · have e2 := k4.nil_iff.mpr e
          subst e2
          rw [List.append_nil] at q
          exact q _ _ (got_d R h1)
        · exact q _ _ (got_tup R (k2.append k4) hp)
      · cases e
    | _ => simp [binD, isL] at e
  | lst xs =>
    cases dy with
    | lst ys =>
      simp only [binD, isL, true_and, if_true, and_self] at e
      simp only [seqOf] at e
      split at e
      · cases e
        exact lists xs ys rfl rfl rfl rfl (by assumption) rfl
      · cases e
    | loc j =>
      simp only [binD, isL, true_and, if_true, and_self] at e
      split at e
      · rename_i a1 b1 s1 s2
        split at e
        · cases e
          exact lists _ _ rfl rfl s1 s2 (by assumption) rfl
        · cases e
      · cases e
    | _ => simp [binD, isL] at e
  | loc j =>
    cases dy with
    | lst ys =>
      simp only [binD, isL, true_and, if_true, and_self] at e
      split at e
      · rename_i a1 b1 s1 s2
        split at e
        · cases e
          exact lists _ _ rfl rfl s1 s2 (by assumption) rfl
        · cases e
      · cases e
    | loc k =>
      simp only [binD, isL, true_and, if_true, and_self] at e
      split at e
      · rename_i a1 b1 s1 s2
        split at e
        · cases e
          exact lists _ _ rfl rfl s1 s2 (by assumption) rfl
        · cases e
      · cases e
    | _ => simp [binD, isL] at e
  | non => cases dy <;> simp [binD, isL] at e
  | bl _ => cases dy <;> simp [binD, isL] at e
  | dct _ _ => cases dy <;> simp [binD, isL] at e
theorem opS_mul : OpR X (binaryOp .Mult) (SOp g X fun x y st => binD st .mul x y) := by
  intro pins s σ H x y v u Q I rx ry h
  obtain ⟨O, μ, env, st, σ0, dx, dy, rv, R, h1, h2, e, q⟩ := h
  cases dx with
  | int i =>
    cases dy with
    | int j =>
      simp only [binD, binI] at e
      split at e
      · simp only [Option.map_some, Option.some.injEq] at e
        subst e
        exact op_mul pins s σ H x y v u Q I rx ry ⟨i, j, h1, h2, by assumption, q _ _ (got_d R rfl)⟩
      · cases e
    | _ => simp [binD, isL] at e
  | lst xs =>
    cases dy with
    | int k =>
      simp only [binD, true_and] at e
      split at e
      · rename_i hz
        cases e
        obtain ⟨p, vs, rfl, k0, k1, k2⟩ := vr_lst h1
        refine op_rep pins s σ H _ y v u Q I rx ry ⟨p, k, vs, rfl, h2, k1, by omega, by omega, le_line (by rw [← k2.length]; exact hz.2.2), fun p' hp => q _ _ (got_fl R (k2.rep _) hp)⟩
      · cases e
    | _ => simp [binD, isL] at e
  | _ => cases dy <;> simp [binD, isL] at e
/-- operators on ints alone -/
theorem opS_int {o : Operator} {bo : Bop} {C : Int → Int → Prop} {f : Int → Int → Int} (ho : OpR X (binaryOp o) (rI C fun i j => .int (f i j))) (hb : ∀ i j d, binI bo i j = some d → C i j ∧ d = .int (f i j)) (h1 : bo ≠ .add) (h2 : bo ≠ .mul) :
    OpR X (binaryOp o) (SOp g X fun x y st => binD st bo x y) := by
  intro pins s σ H x y v u Q I rx ry h
  obtain ⟨O, μ, env, st, σ0, dx, dy, rv, R, k1, k2, e, q⟩ := h
  cases dx with
  | int i =>
    cases dy with
    | int j =>
      simp only [binD] at e
      cases eb : binI bo i j with
      | none => rw [eb] at e; cases e
      | some d =>
        rw [eb] at e
        cases e
        obtain ⟨c1, c2⟩ := hb i j d eb
        subst c2
        exact ho pins s σ H x y v u Q I rx ry ⟨i, j, k1, k2, c1, q _ _ (got_d R rfl)⟩
    | _ => simp [binD, isL, h1, h2] at e
  | _ => cases dy <;> simp [binD, isL, h1, h2] at e
theorem opS_sub : OpR X (binaryOp .Sub) (SOp g X fun x y st => binD st .sub x y) :=
  opS_int (C := fun _ _ => True) (f := fun i j => i - j) (fun pins s σ H x y v u Q I rx ry ⟨i, j, a, b, _, q⟩ => op_sub pins s σ H x y v u Q I rx ry ⟨i, j, a, b, q⟩) (fun i j d e => by simp only [binI, Option.some.injEq] at e; exact ⟨trivial, e.symm⟩) (by decide) (by decide)
theorem opS_fdiv : OpR X (binaryOp .FloorDiv) (SOp g X fun x y st => binD st .fdiv x y) :=
  opS_int op_fdiv (fun i j d e => by
    simp only [binI] at e
    split at e
    · cases e; exact ⟨by assumption, rfl⟩
    · cases e) (by decide) (by decide)
theorem opS_mod : OpR X (binaryOp .Mod) (SOp g X fun x y st => binD st .mod x y) :=
  opS_int op_mod (fun i j d e => by
    simp only [binI] at e
    split at e
    · cases e; exact ⟨by assumption, rfl⟩
    · cases e) (by decide) (by decide)
theorem opS_pow : OpR X (binaryOp .Pow) (SOp g X fun x y st => binD st .pow x y) :=
  opS_int op_pow (fun i j d e => by
    simp only [binI] at e
    split at e
    · cases e; exact ⟨by assumption, rfl⟩
    · cases e) (by decide) (by decide)
theorem opS_xor : OpR X (binaryOp .BitXor) (SOp g X fun x y st => binD st .xor x y) :=
  opS_int (C := fun _ _ => True) (f := fun i j => Builtin.bitXor i j) (fun pins s σ H x y v u Q I rx ry ⟨i, j, a, b, _, q⟩ => op_xor pins s σ H x y v u Q I rx ry ⟨i, j, a, b, q⟩) (fun i j d e => by simp only [binI, Option.some.injEq] at e; exact ⟨trivial, e.symm⟩) (by decide) (by decide)
def bopOf : Operator → Option Bop
  | .Add => some .add
  | .Sub => some .sub
  | .Mult => some .mul
  | .FloorDiv => some .fdiv
  | .Mod => some .mod
  | .Pow => some .pow
  | .BitXor => some .xor
  | _ => none
theorem opS_bin {o : Operator} {bo : Bop} (h : bopOf o = some bo) : OpR X (binaryOp o) (SOp g X fun x y st => binD st bo x y) := by
  cases o <;> simp only [bopOf, Option.some.injEq, reduceCtorEq] at h <;> subst h
  · exact opS_add
  · exact opS_sub
  · exact opS_mul
  · exact opS_mod
  · exact opS_pow
  · exact opS_xor
  · exact opS_fdiv
theorem se_bin {o : Operator} {bo : Bop} (h : bopOf o = some bo) (ha : PE X a (TE_ g n X W ma)) (hb : PE X b (TE_ g n X W mb)) : PE X (.BinOp a o b pos) (TE_ g n X W (.bin bo ma mb)) :=
  PE.weak (pe_op (opS_bin h) (pf ha) (pf hb)) fun σ H Q ⟨O, μ, env, st, R, q⟩ => bin_tOp R (by simpa only [evE] using q)
end
end Mn
end

section
set_option Elab.async false
set_option linter.all false
set_option maxRecDepth 100000
set_option maxHeartbeats 2000000
/-! Mini: dicts against the layer's; comparisons. -/
namespace Mn
open PySem L2
theorem kD_inj : ∀ {a b : Key}, kD a = kD b → a = b
  | .inl i, .inl j, h => by injection h with h; rw [h]
  | .inl i, .inr j, h => by cases h
  | .inr i, .inl j, h => by cases h
  | .inr i, .inr j, h => by injection h with h; rw [h]
theorem kDs_inj : ∀ {a b : List Key}, a.map kD = b.map kD → a = b
  | [], [], _ => rfl
  | [], _ :: _, h => by simp at h
  | _ :: _, [], h => by simp at h
  | x :: xs, y :: ys, h => by
    simp only [List.map_cons, List.cons.injEq] at h
    rw [kD_inj h.1, kDs_inj h.2]
theorem kDT_inj {a b : List Key} (h : kDT a = kDT b) : a = b := by
  unfold kDT at h
  injection h with h
  exact kDs_inj h
theorem keyK_eq {d : D} {k : Key} (h : keyK d = some k) : d = kD k := by
  cases d <;> simp [keyK] at h <;> subst h <;> rfl
theorem keysK_eq : ∀ {ds : List D} {ks : List Key}, keysK ds = some ks → ds = ks.map kD
  | [], _, h => by simp [keysK] at h; subst h; rfl
  | x :: xs, ks, h => by
    simp only [keysK] at h
    cases e : keyK x with
    | none => rw [e] at h; cases h
    | some k =>
      rw [e] at h
      cases e2 : keysK xs with
      | none => rw [e2] at h; cases h
      | some r =>
        rw [e2] at h
        simp only [Option.map_some, Option.some.injEq] at h
        subst h
        rw [keyK_eq e, keysK_eq e2]
        rfl
theorem keyT_eq {d : D} {ks : List Key} (h : keyT d = some ks) : d = kDT ks := by
  cases d <;> simp [keyT] at h
  rw [keysK_eq h]
  rfl
section
variable {O : Own} {μ : List Addr} {H : Hp}
theorem vr_kD {k : Key} {v : V} (h : VR O μ H (kD k) v) : v = kV k := by cases k <;> exact h
theorem kV_vr {k : Key} : VR O μ H (kD k) (kV k) := by cases k <;> simp [kD, kV, VR]
theorem vrs_kD : ∀ {ks : List Key} {vs : List V}, VRs O μ H (ks.map kD) vs → vs = ks.map kV
  | [], _, h => by simpa [VRs] using h
  | k :: ks, _, h => by
    simp only [List.map_cons, VRs] at h
    obtain ⟨v, r, rfl, h2, h3⟩ := h
    rw [vr_kD h2, vrs_kD h3]
    rfl
theorem vr_kDT {ks : List Key} {v : V} (h : VR O μ H (kDT ks) v) : ∃ b, v = .ref b ∧ H b = some (.tup (ks.map kV)) := by
  obtain ⟨a, vs, h1, h2, h3⟩ := vr_tup h
  rw [vrs_kD h3] at h2
  exact ⟨a, h1, h2⟩
/-- what is found here and there -/
def Opt2 (O : Own) (μ : List Addr) (H : Hp) : Option D → Option V → Prop
  | some d, some v => VR O μ H d v
  | none, none => True
  | _, _ => False
theorem look_rel {κ : Type} [DecidableEq κ] {f : κ → D} (hf : ∀ {a b}, f a = f b → a = b) (k : κ) : ∀ {kvs : List (D × D)} {z : List (κ × V)}, VRk O μ H kvs (z.map fun q => (f q.1, q.2)) → Opt2 O μ H (look kvs (f k)) (valV z k)
  | [], z, h => by
    simp only [VRk, List.map_eq_nil_iff] at h
    subst h
    simp [look, valV_nil, Opt2]
  | (a, x) :: r, z, h => by
    simp only [VRk] at h
    obtain ⟨v, s, e, h2, h3⟩ := h
    cases z with
    | nil => cases e
    | cons q z =>
      simp only [List.map_cons, List.cons.injEq, Prod.mk.injEq] at e
      obtain ⟨⟨e1, e2⟩, e3⟩ := e
      subst e3
      subst e1
      by_cases hk : q.1 = k
      · rw [valV_pos hk]
        simp only [look, hk, if_true]
        rw [e2]
        exact h2
      · rw [valV_neg hk]
        simp only [look]
        rw [if_neg fun e => hk (hf e)]
        exact look_rel hf k h3
theorem opt2_some {a : Option D} {b : Option V} (h : Opt2 O μ H a b) : a.isSome = b.isSome := by
  cases a <;> cases b <;> first | rfl | exact h.elim
theorem VRk.append : ∀ {a b : List (D × D)} {l m : List (D × V)}, VRk O μ H a l → VRk O μ H b m → VRk O μ H (a ++ b) (l ++ m)
  | [], _, _, _, h, h' => by simp only [VRk] at h; rw [h]; exact h'
  | (k, x) :: xs, _, _, _, h, h' => by
    simp only [VRk] at h
    obtain ⟨v, r, e, h2, h3⟩ := h
    rw [e]
    simp only [List.cons_append, VRk]
    exact ⟨v, _, rfl, h2, VRk.append h3 h'⟩
theorem put_map {κ : Type} [DecidableEq κ] {f : κ → D} (hf : ∀ {a b}, f a = f b → a = b) (k : κ) {d : D} {v : V} (hv : VR O μ H d v) : ∀ {kvs : List (D × D)} {z : List (κ × V)}, VRk O μ H kvs (z.map fun q => (f q.1, q.2)) →
    VRk O μ H (kvs.map fun q => if q.1 = f k then (q.1, d) else q) ((z.map fun q => if q.1 = k then (q.1, v) else q).map fun q => (f q.1, q.2))
  | [], z, h => by
    simp only [VRk, List.map_eq_nil_iff] at h
    subst h
    simp [VRk]
  | (a, x) :: r, z, h => by
    simp only [VRk] at h
    obtain ⟨v', s, e, h2, h3⟩ := h
    cases z with
    | nil => cases e
    | cons q z =>
      simp only [List.map_cons, List.cons.injEq, Prod.mk.injEq] at e
      obtain ⟨⟨e1, e2⟩, e3⟩ := e
      subst e3
      subst e1
      have ih := put_map hf k hv h3
      simp only [List.map_cons]
      by_cases hk : q.1 = k
      · simp only [hk, if_true, VRk]
        exact ⟨v, _, rfl, hv, ih⟩
      · rw [if_neg (fun e => hk (hf e)), if_neg hk]
        simp only [VRk]
        exact ⟨q.2, _, rfl, by rw [e2]; exact h2, ih⟩
theorem put_rel {κ : Type} [DecidableEq κ] {f : κ → D} (hf : ∀ {a b}, f a = f b → a = b) (k : κ) {d : D} {v : V} (hv : VR O μ H d v) {kvs : List (D × D)} {z : List (κ × V)} (h : VRk O μ H kvs (z.map fun q => (f q.1, q.2))) :
    VRk O μ H (putD kvs (f k) d) ((putK z k v).map fun q => (f q.1, q.2)) := by
  have e := opt2_some (look_rel hf k h)
  unfold putD putK
  rw [valV_any, ← e]
  split
  · exact put_map hf k hv h
  · rw [List.map_append]
    refine h.append ?_
    simp only [List.map_cons, List.map_nil, VRk]
    exact ⟨v, [], rfl, hv, rfl⟩
theorem del_rel {κ : Type} [DecidableEq κ] {f : κ → D} (hf : ∀ {a b}, f a = f b → a = b) (k : κ) : ∀ {kvs : List (D × D)} {z : List (κ × V)}, VRk O μ H kvs (z.map fun q => (f q.1, q.2)) → VRk O μ H (delD kvs (f k)) ((dropK z k).map fun q => (f q.1, q.2))
  | [], z, h => by
    simp only [VRk, List.map_eq_nil_iff] at h
    subst h
    simp [delD, dropK, VRk]
  | (a, x) :: r, z, h => by
    simp only [VRk] at h
    obtain ⟨v', s, e, h2, h3⟩ := h
    cases z with
    | nil => cases e
    | cons q z =>
      simp only [List.map_cons, List.cons.injEq, Prod.mk.injEq] at e
      obtain ⟨⟨e1, e2⟩, e3⟩ := e
      subst e3
      subst e1
      have ih := del_rel hf k h3
      unfold delD dropK at ih ⊢
      by_cases hk : q.1 = k
      · simp only [List.filter_cons, hk, ne_eq, not_true, decide_false, Bool.false_eq_true, if_false]
        exact ih
      · have hk2 : ¬ f q.1 = f k := fun e => hk (hf e)
        simp only [List.filter_cons, ne_eq, hk, hk2, not_false_iff, decide_true, if_true, List.map_cons, VRk]
        exact ⟨q.2, _, rfl, by rw [e2]; exact h2, ih⟩
theorem VRk.length : ∀ {a : List (D × D)} {l : List (D × V)}, VRk O μ H a l → a.length = l.length
  | [], _, h => by simp only [VRk] at h; rw [h]; rfl
  | (k, x) :: xs, _, h => by
    simp only [VRk] at h
    obtain ⟨v, r, e, h2, h3⟩ := h
    rw [e, List.length_cons, List.length_cons, VRk.length h3]
end
section
variable {K : Frag} {T : List (Addr × Str)} {O : Own} {μ : List Addr} {H : Hp} {env : Env} {st : Store} {σ : L2.St}
/-- a dict that is to be read -/
theorem dct_at {d : D} {v : V} {t : Bool} {kvs : List (D × D)} (R : StR K T O μ env st σ H) (h : VR O μ H d v) (e1 : dkOf st d = some t) (e2 : dctOf st d = some kvs) :
    ∃ a l, v = .ref a ∧ DctAt t (fun u => Rd H a u) l ∧ VRk O μ H kvs l := by
  cases d with
  | dct t' k =>
    cases e1
    cases e2
    simp only [VR] at h
    obtain ⟨a, l, h1, h2, h3, h4⟩ := h
    exact ⟨a, l, h1, h3, h4⟩
  | loc j =>
    simp only [VR] at h
    obtain ⟨a, h1, h2⟩ := h
    simp only [dkOf] at e1
    simp only [dctOf] at e2
    cases q : st[j]? with
    | none => rw [q] at e1; cases e1
    | some o =>
      rw [q] at e1 e2
      cases o with
      | dct t' k' kv =>
        cases e1
        cases e2
        obtain ⟨b, k1, k2, l, k3, k4⟩ := R.obj j _ q
        rw [h2] at k1
        cases k1
        refine ⟨a, l, h1, ?_, k4⟩
        cases t <;> cases k'
        · obtain ⟨z, z1, z2⟩ := k3; exact ⟨z, .inl z1, z2⟩
        · obtain ⟨z, ⟨_, o, _, z1⟩, z2⟩ := k3; exact ⟨z, .inr ⟨o, z1⟩, z2⟩
        · obtain ⟨z, z1, z2⟩ := k3; exact ⟨z, .inl z1, z2⟩
        · obtain ⟨z, ⟨_, o, _, z1⟩, z2⟩ := k3; exact ⟨z, .inr ⟨o, z1⟩, z2⟩
      | lst _ _ => cases e1
      | ins _ _ => cases e1
  | _ => cases e1
theorem dget_at {d k : D} {v y : V} {o : Option D} (R : StR K T O μ env st σ H) (h : VR O μ H d v) (hk : VR O μ H k y) (e : dgetD st d k = some o) :
    ∃ a r, v = .ref a ∧ DGet H a y r ∧ Opt2 O μ H o r := by
  unfold dgetD at e
  cases e1 : dkOf st d with
  | none => rw [e1] at e; cases e
  | some t =>
    cases e2 : dctOf st d with
    | none => rw [e1, e2] at e; cases e
    | some kvs =>
      rw [e1, e2] at e
      obtain ⟨a, l, rfl, h2, h3⟩ := dct_at R h e1 e2
      simp only at e
      split at e
      · rename_i hik
        cases e
        cases t
        · obtain ⟨z, z1, rfl⟩ := h2
          simp only [isKey, Bool.false_eq_true, if_false] at hik
          obtain ⟨κ, ek⟩ := Option.isSome_iff_exists.mp hik
          have ek := keyK_eq ek
          subst ek
          rw [vr_kD hk]
          exact ⟨a, _, rfl, .inl ⟨z, κ, z1, rfl, rfl⟩, look_rel kD_inj κ h3⟩
        · obtain ⟨z, z1, rfl⟩ := h2
          simp only [isKey, if_true] at hik
          obtain ⟨κ, ek⟩ := Option.isSome_iff_exists.mp hik
          have ek := keyT_eq ek
          subst ek
          obtain ⟨b, rfl, hb⟩ := vr_kDT hk
          exact ⟨a, _, rfl, .inr ⟨z, κ, b, z1, rfl, hb, rfl⟩, look_rel kDT_inj κ h3⟩
      · cases e
mutual
theorem dp_of : ∀ (d : D) {v : V} {p : PyData}, VR O μ H d v → pd d = some p → Dp K H v p
  | .non, _, _, h, e => by cases e; cases h; exact .non
  | .bl b, _, _, h, e => by cases e; cases h; exact .bl b
  | .int b, _, _, h, e => by cases e; cases h; exact .int b
  | .str b, _, _, h, e => by cases e; cases h; exact .str b
  | .tup xs, _, _, h, e => by
    obtain ⟨a, vs, rfl, h2, h3⟩ := vr_tup h
    simp only [pd] at e
    cases q : pds xs with
    | none => rw [q] at e; cases e
    | some ps =>
      rw [q] at e
      cases e
      exact .tup (SqT.of h2) (dps_of xs h3 q)
  | .lst xs, _, _, h, e => by
    obtain ⟨a, vs, rfl, h1, h2, h3⟩ := vr_lst h
    simp only [pd] at e
    cases q : pds xs with
    | none => rw [q] at e; cases e
    | some ps =>
      rw [q] at e
      cases e
      exact .lst (SqL.of h2) (dps_of xs h3 q)
  | .dct _ _, _, _, _, e => by simp [pd] at e
  | .loc _, _, _, _, e => by simp [pd] at e
theorem dps_of : ∀ (ds : List D) {vs : List V} {ps : List PyData}, VRs O μ H ds vs → pds ds = some ps → DpAll K H vs ps
  | [], _, _, h, e => by
    simp only [VRs] at h
    cases e
    rw [h]
    exact .nil
  | x :: xs, _, _, h, e => by
    simp only [VRs] at h
    obtain ⟨v, r, rfl, h2, h3⟩ := h
    simp only [pds] at e
    cases q : pd x with
    | none => rw [q] at e; cases e
    | some y =>
      rw [q] at e
      cases q2 : pds xs with
      | none => rw [q2] at e; cases e
      | some ys =>
        rw [q2] at e
        cases e
        exact .cons (dp_of x h2 q) (dps_of xs h3 q2)
end
theorem dpS_of {d : D} {v : V} {p : PyData} (R : StR K T O μ env st σ H) (h : VR O μ H d v) (e : pdS st d = some p) : Dp K H v p := by
  cases d with
  | loc j =>
    simp only [pdS] at e
    cases q : st[j]? with
    | none => rw [q] at e; cases e
    | some o =>
      rw [q] at e
      cases o with
      | lst k xs =>
        simp only at e
        cases q2 : pds xs with
        | none => rw [q2] at e; cases e
        | some ys =>
          rw [q2] at e
          cases e
          have es : seqOf st (.loc j) = some xs := by simp only [seqOf, q]
          obtain ⟨a, vs, rfl, k1, k2⟩ := seq_at R h es
          rcases k2 with ⟨_, z, _⟩ | ⟨_, z, _⟩
          · cases z
          · exact .lst (.inl z) (dps_of xs k1 q2)
      | _ => cases e
  | _ => exact dp_of _ h e
theorem ints_of : ∀ {ds : List D} {vs : List V} {is : List Int}, VRs O μ H ds vs → intsOf ds = some is → vs = is.map V.int
  | [], _, _, h, e => by
    simp only [VRs] at h
    cases e
    rw [h]
    rfl
  | .int i :: xs, _, _, h, e => by
    simp only [VRs] at h
    obtain ⟨v, r, rfl, h2, h3⟩ := h
    simp only [intsOf] at e
    cases q : intsOf xs with
    | none => rw [q] at e; cases e
    | some is =>
      rw [q] at e
      cases e
      cases h2
      rw [ints_of h3 q]
      rfl
  | .non :: _, _, _, _, e => by simp [intsOf] at e
  | .bl _ :: _, _, _, _, e => by simp [intsOf] at e
  | .str _ :: _, _, _, _, e => by simp [intsOf] at e
  | .tup _ :: _, _, _, _, e => by simp [intsOf] at e
  | .lst _ :: _, _, _, _, e => by simp [intsOf] at e
  | .dct _ _ :: _, _, _, _, e => by simp [intsOf] at e
  | .loc _ :: _, _, _, _, e => by simp [intsOf] at e
end
/-! ### comparisons -/
section
variable {g : Pg} {n : Nat} {X : Cx} {W : WX} {N : List Str} {sc : Scope} {a b c : Expr} {ma mb mc : E} {pos : Pos}
def SCmp (g : Pg) (X : Cx) (o : Cop) : R2 := SOp g X fun x y st => (cmpD st o x y).map fun b => .d (.bl b)
theorem scmp_of {o : Cop} {x y : V} {H : Hp} {Q : VK} (h : SCmp g X o x y H Q) : ∃ O μ env st σ0 dx dy r, StR X.K g.T O μ env st σ0 H ∧ VR O μ H dx x ∧ VR O μ H dy y ∧ cmpD st o dx dy = some r ∧ Q (.bl r) H := by
  obtain ⟨O, μ, env, st, σ0, dx, dy, rv, R, h1, h2, e, q⟩ := h
  simp only at e
  cases e2 : cmpD st o dx dy with
  | none => rw [e2] at e; cases e
  | some r =>
    rw [e2] at e
    cases e
    exact ⟨O, μ, env, st, σ0, dx, dy, r, R, h1, h2, e2, q _ _ (got_d R rfl)⟩
theorem map_not {o : Option Bool} {r : Bool} (h : o.map not = some r) : ∃ b, o = some b ∧ r = !b := by
  cases o with
  | none => cases h
  | some b =>
    simp only [Option.map_some, Option.some.injEq] at h
    exact ⟨b, rfl, h.symm⟩
theorem eqD_of {st : Store} {x y : D} {r : Bool} (h : eqD st x y = some r) : ∃ p q, pdS st x = some p ∧ pdS st y = some q ∧ SeqAt.shaped p = true ∧ SeqAt.shaped q = true ∧ r = PyData.eqv p q := by
  unfold eqD at h
  cases e1 : pdS st x with
  | none => rw [e1] at h; cases h
  | some p =>
    cases e2 : pdS st y with
    | none => rw [e1, e2] at h; cases h
    | some q =>
      rw [e1, e2] at h
      simp only at h
      split at h
      · rename_i hs
        cases h
        exact ⟨p, q, rfl, rfl, hs.1, hs.2, rfl⟩
      · cases h
theorem opC_eq (hu : X.A.units + 64 < cLine) : OpR X (compareOp .Eq) (SCmp g X .eq) := by
  intro pins s σ H x y v u Q I rx ry h
  obtain ⟨O, μ, env, st, σ0, dx, dy, r, R, h1, h2, e, q⟩ := scmp_of h
  obtain ⟨p1, p2, e1, e2, s1, s2, rfl⟩ := eqD_of e
  exact op_eqD hu pins s σ H x y v u Q I rx ry ⟨p1, p2, dpS_of R h1 e1, dpS_of R h2 e2, s1, s2, q⟩
theorem opC_ne (hu : X.A.units + 64 < cLine) : OpR X (compareOp .NotEq) (SCmp g X .ne) := by
  intro pins s σ H x y v u Q I rx ry h
  obtain ⟨O, μ, env, st, σ0, dx, dy, r, R, h1, h2, e, q⟩ := scmp_of h
  obtain ⟨b, e', rfl⟩ := map_not (show (eqD st dx dy).map not = some r from e)
  obtain ⟨p1, p2, e1, e2, s1, s2, rfl⟩ := eqD_of e'
  exact op_neD hu pins s σ H x y v u Q I rx ry ⟨p1, p2, dpS_of R h1 e1, dpS_of R h2 e2, s1, s2, q⟩
theorem tups_of {O : Own} {μ : List Addr} {H : Hp} {xs : List D} {is : List Int} {x : V} (h : VR O μ H (.tup xs) x) (e : intsOf xs = some is) : ∃ a, x = .ref a ∧ H a = some (.tup (is.map V.int)) := by
  obtain ⟨a, vs, h1, h2, h3⟩ := vr_tup h
  rw [ints_of h3 e] at h2
  exact ⟨a, h1, h2⟩
theorem opC_lt (hu : X.A.units < cLine) : OpR X (compareOp .Lt) (SCmp g X .lt) := by
  intro pins s σ H x y v u Q I rx ry h
  obtain ⟨O, μ, env, st, σ0, dx, dy, r, R, h1, h2, e, q⟩ := scmp_of h
  simp only [cmpD] at e
  unfold ltD at e
  split at e
  · cases e
    exact op_lt pins s σ H x y v u Q I rx ry ⟨_, _, h1, h2, q⟩
  · split at e
    · rename_i i1 i2 e1 e2
      cases e
      obtain ⟨p1, rfl, k1⟩ := tups_of h1 e1
      obtain ⟨p2, rfl, k2⟩ := tups_of h2 e2
      exact op_ltT hu pins s σ H _ _ v u Q I rx ry ⟨p1, p2, i1, i2, rfl, rfl, SqT.of k1, SqT.of k2, q⟩
    · cases e
  · cases e
theorem opC_le (hu : X.A.units < cLine) : OpR X (compareOp .LtE) (SCmp g X .le) := by
  intro pins s σ H x y v u Q I rx ry h
  obtain ⟨O, μ, env, st, σ0, dx, dy, r, R, h1, h2, e, q⟩ := scmp_of h
  simp only [cmpD] at e
  unfold leD at e
  split at e
  · cases e
    exact op_le pins s σ H x y v u Q I rx ry ⟨_, _, h1, h2, q⟩
  · split at e
    · rename_i i1 i2 e1 e2
      cases e
      obtain ⟨p1, rfl, k1⟩ := tups_of h1 e1
      obtain ⟨p2, rfl, k2⟩ := tups_of h2 e2
      exact op_leT hu pins s σ H _ _ v u Q I rx ry ⟨p1, p2, i1, i2, rfl, rfl, SqT.of k1, SqT.of k2, q⟩
    · cases e
  · cases e
theorem opC_gt : OpR X (compareOp .Gt) (SCmp g X .gt) := by
  intro pins s σ H x y v u Q I rx ry h
  obtain ⟨O, μ, env, st, σ0, dx, dy, r, R, h1, h2, e, q⟩ := scmp_of h
  simp only [cmpD] at e
  unfold gtD at e
  split at e
  · cases e
    exact op_gt pins s σ H x y v u Q I rx ry ⟨_, _, h1, h2, q⟩
  · cases e
theorem opC_ge : OpR X (compareOp .GtE) (SCmp g X .ge) := by
  intro pins s σ H x y v u Q I rx ry h
  obtain ⟨O, μ, env, st, σ0, dx, dy, r, R, h1, h2, e, q⟩ := scmp_of h
  simp only [cmpD] at e
  unfold geD at e
  split at e
  · cases e
    exact op_ge pins s σ H x y v u Q I rx ry ⟨_, _, h1, h2, q⟩
  · cases e
theorem vr_non {O : Own} {μ : List Addr} {H : Hp} {d : D} {x : V} (h : VR O μ H d x) : decide (d = D.non) = decide (x = V.non) := by
  cases d with
  | non => cases h; rfl
  | bl _ => cases h; rfl
  | int _ => cases h; rfl
  | str _ => cases h; rfl
  | tup _ => obtain ⟨_, _, rfl, _⟩ := vr_tup h; rfl
  | lst _ => obtain ⟨_, _, rfl, _⟩ := vr_lst h; rfl
  | dct _ _ => simp only [VR] at h; obtain ⟨_, _, rfl, _⟩ := h; rfl
  | loc _ => simp only [VR] at h; obtain ⟨_, rfl, _⟩ := h; rfl
theorem opC_isN : OpR X (compareOp .Is) (SCmp g X .isN) := by
  intro pins s σ H x y v u Q I rx ry h
  obtain ⟨O, μ, env, st, σ0, dx, dy, r, R, h1, h2, e, q⟩ := scmp_of h
  simp only [cmpD] at e
  split at e
  · rename_i hn
    subst hn
    cases e
    rw [vr_non h1] at q
    exact op_isN pins s σ H x y v u Q I rx ry ⟨h2, q⟩
  · cases e
theorem opC_ntN : OpR X (compareOp .IsNot) (SCmp g X .ntN) := by
  intro pins s σ H x y v u Q I rx ry h
  obtain ⟨O, μ, env, st, σ0, dx, dy, r, R, h1, h2, e, q⟩ := scmp_of h
  simp only [cmpD] at e
  split at e
  · rename_i hn
    subst hn
    cases e
    rw [vr_non h1] at q
    exact op_notN pins s σ H x y v u Q I rx ry ⟨h2, q⟩
  · cases e
theorem canLayAll_of {qs : List PyData} (h : SeqAt.shaped (.list qs) = true) : PyData.canLayAll0 qs = true := SeqAt.canLay_of_shaped h
theorem in_run {neg : Bool} (hu : X.A.units + 65 < cLine) {pins : List (Addr × Obj)} {s : Shared} {σ : L2.St} {H : Hp} {x y : V} {v u : Value} {Q : VK} (I : Inv X pins σ H s) (rx : RelV x v) (ry : RelV y u)
    {O : Own} {μ : List Addr} {env : Env} {st : Store} {σ0 : L2.St} {dx dy : D} {r : Bool} (R : StR X.K g.T O μ env st σ0 H) (h1 : VR O μ H dx x) (h2 : VR O μ H dy y) (e : inD st dx dy = some r) (q : Q (.bl (if neg then !r else r)) H) :
    wpAny (model X.prog X.w) X.A (compareOp (if neg then .NotIn else .In) v u) (EP X pins σ Q) X.xe s := by
  unfold inD at e
  split at e
  · cases e
    cases h1
    cases h2
    cases neg
    · exact op_in_str pins s σ H _ _ v u Q I rx ry ⟨_, _, rfl, rfl, q⟩
    · exact op_notin_str pins s σ H _ _ v u Q I rx ry ⟨_, _, rfl, rfl, q⟩
  · split at e
    · rename_i ys es
      split at e
      · rename_i p qs e1 e2
        split at e
        · rename_i hs
          cases e
          obtain ⟨s1, s2⟩ := hs
          obtain ⟨as, r1⟩ := Dp.reads I p x v (dpS_of R h1 e1) rx
          obtain ⟨p', vs, rfl, k1, k2⟩ := seq_at R h2 es
          have hd := dps_of (K := X.K) ys k1 e2
          rcases k2 with ⟨_, _, kt⟩ | ⟨_, kl, _⟩
          · obtain ⟨bs, r2⟩ := Dp.reads I (.tuple qs) _ u (.tup (SqT.of kt) hd) ry
            have hroom : X.A.units + 1 + min (PyData.depthAll qs) p.depth < cLine := by
              have := SeqAt.depth_of_shaped s1
              have := Nat.min_le_right (PyData.depthAll qs) p.depth
              omega
            cases neg
            · exact SeqAt.in_tuple_reads r2 r1 (canLayAll_of s2) (SeqAt.canLay_of_shaped s1) hroom ⟨.bl _, H, I, rfl, q⟩
            · exact SeqAt.notIn_tuple_reads r2 r1 (canLayAll_of s2) (SeqAt.canLay_of_shaped s1) hroom ⟨.bl _, H, I, rfl, q⟩
          · obtain ⟨bs, r2⟩ := Dp.reads I (.list qs) _ u (.lst (.inl kl) hd) ry
            have hroom : X.A.units + 1 + min (PyData.depthAll qs) p.depth < cLine := by
              have := SeqAt.depth_of_shaped s1
              have := Nat.min_le_right (PyData.depthAll qs) p.depth
              omega
            cases neg
            · exact SeqAt.in_list_reads r2 r1 (canLayAll_of s2) (SeqAt.canLay_of_shaped s1) hroom ⟨.bl _, H, I, rfl, q⟩
            · exact SeqAt.notIn_list_reads r2 r1 (canLayAll_of s2) (SeqAt.canLay_of_shaped s1) hroom ⟨.bl _, H, I, rfl, q⟩
        · cases e
      · cases e
    · rename_i es
      cases eo : dgetD st dy dx with
      | none => rw [eo] at e; cases e
      | some o =>
        rw [eo] at e
        cases e
        obtain ⟨a, o', rfl, hg, ho⟩ := dget_at R h2 h1 eo
        cases ry
        dsimp only at q
        rw [opt2_some ho] at q
        cases neg
        · exact d_in (by omega) I hg rx fun s' I' => ⟨.bl _, H, I', rfl, q⟩
        · exact d_notIn (by omega) I hg rx fun s' I' => ⟨.bl _, H, I', rfl, q⟩
theorem opC_in (hu : X.A.units + 65 < cLine) : OpR X (compareOp .In) (SCmp g X .inn) := by
  intro pins s σ H x y v u Q I rx ry h
  obtain ⟨O, μ, env, st, σ0, dx, dy, r, R, h1, h2, e, q⟩ := scmp_of h
  exact in_run (neg := false) hu I rx ry R h1 h2 e q
theorem opC_nin (hu : X.A.units + 65 < cLine) : OpR X (compareOp .NotIn) (SCmp g X .nin) := by
  intro pins s σ H x y v u Q I rx ry h
  obtain ⟨O, μ, env, st, σ0, dx, dy, r, R, h1, h2, e, q⟩ := scmp_of h
  obtain ⟨b, e', rfl⟩ := map_not (show (inD st dx dy).map not = some r from e)
  exact in_run (neg := true) hu I rx ry R h1 h2 e' q
def copOf : CmpOp → Option Cop
  | .Eq => some .eq
  | .NotEq => some .ne
  | .Lt => some .lt
  | .LtE => some .le
  | .Gt => some .gt
  | .GtE => some .ge
  | .In => some .inn
  | .NotIn => some .nin
  | .Is => some .isN
  | .IsNot => some .ntN
theorem opC {o : CmpOp} {co : Cop} (ok : XOk g n N sc X) (h : copOf o = some co) : OpR X (compareOp o) (SCmp g X co) := by
  have hu := ok.room.un
  cases o <;> simp only [copOf, Option.some.injEq, reduceCtorEq] at h <;> subst h
  · exact opC_eq (by omega)
  · exact opC_ne (by omega)
  · exact opC_lt (by omega)
  · exact opC_le (by omega)
  · exact opC_gt
  · exact opC_ge
  · exact opC_isN
  · exact opC_ntN
  · exact opC_in (by omega)
  · exact opC_nin (by omega)
theorem se_cmp {o : CmpOp} {co : Cop} (ok : XOk g n N sc X) (h : copOf o = some co) (hm : behindInMarks o b = false) (ha : PE X a (TE_ g n X W ma)) (hb : PE X b (TE_ g n X W mb)) : PE X (.Compare a [o] [b] pos) (TE_ g n X W (.cmp co ma mb)) :=
  PE.weak (pe_cmpR (opC ok h) (pf ha) (pf hb) hm) fun σ H Q ⟨O, μ, env, st, R, q⟩ => bin_tOp R (by simpa only [evE] using q)
end
end Mn
end

section
set_option Elab.async false
set_option linter.all false
set_option maxRecDepth 100000
set_option maxHeartbeats 2000000
/-! Mini: chains, tests, conditional expressions, argument lists, displays. -/
namespace Mn
open PySem L2
section
variable {g : Pg} {n : Nat} {X : Cx} {W : WX} {N : List Str} {sc : Scope} {a b c : Expr} {ma mb mc : E} {ta tb : Mn.T} {pos : Pos}
theorem se_chn {o o' : CmpOp} {co co' : Cop} (ok : XOk g n N sc X) (h : copOf o = some co) (h' : copOf o' = some co') (hm : lastMarks [o, o'] [b, c] = false) (ha : PE X a (TE_ g n X W ma)) (hb : PE X b (TE_ g n X W mb)) (hc : PE X c (TE_ g n X W mc)) :
    PE X (.Compare a [o, o'] [b, c] pos) (TE_ g n X W (.chn co co' ma mb mc)) := by
  refine PE.weak (pe_chain (opC ok h) (opC ok h') (pf ha) (pf hb) (pf hc) hm) fun σ H Q ⟨O, μ, env, st, R, q⟩ => ?_
  simp only [evE] at q
  refine ⟨O, μ, env, st, R, (post_bind VR q).mono ?_⟩
  rintro x H1 ⟨O1, μ1, st1, dx, R1, E1, r1, q1⟩
  refine ⟨O1, μ1, env, st1, R1, (post_bind VR q1).mono ?_⟩
  rintro y H2 ⟨O2, μ2, st2, dy, R2, E2, r2, q2⟩
  dsimp only at q2
  cases e : cmpD st2 co dx dy with
  | none => rw [e] at q2; exact q2.elim
  | some k =>
    rw [e] at q2
    refine ⟨O2, μ2, env, st2, σ, dx, dy, .d (.bl k), R2, VR.mono E2 dx r1, r2, by simp only [e, Option.map_some], fun v H' hg => ?_⟩
    obtain ⟨O3, μ3, R3, E3, r3⟩ := hg
    refine ⟨k, r3, ?_⟩
    cases k with
    | false =>
      rw [if_neg Bool.false_ne_true]
      exact (Post.fwd E3 q2) _ _ (got_d R3 rfl)
    | true =>
      rw [if_pos rfl]
      refine ⟨O3, μ3, env, st2, R3, (post_bind VR (Post.fwd E3 q2)).mono ?_⟩
      rintro z H4 ⟨O4, μ4, st4, dz, R4, E4, r4, q4⟩
      obtain ⟨rv, e5, q5⟩ := post_opt q4
      exact ⟨O4, μ4, env, st4, σ, dy, dz, rv, R4, VR.mono E4 dy (VR.mono E3 dy r2), r4, e5, q5⟩
/-- a bool that comes -/
theorem post_bool {K : Frag} {T : List (Addr × Str)} {O : Own} {μ : List Addr} {H : Hp} {env : Env} {σ : L2.St} {r : Res D} {α β : Type} {rel : Own → List Addr → Hp → α → β → Prop} {k : Bool → Store → Res α} {Q : β → Hp → Prop}
    (q : Post rel K T O μ H env σ W (r.bool.bind k) Q) : Post VR K T O μ H env σ W r (fun v H1 => ∃ O1 μ1 st1 x, StR K T O1 μ1 env st1 σ H1 ∧ Ext O μ H O1 μ1 H1 ∧ v = .bl x ∧ Post rel K T O1 μ1 H1 env σ W (k x st1) Q) := by
  cases r with
  | ok a st' =>
    intro v H' ⟨O', μ', h1, h2, h3⟩
    cases a <;> first | exact q.elim | skip
    exact ⟨O', μ', st', _, h1, h2, h3, Post.fwd h2 q⟩
  | exc x st' => exact q
  | bad => exact q
theorem se_and (ha : PE X a (TE_ g n X W ma)) {rest : List Expr} (hb : PE X (.BoolOp .And (b :: rest) pos) (TE_ g n X W mb)) : PE X (.BoolOp .And (a :: b :: rest) pos) (TE_ g n X W (.andv ma mb)) := by
  refine PE.weak (pe_and (pf ha) (pf hb)) fun σ H Q ⟨O, μ, env, st, R, q⟩ => ?_
  simp only [evE] at q
  refine ⟨O, μ, env, st, R, (post_bool q).mono ?_⟩
  rintro v H1 ⟨O1, μ1, st1, x, R1, E1, rfl, q1⟩
  refine ⟨x, rfl, ?_⟩
  cases x with
  | true =>
    rw [if_pos rfl] at q1 ⊢
    refine ⟨O1, μ1, env, st1, R1, (post_bool q1).mono ?_⟩
    rintro v H2 ⟨O2, μ2, st2, y, R2, E2, rfl, q2⟩
    exact q2 _ _ (got_d R2 rfl)
  | false =>
    rw [if_neg Bool.false_ne_true] at q1 ⊢
    exact q1 _ _ (got_d R1 rfl)
theorem se_or (ha : PE X a (TE_ g n X W ma)) {rest : List Expr} (hb : PE X (.BoolOp .Or (b :: rest) pos) (TE_ g n X W mb)) : PE X (.BoolOp .Or (a :: b :: rest) pos) (TE_ g n X W (.orv ma mb)) := by
  refine PE.weak (pe_or (pf ha) (pf hb)) fun σ H Q ⟨O, μ, env, st, R, q⟩ => ?_
  simp only [evE] at q
  refine ⟨O, μ, env, st, R, (post_bool q).mono ?_⟩
  rintro v H1 ⟨O1, μ1, st1, x, R1, E1, rfl, q1⟩
  refine ⟨x, rfl, ?_⟩
  cases x with
  | true =>
    rw [if_pos rfl] at q1 ⊢
    exact q1 _ _ (got_d R1 rfl)
  | false =>
    rw [if_neg Bool.false_ne_true] at q1 ⊢
    refine ⟨O1, μ1, env, st1, R1, (post_bool q1).mono ?_⟩
    rintro v H2 ⟨O2, μ2, st2, y, R2, E2, rfl, q2⟩
    exact q2 _ _ (got_d R2 rfl)
theorem se_one {op : BoolOp} (ha : PE X a (TE_ g n X W ma)) : PE X (.BoolOp op [a] pos) (TE_ g n X W ma) := pe_one ha
theorem se_not (ha : PE X a (TE_ g n X W ma)) : PE X (.UnaryOp .Not a pos) (TE_ g n X W (.notv ma)) := by
  refine PE.weak (pe_not (pf ha)) fun σ H Q ⟨O, μ, env, st, R, q⟩ => ?_
  simp only [evE] at q
  refine ⟨O, μ, env, st, R, (post_bool q).mono ?_⟩
  rintro v H1 ⟨O1, μ1, st1, x, R1, E1, rfl, q1⟩
  exact ⟨x, rfl, q1 _ _ (got_d R1 rfl)⟩
theorem se_neg (ha : PE X a (TE_ g n X W ma)) : PE X (.UnaryOp .USub a pos) (TE_ g n X W (.neg ma)) := by
  refine PE.weak (pe_un un_neg (pf ha)) fun σ H Q ⟨O, μ, env, st, R, q⟩ => ?_
  simp only [evE] at q
  refine ⟨O, μ, env, st, R, (post_bind VR q).mono ?_⟩
  rintro v H1 ⟨O1, μ1, st1, x, R1, E1, r1, q1⟩
  cases x <;> first | exact q1.elim | skip
  exact ⟨_, r1, q1 _ _ (got_d R1 rfl)⟩

/-! ### tests -/
theorem st_val (h : PT X a (tB (TF_ g n X W ma))) : PT X a (TT_ g n X W (.val ma)) := by
  refine PT.weak h fun σ H Q ⟨O, μ, env, st, R, q⟩ => ?_
  simp only [evT] at q
  refine ⟨O, μ, env, st, R, ?_⟩
  have q' : Post rB X.K g.T O μ H env σ W ((evE g.p (g.C n) ma env st).froz.bool.bind fun b st => .ok b st) Q := by
    cases e : (evE g.p (g.C n) ma env st).froz.bool <;> rw [e] at q <;> exact q
  refine (post_bool q').mono ?_
  rintro v H1 ⟨O1, μ1, st1, x, R1, E1, rfl, q1⟩
  exact ⟨x, rfl, q1 _ _ ⟨O1, μ1, R1, Ext.refl, rfl⟩⟩
theorem st_cmp {o : CmpOp} {co : Cop} (ok : XOk g n N sc X) (h : copOf o = some co) (hm : behindInMarks o b = false) (ha : PE X a (TE_ g n X W ma)) (hb : PE X b (TE_ g n X W mb)) : PT X (.Compare a [o] [b] pos) (TT_ g n X W (.val (.cmp co ma mb))) := by
  refine PT.weak (pt_cmpR (opC ok h) (pf ha) (pf hb) hm) fun σ H Q ⟨O, μ, env, st, R, q⟩ => ?_
  simp only [evT] at q
  have q' : Post rB X.K g.T O μ H env σ W ((evE g.p (g.C n) (.cmp co ma mb) env st).froz.bool.bind fun b st => .ok b st) Q := by
    cases e : (evE g.p (g.C n) (.cmp co ma mb) env st).froz.bool <;> rw [e] at q <;> exact q
  have q2 := post_froz (post_bool q')
  simp only [evE] at q2
  refine bin_tOp R (q2.mono ?_)
  rintro v H1 ⟨O1, μ1, st1, x, R1, E1, rfl, q1⟩
  exact ⟨x, rfl, q1 _ _ ⟨O1, μ1, R1, Ext.refl, rfl⟩⟩
theorem tChain_of {co co' : Cop} {O : Own} {μ : List Addr} {H : Hp} {env : Env} {st : Store} {σ : L2.St} {Q : VK} (R : StR X.K g.T O μ env st σ H)
    (q : Post RVR X.K g.T O μ H env σ W (evE g.p (g.C n) (.chn co co' ma mb mc) env st) Q) : tChain (SCmp g X co) (SCmp g X co') (TF_ g n X W ma) (TF_ g n X W mb) (TF_ g n X W mc) σ H Q := by
  simp only [evE] at q
  refine ⟨O, μ, env, st, R, (post_bind VR q).mono ?_⟩
  rintro x H1 ⟨O1, μ1, st1, dx, R1, E1, r1, q1⟩
  refine ⟨O1, μ1, env, st1, R1, (post_bind VR q1).mono ?_⟩
  rintro y H2 ⟨O2, μ2, st2, dy, R2, E2, r2, q2⟩
  dsimp only at q2
  cases e : cmpD st2 co dx dy with
  | none => rw [e] at q2; exact q2.elim
  | some k =>
    rw [e] at q2
    refine ⟨O2, μ2, env, st2, σ, dx, dy, .d (.bl k), R2, VR.mono E2 dx r1, r2, by simp only [e, Option.map_some], fun v H' hg => ?_⟩
    obtain ⟨O3, μ3, R3, E3, r3⟩ := hg
    refine ⟨k, r3, ?_⟩
    cases k with
    | false =>
      rw [if_neg Bool.false_ne_true]
      exact (Post.fwd E3 q2) _ _ (got_d R3 rfl)
    | true =>
      rw [if_pos rfl]
      refine ⟨O3, μ3, env, st2, R3, (post_bind VR (Post.fwd E3 q2)).mono ?_⟩
      rintro z H4 ⟨O4, μ4, st4, dz, R4, E4, r4, q4⟩
      obtain ⟨rv, e5, q5⟩ := post_opt q4
      exact ⟨O4, μ4, env, st4, σ, dy, dz, rv, R4, VR.mono E4 dy (VR.mono E3 dy r2), r4, e5, q5⟩
theorem st_chn {o o' : CmpOp} {co co' : Cop} (ok : XOk g n N sc X) (h : copOf o = some co) (h' : copOf o' = some co') (hm : lastMarks [o, o'] [b, c] = false) (ha : PE X a (TE_ g n X W ma)) (hb : PE X b (TE_ g n X W mb)) (hc : PE X c (TE_ g n X W mc)) :
    PT X (.Compare a [o, o'] [b, c] pos) (TT_ g n X W (.val (.chn co co' ma mb mc))) := by
  refine PT.weak (pt_chain (opC ok h) (opC ok h') (pf ha) (pf hb) (pf hc) hm) fun σ H Q ⟨O, μ, env, st, R, q⟩ => ?_
  simp only [evT] at q
  have q' : Post rB X.K g.T O μ H env σ W ((evE g.p (g.C n) (.chn co co' ma mb mc) env st).froz.bool.bind fun b st => .ok b st) Q := by
    cases e : (evE g.p (g.C n) (.chn co co' ma mb mc) env st).froz.bool <;> rw [e] at q <;> exact q
  refine tChain_of R ((post_froz (post_bool q')).mono ?_)
  rintro v H1 ⟨O1, μ1, st1, x, R1, E1, rfl, q1⟩
  exact ⟨x, rfl, q1 _ _ ⟨O1, μ1, R1, Ext.refl, rfl⟩⟩
/-- a test's answer, then the rest -/
theorem post_T {K : Frag} {T : List (Addr × Str)} {O : Own} {μ : List Addr} {H : Hp} {env : Env} {σ : L2.St} {r : Res Bool} {α β : Type} {rel : Own → List Addr → Hp → α → β → Prop} {k : Bool → Store → Res α} {Q : β → Hp → Prop}
    (q : Post rel K T O μ H env σ W (r.bind k) Q) : Post rB K T O μ H env σ W r (fun x H1 => ∃ O1 μ1 st1, StR K T O1 μ1 env st1 σ H1 ∧ Ext O μ H O1 μ1 H1 ∧ Post rel K T O1 μ1 H1 env σ W (k x st1) Q) := by
  refine (post_bind rB q).mono ?_
  rintro v H1 ⟨O1, μ1, st1, x, R1, E1, rfl, q1⟩
  exact ⟨O1, μ1, st1, R1, E1, q1⟩
theorem sw_and1 (ha : PT X a (TT_ g n X W ta)) : PW X (.BoolOp .And [a] pos) (TT_ g n X W ta) := pw_and1 ha
theorem sw_or1 (ha : PT X a (TT_ g n X W ta)) : PW X (.BoolOp .Or [a] pos) (TT_ g n X W ta) := pw_or1 ha
theorem PW.weak {X : Cx} {e : Expr} {t t' : TT} (h : PW X e t) (k : ∀ σ H Q, t' σ H Q → t σ H Q) : PW X e t' := ⟨fun wh pins s σ H Q I q => h.run wh pins s σ H Q I (k σ H Q q)⟩
theorem sw_and {rest : List Expr} (ha : PT X a (TT_ g n X W ta)) (hb : PW X (.BoolOp .And (b :: rest) pos) (TT_ g n X W tb)) : PW X (.BoolOp .And (a :: b :: rest) pos) (TT_ g n X W (.and ta tb)) := by
  refine PW.weak (pw_and ha hb) fun σ H Q ⟨O, μ, env, st, R, q⟩ => ?_
  simp only [evT] at q
  refine ⟨O, μ, env, st, R, (post_T q).mono ?_⟩
  rintro x H1 ⟨O1, μ1, st1, R1, E1, q1⟩
  cases x with
  | true => rw [if_pos rfl] at q1 ⊢; exact ⟨O1, μ1, env, st1, R1, q1⟩
  | false => rw [if_neg Bool.false_ne_true] at q1 ⊢; exact q1 _ _ ⟨O1, μ1, R1, Ext.refl, rfl⟩
theorem sw_or {rest : List Expr} (ha : PT X a (TT_ g n X W ta)) (hb : PW X (.BoolOp .Or (b :: rest) pos) (TT_ g n X W tb)) : PW X (.BoolOp .Or (a :: b :: rest) pos) (TT_ g n X W (.or ta tb)) := by
  refine PW.weak (pw_or ha hb) fun σ H Q ⟨O, μ, env, st, R, q⟩ => ?_
  simp only [evT] at q
  refine ⟨O, μ, env, st, R, (post_T q).mono ?_⟩
  rintro x H1 ⟨O1, μ1, st1, R1, E1, q1⟩
  cases x with
  | true => rw [if_pos rfl] at q1 ⊢; exact q1 _ _ ⟨O1, μ1, R1, Ext.refl, rfl⟩
  | false => rw [if_neg Bool.false_ne_true] at q1 ⊢; exact ⟨O1, μ1, env, st1, R1, q1⟩
theorem st_not (ha : PT X a (TT_ g n X W ta)) : PT X (.UnaryOp .Not a pos) (TT_ g n X W (.not ta)) := by
  refine PT.weak (pt_not ha) fun σ H Q ⟨O, μ, env, st, R, q⟩ => ?_
  simp only [evT] at q
  refine ⟨O, μ, env, st, R, (post_T q).mono ?_⟩
  rintro x H1 ⟨O1, μ1, st1, R1, E1, q1⟩
  exact q1 _ _ ⟨O1, μ1, R1, Ext.refl, rfl⟩
theorem se_ife (hc : PT X c (TT_ g n X W ta)) (ha : PE X a (TE_ g n X W ma)) (hb : PE X b (TE_ g n X W mb)) : PE X (.IfExp c a b pos) (TE_ g n X W (.ife ta ma mb)) := by
  refine PE.weak (pe_ifExp hc ha hb) fun σ H Q ⟨O, μ, env, st, R, q⟩ => ?_
  simp only [evE] at q
  refine ⟨O, μ, env, st, R, (post_T q).mono ?_⟩
  rintro x H1 ⟨O1, μ1, st1, R1, E1, q1⟩
  cases x with
  | true => rw [if_pos rfl] at q1 ⊢; exact ⟨O1, μ1, env, st1, R1, q1⟩
  | false => rw [if_neg Bool.false_ne_true] at q1 ⊢; exact ⟨O1, μ1, env, st1, R1, q1⟩

/-! ### argument lists, displays -/
variable {es : List Expr} {ms : Es}
def notStar : Expr → Bool
  | .Starred _ _ => false
  | _ => true
theorem star_cons {e : Expr} {es : List Expr} {env : PySem.Env} (h : notStar e = true) : starEach (e :: es) env = (false, eval e env) :: starEach es env := by
  cases e <;> first | rfl | (simp [notStar] at h)
theorem sa_nil : PA X [] (TA_ g n X W .nil) := by
  refine PA.weak pa_nil fun σ H Q ⟨O, μ, env, st, R, q⟩ => ?_
  simp only [evEs] at q
  exact q _ _ ⟨O, μ, R, Ext.refl, VRs.nil⟩
theorem sa_cons {h : Bool} (hs : notStar a = true) (ha : PE X a (TE_ g n X W ma)) (hr : PA X es (TA_ g n X W ms)) : PA X (a :: es) (TA_ g n X W (.cons h ma ms)) := by
  have fin : ∀ {O : Own} {μ : List Addr} {H : Hp} {env : Env} {σ : L2.St} {r : Res D} {Q : List V → Hp → Prop}, Post VRs X.K g.T O μ H env σ W (r.bind fun x st => (evEs g.p (g.C n) ms env st).bind fun xs st => .ok (x :: xs) st) Q →
      Post VR X.K g.T O μ H env σ W r fun x H1 => TA_ g n X W ms σ H1 fun xs H2 => Q (x :: xs) H2 := fun {O μ H env σ r Q} q => by
    refine (post_bind VR q).mono ?_
    rintro x H1 ⟨O1, μ1, st1, dx, R1, E1, r1, q1⟩
    refine ⟨O1, μ1, env, st1, R1, (post_bind VRs q1).mono ?_⟩
    rintro xs H2 ⟨O2, μ2, st2, ds, R2, E2, r2, q2⟩
    exact q2 _ _ ⟨O2, μ2, R2, Ext.refl, VRs.cons (VR.mono E2 dx r1) r2⟩
  cases h with
  | false =>
    refine PA.weak (pa_cons (pf ha) hr (star_cons hs)) fun σ H Q ⟨O, μ, env, st, R, q⟩ => ?_
    simp only [evEs, Bool.false_eq_true, if_false] at q
    exact ⟨O, μ, env, st, R, fin q⟩
  | true =>
    refine PA.weak (pa_cons (pk ha) hr (star_cons hs)) fun σ H Q ⟨O, μ, env, st, R, q⟩ => ?_
    simp only [evEs, if_true] at q
    exact ⟨O, μ, env, st, R, fin q⟩
def Es.len : Es → Nat
  | .nil => 0
  | .cons _ _ r => r.len + 1
theorem Res.bind_ok {α β : Type} {r : Res α} {k : α → Store → Res β} {b : β} {st' : Store} (h : r.bind k = .ok b st') : ∃ a st1, r = .ok a st1 ∧ k a st1 = .ok b st' := by
  cases r with
  | ok a st1 => exact ⟨a, st1, rfl, h⟩
  | exc e st1 => cases h
  | bad => cases h
theorem es_len {p : PTab} {C : Calls} : ∀ {ms : Es} {env : Env} {st : Store} {ds : List D} {st' : Store}, evEs p C ms env st = .ok ds st' → ds.length = ms.len
  | .nil, _, _, _, _, h => by simp only [evEs] at h; cases h; rfl
  | .cons b e r, _, _, _, _, h => by
    simp only [evEs] at h
    obtain ⟨x, st1, _, h2⟩ := Res.bind_ok h
    obtain ⟨xs, st2, h3, h4⟩ := Res.bind_ok h2
    cases h4
    rw [List.length_cons, es_len h3]
    rfl
/-- what comes is what the evaluator said -/
theorem post_eq {K : Frag} {T : List (Addr × Str)} {O : Own} {μ : List Addr} {H : Hp} {env : Env} {σ : L2.St} {α β γ δ : Type} {rel : Own → List Addr → Hp → α → β → Prop} {r : Res γ} {k : γ → Store → Res α} {Q : β → Hp → Prop} (relA : Own → List Addr → Hp → γ → δ → Prop)
    (q : Post rel K T O μ H env σ W (r.bind k) Q) :
    Post relA K T O μ H env σ W r (fun v H1 => ∃ O1 μ1 st1 a, r = .ok a st1 ∧ StR K T O1 μ1 env st1 σ H1 ∧ Ext O μ H O1 μ1 H1 ∧ relA O1 μ1 H1 a v ∧ Post rel K T O1 μ1 H1 env σ W (k a st1) Q) := by
  cases r with
  | ok a st' =>
    intro v H' ⟨O', μ', h1, h2, h3⟩
    exact ⟨O', μ', st', a, rfl, h1, h2, h3, Post.fwd h2 q⟩
  | exc x st' => exact q
  | bad => exact q
theorem se_tup {x1} (hl : ms.len ≤ lim) (h : PA X es (TA_ g n X W ms)) : PE X (.Tuple es x1 pos) (TE_ g n X W (.tup ms)) := by
  refine PE.weak (pe_tup h) fun σ H Q ⟨O, μ, env, st, R, q⟩ => ?_
  simp only [evE] at q
  refine ⟨O, μ, env, st, R, (post_eq VRs q).mono ?_⟩
  rintro vs H1 ⟨O1, μ1, st1, ds, e, R1, E1, r1, q1⟩
  exact ⟨le_line (by rw [← r1.length, es_len e]; exact hl), fun p hp => q1 _ _ (got_tup R1 r1 hp)⟩
theorem se_lst (hl : ms.len ≤ lim) (h : PA X es (TA_ g n X W ms)) : PE X (.List es pos) (TE_ g n X W (.lst ms)) := by
  refine PE.weak (pe_lst h) fun σ H Q ⟨O, μ, env, st, R, q⟩ => ?_
  simp only [evE] at q
  refine ⟨O, μ, env, st, R, (post_eq VRs q).mono ?_⟩
  rintro vs H1 ⟨O1, μ1, st1, ds, e, R1, E1, r1, q1⟩
  exact ⟨le_line (by rw [← r1.length, es_len e]; exact hl), fun p hp => q1 _ _ (got_fl R1 r1 hp)⟩
theorem se_dct {t : Bool} : PE X (.Dict [] [] pos) (TE_ g n X W (.dct t)) := by
  cases t with
  | false =>
    refine PE.weak pe_dnewK fun σ H Q ⟨O, μ, env, st, R, q⟩ p hp => ?_
    simp only [evE] at q
    obtain ⟨R1, E1⟩ := R.new (o := .dK []) hp
    refine q _ _ ⟨O, μ, R1, E1, p, [], rfl, ?_, ⟨[], upd_same, rfl⟩, by simp [VRk]⟩
    cases e : O p with
    | none => rfl
    | some t => obtain ⟨u, q⟩ := R.own p t e; rw [hp] at q; cases q
  | true =>
    refine PE.weak pe_dnewT fun σ H Q ⟨O, μ, env, st, R, q⟩ p hp => ?_
    simp only [evE] at q
    obtain ⟨R1, E1⟩ := R.new (o := .dT []) hp
    refine q _ _ ⟨O, μ, R1, E1, p, [], rfl, ?_, ⟨[], upd_same, rfl⟩, by simp [VRk]⟩
    cases e : O p with
    | none => rfl
    | some t => obtain ⟨u, q⟩ := R.own p t e; rw [hp] at q; cases q
end
end Mn
end

section
set_option Elab.async false
set_option linter.all false
set_option maxRecDepth 100000
set_option maxHeartbeats 2000000
/-! Mini: subscripts, slices, displays with a star. -/
namespace Mn
open PySem L2 PySem.Spec PyProof.Rows
section
variable {g : Pg} {n : Nat} {X : Cx} {W : WX} {N : List Str} {sc : Scope} {a b c : Expr} {ma mb mc : E} {ta tb : Mn.T} {pos : Pos} {es : List Expr} {ms : Es}
theorem ix_dictR (hu : X.A.units + 1 < cLine) : IxR X (fun x y H Q => ∃ a v, x = .ref a ∧ DGet H a y (some v) ∧ Q v H) := by
  intro value slice pins s σ H x y v u Q I rx ry h hs
  obtain ⟨a, z, rfl, hg, q⟩ := h
  cases rx
  exact tail_any (dict_typeIs I hg) PySem.F.slot_dict_getitem.lookup (d_getItem hu I hg ry fun w' s3 I3 rw' => ⟨z, H, I3, rw', q⟩) hs
theorem atI_rel {O : Own} {μ : List Addr} {H : Hp} {xs : List D} {vs : List V} {i : Int} {d : D} (h : VRs O μ H xs vs) (e : atI xs i = some d) : ∃ v, atI vs i = some v ∧ VR O μ H d v := by
  unfold atI at e ⊢
  rw [← h.length]
  cases q : ixN xs.length i with
  | none => rw [q] at e; cases e
  | some j => rw [q] at e; exact VRs.get h e
def SIx (g : Pg) (X : Cx) : R2 := SOp g X fun x y st => (ixD st x y).map .d
theorem ixS (hu : X.A.units + 1 < cLine) : IxR X (SIx g X) := by
  intro value slice pins s σ H x y v u Q I rx ry h hs
  obtain ⟨O, μ, env, st, σ0, dx, dy, rv, R, h1, h2, e, q⟩ := h
  cases ed : ixD st dx dy with
  | none => simp only [ed, Option.map_none] at e; cases e
  | some d =>
  simp only [ed, Option.map_some, Option.some.injEq] at e
  subst e
  unfold ixD at ed
  split at ed
  · rename_i z i
    split at ed
    · rename_i hz
      cases ec : L2.atI z.cps.toList i with
      | none => rw [ec] at ed; cases ed
      | some c =>
        rw [ec] at ed
        cases ed
        cases h1
        cases h2
        exact ix_str value slice pins s σ H _ _ v u Q I rx ry ⟨z, i, c, rfl, rfl, le_line hz, ec, q _ _ (got_d R rfl)⟩ hs
    · cases ed
  · split at ed
    · rename_i xs es
      split at ed
      · rename_i i
        obtain ⟨p, vs, rfl, k1, k2⟩ := seq_at R h1 es
        cases h2
        obtain ⟨w', e2, r2⟩ := atI_rel k1 ed
        rcases k2 with ⟨_, _, kt⟩ | ⟨_, kl, _⟩
        · exact ix_tup value slice pins s σ H _ _ v u Q I rx ry ⟨p, vs, _, w', rfl, rfl, .inl (.inl kt), e2, q _ _ (got_d R r2)⟩ hs
        · exact ix_list value slice pins s σ H _ _ v u Q I rx ry ⟨p, vs, _, w', rfl, rfl, .inl kl, e2, q _ _ (got_d R r2)⟩ hs
      · cases ed
    · cases eo : dgetD st dx dy with
      | none => rw [eo] at ed; cases ed
      | some o =>
        rw [eo] at ed
        obtain ⟨p, o', rfl, hg, ho⟩ := dget_at R h1 h2 eo
        cases o with
        | none => cases ed
        | some d' =>
          cases ed
          cases o' with
          | none => exact ho.elim
          | some w' => exact ix_dictR hu value slice pins s σ H _ _ v u Q I rx ry ⟨p, w', rfl, hg, q _ _ (got_d R ho)⟩ hs
def notSl : Expr → Bool
  | .Slice _ _ none _ => false
  | _ => true
theorem plain_ix {e : Expr} (h : notSl e = true) : PlainIx e := by
  intro o i
  unfold subscripted
  split
  · simp [notSl] at h
  · rename_i q; cases q
  · rfl
theorem se_ix (ok : XOk g n N sc X) (hs : notSl b = true) (ha : PE X a (TE_ g n X W ma)) (hb : PE X b (TE_ g n X W mb)) : PE X (.Subscript a b pos) (TE_ g n X W (.ix ma mb)) := by
  have hu := ok.room.un
  exact PE.weak (pe_ix (ixS (g := g) (by omega)) (pf ha) (pf hb) (plain_ix hs)) fun σ H Q ⟨O, μ, env, st, R, q⟩ => bin_tOp R (by simpa only [evE] using q)

/-! ### slices -/
theorem VRs.cut {O : Own} {μ : List Addr} {H : Hp} {xs : List D} {vs : List V} (lo hi : Option Int) (h : VRs O μ H xs vs) : VRs O μ H (cutD xs lo hi) (cutV vs lo hi) := by
  unfold cutD cutV
  rw [h.length]
  exact (h.drop _).take _
def SSl (g : Pg) (X : Cx) : V → Option Int → Option Int → Hp → VK → Prop := fun x lo hi H Q => ∃ O μ env st σ0 dx rv, StR X.K g.T O μ env st σ0 H ∧ VR O μ H dx x ∧ slD st dx lo hi = some rv ∧ ∀ v H', Got RVR X.K g.T O μ H env σ0 st rv v H' → Q v H'
theorem cutD_all {xs : List D} {lo hi : Option Int} {vs : List V} (hl : xs.length = vs.length) (h : HT.sIx vs.length 0 lo = 0 ∧ HT.sIx vs.length vs.length hi = vs.length) : cutD xs lo hi = xs := by
  unfold cutD
  rw [hl, h.1, h.2, List.drop_zero, Nat.sub_zero, ← hl, List.take_length]
theorem slS : SlR X (SSl g X) := by
  intro pins s σ H x v vl vu lo hi sl Q I rx hs pl pu h
  obtain ⟨O, μ, env, st, σ0, dx, rv, R, h1, e, q⟩ := h
  unfold slD at e
  split at e
  · rename_i z
    split at e
    · rename_i hz
      cases e
      cases h1
      exact C8.sl_txt pins s σ H _ v vl vu lo hi sl Q I rx hs pl pu ⟨z, rfl, le_line hz, q _ _ (got_d R rfl)⟩
    · cases e
  · rename_i xs
    cases e
    obtain ⟨a, vs, rfl, k1, k2⟩ := vr_tup h1
    refine sl_tupA pins s σ H _ v vl vu lo hi sl Q I rx hs pl pu ⟨a, vs, rfl, .inl (.inl k1), fun hw => ?_, fun _ p hp => q _ _ (got_tup R (k2.cut lo hi) hp)⟩
    rw [cutD_all k2.length hw] at q
    exact q _ _ (got_d R h1)
  · rename_i hn1 hn2
    cases es : seqOf st dx with
    | none => rw [es] at e; cases e
    | some xs =>
      rw [es] at e
      cases e
      obtain ⟨p, vs, rfl, k1, k2⟩ := seq_at R h1 es
      rcases k2 with ⟨ys, ey, _⟩ | ⟨_, kl, _⟩
      · exact absurd ey (hn2 ys)
      · exact sl_list pins s σ H _ v vl vu lo hi sl Q I rx hs pl pu ⟨p, vs, rfl, .inl kl, fun l hl => q _ _ (got_fl R (k1.cut lo hi) hl)⟩
/-- a part of a slice -/
def rP (O : Own) (μ : List Addr) (H : Hp) (a b : Option Int) : Prop := a = b
def TO_ (g : Pg) (n : Nat) (X : Cx) (W : WX) (ms : Es) : TO := fun σ H Q => ∃ O μ env st, StR X.K g.T O μ env st σ H ∧ Post rP X.K g.T O μ H env σ W (evEs g.p (g.C n) ms env st).part Q
theorem so_none : PO X none (TO_ g n X W .nil) := by
  have h := po_none (X := X)
  refine ⟨fun pins s σ H Q I ⟨O, μ, env, st, R, q⟩ => h.run pins s σ H Q I ?_⟩
  simp only [evEs, Res.part, Res.bind, intsOf] at q
  exact q _ _ ⟨O, μ, R, Ext.refl, rfl⟩
theorem so_some (ha : PE X a (TE_ g n X W ma)) : PO X (some a) (TO_ g n X W (.cons false ma .nil)) := by
  have h := po_some (pf ha)
  refine ⟨fun pins s σ H Q I ⟨O, μ, env, st, R, q⟩ => h.run pins s σ H Q I ⟨O, μ, env, st, R, ?_⟩⟩
  have q' : Post rP X.K g.T O μ H env σ W ((evE g.p (g.C n) ma env st).froz.bind fun x st => match x with | .int i => .ok (some i) st | _ => .bad) Q := by
    simp only [evEs, Bool.false_eq_true, if_false] at q
    cases e : (evE g.p (g.C n) ma env st).froz with
    | ok x st1 =>
      rw [e] at q
      cases x <;> first | exact q | exact q.elim
    | exc x st1 => rw [e] at q; exact q
    | bad => rw [e] at q; exact q
  refine (post_bind VR q').mono ?_
  rintro v H1 ⟨O1, μ1, st1, dx, R1, E1, r1, q1⟩
  dsimp only at q1
  cases dx <;> first | exact q1.elim | skip
  cases r1
  exact ⟨_, rfl, q1 _ _ ⟨O1, μ1, R1, Ext.refl, rfl⟩⟩
theorem se_sl {lo hi : Option Expr} {ml mh : Es} {p2 : Pos} (ha : PE X a (TE_ g n X W ma)) (hl : PO X lo (TO_ g n X W ml)) (hh : PO X hi (TO_ g n X W mh)) : PE X (.Subscript a (.Slice lo hi none p2) pos) (TE_ g n X W (.sl ma ml mh)) := by
  refine PE.weak (pe_slice (slS (g := g)) (pf ha) hl hh) fun σ H Q ⟨O, μ, env, st, R, q⟩ => ?_
  simp only [evE] at q
  refine ⟨O, μ, env, st, R, (post_bind VR q).mono ?_⟩
  rintro v H1 ⟨O1, μ1, st1, dx, R1, E1, r1, q1⟩
  refine ⟨O1, μ1, env, st1, R1, (post_bind rP q1).mono ?_⟩
  rintro l H2 ⟨O2, μ2, st2, l', R2, E2, rfl, q2⟩
  refine ⟨O2, μ2, env, st2, R2, (post_bind rP q2).mono ?_⟩
  rintro h H3 ⟨O3, μ3, st3, h', R3, E3, rfl, q3⟩
  obtain ⟨rv, e, q4⟩ := post_opt q3
  exact ⟨O3, μ3, env, st3, σ, dx, rv, R3, VR.mono E3 dx (VR.mono E2 dx r1), e, q4⟩

/-! ### [*a, ..] -/
theorem se_star {p : Pos} (ha : PE X a (TE_ g n X W ma)) (hr : PA X es (TA_ g n X W ms)) : PE X (.List (.Starred a p :: es) pos) (TE_ g n X W (.star ma ms)) := by
  refine PE.weak (pe_lst (StX.pa_star (pf ha) hr rfl)) fun σ H Q ⟨O, μ, env, st, R, q⟩ => ?_
  simp only [evE] at q
  refine ⟨O, μ, env, st, R, (post_bind VR q).mono ?_⟩
  rintro v H1 ⟨O1, μ1, st1, dx, R1, E1, r1, q1⟩
  dsimp only at q1
  cases e : seqOf st1 dx with
  | none => rw [e] at q1; exact q1.elim
  | some xs =>
    rw [e] at q1
    obtain ⟨p, vs, rfl, k1, k2⟩ := seq_at R1 r1 e
    refine ⟨p, vs, rfl, ?_, O1, μ1, env, st1, R1, (post_bind VRs q1).mono ?_⟩
    · rcases k2 with ⟨_, _, kt⟩ | ⟨_, kl, _⟩
      · exact .inl (.inl (.inl kt))
      · exact .inr (.inl kl)
    · rintro ys H2 ⟨O2, μ2, st2, ds, R2, E2, r2, q2⟩
      dsimp only at q2
      split at q2
      · rename_i hz
        have hv := (VRs.mono E2 xs k1).append r2
        exact ⟨le_line (by rw [← hv.length, List.length_append]; exact hz), fun p hp => q2 _ _ (got_fl R2 hv hp)⟩
      · exact q2.elim
end
end Mn
end

section
set_option Elab.async false
set_option linter.all false
set_option maxRecDepth 100000
set_option maxHeartbeats 2000000
/-! Mini: calls, attributes, methods, properties, new instances, len, repr, str of instances. -/
namespace Mn
open PySem L2 PySem.Spec PyProof.Rows
section
variable {g : Pg} {n : Nat} {X : Cx} {W : WX} {N : List Str} {sc : Scope} {a b c : Expr} {ma mb mc : E} {ta tb : Mn.T} {pos : Pos} {es : List Expr} {ms : Es}
variable {K : Frag} {T : List (Addr × Str)} {O : Own} {μ : List Addr} {H : Hp} {env : Env} {st : Store} {σ : L2.St}
/-- the variables are left aside -/
theorem StR.bare (R : StR K T O μ env st σ H) : StR K T O μ [] st [] H := ⟨fun i d h => by simp at h, rfl, R.mu, R.obj, R.own, R.tab, R.tgs⟩
theorem StR.vars_of {O' : Own} {μ' : List Addr} {H' : Hp} {st' : Store} {env0 : Env} {σ0 : L2.St} (R : StR K T O μ env st σ H) (e : Ext O μ H O' μ' H') (R' : StR K T O' μ' env0 st' σ0 H') : StR K T O' μ' env st' σ H' :=
  ⟨fun i d h => by obtain ⟨v, h1, h2⟩ := R.vars i d h; exact ⟨v, h1, VR.mono e d h2⟩, R.len, R'.mu, R'.obj, R'.own, R'.tab, R'.tgs⟩
theorem callN_def {p : PTab} {fuel : Nat} {defs : Fn → Option MDef} {n : Nat} {q : Fn} {ds : List D} {st : Store} (h : callN p fuel defs n q ds st ≠ .bad) : ∃ d, defs q = some d ∧ ds.length = d.np := by
  cases n with
  | zero => exact absurd rfl h
  | succ n =>
    simp only [callN] at h
    cases e : defs q with
    | none => rw [e] at h; exact absurd rfl h
    | some d =>
      rw [e] at h
      dsimp only at h
      by_cases e2 : ds.length = d.np
      · exact ⟨d, rfl, e2⟩
      · rw [if_neg e2] at h; exact absurd rfl h
theorem run_R {CX : CXT} {k : Nat} {f : Addr} {sp : Sp} {A : Around} {pins : List (Addr × Obj)} {s : Shared} {Q : VK} {E : XK} {us : List Value} {vs : List V} (F : FnRG X.prog X.w X.K X.mg X.base CX k f sp) (hr : RoomG k A) (e0 : Env0 X.prog X.w X.K X.mg X.base A X.stack s H)
    (hx : PassesAt CX X σ E) (I : Inv X pins σ H s) (r : Vals vs us) (h : sp vs H Q E) : wpAny (model X.prog X.w) A (call (.ref f) us) (EP X pins σ Q) X.xe s := by
  refine wpAny_call (codeAny_mono (F A X.stack s H us vs Q E hr e0 r h) fun r s' hq => ?_)
  cases r with
  | error e => exact hx pins H s e s' I hq
  | ok fl =>
    cases fl with
    | ret u => exact I.after hq
    | next => exact False.elim hq
    | brk => exact False.elim hq
    | cont => exact False.elim hq
/-- the promise at a call -/
theorem sp_of {q : Fn} {ds : List D} {vs : List V} {Q : VK} {W' : WX} (ok : XOk g n N sc X) (R : StR X.K g.T O μ env st σ H) (r : VRs O μ H ds vs) (h : Post RVR X.K g.T O μ H env σ W' (g.C n q ds st) Q) :
    ∃ d, CallOk g X.prog X.w X.K X.mg X.base n q d ∧ spOf g X.K n q d.np vs H Q (WE W' σ) := by
  obtain ⟨d, h1, h2⟩ := callN_def (p := g.p) (fuel := g.fuel) (defs := g.defs) (n := n) (q := q) (ds := ds) (st := st) fun e => by rw [show g.C n q ds st = .bad from e] at h; exact h
  refine ⟨d, ok.calls q d h1, by rw [← h2]; exact r.length.symm, O, μ, st, ds, R.bare, r, ?_⟩
  cases e : g.C n q ds st with
  | ok rv st' =>
    rw [e] at h
    intro v H' ⟨O', μ', k1, k2, k3⟩
    exact h v H' ⟨O', μ', R.vars_of k2 k1, k2, k3⟩
  | exc x st' =>
    rw [e] at h
    intro cls d H' ⟨O', μ', k1, k2, k3⟩
    exact h cls d H' ⟨O', μ', R.vars_of k2 k1, k2, k3⟩
  | bad => rw [e] at h; exact h
theorem call_run {q : Fn} {ds : List D} {vs : List V} {us : List Value} {Q : VK} {A : Around} {pins : List (Addr × Obj)} {s : Shared} (ok : XOk g n N sc X) (tk : Takes X W) (hr : RoomG (4 * n) A) (e0 : Env0 X.prog X.w X.K X.mg X.base A X.stack s H)
    (I : Inv X pins σ H s) (rv : Vals vs us) (R : StR X.K g.T O μ env st σ H) (r : VRs O μ H ds vs) (h : Post RVR X.K g.T O μ H env σ W (g.C n q ds st) Q) : wpAny (model X.prog X.w) A (call (.ref (fA g X.K q)) us) (EP X pins σ Q) X.xe s := by
  obtain ⟨d, c, hs⟩ := sp_of ok R r h
  exact run_R c.ok hr e0 (passAt tk σ) I rv hs

/-! ### f(..) -/
theorem call_not_bad {α : Type} {rel : Own → List Addr → Hp → RV → α → Prop} {q : Fn} {ds : List D} {Q : α → Hp → Prop} {W' : WX} (h : Post rel K T O μ H env σ W' (g.C n q ds st) Q) : ∃ d, g.defs q = some d ∧ ds.length = d.np :=
  callN_def fun e => by rw [show g.C n q ds st = .bad from e] at h; exact h
theorem starT {e : Expr} {es : List Expr} {env : PySem.Env} (h : notStar e = true) : starEach (e :: es) env = (false, eval e env) :: starEach es env := star_cons h
def notStars : List Expr → Bool
  | [] => true
  | e :: es => notStar e && notStars es
theorem stars_any {es : List Expr} {env : PySem.Env} {pos : Pos} (h : notStars es = true) : (backTo pos (starEach es env)).any (·.1) = false := by
  induction es with
  | nil => rfl
  | cons e es ih =>
    simp only [notStars, Bool.and_eq_true] at h
    rw [star_cons h.1]
    show (false || (backTo pos (starEach es env)).any (·.1)) = false
    rw [ih h.2]
    rfl
/-- behind the arguments the call -/
theorem call_rest {pins : List (Addr × Obj)} {s1 : Shared} {H1 : Hp} {us : List Value} {vs : List V} {Q : VK} {q : Fn} (ok : XOk g n N sc X) (tk : Takes X W) (I1 : Inv X pins σ H1 s1) (r : Vals vs us)
    (h : Rest RVR VRs X.K g.T O μ H env σ W (fun ds st => g.C n q ds st) Q vs H1) : wpAny (model X.prog X.w) X.A (call (.ref (fA g X.K q)) us) (EP X pins σ Q) X.xe s1 := by
  obtain ⟨O1, μ1, st1, ds, R1, E1, r1, q1⟩ := h
  exact call_run ok tk (ok.room.mono (by omega)) I1.env0 I1 r R1 r1 q1
theorem se_call {f : Str} {p : Pos} (ok : XOk g n N sc X) (tk : Takes X W) (hg : Gl X f) (hd : (f == ("__debug__" : Str)) = false) (hdef : (g.defs (f, none)).isSome = true) (hs : notStars (a :: es) = true) (ha : PA X (a :: es) (TA_ g n X W ms)) :
    PE X (.Call (.Name f p) (a :: es) [] pos) (TE_ g n X W (.call f ms)) := by
  refine ⟨fun pins s σ H Q I ⟨O, μ, env, st, R, q⟩ => ?_⟩
  simp only [evE] at q
  obtain ⟨d, hdef⟩ := Option.isSome_iff_exists.mp hdef
  obtain ⟨c1, c2⟩ := (ok.calls (f, none) d hdef).gl rfl
  refine wpAny_Call_Name_kw (ld_glob I hg c1 ?_ hd)
  simp only [notStars, Bool.and_eq_true] at hs
  exact PySem.W.callWith_K (h₀ := X.base) I.ok.mod.kin c2 (thn (ha.run pos pins s σ H _ I ⟨O, μ, env, st, R, post_bind VRs q⟩) fun us s1 ⟨vs, H1, I1, r, q1⟩ => ⟨I1.kIn, call_rest ok tk I1 r q1⟩) (starT hs.1) (stars_any hs.2)
theorem se_call0 {f : Str} {p : Pos} (ok : XOk g n N sc X) (tk : Takes X W) (hg : Gl X f) (hd : (f == ("__debug__" : Str)) = false) (hdef : (g.defs (f, none)).isSome = true) : PE X (.Call (.Name f p) [] [] pos) (TE_ g n X W (.call f .nil)) := by
  refine ⟨fun pins s σ H Q I ⟨O, μ, env, st, R, q⟩ => ?_⟩
  simp only [evE, evEs, Res.bind] at q
  obtain ⟨d, hdef⟩ := Option.isSome_iff_exists.mp hdef
  obtain ⟨c1, c2⟩ := (ok.calls (f, none) d hdef).gl rfl
  refine wpAny_Call_Name_kw (ld_glob I hg c1 ?_ hd)
  exact PySem.W.callWith_K0 I.kIn c2 (call_run (us := []) (vs := []) ok tk (ok.room.mono (by omega)) I.env0 I .nil R VRs.nil q)

/-! ### keywords -/
theorem pair_look {α β : Type} {F : α → β → Prop} {x : Str} : ∀ {l₁ : List α} {l₂ : List β}, Paired F l₁ l₂ → ∀ ks : List Str, ((ks.zip l₁).lookup x = none ∧ (ks.zip l₂).lookup x = none) ∨ ∃ a b, (ks.zip l₁).lookup x = some a ∧ (ks.zip l₂).lookup x = some b ∧ F a b
  | _, _, .nil, ks => by left; simp
  | _, _, .cons a b, [] => by left; simp
  | _, _, .cons a b, k :: ks => by
    simp only [List.zip_cons_cons, List.lookup_cons]
    cases x == k with
    | true => right; exact ⟨_, _, rfl, rfl, a⟩
    | false => exact pair_look b ks
theorem pair_take {α β : Type} {F : α → β → Prop} : ∀ {l₁ : List α} {l₂ : List β} (n : Nat), Paired F l₁ l₂ → Paired F (l₁.take n) (l₂.take n)
  | _, _, 0, _ => by simpa using Paired.nil
  | _, _, _ + 1, .nil => by simpa using Paired.nil
  | _, _, n + 1, .cons a b => by simpa using Paired.cons a (pair_take n b)
theorem pair_drop {α β : Type} {F : α → β → Prop} : ∀ {l₁ : List α} {l₂ : List β} (n : Nat), Paired F l₁ l₂ → Paired F (l₁.drop n) (l₂.drop n)
  | _, _, 0, h => by simpa using h
  | _, _, _ + 1, .nil => by simpa using Paired.nil
  | _, _, n + 1, .cons a b => by simpa using pair_drop n b
theorem pair_perm {α β : Type} {F : α → β → Prop} {ks : List Str} {l₁ : List α} {l₂ : List β} (ps : List Str) (h : Paired F l₁ l₂) : Paired F (kwPerm ps ks l₁) (kwPerm ps ks l₂) := by
  unfold kwPerm
  rw [h.length]
  generalize l₂.length - ks.length = m
  suffices ∀ qs : List Str, Paired F (qs.filterMap fun x => (ps.zip (l₁.take m) ++ ks.zip (l₁.drop m)).lookup x) (qs.filterMap fun x => (ps.zip (l₂.take m) ++ ks.zip (l₂.drop m)).lookup x) from this ps
  intro qs
  induction qs with
  | nil => exact .nil
  | cons q qs ih =>
    rw [List.filterMap_cons, List.filterMap_cons, lookK_app, lookK_app]
    rcases pair_look (x := q) (pair_take m h) ps with ⟨e1, e2⟩ | ⟨a, b, e1, e2, f⟩
    · rw [e1, e2]
      rcases pair_look (x := q) (pair_drop m h) ks with ⟨e3, e4⟩ | ⟨a, b, e3, e4, f⟩
      · rw [e3, e4]; exact ih
      · rw [e3, e4]; exact .cons f ih
    · rw [e1, e2]; exact .cons f ih
theorem vrs_pair : ∀ {ds : List D} {vs : List V}, VRs O μ H ds vs → Paired (VR O μ H) ds vs
  | [], vs, h => by simp only [VRs] at h; subst h; exact .nil
  | d :: ds, vs, h => by
    simp only [VRs] at h
    obtain ⟨v, r, rfl, h1, h2⟩ := h
    exact .cons h1 (vrs_pair h2)
theorem pair_vrs : ∀ {ds : List D} {vs : List V}, Paired (VR O μ H) ds vs → VRs O μ H ds vs
  | _, _, .nil => VRs.nil
  | _, _, .cons a b => VRs.cons a (pair_vrs b)
theorem VRs.perm {ks : List Str} {ds : List D} {vs : List V} (ps : List Str) (h : VRs O μ H ds vs) : VRs O μ H (kwPerm ps ks ds) (kwPerm ps ks vs) := pair_vrs (pair_perm ps (vrs_pair h))
theorem Vals.perm {ks : List Str} {vs : List V} {us : List Value} (ps : List Str) (h : Vals vs us) : Vals (kwPerm ps ks vs) (kwPerm ps ks us) := pair_perm ps h
/-- a def is called by place and by name -/
theorem call_runK {q : Fn} {ds : List D} {vs : List V} {us ws : List Value} {ks : List Str} {Q : VK} {A : Around} {pins : List (Addr × Obj)} {s : Shared} (ok : XOk g n N sc X) (tk : Takes X W) (hr : RoomG (4 * n) A) (e0 : Env0 X.prog X.w X.K X.mg X.base A X.stack s H)
    (I : Inv X pins σ H s) (hw : ws.length = ks.length) (rv : Vals vs (us ++ ws)) (R : StR X.K g.T O μ env st σ H) (r : VRs O μ H ds vs) (hk : kwOk (g.prm q) ks ds.length = true) (h : Post RVR X.K g.T O μ H env σ W (g.C n q (kwPerm (g.prm q) ks ds) st) Q) :
    wpAny (model X.prog X.w) A (call (.ref (fA g X.K q)) us (ks.zip ws)) (EP X pins σ Q) X.xe s := by
  obtain ⟨d, c, hs⟩ := sp_of ok R (r.perm _) h
  have hl : ds.length = (us ++ ws).length := by rw [r.length]; exact rv.length
  refine wpAny_call (codeAny_mono (c.okG A X.stack s H ⟨us, ks.zip ws⟩ _ _ Q _ hr e0 (.inr ⟨us, ws, ks, rfl, hw, by rw [← hl]; exact hk, rfl⟩) (Vals.perm _ rv) hs) fun r s' hq => ?_)
  cases r with
  | error e => exact passAt tk σ pins H s e s' I hq
  | ok fl =>
    cases fl with
    | ret u => exact I.after hq
    | next => exact False.elim hq
    | brk => exact False.elim hq
    | cont => exact False.elim hq
/-! ### attributes, properties -/
/-- what is asked for an attribute is no super() -/
def notSup : Expr → Bool
  | .Call (.Name _ _) [] [] _ => false
  | _ => true
theorem attr_base {e : Expr} {f : Str} {env : PySem.Env} {m : Sem Value} (h : notSup e = true) : attributeBase e f env m = m := by
  unfold attributeBase
  split
  · simp [notSup] at h
  · rfl
theorem VRf.lookup {O : Own} {μ : List Addr} {H : Hp} : ∀ {fs : List (Str × D)} {l : List (Str × V)} (f : Str), VRf O μ H fs l → Opt2 O μ H (fs.lookup f) (l.lookup f)
  | [], _, f, h => by simp only [VRf] at h; rw [h]; exact True.intro
  | (k, x) :: xs, _, f, h => by
    simp only [VRf] at h
    obtain ⟨v, r, e, h1, h2⟩ := h
    rw [e, List.lookup_cons, List.lookup_cons]
    cases hk : f == k with
    | true => exact h1
    | false => exact VRf.lookup f h2
theorem obj_at {j : Nat} {v : V} {o : AO} (R : StR K T O μ env st σ H) (h : VR O μ H (.loc j) v) (e : st[j]? = some o) : ∃ a, v = .ref a ∧ μ[j]? = some a ∧ OwnJ O a j ∧ OR K O μ H o a := by
  simp only [VR] at h
  obtain ⟨a, h1, h2⟩ := h
  obtain ⟨b, k1, k2, k3⟩ := R.obj j o e
  rw [h2] at k1
  cases k1
  exact ⟨a, h1, h2, k2, k3⟩
theorem calm_ok {α β : Type} {rel : Own → List Addr → Hp → α → β → Prop} {r : Res α} {Q : β → Hp → Prop} {W' : WX} (h : Post rel K T O μ H env σ W r.calm Q) : Post rel K T O μ H env σ W' r Q := by
  cases r with
  | ok a st' => exact h
  | exc e st' => exact h.elim
  | bad => exact h
/-- the getter of a property runs -/
theorem prop_run {f : Str} {j : Nat} {cn : Str} {ad dx : Addr} {fs : List (Str × V)} {b : Bool} {E' : Value → Shared → Prop} {pins : List (Addr × Obj)} {s : Shared} {Q : VK} (ok : XOk g n N sc X) (I : Inv X pins σ H s) (ea : H ad = some (.ins (He.ga X.K cn) dx fs))
    (hp : g.p.prop cn f = true) (R : StR X.K g.T O μ env st σ H) (r : VR O μ H (.loc j) (.ref ad)) (h : Post RVR X.K g.T O μ H env σ W (g.C n (cn, some f) [.loc j] st).calm Q) : wpAny (model X.prog X.w) X.A (getAttr (.ref ad) f b) (EP X pins σ Q) E' s := by
  obtain ⟨d, c, hs⟩ := sp_of (W' := fun _ _ _ _ => False) ok R (VRs.cons r VRs.nil) (calm_ok h)
  obtain ⟨cl, _, m2, _⟩ := c.me f rfl
  obtain ⟨pa, hprop⟩ := m2 hp
  obtain ⟨mA, O', _, _, _, _⟩ := ins_get I.hok ea
  obtain ⟨od, J, _⟩ := O'.look
  obtain ⟨rest, hrec⟩ := hprop.rec_
  have I1 := I.tok (s.toks + 1)
  have hc : (PySem.W.clsIn X.K (He.ga X.K cn)).isSome = true := by
    obtain ⟨cd, hc, _⟩ := PySem.W.any_some cl.hd
    rw [hc]
    rfl
  have hr : RoomG (4 * n) X.A.in1 := (ok.room.mono (j := 4 * n + 1) (by omega)).in1
  refine PySem.W.get_bind I.kIn J (PySem.W.plainGet_of (cl.get f)).1 (PySem.W.findObj_data hc hprop.at_ hprop.get hprop.tak) (PySem.W.plainGet_of (cl.get f)).2 (wpAny_call (PySem.W.prop_get (s := { s with toks := s.toks + 1 }) I.kIn hrec ?_))
  refine codeAny_mono (c.ok X.A.in1 X.stack { s with toks := s.toks + 1 } H [.ref ad] [.ref ad] Q _ hr I1.env0.in1 (.cons rfl .nil) hs) fun r s' hq => ?_
  cases r with
  | error er => obtain ⟨_, _, _, _, _, _, _, _, _, _, _, _, w⟩ := hq; exact w.elim
  | ok fl =>
    cases fl with
    | ret u =>
      obtain ⟨v, H', I3, rv, q3⟩ := I1.after hq
      show wpAny _ _ (handedOut u) _ _ _
      rw [PySem.W.handedOut_of (handed_of rv)]
      exact wpAny_pure ⟨v, H', I3, rv, q3⟩
    | next => exact False.elim hq
    | brk => exact False.elim hq
    | cont => exact False.elim hq
theorem se_fld {f : Str} (ok : XOk g n N sc X) (hs : notSup a = true) (ha : PE X a (TE_ g n X W ma)) : PE X (.Attribute a f pos) (TE_ g n X W (.fld ma f)) := by
  refine ⟨fun pins s σ H Q I ⟨O, μ, env, st, R, q⟩ => ?_⟩
  simp only [evE] at q
  refine attr_of (attr_base hs) (thn ((pf ha).run pins s σ H _ I ⟨O, μ, env, st, R, post_bind VR q⟩) fun u s1 ⟨x, H1, I1, rx, O1, μ1, st1, dx, R1, E1, r1, q1⟩ => ?_)
  dsimp only at q1
  cases dx <;> first | exact q1.elim | skip
  rename_i j
  dsimp only at q1
  cases eo : st1[j]? with
  | none => rw [eo] at q1; exact q1.elim
  | some o =>
    rw [eo] at q1
    cases o with
    | lst _ _ => exact q1.elim
    | dct _ _ _ => exact q1.elim
    | ins cn fs =>
      dsimp only at q1
      obtain ⟨ad, rfl, k1, k2, dx, fs', k3, k4⟩ := obj_at R1 r1 eo
      cases rx
      split at q1
      · rename_i hp
        exact prop_run ok I1 k3 hp R1 r1 q1
      · split at q1
        · rename_i hf
          obtain ⟨d, e, q2⟩ := post_opt q1
          obtain ⟨c1, c2⟩ := ok.fld cn f hf
          have hl := VRf.lookup f k4
          cases el : fs.lookup f with
          | none => rw [el] at e; cases e
          | some d' =>
            rw [el] at e hl
            cases e
            cases el2 : fs'.lookup f with
            | none => rw [el2] at hl; exact hl.elim
            | some v =>
              rw [el2] at hl
              exact getattr_ok I1 k3 c1 c2 el2 fun u' s2 I2 ru => ⟨v, H1, I2, ru, q2 _ _ (got_d R1 hl)⟩
        · exact q1.elim
end
end Mn
end

section
set_option Elab.async false
set_option linter.all false
set_option maxRecDepth 100000
set_option maxHeartbeats 2000000
/-! Mini: methods, new instances, len, repr, str of instances. -/
namespace Mn
open PySem L2 PySem.Spec PyProof.Rows
section
variable {g : Pg} {n : Nat} {X : Cx} {W : WX} {N : List Str} {sc : Scope} {a b c : Expr} {ma mb mc : E} {ta tb : Mn.T} {pos apos : Pos} {es : List Expr} {ms : Es}
variable {K : Frag} {T : List (Addr × Str)} {O : Own} {μ : List Addr} {H : Hp} {env : Env} {st : Store} {σ : L2.St}
theorem stars_all {es : List Expr} {env : PySem.Env} {pos : Pos} (h : notStars es = true) : (backTo pos (starEach es env)).all (!·.1) = true := by
  induction es with
  | nil => rfl
  | cons e es ih =>
    simp only [notStars, Bool.and_eq_true] at h
    rw [star_cons h.1]
    show (true && (backTo pos (starEach es env)).all (!·.1)) = true
    rw [ih h.2]
    rfl
/-- a plain method call on one line -/
def mOk (o : Expr) (es : List Expr) (apos pos : Pos) : Bool := notSup o && (notStars es && (decide (es.length < 30) && (apos.endLine == pos.line)))
theorem meth_tree {o : Expr} {m : Str} {env : PySem.Env} (h : mOk o es apos pos = true) : eval (.Call (.Attribute o m apos) es [] pos) env = (do
      let ov ← eval o env
      standAt apos.atName
      let (f, first) ← holding [ov] (getMethod ov m (plainOf o env))
      callWith pos f first (backTo pos (starEach es env)) (backToKw pos (keywordEach [] env))) := by
  simp only [mOk, Bool.and_eq_true, decide_eq_true_eq] at h
  obtain ⟨h1, h2, h3, h4⟩ := h
  have e : ∀ ov, methodCall o m apos pos env ov (es.length + 0) (backTo pos (starEach es env)) (backToKw pos (keywordEach [] env)) = (do
      let (f, first) ← holding [ov] (getMethod ov m (plainOf o env))
      callWith pos f first (backTo pos (starEach es env)) (backToKw pos (keywordEach [] env))) := fun ov => by
    refine mcall_line ?_ h4
    unfold methodCallForm
    rw [stars_all h2]
    show (true && true && decide (es.length + 0 + 0 < 30)) = true
    rw [decide_eq_true (by omega)]
    rfl
  show (do
    let ov ← attributeBase o m env (eval o env)
    standAt apos.atName
    methodCall o m apos pos env ov (es.length + 0) (backTo pos (starEach es env)) (backToKw pos (keywordEach [] env))) = _
  rw [attr_base h1]
  simp only [e]
theorem lookup_none {O : Own} {μ : List Addr} {H : Hp} {fs : List (Str × D)} {l : List (Str × V)} {f : Str} (h : VRf O μ H fs l) (e : (fs.lookup f).isNone = true) : l.lookup f = none := by
  have := VRf.lookup f h
  rw [Option.isNone_iff_eq_none.mp e] at this
  cases q : l.lookup f with
  | none => rfl
  | some v => rw [q] at this; exact this.elim
theorem se_meth0 {m : Str} (ok : XOk g n N sc X) (tk : Takes X W) (h : mOk a [] apos pos = true) (ha : PE X a (TE_ g n X W ma)) : PE X (.Call (.Attribute a m apos) [] [] pos) (TE_ g n X W (.meth ma m .nil)) := by
  refine ⟨fun pins s σ H Q I ⟨O, μ, env, st, R, q⟩ => ?_⟩
  simp only [evE, evEs, Res.bind] at q
  refine PySem.W.methodCall_KW (pl := plainOf a X.env) (thn ((pf ha).run pins s σ H _ I ⟨O, μ, env, st, R, post_bind VR q⟩) fun u s1 ⟨x, H1, I1, rx, O1, μ1, st1, dx, R1, E1, r1, q1⟩ => ?_) (meth_tree h)
  dsimp only at q1
  cases dx <;> first | exact q1.elim | skip
  rename_i j
  dsimp only at q1
  cases eo : st1[j]? with
  | none => rw [eo] at q1; exact q1.elim
  | some o =>
    rw [eo] at q1
    cases o with
    | lst _ _ => exact q1.elim
    | dct _ _ _ => exact q1.elim
    | ins cn fs =>
      dsimp only at q1
      obtain ⟨ad, rfl, k1, k2, dx, fs', k3, k4⟩ := obj_at R1 r1 eo
      cases rx
      split at q1
      · rename_i hc
        obtain ⟨hc1, hc2⟩ := hc
        obtain ⟨hdef, hc2, hc3⟩ := ok.mth cn m hc2
        obtain ⟨d, hd⟩ := Option.isSome_iff_exists.mp hdef
        obtain ⟨cl, _, _, m3⟩ := (ok.calls (cn, some m) d hd).me m rfl
        have hm := m3 hc3 hc2
        have ef : fA g X.K (cn, some m) = He.ma X.K (He.ga X.K cn) m := by simp only [fA, hc2, Bool.false_eq_true, if_false]
        rw [ef] at hm
        refine getmeth_ok I1 k3 cl hm (lookup_none k4 hc1) ?_
        refine PySem.W.callWith_K0 (first := [.ref ad]) I1.kIn hm.kp ?_
        rw [← ef]
        exact call_run ok tk (ok.room.mono (by omega)) I1.env0 I1 (.cons (show RelV (.ref ad) (Value.ref ad) from rfl) .nil) R1 (VRs.cons r1 VRs.nil) q1
      · exact q1.elim
theorem se_meth {m : Str} (ok : XOk g n N sc X) (tk : Takes X W) (h : mOk a (b :: es) apos pos = true) (ha : PE X a (TE_ g n X W ma)) (hb : PA X (b :: es) (TA_ g n X W ms)) : PE X (.Call (.Attribute a m apos) (b :: es) [] pos) (TE_ g n X W (.meth ma m ms)) := by
  refine ⟨fun pins s σ H Q I ⟨O, μ, env, st, R, q⟩ => ?_⟩
  simp only [evE] at q
  refine PySem.W.methodCall_KW (pl := plainOf a X.env) (thn ((pf ha).run pins s σ H _ I ⟨O, μ, env, st, R, post_bind VR q⟩) fun u s1 ⟨x, H1, I1, rx, O1, μ1, st1, dx, R1, E1, r1, q1⟩ => ?_) (meth_tree h)
  dsimp only at q1
  cases dx <;> first | exact q1.elim | skip
  rename_i j
  dsimp only at q1
  cases eo : st1[j]? with
  | none => rw [eo] at q1; exact q1.elim
  | some o =>
    rw [eo] at q1
    cases o with
    | lst _ _ => exact q1.elim
    | dct _ _ _ => exact q1.elim
    | ins cn fs =>
      dsimp only at q1
      obtain ⟨ad, rfl, k1, k2, dx, fs', k3, k4⟩ := obj_at R1 r1 eo
      cases rx
      split at q1
      · rename_i hc
        obtain ⟨hc1, hc2⟩ := hc
        obtain ⟨hdef, hc2, hc3⟩ := ok.mth cn m hc2
        obtain ⟨d, hd⟩ := Option.isSome_iff_exists.mp hdef
        · obtain ⟨cl, _, _, m3⟩ := (ok.calls (cn, some m) d hd).me m rfl
          have hm := m3 hc3 hc2
          have ef : fA g X.K (cn, some m) = He.ma X.K (He.ga X.K cn) m := by simp only [fA, hc2, Bool.false_eq_true, if_false]
          rw [ef] at hm
          refine getmeth_ok I1 k3 cl hm (lookup_none k4 hc1) ?_
          simp only [mOk, Bool.and_eq_true, notStars] at h
          refine PySem.W.callWith_K (first := [.ref ad]) (h₀ := X.base) I.ok.mod.kin hm.kp (thn (hb.run pos pins s1 σ H1 _ I1 ⟨O1, μ1, env, st1, R1, post_bind VRs q1⟩) fun us s2 ⟨vs, H2, I2, r, q2⟩ => ⟨I2.kIn, ?_⟩) (starT h.2.1.1) (stars_any h.2.1.2)
          rw [← ef]
          obtain ⟨O2, μ2, st2, ds, R2, E2, r2, q2⟩ := q2
          exact call_run ok tk (ok.room.mono (by omega)) I2.env0 I2 (.cons (show RelV (.ref ad) (Value.ref ad) from rfl) r) R2 (VRs.cons (VR.mono E2 _ r1) r2) q2
      · exact q1.elim

/-! ### new instances -/
theorem ga_of {K : Frag} {x : Str} : He.fAd K (x, none) = He.ga K x := rfl
/-- a new instance joins the store -/
theorem StR.made {x dx : Addr} {cn : Str} (R : StR K T O μ env st σ H) (hx : H x = none) (hdx : H dx = none) (hn : dx ≠ x) :
    StR K T (tagAt O x (.obj st.length)) (μ ++ [x]) env (st ++ [.ins cn []]) σ (upd (upd H dx (.own x)) x (.ins (He.ga K cn) dx [])) ∧ Ext O μ H (tagAt O x (.obj st.length)) (μ ++ [x]) (upd (upd H dx (.own x)) x (.ins (He.ga K cn) dx [])) := by
  have hx' : (upd H dx (.own x)) x = none := by rw [upd_ne (Ne.symm hn)]; exact hx
  obtain ⟨R1, E1⟩ := R.new (o := .own x) hdx
  obtain ⟨R2, E2⟩ := R1.new (o := .ins (He.ga K cn) dx []) hx'
  have ho : O x = none := by
    cases e : O x with
    | none => rfl
    | some t => obtain ⟨u, q⟩ := R.own x t e; rw [hx] at q; cases q
  obtain ⟨R3, E3⟩ := R2.push (o := .ins cn []) ho upd_same ⟨dx, [], upd_same, by simp [VRf]⟩
  exact ⟨R3, (E1.trans E2).trans E3⟩
theorem new_run {cn : Str} {ds : List D} {vs : List V} {us : List Value} {Q : VK} {pins : List (Addr × Obj)} {s : Shared} (ok : XOk g n N sc X) (tk : Takes X W) (I : Inv X pins σ H s) (rv : Vals vs us) (R : StR X.K g.T O μ env st σ H) (r : VRs O μ H ds vs) (hdef : (g.defs (cn, some "__init__")).isSome = true) (hp : g.p.prop cn "__init__" = false)
    (h : Post RVR X.K g.T O μ H env σ W ((g.C n (cn, some "__init__") (.loc st.length :: ds) (st ++ [.ins cn []])).bind fun v st' => match v with | .d .non => .ok (.d (.loc st.length)) st' | _ => .bad) Q) :
    wpAny (model X.prog X.w) X.A (call (.ref (He.ga X.K cn)) us) (EP X pins σ Q) X.xe s := by
  obtain ⟨d, hd⟩ := Option.isSome_iff_exists.mp hdef
  have c := ok.calls _ d hd
  obtain ⟨cl, m1, _⟩ := c.me "__init__" rfl
  obtain ⟨M, _⟩ := m1 rfl
  have hx := I.hok.fresh (a := s.heap.objs.size + 1) (Nat.le_succ _)
  have hdx := I.hok.fresh (a := s.heap.objs.size) (Nat.le_refl _)
  have hne : s.heap.objs.size ≠ s.heap.objs.size + 1 := Nat.ne_of_lt (Nat.lt_succ_self _)
  obtain ⟨R2, E2⟩ := R.made (cn := cn) hx hdx hne
  have I2 := Inv.made (C := He.ga X.K cn) I
  have r2 : VRs (tagAt O (s.heap.objs.size + 1) (.obj st.length)) (μ ++ [s.heap.objs.size + 1]) _ (.loc st.length :: ds) (.ref (s.heap.objs.size + 1) :: vs) := VRs.cons (by simp only [VR]; exact ⟨_, rfl, by rw [← R.mu, List.getElem?_append_right (Nat.le_refl _)]; simp⟩) (VRs.mono E2 ds r)
  have h2 := post_eq RVR (Post.fwd E2 h)
  obtain ⟨d', c', hs⟩ := sp_of ok R2 r2 h2
  have hr : RoomG (4 * n + 1) X.A := ok.room.mono (by omega)
  refine wpAny_call (make_map (f := fA g X.K (cn, some "__init__")) I.kIn M.makes M.init (beq_iff_eq.mp M.fn) (codeAny_mono (c'.ok _ X.stack _ _ (Value.ref (s.heap.objs.size + 1) :: us) _ _ _ (hr.make (He.ga X.K cn) us []) (I2.env0.make (He.ga X.K cn) us []) (.cons (show RelV (.ref (s.heap.objs.size + 1)) _ from rfl) rv) hs) fun r s' hq' => ?_))
  cases r with
  | error e => exact passAt tk σ pins _ _ e s' I2 hq'
  | ok fl =>
    cases fl with
    | ret u =>
      obtain ⟨v, H', I3, rv, O3, μ3, st3, rv3, e3, R3, E3, r3, q3⟩ := I2.after hq'
      cases rv3 with
      | d dv =>
        cases dv <;> first | exact q3.elim | skip
        cases r3
        refine ⟨rv, ⟨V.ref (s.heap.objs.size + 1), H', I3, rfl, q3 _ _ (got_d R3 ?_)⟩⟩
        simp only [VR]
        exact ⟨_, rfl, E3.mu _ _ (by rw [← R.mu, List.getElem?_append_right (Nat.le_refl _)]; simp)⟩
      | fl _ => exact q3.elim
      | fd _ _ => exact q3.elim
    | next => exact False.elim hq'
    | brk => exact False.elim hq'
    | cont => exact False.elim hq'
theorem se_new {f : Str} {p : Pos} (ok : XOk g n N sc X) (tk : Takes X W) (hg : Gl X f) (hd : (f == ("__debug__" : Str)) = false) (hdef : (g.defs (f, some "__init__")).isSome = true) (hp : g.p.prop f "__init__" = false) (hs : notStars (a :: es) = true) (ha : PA X (a :: es) (TA_ g n X W ms)) :
    PE X (.Call (.Name f p) (a :: es) [] pos) (TE_ g n X W (.new f ms)) := by
  refine ⟨fun pins s σ H Q I ⟨O, μ, env, st, R, q⟩ => ?_⟩
  simp only [evE] at q
  obtain ⟨d, hd'⟩ := Option.isSome_iff_exists.mp hdef
  obtain ⟨cl, m1, _⟩ := (ok.calls (f, some "__init__") d hd').me "__init__" rfl
  obtain ⟨M, hm⟩ := m1 rfl
  refine wpAny_Call_Name_kw (ld_glob I hg hm ?_ hd)
  simp only [notStars, Bool.and_eq_true] at hs
  refine PySem.W.callWith_K (h₀ := X.base) I.ok.mod.kin M.kp (thn (ha.run pos pins s σ H _ I ⟨O, μ, env, st, R, post_bind VRs q⟩) fun us s1 ⟨vs, H1, I1, r, q1⟩ => ⟨I1.kIn, ?_⟩) (starT hs.1) (stars_any hs.2)
  obtain ⟨O1, μ1, st1, ds, R1, E1, r1, q1⟩ := q1
  exact new_run ok tk I1 r R1 r1 hdef hp q1
theorem se_new0 {f : Str} {p : Pos} (ok : XOk g n N sc X) (tk : Takes X W) (hg : Gl X f) (hd : (f == ("__debug__" : Str)) = false) (hdef : (g.defs (f, some "__init__")).isSome = true) (hp : g.p.prop f "__init__" = false) :
    PE X (.Call (.Name f p) [] [] pos) (TE_ g n X W (.new f .nil)) := by
  refine ⟨fun pins s σ H Q I ⟨O, μ, env, st, R, q⟩ => ?_⟩
  simp only [evE, evEs] at q
  obtain ⟨d, hd'⟩ := Option.isSome_iff_exists.mp hdef
  obtain ⟨cl, m1, _⟩ := (ok.calls (f, some "__init__") d hd').me "__init__" rfl
  obtain ⟨M, hm⟩ := m1 rfl
  refine wpAny_Call_Name_kw (ld_glob I hg hm ?_ hd)
  exact PySem.W.callWith_K0 I.kIn M.kp (new_run (us := []) (vs := []) ok tk I .nil R VRs.nil hdef hp q)

/-! ### len, repr, str of an instance -/
theorem len_run {x C f : Addr} {ox : Obj} {od : Option Obj} {A : Around} {E : Value → Shared → Prop} {s : Shared} {Q : Value → Shared → Prop} (Xk : X.K.In s.heap) (I : PySem.W.InstAt s.heap x ox C od) (hs : PySem.W.findIn X.K (.ref C) "__len__" = some (some (.ref f))) (hf : PySem.W.isFn X.K (.ref f) = true)
    (h : wpAny (model X.prog X.w) A.in1 (call (.ref f) [.ref x]) (PySem.W.LenBack Q) E s) : wpAny (model X.prog X.w) A (call (.builtin "len") [.ref x]) Q E s := by
  refine Calls.call_function_entry kind_len plain_len entry_len (args_len1 _) ?_
  unfold Builtin.«len»
  refine wpAny_bind (m := oneArg "len" _) (wpAny_pure ?_)
  refine wpAny_bind (m := callSpecial? (.ref x) (Str.ofString "__len__")) (PySem.W.special_fn Xk I hs (beq_iff_eq.mp hf) (wpAny_mono h (fun r s' hr => ?_) fun _ _ y => y))
  cases r <;> first | exact hr.elim | skip
  rename_i n u
  obtain ⟨⟨h0, h1⟩, hq⟩ := hr
  refine wpAny_bind (wpAny_holding (wpAny_pure ?_))
  refine wpAny_bind (wpAny_letGo ?_)
  show wpAny _ _ (if n < 0 then _ else _) _ _ _
  rw [if_neg (by omega)]
  show wpAny _ _ (if n ≥ 2 ^ 63 then _ else _) _ _ _
  rw [if_neg (by omega)]
  exact wpAny_bind (wpAny_mkInt (wpAny_pure ⟨_, rfl, hq⟩))
theorem repr_run {x C f : Addr} {ox : Obj} {od : Option Obj} {A : Around} {E : Value → Shared → Prop} {s : Shared} {Q : Value → Shared → Prop} (hu : A.in1.units < cLine) (Xk : X.K.In s.heap) (I : PySem.W.InstAt s.heap x ox C od) (hs : PySem.W.findIn X.K (.ref C) "__repr__" = some (some (.ref f))) (hf : PySem.W.isFn X.K (.ref f) = true)
    (h : wpAny (model X.prog X.w) A.in1 (call (.ref f) [.ref x]) (PySem.W.StrBack Q) E s) : wpAny (model X.prog X.w) A (call (.builtin "repr") [.ref x]) Q E s := by
  refine Calls.call_function_entry PySem.F.kind_repr PySem.F.plain_repr PySem.F.entry_repr (PySem.F.args_repr1 _) ?_
  unfold Builtin.«repr»
  refine wpAny_bind (m := oneArg "repr" _) (wpAny_pure ?_)
  refine wpAny_bind (wpAny_cRoomFor hu ?_)
  refine wpAny_bind (wpAny_bind (I.type.here ((PySem.W.looks_findIn Xk hs).here ?_)))
  show wpAny _ _ (if (some (Value.ref f)).isNone = true then _ else _) _ _ _
  rw [if_neg (by simp)]
  refine wpAny_bind (m := callSpecialIfBound? (.ref x) (Str.ofString "__repr__") _) (PySem.W.ifBound_K Xk I hs hf (wpAny_mono h (fun r s' hr => ?_) fun _ _ y => y))
  cases r <;> first | exact hr.elim | skip
  refine wpAny_bind (wpAny_isInstance (typeIs_str _ _ _) isSubtype_str_str ?_)
  first
    | exact wpAny_pure ⟨_, rfl, hr⟩
    | (rw [if_pos rfl]; exact wpAny_pure ⟨_, rfl, hr⟩)
    | (simp only [if_true]; exact wpAny_pure ⟨_, rfl, hr⟩)
/-- an instance for the special names -/
theorem inst_at {pins : List (Addr × Obj)} {s : Shared} {x C dx : Addr} {fs : List (Str × V)} (I : Inv X pins σ H s) (e : H x = some (.ins C dx fs)) : ∃ ox od, PySem.W.InstAt s.heap x ox C od := by
  obtain ⟨mA, O', _, _, _, _⟩ := ins_get I.hok e
  obtain ⟨od, J, _⟩ := O'.look
  exact ⟨_, _, J⟩
/-- what a built-in function's call does, where what is raised is wished for at the slots -/
def CallS (X : Cx) (f : Value) (r : L2.St → List V → Hp → VK → Prop) : Prop :=
  ∀ (pins : List (Addr × Obj)) (s : Shared) (σ : L2.St) (H : Hp) (xs : List V) (us : List Value) (Q : VK), Inv X pins σ H s → Vals xs us → r σ xs H Q → wpAny (model X.prog X.w) X.A (call f us) (EP X pins σ Q) X.xe s
def SBif (g : Pg) (n : Nat) (X : Cx) (W : WX) (f : Bif) : L2.St → List V → Hp → VK → Prop := fun σ vs H Q => ∃ O μ env st ds, StR X.K g.T O μ env st σ H ∧ VRs O μ H ds vs ∧ Post RVR X.K g.T O μ H env σ W (bifR g.p (g.C n) f ds st) Q
/-- with plain data -/
def SBifD (g : Pg) (X : Cx) (f : Bif) : List V → Hp → VK → Prop := fun vs H Q => ∃ O μ env st σ0 ds rv, StR X.K g.T O μ env st σ0 H ∧ VRs O μ H ds vs ∧ bifD st f ds = some rv ∧ ∀ v H', Got RVR X.K g.T O μ H env σ0 st rv v H' → Q v H'
theorem spc_of {c : Str} {x : D} {ds : List D} (h : spcAt st ds = some (c, x)) : ∃ j fs, ds = [.loc j] ∧ x = .loc j ∧ st[j]? = some (.ins c fs) := by
  unfold spcAt at h
  split at h
  · split at h
    · cases h
      exact ⟨_, _, rfl, rfl, by assumption⟩
    · cases h
  · cases h
def bifId : Bif → String
  | .len => "len"
  | .int => "int"
  | .str => "str"
  | .repr => "repr"
  | .abs => "abs"
  | .divmod => "divmod"
  | .max => "max"
  | .min => "min"
  | .tuple => "tuple"
  | .list => "list"
  | .sorted => "sorted"
  | .all => "all"
  | .any => "any"
def bifTy : Bif → Bool
  | .int => true
  | .str => true
  | .tuple => true
  | .list => true
  | _ => false
def bifV (f : Bif) : Value := if bifTy f then .type (bifId f) else .builtin (bifId f)
theorem len_back {v : V} {u : Value} {s' : Shared} {pins : List (Addr × Obj)} {Q : VK} {H' : Hp} (I : Inv X pins σ H' s') (r : RelV v u) {k : Int} (e : v = .int k) (h0 : 0 ≤ k ∧ k < 1000000) (q : Q v H') : PySem.W.LenBack (fun w s => EP X pins σ Q w s) u s' := by
  subst e
  obtain ⟨t, rfl⟩ := r
  exact ⟨⟨h0.1, by omega⟩, .int k, H', I.tok _, ⟨_, rfl⟩, q⟩
theorem callS_bif {f : Bif} (ok : XOk g n N sc X) (tk : Takes X W) (h : CallR X (bifV f) (SBifD g X f)) : CallS X (bifV f) (SBif g n X W f) := by
  intro pins s σ H xs us Q I rv ⟨O, μ, env, st, ds, R, r, q⟩
  unfold bifR at q
  split at q
  · rename_i c x hs
    obtain ⟨j, fs, rfl, rfl, ej⟩ := spc_of hs
    simp only [VRs] at r
    obtain ⟨v, r0, rfl, r1, rfl⟩ := r
    obtain ⟨u, rfl, ru⟩ := vals1 rv
    obtain ⟨ad, rfl, k1, k2, dx, fs', k3, k4⟩ := obj_at R r1 ej
    cases ru
    obtain ⟨ox, od, J⟩ := inst_at I k3
    have rl : RelV (.ref ad) (Value.ref ad) := rfl
    cases f <;> first | exact q.elim | skip
    all_goals simp only [spcOf] at q
    all_goals split at q <;> first | exact q.elim | skip
    all_goals rename_i hm
    all_goals obtain ⟨hdef, hc2, hc3⟩ := ok.mth c _ hm
    all_goals obtain ⟨d, hd⟩ := Option.isSome_iff_exists.mp hdef
    all_goals obtain ⟨cl, _, _, m3⟩ := (ok.calls (c, some _) d hd).me _ rfl
    all_goals have hme := m3 hc3 hc2
    all_goals have q1 := post_eq RVR q
    all_goals have hu := ok.room.un
    · refine len_run I.kIn J hme.at_ hme.fn (wpAny_mono (call_run ok tk (ok.room.mono (j := 4 * n + 1) (by omega)).in1 I.env0.in1 I (.cons rl .nil) R (VRs.cons r1 VRs.nil) q1) (fun w s' hw => ?_) fun _ _ y => y)
      obtain ⟨v, H', I', rw', O1, μ1, st1, rv1, e1, R1, E1, r3, q3⟩ := hw
      split at q3
      · rename_i hok
        cases rv1 with
        | d dv =>
          cases dv <;> first | (simp [spcOk] at hok; done) | skip
          simp only [spcOk, decide_eq_true_eq] at hok
          exact len_back I' rw' r3 hok (q3 _ _ (got_d R1 r3))
        | fl _ => simp [spcOk] at hok
        | fd _ _ => simp [spcOk] at hok
      · exact q3.elim
    · refine PySem.W.kso_call (show X.A.units + 1 + 1 < cLine by omega) I.kIn J hme.at_ hme.fn (wpAny_mono (call_run ok tk (ok.room.mono (j := 4 * n + 2) (by omega)).in1.in1 I.env0.in1.in1 I (.cons rl .nil) R (VRs.cons r1 VRs.nil) q1) (fun w s' hw => ?_) fun _ _ y => y)
      obtain ⟨v, H', I', rw', O1, μ1, st1, rv1, e1, R1, E1, r3, q3⟩ := hw
      split at q3
      · rename_i hok
        cases rv1 with
        | d dv =>
          cases dv <;> first | (simp [spcOk] at hok; done) | skip
          have hq := q3 _ _ (got_d R1 r3)
          cases r3
          obtain ⟨t, rfl⟩ := rw'
          exact ⟨.str _, H', I', ⟨t, rfl⟩, hq⟩
        | fl _ => simp [spcOk] at hok
        | fd _ _ => simp [spcOk] at hok
      · exact q3.elim
    · refine repr_run (show X.A.units + 1 < cLine by omega) I.kIn J hme.at_ hme.fn (wpAny_mono (call_run ok tk (ok.room.mono (j := 4 * n + 1) (by omega)).in1 I.env0.in1 I (.cons rl .nil) R (VRs.cons r1 VRs.nil) q1) (fun w s' hw => ?_) fun _ _ y => y)
      obtain ⟨v, H', I', rw', O1, μ1, st1, rv1, e1, R1, E1, r3, q3⟩ := hw
      split at q3
      · rename_i hok
        cases rv1 with
        | d dv =>
          cases dv <;> first | (simp [spcOk] at hok; done) | skip
          have hq := q3 _ _ (got_d R1 r3)
          cases r3
          obtain ⟨t, rfl⟩ := rw'
          exact ⟨.str _, H', I', ⟨t, rfl⟩, hq⟩
        | fl _ => simp [spcOk] at hok
        | fd _ _ => simp [spcOk] at hok
      · exact q3.elim
  · obtain ⟨rv', e, q2⟩ := post_opt q
    exact h pins s σ H xs us Q I rv ⟨O, μ, env, st, σ, ds, rv', R, r, e, q2⟩
theorem se_bif {f : Bif} {x : Str} {p : Pos} (ok : XOk g n N sc X) (tk : Takes X W) (h : CallR X (bifV f) (SBifD g X f)) (hx : x = Str.ofString (bifId f)) (hg : Gl X x) (hm : X.mg x = none) (hs : notStars (a :: es) = true) (ha : PA X (a :: es) (TA_ g n X W ms)) :
    PE X (.Call (.Name x p) (a :: es) [] pos) (TE_ g n X W (.bif f ms)) := by
  refine ⟨fun pins s σ H Q I ⟨O, μ, env, st, R, q⟩ => ?_⟩
  simp only [evE] at q
  simp only [notStars, Bool.and_eq_true] at hs
  have hv : bootBuiltins x = some (bifV f) := by subst hx; cases f <;> kernel_rfl
  have hn : x ≠ "__name__" := by subst hx; cases f <;> decide
  have hdb : (x == ("__debug__" : Str)) = false := by subst hx; cases f <;> decide
  have run : ∀ {s1 : Shared} {H1 : Hp} {us : List Value} {vs : List V}, Inv X pins σ H1 s1 → Vals vs us → Rest RVR VRs X.K g.T O μ H env σ W (fun ds st => bifR g.p (g.C n) f ds st) Q vs H1 → wpAny (model X.prog X.w) X.A (call (bifV f) us) (EP X pins σ Q) X.xe s1 := by
    intro s1 H1 us vs I1 r ⟨O1, μ1, st1, ds, R1, E1, r1, q1⟩
    exact callS_bif ok tk h pins s1 σ H1 vs us Q I1 r ⟨O1, μ1, env, st1, ds, R1, r1, q1⟩
  refine wpAny_Call_Name_kw (ld_blt I hg hm hv ?_ hn hdb)
  have hA := ha.run pos pins s σ H _ I ⟨O, μ, env, st, R, post_bind VRs q⟩
  unfold bifV at run ⊢
  split
  · rename_i ht
    rw [if_pos ht] at run
    exact PyProof.Rows.callWith_type1 (thn hA fun us s1 ⟨vs, H1, I1, r1, q1⟩ => run I1 r1 q1) (starT hs.1) (stars_any hs.2)
  · rename_i ht
    rw [if_neg ht] at run
    exact PyProof.Rows.callWith_builtin1 (thn hA fun us s1 ⟨vs, H1, I1, r1, q1⟩ => run I1 r1 q1) (starT hs.1) (stars_any hs.2)
end
end Mn
end

section
set_option Elab.async false
set_option linter.all false
set_option maxRecDepth 100000
set_option maxHeartbeats 2000000
/-! Mini: built-in functions on data. -/
namespace Mn
open PySem L2 PySem.Spec PyProof.Rows
section
variable {g : Pg} {n : Nat} {X : Cx}
variable {K : Frag} {T : List (Addr × Str)} {O : Own} {μ : List Addr} {H : Hp} {env : Env} {st : Store} {σ : L2.St}
theorem vrs1 {d : D} {vs : List V} (r : VRs O μ H [d] vs) : ∃ v, vs = [v] ∧ VR O μ H d v := by
  simp only [VRs] at r
  obtain ⟨v, r0, rfl, r1, rfl⟩ := r
  exact ⟨v, rfl, r1⟩
theorem vrs2 {d e : D} {vs : List V} (r : VRs O μ H [d, e] vs) : ∃ v u, vs = [v, u] ∧ VR O μ H d v ∧ VR O μ H e u := by
  simp only [VRs] at r
  obtain ⟨v, r0, rfl, r1, u, r2, rfl, r3, rfl⟩ := r
  exact ⟨v, u, rfl, r1, r3⟩
/-- a list or a tuple that is read -/
theorem seq_sq {d : D} {v : V} {xs : List D} {T : List (Addr × Str)} (R : StR K T O μ env st σ H) (h : VR O μ H d v) (e : seqOf st d = some xs) : ∃ a vs, v = .ref a ∧ VRs O μ H xs vs ∧ ((SqT K H a vs ∧ ∃ ys, d = .tup ys) ∨ (SqL K H a vs ∧ ∀ ys, d ≠ .tup ys)) := by
  obtain ⟨a, vs, h1, h2, h3⟩ := seq_at R h e
  refine ⟨a, vs, h1, h2, ?_⟩
  rcases h3 with ⟨ys, e1, kt⟩ | ⟨e1, kl, _⟩
  · exact .inl ⟨.inl (.inl kt), ys, e1⟩
  · exact .inr ⟨.inl kl, e1⟩
theorem cb_len : CallR X (.builtin "len") (SBifD g X .len) := by
  intro pins s σ H xs us Q I rv ⟨O, μ, env, st, σ0, ds, out, R, r, e, q⟩
  simp only [bifD, lenD] at e
  split at e <;> first | cases e | skip
  · rename_i z hn
    split at e <;> first | cases e | skip
    rename_i hz
    obtain ⟨v, rfl, rfl⟩ := vrs1 r
    exact call_len_str pins s σ H _ us Q I rv ⟨_, rfl, le_line hz, q _ _ (got_d R rfl)⟩
  · rename_i d hn
    obtain ⟨v, rfl, r1⟩ := vrs1 r
    cases es : seqOf st d with
    | none => rw [es] at e; cases e
    | some xs =>
      rw [es] at e
      cases e
      obtain ⟨a, vs, rfl, h2, h3⟩ := seq_sq R r1 es
      refine call_len_seq pins s σ H _ us Q I rv ⟨a, vs, rfl, ?_, by rw [← h2.length]; exact q _ _ (got_d R rfl)⟩
      rcases h3 with ⟨h, _⟩ | ⟨h, _⟩
      · exact .inr h
      · exact .inl h
theorem cb_int : CallR X (.type "int") (SBifD g X .int) := by
  intro pins s σ H xs us Q I rv ⟨O, μ, env, st, σ0, ds, out, R, r, e, q⟩
  simp only [bifD, intD] at e
  split at e <;> first | cases e | skip
  · obtain ⟨v, rfl, rfl⟩ := vrs1 r
    exact call_int1 pins s σ H _ us Q I rv (.inl ⟨_, rfl, q _ _ (got_d R rfl)⟩)
  · obtain ⟨v, rfl, rfl⟩ := vrs1 r
    exact call_int1 pins s σ H _ us Q I rv (.inr ⟨_, rfl, q _ _ (got_d R rfl)⟩)
  · split at e <;> first | cases e | skip
    rename_i hz
    obtain ⟨v, rfl, rfl⟩ := vrs1 r
    cases et : intText? _ with
    | none => rw [et] at e; cases e
    | some i =>
      rw [et] at e
      cases e
      exact call_int_str pins s σ H _ us Q I rv ⟨_, i, rfl, et, hz, q _ _ (got_d R rfl)⟩
theorem log_lt {i : Int} (h : i.natAbs < 2 ^ 1900) : i.natAbs.log2 < 1920 := by
  by_cases h0 : i.natAbs = 0
  · rw [h0]; decide
  · have := (Nat.log2_lt h0).mpr h
    omega
theorem cb_str : CallR X (.type "str") (SBifD g X .str) := by
  intro pins s σ H xs us Q I rv ⟨O, μ, env, st, σ0, ds, out, R, r, e, q⟩
  simp only [bifD, strD] at e
  split at e <;> first | cases e | skip
  · split at e <;> first | cases e | skip
    rename_i hz
    obtain ⟨v, rfl, rfl⟩ := vrs1 r
    exact call_str_int pins s σ H _ us Q I rv ⟨_, rfl, log_lt hz, q _ _ (got_d R rfl)⟩
  · obtain ⟨v, rfl, rfl⟩ := vrs1 r
    exact SkE.call_str_str pins s σ H _ us Q I rv ⟨_, rfl, q _ _ (got_d R rfl)⟩
theorem cb_abs : CallR X (.builtin "abs") (SBifD g X .abs) := by
  intro pins s σ H xs us Q I rv ⟨O, μ, env, st, σ0, ds, out, R, r, e, q⟩
  simp only [bifD, absD] at e
  split at e <;> first | cases e | skip
  · obtain ⟨v, rfl, rfl⟩ := vrs1 r
    exact call_abs pins s σ H _ us Q I rv ⟨_, rfl, q _ _ (got_d R rfl)⟩
theorem cb_divmod : CallR X (.builtin "divmod") (SBifD g X .divmod) := by
  intro pins s σ H xs us Q I rv ⟨O, μ, env, st, σ0, ds, out, R, r, e, q⟩
  simp only [bifD, dmD] at e
  split at e <;> first | cases e | skip
  · split at e <;> first | cases e | skip
    rename_i hz
    obtain ⟨v, u, rfl, rfl, rfl⟩ := vrs2 r
    refine call_divmod pins s σ H _ us Q I rv ⟨_, _, rfl, hz, fun p hp => q _ _ (got_tup R ?_ hp)⟩
    exact VRs.cons rfl (VRs.cons rfl VRs.nil)
theorem cb_max (hc : X.calm = true) : CallR X (.builtin "max") (SBifD g X .max) := by
  intro pins s σ H xs us Q I rv ⟨O, μ, env, st, σ0, ds, out, R, r, e, q⟩
  simp only [bifD, maxD] at e
  split at e <;> first | cases e | skip
  · obtain ⟨v, u, rfl, rfl, rfl⟩ := vrs2 r
    exact call_max2 hc pins s σ H _ us Q I rv ⟨_, _, rfl, q _ _ (got_d R rfl)⟩
theorem cb_min (hc : X.calm = true) : CallR X (.builtin "min") (SBifD g X .min) := by
  intro pins s σ H xs us Q I rv ⟨O, μ, env, st, σ0, ds, out, R, r, e, q⟩
  simp only [bifD, minD] at e
  split at e <;> first | cases e | skip
  · obtain ⟨v, u, rfl, rfl, rfl⟩ := vrs2 r
    exact call_min2 hc pins s σ H _ us Q I rv ⟨_, _, rfl, q _ _ (got_d R rfl)⟩
theorem cb_tuple : CallR X (.type "tuple") (SBifD g X .tuple) := by
  intro pins s σ H xs us Q I rv ⟨O, μ, env, st, σ0, ds, out, R, r, e, q⟩
  simp only [bifD, tupD] at e
  split at e <;> first | cases e | skip
  · rename_i d hn
    obtain ⟨v, rfl, r1⟩ := vrs1 r
    cases es : seqOf st _ with
    | none => rw [es] at e; cases e
    | some xs =>
      rw [es] at e
      cases e
      obtain ⟨a, vs, rfl, h2, h3⟩ := seq_sq R r1 es
      refine call_tuple_of pins s σ H _ us Q I rv ⟨a, vs, rfl, ?_⟩
      rcases h3 with ⟨h, ys, rfl⟩ | ⟨h, _⟩
      · cases es
        exact .inr ⟨h, q _ _ (got_d R r1)⟩
      · exact .inl ⟨h, fun l hl => q _ _ (got_tup R h2 hl)⟩
theorem cb_list : CallR X (.type "list") (SBifD g X .list) := by
  intro pins s σ H xs us Q I rv ⟨O, μ, env, st, σ0, ds, out, R, r, e, q⟩
  simp only [bifD, lstD] at e
  split at e <;> first | cases e | skip
  · rename_i d hn
    obtain ⟨v, rfl, r1⟩ := vrs1 r
    cases es : seqOf st _ with
    | none => rw [es] at e; cases e
    | some xs =>
      rw [es] at e
      cases e
      obtain ⟨a, vs, rfl, h2, h3⟩ := seq_sq R r1 es
      refine call_list_of pins s σ H _ us Q I rv ⟨a, vs, rfl, ?_, fun l hl => q _ _ (got_fl R h2 hl)⟩
      rcases h3 with ⟨h, _⟩ | ⟨h, _⟩
      · exact .inr h
      · exact .inl h
/-- bools -/
theorem bls_of : ∀ {xs : List D} {vs : List V}, VRs O μ H xs vs → xs.all isBl = true → ∃ bs : List Bool, vs = bs.map V.bl ∧ xs = bs.map D.bl
  | [], vs, r, _ => ⟨[], by simp only [VRs] at r; exact r, rfl⟩
  | x :: xs, vs, r, h => by
    simp only [VRs] at r
    obtain ⟨v, r0, rfl, r1, r2⟩ := r
    rw [List.all_cons, Bool.and_eq_true] at h
    obtain ⟨bs, e1, e2⟩ := bls_of r2 h.2
    cases x <;> first | (simp [isBl] at h; done) | skip
    cases r1
    exact ⟨_ :: bs, by rw [e1]; rfl, by rw [e2]; rfl⟩
theorem bl_all (bs : List Bool) : (bs.map D.bl).all (fun x => decide (x = D.bl true)) = bs.all id := by
  induction bs with
  | nil => rfl
  | cons b bs ih => rw [List.map_cons, List.all_cons, List.all_cons, ih]; cases b <;> rfl
theorem bl_any (bs : List Bool) : (bs.map D.bl).any (fun x => decide (x = D.bl true)) = bs.any id := by
  induction bs with
  | nil => rfl
  | cons b bs ih => rw [List.map_cons, List.any_cons, List.any_cons, ih]; cases b <;> rfl
theorem cb_all (hc : X.calm = true) : CallR X (.builtin "all") (SBifD g X .all) := by
  intro pins s σ H xs us Q I rv ⟨O, μ, env, st, σ0, ds, out, R, r, e, q⟩
  simp only [bifD, allD] at e
  split at e <;> first | cases e | skip
  rename_i d
  obtain ⟨v, rfl, r1⟩ := vrs1 r
  split at e <;> first | cases e | skip
  rename_i hl
  cases es : seqOf st d with
  | none => rw [es] at e; cases e
  | some xs =>
    rw [es] at e
    simp only [Option.bind_some] at e
    split at e <;> first | cases e | skip
    rename_i hb
    obtain ⟨a, vs, rfl, h2, h3⟩ := seq_sq R r1 es
    obtain ⟨bs, rfl, rfl⟩ := bls_of h2 hb
    rw [bl_all] at q
    rcases h3 with ⟨h, ys, rfl⟩ | ⟨h, _⟩
    · simp [isL] at hl
    · exact cr_all hc pins s σ H _ us Q I rv ⟨a, bs, rfl, h, q _ _ (got_d R rfl)⟩
theorem cb_any (hc : X.calm = true) : CallR X (.builtin "any") (SBifD g X .any) := by
  intro pins s σ H xs us Q I rv ⟨O, μ, env, st, σ0, ds, out, R, r, e, q⟩
  simp only [bifD, anyD] at e
  split at e <;> first | cases e | skip
  rename_i d
  obtain ⟨v, rfl, r1⟩ := vrs1 r
  split at e <;> first | cases e | skip
  rename_i hl
  cases es : seqOf st d with
  | none => rw [es] at e; cases e
  | some xs =>
    rw [es] at e
    simp only [Option.bind_some] at e
    split at e <;> first | cases e | skip
    rename_i hb
    obtain ⟨a, vs, rfl, h2, h3⟩ := seq_sq R r1 es
    obtain ⟨bs, rfl, rfl⟩ := bls_of h2 hb
    rw [bl_any] at q
    rcases h3 with ⟨h, ys, rfl⟩ | ⟨h, _⟩
    · simp [isL] at hl
    · exact cr_any hc pins s σ H _ us Q I rv ⟨a, bs, rfl, h, q _ _ (got_d R rfl)⟩
end
end Mn
end

section
set_option Elab.async false
set_option linter.all false
set_option maxRecDepth 100000
set_option maxHeartbeats 2000000
/-! Mini: what the layer lacks of iterators: items of a dict with tuple keys, enumerate of a tuple. -/
namespace Mn
open PySem L2 PySem.Spec PyProof.Rows
section
variable {X : Cx} {pins : List (Addr × Obj)} {σ : L2.St} {H : Hp} {s : Shared} {d : Addr} {o : Obj}
theorem frzT2 {kvs : List (List Key × V)} (I : Inv X pins σ H s) (h : H d = some (.frz o (.dT kvs))) :
    (d == sysModules) = false ∧ s.heap.get? d = some o ∧ o.ExactDict ∧ ∃ (es : Array DictEntry) (ep : Nat), o.data = .dict es ep ∧ es.size = kvs.length ∧
      ∀ (i : Nat) (k : List Key) (v : V), kvs[i]? = some (k, v) → ∃ (en : DictEntry) (q : Addr), es[i]? = some en ∧ en.key = .ref q ∧ H q = some (.tup (k.map kV)) ∧ RelV v en.val := by
  obtain ⟨hd, z, hs, xs, pr, o', es, ep, ho, hx, hdt, he, _⟩ := I.hok d _ h
  rw [hd] at ho
  cases ho
  refine ⟨hs, hd, hx, es, ep, hdt, ?_, fun i k v e => ?_⟩
  · have l1 : es.size = xs.length := size_of_entries he
    have l2 : kvs.length = xs.length := Paired.length pr
    omega
  · obtain ⟨b, hb, e1, e2, e3⟩ := paired_get pr e
    have q := entry_at he i
    rw [hb] at q
    exact ⟨_, b.2.1, q, rfl, e2, e3⟩
end
/-- the pairs of a dict with tuple keys, each a new tuple -/
def ItiT (d : Addr) (o : Obj) (kvs : List (List Key × V)) : L2.It :=
  ⟨fun i H => H d = some (.frz o (.dT kvs)) ∧ i < kvs.length, fun i H x H' => ∃ T k v q, kvs[i]? = some (k, v) ∧ x = .ref T ∧ H T = none ∧ H q = some (.tup (k.map kV)) ∧ H' = upd H T (.tup [.ref q, v]), fun i H => H d = some (.frz o (.dT kvs)) ∧ kvs.length ≤ i⟩
theorem turn_itemsT {P : Program} {w : World} {K : PySem.W.Frag} {d : Addr} {o : Obj} {es : Array DictEntry} {ep : Nat} {kvs : List (List Key × V)} {elts : List Expr} {kk : Nat} {tpos : Pos} (it : Addr) (hod : o.data = .dict es ep) :
    Turn P w K (.Tuple elts kk tpos) (ItiT d o kvs) [it] it (fun i h => ∃ ok ov, IsItemIter h it d i kvs.length ep ok ov) where
  mem := by simp
  obj := fun i h st b hb => by
    have e : b = it := by simpa using hb
    subst e
    obtain ⟨ok, ov, e⟩ := st
    exact ⟨_, e, fun v z => nomatch z⟩
  keep := fun i h h' st k => let ⟨ok, ov, e⟩ := st; ⟨ok, ov, k it (by simp) _ e⟩
  item := by
    intro X hP hw hK hc i pins s σ H E I hf st hg
    subst hP hw hK
    obtain ⟨hd, hi⟩ := hg
    obtain ⟨hs, hgd, hx, es', ep', hdt, hsz, ent⟩ := frzT2 I hd
    obtain ⟨rfl, rfl⟩ := dict_ep hod hdt
    obtain ⟨⟨k, v⟩, hkv⟩ : ∃ p, kvs[i]? = some p := ⟨kvs[i], List.getElem?_eq_getElem hi⟩
    obtain ⟨en, q, hen, hkey, hq, hv⟩ := ent i k v hkv
    obtain ⟨ok, ov, he⟩ := st
    rw [← hsz] at he hi
    have hlt : it < s.heap.objs.size := Heap.lt_size he
    have hee : es'[i] = en := by
      rw [Array.getElem?_eq_getElem hi] at hen
      exact Option.some.inj hen
    refine DT.nextI he ⟨o, hgd, hx, hdt⟩ hi fun h' ho hT hz hk => ?_
    refine ⟨_, rfl, wpAny_letOwnedTupleGo_items (s := { s with heap := h' }) ho fun h'' he' sb => ?_⟩
    rw [hee] at hT
    have hT2 : h''.get? s.heap.objs.size = some { cls := .type "tuple", data := .seq #[en.key, en.val] } := (sb.2 _ (Nat.ne_of_gt hlt)).trans hT
    have new : ObjOk X.prog X.w (upd H s.heap.objs.size (.tup [.ref q, v])) h'' s.heap.objs.size (.tup [.ref q, v]) :=
      ⟨by show 2 ≤ sizeLine; decide, [en.key, en.val], .cons hkey (.cons hv .nil), ⟨_, hT2, rfl, _, rfl⟩⟩
    have I1 : Inv X pins σ (upd H s.heap.objs.size (.tup [.ref q, v])) { s with heap := h'' } :=
      I.turnedNew (t' := s.toks) (ch := [it]) (fun b ob hb e => (sb.2 b (by simpa using hb)).trans (hk b ob (by simpa using hb) e)) hf (Nat.le_refl _) new
    refine ⟨.ref s.heap.objs.size, _, I1, rfl, ⟨_, k, v, q, hkv, rfl, I.hok.fresh (Nat.le_refl _), hq, rfl⟩, ⟨es'[i].key, es'[i].val, ?_⟩, fun b hb => ?_⟩
    · rw [← hsz]; exact he'
    · have e : b = it := by simpa using hb
      rw [e, upd_ne (Nat.ne_of_lt hlt)]
      exact (hf it (by simp)).1
  done := by
    intro X hP hw hK hc i pins s σ H E I hf st hg
    subst hP hw hK
    obtain ⟨hd, hi⟩ := hg
    obtain ⟨f0, f1, f2, f3, f4, f5⟩ := hf it (by simp)
    obtain ⟨hs, hgd, hx, es', ep', hdt, hsz, ent⟩ := frzT2 I hd
    obtain ⟨rfl, rfl⟩ := dict_ep hod hdt
    obtain ⟨ok, ov, he⟩ := st
    rw [← hsz] at he hi
    exact wpAny_pyNext_items_end_raw (I.ok.hd hc) he ⟨o, hgd, hx, hdt⟩ hi fun h' eb => ⟨rfl, I.turned (t' := s.toks) (fun b ob hb e => eb b ob hb e) f0 f1 f3 f4 f5⟩
  self := fun A i s Q E st h => let ⟨_, _, e⟩ := st; PySem.W.kcp_self e h
/-! ### enumerate of a tuple -/
def IteT (K : Frag) (a : Addr) : L2.It :=
  ⟨fun i H => ∃ (xs : List V) (x : V), SqT K H a xs ∧ xs[i]? = some x, fun i H v H' => ∃ T x, v = .ref T ∧ H T = none ∧ H' = upd H T (.tup [.int (i : Nat), x]) ∧ ∀ xs, SqT K H a xs → xs[i]? = some x, fun i H => ∃ xs : List V, SqT K H a xs ∧ xs.length ≤ i⟩
theorem turn_enumT {P : Program} {w : World} {K : Frag} {elts : List Expr} {kk : Nat} {tpos : Pos} (a e it : Addr) (hae : a ≠ e) (hai : a ≠ it) :
    Turn P w K (.Tuple elts kk tpos) (IteT K a) [e, it] e (fun i h => (∃ old, IsEnum h e it ((i : Nat) : Int) old) ∧ h.IsTupleIter it a i ∧ e ≠ it) where
  mem := by simp
  obj := fun i h st b hb => by
    obtain ⟨⟨old, he⟩, ⟨o, ho, hc, hd⟩, _⟩ := st
    have e' : b = e ∨ b = it := by simpa using hb
    rcases e' with z | z
    · rw [z]; exact ⟨_, he, fun v q => nomatch q⟩
    · rw [z]; exact ⟨o, ho, fun v q => by rw [hd] at q; cases q⟩
  keep := fun i h h' st k => let ⟨⟨old, he⟩, hi, hne⟩ := st; ⟨⟨old, k e (by simp) _ he⟩, hi.at fun o q => k it (by simp) o q, hne⟩
  item := by
    intro X hP hw hK hc i pins s σ H E I hf st hg
    subst hP hw hK
    obtain ⟨⟨old, he⟩, hit, hne⟩ := st
    obtain ⟨xs, x, hq, hx⟩ := hg
    obtain ⟨its, rv, p, hz⟩ := I.tuple hq
    obtain ⟨u, hu, ru⟩ := rv.get hx
    have hel : e < s.heap.objs.size := Heap.lt_size he
    have hil : it < s.heap.objs.size := by obtain ⟨_, q, _⟩ := hit; exact Heap.lt_size q
    have hlt : i < its.toArray.size := by
      have := (List.getElem?_eq_some_iff.mp hu).1
      simpa using this
    refine wpAny_pyNext_enum_itemD (fp := [it, a]) (Draws.tuple (show X.A.in1.handled = none from I.ok.hd hc) it a hai its.toArray) he ⟨hit, p⟩ hlt hne (by simp [hne, Ne.symm hae]) fun y h' tk hP ho hit' hT hsz hk => ?_
    have ey : y = u := by
      have e1 : its.toArray[i]? = some y := hP
      have e2 : its.toArray[i]? = some u := by simpa using hu
      rw [e1] at e2
      exact Option.some.inj e2
    subst ey
    refine ⟨_, rfl, wpAny_letOwnedTupleGo_enum (s := { s with heap := h', toks := tk + 1 }) ho fun h'' he' sb => ?_⟩
    have hT2 : h''.get? s.heap.objs.size = some { cls := .type "tuple", data := .seq #[.int i tk, y] } := (sb.2 _ (Nat.ne_of_gt hel)).trans hT
    have new : ObjOk X.prog X.w (upd H s.heap.objs.size (.tup [.int (i : Nat), x])) h'' s.heap.objs.size (.tup [.int (i : Nat), x]) :=
      ⟨by show 2 ≤ sizeLine; decide, [.int i tk, y], .cons ⟨_, rfl⟩ (.cons ru .nil), ⟨_, hT2, rfl, _, rfl⟩⟩
    have I1 : Inv X pins σ (upd H s.heap.objs.size (.tup [.int (i : Nat), x])) { s with heap := h'', toks := tk + 1 } :=
      I.turnedNew (ch := [e, it]) (fun b ob hb q => (sb.2 b (fun z => hb (by simp [z]))).trans (hk b ob (fun z => hb (by simp [z])) (fun z => hb (by simp [z])) q)) hf (Nat.le_refl _) new
    refine ⟨.ref s.heap.objs.size, _, I1, rfl, ⟨_, x, rfl, I.hok.fresh (Nat.le_refl _), rfl, fun ys hy => by rw [I.tuple_inj hy hq]; exact hx⟩, ⟨⟨y, ?_⟩, hit'.1.at fun o q => (sb.2 it (Ne.symm hne)).trans q, hne⟩, fun b hb => ?_⟩
    · have e1 : ((i + 1 : Nat) : Int) = (i : Int) + 1 := by omega
      rw [e1]; exact he'
    · have hb' : b < s.heap.objs.size := by
        have e' : b = e ∨ b = it := by simpa using hb
        rcases e' with z | z
        · rw [z]; exact hel
        · rw [z]; exact hil
      rw [upd_ne (Nat.ne_of_lt hb')]
      exact (hf b hb).1
  done := by
    intro X hP hw hK hc i pins s σ H E I hf st hg
    subst hP hw hK
    obtain ⟨⟨old, he⟩, hit, hne⟩ := st
    obtain ⟨xs, hq, hx⟩ := hg
    obtain ⟨its, rv, p, hz⟩ := I.tuple hq
    obtain ⟨f0, f1, f2, f3, f4, f5⟩ := hf it (by simp)
    have hl := rv.length
    have hT : s.TypeIs (.ref e) "enumerate" := ⟨_, he, rfl⟩
    unfold pyNext
    refine wpAny_bind (wpAny_attempt (wpAny_callSpecial?_slot (name := Str.ofString "__next__") hT PySem.F.slot_enumerate_next
      (wpAny_call_entry PySem.F.slot_enumerate_next hT PySem.F.entry_enumerate_next ?_ (PySem.F.args_enumerate_next_1 _))))
    show wpAny _ _ (field (.ref e) 2 >>= _) _ _ _
    refine wpAny_bind (wpAny_field he rfl (x := .ref it) rfl ?_)
    refine wpAny_bind (wpAny_nextOf_tuple_end (show X.A.in1.handled = none from I.ok.hd hc) hit p (by simp; omega) fun h' x he' hx' => ?_)
    obtain ⟨o, ho, hc'⟩ := hx'
    refine wpAny_bind (wpAny_isInstance (T := "StopIteration") (b := true) ⟨o, ho, hc'⟩ isSubtype_stop ?_)
    exact wpAny_pure ⟨rfl, I.turned (t' := s.toks) (fun b o hb q => he' b o hb q) f0 f1 f3 f4 f5⟩
  self := fun A i s Q E st h => let ⟨⟨_, he⟩, _⟩ := st; wpAny_pyIter_enum he h
set_option maxHeartbeats 1000000 in
theorem enum_new1 {v : Value} {o : Obj} {H : Heap → Prop} (B : Begins v o H) :
    Meets (Builtin.«enumerate.__new__» ⟨[.type "enumerate", v], []⟩) (fun _ R s => H s.heap ∧
      R (.ok (.ret (.ref (s.heap.push o).objs.size))) { s with heap := (s.heap.push o).push { cls := .type "enumerate", data := .fields #[.none, .bool false, .ref s.heap.objs.size, rawInt 0, .none, .none] } }) :=
  .of_wp fun prog w A R s h => by
    obtain ⟨hp, g, d, tk, os⟩ := s; obtain ⟨h1, h⟩ := h
    have hsub := sub_enumerate
    have q1 : ∀ {A' : Around} {E : Value → Shared → Prop} {Q : Value → Shared → Prop}, Q (.ref hp.objs.size) ⟨hp.push o, g, d, tk, os⟩ → wpAny (model prog w) A' (pyIter v) Q E ⟨hp, g, d, tk, os⟩ :=
      fun q => B.iter prog w _ _ ⟨hp, g, d, tk, os⟩ _ h1 q
    wp_walk using q1
    refine wpAny_stack_any fun st => wpAny_pure ?_
    split
    · rename_i c _ _ _ _ _
      cases (c == Value.type "enumerate")
      · wp_walk using q1
        exact ⟨_, rfl, h⟩
      · wp_walk using q1
        exact ⟨_, rfl, h⟩
    · wp_walk using q1
      exact ⟨_, rfl, h⟩
theorem call_enum1 {prog : Program} {w : World} {A : Around} {E : Value → Shared → Prop} {s : Shared} {v : Value} {o : Obj} {H : Heap → Prop} {Q : Value → Shared → Prop} (B : Begins v o H) (h1 : H s.heap)
    (h : ∀ h', IsEnum h' (s.heap.objs.size + 1) s.heap.objs.size 0 .none → h'.get? s.heap.objs.size = some o → h'.objs.size = s.heap.objs.size + 2 →
      (∀ b o, s.heap.get? b = some o → h'.get? b = some o) → Q (.ref (s.heap.objs.size + 1)) { s with heap := h' }) :
    wpAny (model prog w) A (call (.type "enumerate") [v]) Q E s := by
  refine callType_new PySem.F.called_enumerate (by decide) (PySem.F.typeCall_enumerate_1 _) (PySem.F.newCall_enumerate_1 _) (fun obj => PySem.F.args_object_init_2 obj _) PySem.F.entry_enumerate_new
    (enum_new1 B) ⟨h1, ?_⟩
  have hz : (s.heap.push o).objs.size = s.heap.objs.size + 1 := Heap.size_push ..
  show _ ∧ _
  rw [hz]
  have he : IsEnum ((s.heap.push o).push { cls := .type "enumerate", data := .fields #[.none, .bool false, .ref s.heap.objs.size, rawInt 0, .none, .none] }) (s.heap.objs.size + 1) s.heap.objs.size 0 .none := by
    have := Heap.get?_push_size (s.heap.push o) (o := { cls := .type "enumerate", data := .fields #[.none, .bool false, .ref s.heap.objs.size, rawInt 0, .none, .none] }) rfl
    rw [hz] at this; exact this
  refine ⟨⟨_, he, rfl⟩, h _ he (Heap.get?_push_of_some _ (Heap.get?_push_size _ B.free)) (by rw [Heap.size_push, hz]) fun b o x => Heap.get?_push_of_some _ (Heap.get?_push_of_some _ x)⟩
end Mn
end

section
set_option Elab.async false
set_option linter.all false
set_option maxRecDepth 100000
set_option maxHeartbeats 2000000
/-! Mini: what loops walk. -/
namespace Mn
open PySem L2 PySem.Spec PyProof.Rows
section
variable {g : Pg} {n : Nat} {X : Cx} {W : WX} {N : List Str} {sc : Scope} {a b c : Expr} {ma mb mc : E} {ta tb : Mn.T} {pos apos : Pos} {es : List Expr} {ms : Es}
variable {K : Frag} {T : List (Addr × Str)} {O : Own} {μ : List Addr} {H : Hp} {env : Env} {st : Store} {σ : L2.St}
/-- an object of the store is changed -/
theorem StR.put {j : Nat} {ad : Addr} {o o0 : AO} {u u' : HO} (R : StR K T O μ env st σ H) (hj : st[j]? = some o0) (ha : μ[j]? = some ad) (ho : OwnJ O ad j) (hu : H ad = some u) (nt : ∀ xs, u ≠ .tup xs) (nb : ∀ ps, u ≠ .tbl ps) (nx : ∀ φ, u ≠ .ext φ) (nf : ∀ o x, u ≠ .frz o x)
    (new : Ext O μ H O μ (upd H ad u') → OR K O μ (upd H ad u') o ad) : StR K T O μ env (st.set j o) σ (upd H ad u') ∧ Ext O μ H O μ (upd H ad u') := by
  have e : Ext O μ H O μ (upd H ad u') := by
    refine ⟨fun b q => ?_, fun b xs q => ?_, fun _ _ q => q, fun b i od x q r => ⟨q, ?_⟩, fun b x q r => ⟨q, by rw [upd_ne (fun z => ho.npv (by rw [← z]; exact q))]; exact r⟩, fun b x q => upd_dom q⟩
    · have hb : b ≠ ad := fun z => ho.nfz (by rw [← z]; exact q)
      exact ⟨q, fun v _ r => by unfold Rd at r ⊢; rw [upd_ne hb]; exact r, fun xs r => by rw [upd_ne hb]; exact r⟩
    · rw [upd_ne (fun z => by rw [z, hu] at q; cases q; exact nt _ rfl)]; exact q
    · rw [upd_ne (fun z => by rw [z, hu] at r; cases r; exact nf _ _ rfl)]; exact r
  have hlt : j < st.length := (List.getElem?_eq_some_iff.mp hj).1
  refine ⟨⟨fun i d q => ?_, R.len, by rw [List.length_set]; exact R.mu, fun i o' q => ?_, fun b t q => ?_, fun p hp => ?_, R.tgs⟩, e⟩
  · obtain ⟨v, h1, h2⟩ := R.vars i d q
    exact ⟨v, h1, VR.mono e d h2⟩
  · by_cases hi : i = j
    · subst hi
      rw [List.getElem?_set_self hlt] at q
      cases q
      exact ⟨ad, ha, ho, new e⟩
    · rw [List.getElem?_set_ne (Ne.symm hi)] at q
      obtain ⟨b, h1, h2, h3⟩ := R.obj i o' q
      have hb : b ≠ ad := fun z => hi (h2.inj (by rw [z]; exact ho))
      exact ⟨b, h1, h2, OR.mono e (fun v z => by rw [upd_ne hb]; exact z) h3⟩
  · by_cases hb : b = ad
    · exact ⟨u', by rw [hb, upd_same]⟩
    · rw [upd_ne hb]; exact R.own b t q
  · obtain ⟨ps, h1, h2, h3⟩ := R.tab p hp
    refine ⟨ps, by rw [upd_ne (fun zz => by rw [zz, hu] at h1; cases h1; exact nb _ rfl)]; exact h1, h2, fun pos cv hc => ?_⟩
    obtain ⟨c, e1, e2⟩ := h3 pos cv hc
    exact ⟨c, e1, by rw [upd_ne (fun zz => by rw [zz, hu] at e2; cases e2; exact nx _ rfl)]; exact e2⟩
/-- a dict is walked -/
theorem dct_free {t : Bool} {kvs : List (D × D)} {ad : Addr} (h : OR K O μ H (.dct t false kvs) ad) : ∃ u l, H ad = some u ∧ Mut (some u) ∧ (∀ xs, u ≠ .tup xs) ∧ (∀ ps, u ≠ .tbl ps) ∧ (∀ φ, u ≠ .ext φ) ∧ (∀ o x, u ≠ .frz o x) ∧ VRk O μ H kvs l ∧
    ((t = false ∧ ∃ z : List (Key × V), u = .dK z ∧ l = z.map fun q => (kD q.1, q.2)) ∨ (t = true ∧ ∃ z : List (List Key × V), u = .dT z ∧ l = z.map fun q => (kDT q.1, q.2))) := by
  obtain ⟨l, h1, h2⟩ := h
  cases t
  · obtain ⟨z, z1, z2⟩ := h1
    simp only [Bool.false_eq_true, if_false] at z1
    exact ⟨_, l, z1, trivial, (fun _ q => nomatch q), (fun _ q => nomatch q), (fun _ q => nomatch q), (fun _ _ q => nomatch q), h2, .inl ⟨rfl, z, rfl, z2⟩⟩
  · obtain ⟨z, z1, z2⟩ := h1
    simp only [Bool.false_eq_true, if_false] at z1
    exact ⟨_, l, z1, trivial, (fun _ q => nomatch q), (fun _ q => nomatch q), (fun _ q => nomatch q), (fun _ _ q => nomatch q), h2, .inr ⟨rfl, z, rfl, z2⟩⟩
theorem StR.lock {j : Nat} {t : Bool} {kvs : List (D × D)} {ad : Addr} {u : HO} {od : Obj} (R : StR K T O μ env st σ H) (hj : st[j]? = some (.dct t false kvs)) (ha : μ[j]? = some ad) (hu : H ad = some u) :
    StR K T (tagAt O ad (.lk j od)) μ env (st.set j (.dct t true kvs)) σ (upd H ad (.frz od u)) ∧ Ext O μ H (tagAt O ad (.lk j od)) μ (upd H ad (.frz od u)) := by
  obtain ⟨b, k1, k2, k3⟩ := R.obj j _ hj
  rw [ha] at k1
  cases k1
  obtain ⟨u', l, h1, _, n1, n2, n3, n4, h4, h5⟩ := dct_free k3
  rw [hu] at h1
  cases h1
  have e : Ext O μ H (tagAt O ad (.lk j od)) μ (upd H ad (.frz od u)) := by
    refine ⟨fun b q => ?_, fun b xs q => ?_, fun _ _ q => q, fun b i od x q r => ?_, fun b x q r => ?_, fun b x q => upd_dom q⟩
    rotate_right
    · have hb : b ≠ ad := fun z => k2.npv (by rw [← z]; exact q)
      exact ⟨by rw [tagAt_ne hb]; exact q, by rw [upd_ne hb]; exact r⟩
    · have hb : b ≠ ad := fun z => k2.nfz (by rw [← z]; exact q)
      exact ⟨by rw [tagAt_ne hb]; exact q, fun v _ r => by unfold Rd at r ⊢; rw [upd_ne hb]; exact r, fun xs r => by rw [upd_ne hb]; exact r⟩
    · rw [upd_ne (fun z => by rw [z, hu] at q; cases q; exact n1 _ rfl)]; exact q
    · have hb : b ≠ ad := fun z => by rw [z, hu] at r; cases r; exact n4 _ _ rfl
      exact ⟨by rw [tagAt_ne hb]; exact q, by rw [upd_ne hb]; exact r⟩
  have hlt : j < st.length := (List.getElem?_eq_some_iff.mp hj).1
  refine ⟨⟨fun i d q => ?_, R.len, by rw [List.length_set]; exact R.mu, fun i o' q => ?_, fun b t q => ?_, fun p hp => ?_, fun b i q => ?_⟩, e⟩
  · obtain ⟨v, h1, h2⟩ := R.vars i d q
    exact ⟨v, h1, VR.mono e d h2⟩
  · by_cases hi : i = j
    · subst hi
      rw [List.getElem?_set_self hlt] at q
      cases q
      refine ⟨ad, ha, .inr ⟨od, tagAt_same⟩, l, ?_, VRk.mono e kvs h4⟩
      rcases h5 with ⟨rfl, z, rfl, hz⟩ | ⟨rfl, z, rfl, hz⟩
      · exact ⟨z, ⟨_, od, tagAt_same, upd_same⟩, hz⟩
      · exact ⟨z, ⟨_, od, tagAt_same, upd_same⟩, hz⟩
    · rw [List.getElem?_set_ne (Ne.symm hi)] at q
      obtain ⟨b, h1, h2, h3⟩ := R.obj i o' q
      have hb : b ≠ ad := fun z => hi (h2.inj (by rw [z]; exact k2))
      exact ⟨b, h1, h2.cong (tagAt_ne hb), OR.mono e (fun v z => by rw [upd_ne hb]; exact z) h3⟩
  · by_cases hb : b = ad
    · exact ⟨_, by rw [hb, upd_same]⟩
    · rw [tagAt_ne hb] at q
      rw [upd_ne hb]; exact R.own b t q
  · obtain ⟨ps, h1, h2, h3⟩ := R.tab p hp
    refine ⟨ps, by rw [upd_ne (fun zz => by rw [zz, hu] at h1; cases h1; exact n2 _ rfl)]; exact h1, h2, fun pos cv hc => ?_⟩
    obtain ⟨c, e1, e2⟩ := h3 pos cv hc
    exact ⟨c, e1, by rw [upd_ne (fun zz => by rw [zz, hu] at e2; cases e2; exact n3 _ rfl)]; exact e2⟩
  · by_cases hb : b = ad
    · have e1 : OwnJ (tagAt O ad (.lk j od)) ad j := .inr ⟨od, tagAt_same⟩
      rw [hb] at q ⊢
      rw [q.inj e1]
      exact ha
    · exact R.tgs b i (q.cong (tagAt_ne hb).symm)
/-- a dict is walked no more: what was so before the walk is so behind it -/
theorem StR.unlock {j : Nat} {t : Bool} {kvs : List (D × D)} {ad : Addr} (R : StR K T O μ env st σ H) (hj : st[j]? = some (.dct t true kvs)) (ha : μ[j]? = some ad) :
    ∃ od u, H ad = some (.frz od u) ∧ StR K T (tagAt O ad (.obj j)) μ env (st.set j (.dct t false kvs)) σ (upd H ad u) ∧ ExtV O μ H (tagAt O ad (.obj j)) μ (upd H ad u) ∧ ∀ O0 μ0 H0, (∀ i x v, ¬ (O0 ad = some (.lk i x) ∧ H0 ad = some (.frz x v))) → Ext O0 μ0 H0 O μ H → Ext O0 μ0 H0 (tagAt O ad (.obj j)) μ (upd H ad u) := by
  obtain ⟨b, k1, k2, l, k3, k4⟩ := R.obj j _ hj
  rw [ha] at k1
  cases k1
  have main : ∃ i od u, O ad = some (.lk i od) ∧ H ad = some (.frz od u) ∧ (∀ xs, u ≠ .tup xs) ∧ ((t = false ∧ ∃ z : List (Key × V), u = .dK z ∧ l = z.map fun q => (kD q.1, q.2)) ∨ (t = true ∧ ∃ z : List (List Key × V), u = .dT z ∧ l = z.map fun q => (kDT q.1, q.2))) := by
    cases t
    · obtain ⟨z, ⟨i, od, z0, z1⟩, z2⟩ := k3
      exact ⟨i, od, _, z0, z1, (fun _ q => nomatch q), .inl ⟨rfl, z, rfl, z2⟩⟩
    · obtain ⟨z, ⟨i, od, z0, z1⟩, z2⟩ := k3
      exact ⟨i, od, _, z0, z1, (fun _ q => nomatch q), .inr ⟨rfl, z, rfl, z2⟩⟩
  obtain ⟨i, od, u, z0, z1, n1, h5⟩ := main
  -- what leans on the rest alone
  have vr : ∀ {O0 : Own} {μ0 : List Addr} {H0 : Hp}, (∀ i x v, ¬ (O0 ad = some (.lk i x) ∧ H0 ad = some (.frz x v))) → Ext O0 μ0 H0 O μ H → Ext O0 μ0 H0 (tagAt O ad (.obj j)) μ (upd H ad u) := fun {O0 μ0 H0} hn e => by
    refine ⟨fun b q => ?_, fun b xs q => ?_, e.mu, fun b i od x q r => ?_, fun b x q r => ?_, fun b x q => let ⟨x', q'⟩ := e.dom b x q; upd_dom q'⟩
    rotate_right
    · obtain ⟨q1, q2⟩ := e.pv b x q r
      have hb : b ≠ ad := fun z => by rw [z, z0] at q1; cases q1
      exact ⟨by rw [tagAt_ne hb]; exact q1, by rw [upd_ne hb]; exact q2⟩
    · have hb : b ≠ ad := fun z => by have := (e.fz b q).1; rw [z, z0] at this; cases this
      obtain ⟨q1, q2, q3⟩ := e.fz b q
      exact ⟨by rw [tagAt_ne hb]; exact q1, fun v n r => by have := q2 v n r; unfold Rd at this ⊢; rw [upd_ne hb]; exact this, fun xs r => by rw [upd_ne hb]; exact q3 xs r⟩
    · have := e.tup b xs q
      rw [upd_ne (fun z => by rw [z, z1] at this; cases this)]; exact this
    · have hb : b ≠ ad := fun z => hn i od x ⟨by rw [← z]; exact q, by rw [← z]; exact r⟩
      obtain ⟨q1, q2⟩ := e.lk b i od x q r
      exact ⟨by rw [tagAt_ne hb]; exact q1, by rw [upd_ne hb]; exact q2⟩
  have ev : ExtV O μ H (tagAt O ad (.obj j)) μ (upd H ad u) := by
    refine ⟨fun b q => ?_, fun b xs q => ?_, fun _ _ q => q⟩
    · have hb : b ≠ ad := fun z => by rw [z, z0] at q; cases q
      exact ⟨by rw [tagAt_ne hb]; exact q, fun v _ r => by unfold Rd at r ⊢; rw [upd_ne hb]; exact r, fun xs r => by rw [upd_ne hb]; exact r⟩
    · rw [upd_ne (fun z => by rw [z, z1] at q; cases q)]; exact q
  have hlt : j < st.length := (List.getElem?_eq_some_iff.mp hj).1
  refine ⟨od, u, z1, ⟨fun i d q => ?_, R.len, by rw [List.length_set]; exact R.mu, fun i' o' q => ?_, fun b t q => ?_, fun p hp => ?_, fun b i q => ?_⟩, ev, fun O0 μ0 H0 hn e => vr hn e⟩
  · obtain ⟨v, h1, h2⟩ := R.vars i d q
    exact ⟨v, h1, VR.monoV ev d h2⟩
  · by_cases hi : i' = j
    · subst hi
      rw [List.getElem?_set_self hlt] at q
      cases q
      refine ⟨ad, ha, .inl tagAt_same, l, ?_, VRk.monoV ev kvs k4⟩
      rcases h5 with ⟨rfl, z, rfl, hz⟩ | ⟨rfl, z, rfl, hz⟩
      · exact ⟨z, upd_same, hz⟩
      · exact ⟨z, upd_same, hz⟩
    · rw [List.getElem?_set_ne (Ne.symm hi)] at q
      obtain ⟨b, h1, h2, h3⟩ := R.obj i' o' q
      have hb : b ≠ ad := fun z => hi (h2.inj (by rw [z]; exact k2))
      refine ⟨b, h1, h2.cong (tagAt_ne hb), OR.monoV ev (fun v z => by rw [upd_ne hb]; exact z) (fun i x q => by rw [tagAt_ne hb]; exact q) h3⟩
  · by_cases hb : b = ad
    · exact ⟨_, by rw [hb, upd_same]⟩
    · rw [tagAt_ne hb] at q
      rw [upd_ne hb]; exact R.own b t q
  · obtain ⟨ps, h1, h2, h3⟩ := R.tab p hp
    refine ⟨ps, by rw [upd_ne (fun zz => by rw [zz, z1] at h1; cases h1)]; exact h1, h2, fun pos cv hc => ?_⟩
    obtain ⟨c, e1, e2⟩ := h3 pos cv hc
    exact ⟨c, e1, by rw [upd_ne (fun zz => by rw [zz, z1] at e2; cases e2)]; exact e2⟩
  · by_cases hb : b = ad
    · have e1 : OwnJ (tagAt O ad (.obj j)) ad j := .inl tagAt_same
      rw [hb] at q ⊢
      rw [q.inj e1]
      exact ha
    · exact R.tgs b i (q.cong (tagAt_ne hb).symm)

/-! ### what a loop walks -/
/-- the items come as the source says -/
def ItOk (g : Pg) (K : Frag) (O0 : Own) (μ0 : List Addr) (H0 : Hp) (src : Src) (J : L2.It) : Prop :=
  ∀ O μ (env : Env) st (σ : L2.St) H, StR K g.T O μ env st σ H → Ext O0 μ0 H0 O μ H → src.still st = true →
    (∀ i d, src.items[i]? = some d → J.go i H ∧ ∀ x H', J.yld i H x H' → Got VR K g.T O μ H env σ st d x H') ∧ J.stop src.items.length H
/-- the lock of the source; O0, H0: what was so ahead of it -/
def LkOk (X : Cx) (O0 : Own) (H0 : Hp) (μ : List Addr) (src : Src) : Prop := ∀ j, src.lk = some j → ∃ d, μ[j]? = some d ∧ (∀ o' u', X.H_0 d ≠ some (.frz o' u')) ∧ (∀ i od u, ¬ (O0 d = some (.lk i od) ∧ H0 d = some (.frz od u))) ∧
  ∀ st, src.still st = true → ∃ t kvs, st[j]? = some (.dct t true kvs)
def rI (g : Pg) (X : Cx) (O0 : Own) (H0 : Hp) (O : Own) (μ : List Addr) (H : Hp) (src : Src) (J : L2.It) : Prop := ItOk g X.K O μ H src J ∧ LkOk X O0 H0 μ src
def TI_ (g : Pg) (n : Nat) (X : Cx) (W : WX) (m : Mn.It) : TI := fun σ H R => ∃ O μ env st, StR X.K g.T O μ env st σ H ∧ Post (rI g X O H) X.K g.T O μ H env σ W (evI g.p (g.C n) m env st) R
theorem still_seq {st st' : Store} {x : D} {xs : List D} (h : stillL st x st' = true) (e : seqOf st x = some xs) : seqOf st' x = some xs := by
  cases x <;> first | exact e | skip
  rename_i j
  simp only [stillL, decide_eq_true_eq] at h
  simp only [seqOf, h] at e ⊢
  exact e
theorem it_tup {x : D} {a : Addr} {xs : List D} {st0 : Store} {tf : Nat → D → D} (ht : ∃ ys, x = .tup ys) (r : VR O μ H x (.ref a)) (e : seqOf st0 x = some xs) : ItOk g K O μ H ⟨xs, stillL st0 x, none⟩ (Itt K a) := by
  intro O' μ' env st σ H' R E hs
  obtain ⟨a', vs, e1, k1, k2⟩ := seq_sq R (VR.mono E x r) (still_seq hs e)
  cases e1
  obtain ⟨ys, rfl⟩ := ht
  have sq : SqT K H' a vs := by
    rcases k2 with ⟨h, _⟩ | ⟨_, h⟩
    · exact h
    · exact absurd rfl (h ys)
  refine ⟨fun i d hi => ?_, ⟨vs, sq, by rw [← k1.length]; exact Nat.le_refl _⟩⟩
  obtain ⟨v, h1, h2⟩ := VRs.get k1 hi
  refine ⟨⟨vs, v, sq, h1⟩, fun x H2 y => ?_⟩
  obtain ⟨rfl, hy⟩ := y
  have := hy vs sq
  rw [h1] at this
  cases this
  exact ⟨O', μ', R, Ext.refl, h2⟩
theorem it_lst {x : D} {a : Addr} {xs : List D} {st0 : Store} (ht : ∀ ys, x ≠ .tup ys) (r : VR O μ H x (.ref a)) (e : seqOf st0 x = some xs) : ItOk g K O μ H ⟨xs, stillL st0 x, none⟩ (Itl K a) := by
  intro O' μ' env st σ H' R E hs
  obtain ⟨a', vs, e1, k1, k2⟩ := seq_sq R (VR.mono E x r) (still_seq hs e)
  cases e1
  have sq : SqL K H' a vs := by
    rcases k2 with ⟨_, ys, h⟩ | ⟨h, _⟩
    · exact absurd h (ht ys)
    · exact h
  refine ⟨fun i d hi => ?_, ⟨vs, sq, by rw [← k1.length]; exact Nat.le_refl _⟩⟩
  obtain ⟨v, h1, h2⟩ := VRs.get k1 hi
  refine ⟨⟨vs, v, sq, h1⟩, fun x H2 y => ?_⟩
  obtain ⟨rfl, hy⟩ := y
  have := hy vs sq
  rw [h1] at this
  cases this
  exact ⟨O', μ', R, Ext.refl, h2⟩
theorem enum_get : ∀ {xs : List D} {k i : Nat} {d : D}, (enumD k xs)[i]? = some d → ∃ x, xs[i]? = some x ∧ d = .tup [.int ((k + i : Nat) : Int), x]
  | [], k, i, d, h => by simp [enumD] at h
  | x :: xs, k, 0, d, h => by
    simp [enumD] at h
    exact ⟨x, rfl, by rw [← h]; simp⟩
  | x :: xs, k, i + 1, d, h => by
    simp only [enumD, List.getElem?_cons_succ] at h
    obtain ⟨y, h1, h2⟩ := enum_get h
    exact ⟨y, by simpa using h1, by rw [h2, show k + 1 + i = k + (i + 1) by omega]⟩
theorem enum_len : ∀ {xs : List D} {k : Nat}, (enumD k xs).length = xs.length
  | [], _ => rfl
  | x :: xs, k => by simp only [enumD, List.length_cons, enum_len (xs := xs)]
theorem it_enumL {x : D} {a : Addr} {xs : List D} {st0 : Store} (ht : ∀ ys, x ≠ .tup ys) (r : VR O μ H x (.ref a)) (e : seqOf st0 x = some xs) : ItOk g K O μ H ⟨enumD 0 xs, stillL st0 x, none⟩ (Ite K a) := by
  intro O' μ' env st σ H' R E hs
  obtain ⟨a', vs, e1, k1, k2⟩ := seq_sq R (VR.mono E x r) (still_seq hs e)
  cases e1
  have sq : SqL K H' a vs := by
    rcases k2 with ⟨_, ys, h⟩ | ⟨h, _⟩
    · exact absurd h (ht ys)
    · exact h
  refine ⟨fun i d hi => ?_, ⟨vs, sq, by rw [enum_len, ← k1.length]; exact Nat.le_refl _⟩⟩
  obtain ⟨x', hx, rfl⟩ := enum_get hi
  obtain ⟨v, h1, h2⟩ := VRs.get k1 hx
  refine ⟨⟨vs, v, sq, h1⟩, fun x H2 y => ?_⟩
  obtain ⟨T', x2, rfl, hT, rfl, hy⟩ := y
  have := hy vs sq
  rw [h1] at this
  cases this
  have q := got_tup (xs := [.int ((0 + i : Nat) : Int), x']) (vs := [.int (i : Nat), v]) R (VRs.cons (by simp [VR]) (VRs.cons h2 VRs.nil)) hT
  exact q
theorem it_enumT {x : D} {a : Addr} {xs : List D} {st0 : Store} (ht : ∃ ys, x = .tup ys) (r : VR O μ H x (.ref a)) (e : seqOf st0 x = some xs) : ItOk g K O μ H ⟨enumD 0 xs, stillL st0 x, none⟩ (IteT K a) := by
  intro O' μ' env st σ H' R E hs
  obtain ⟨a', vs, e1, k1, k2⟩ := seq_sq R (VR.mono E x r) (still_seq hs e)
  cases e1
  obtain ⟨ys, rfl⟩ := ht
  have sq : SqT K H' a vs := by
    rcases k2 with ⟨h, _⟩ | ⟨_, h⟩
    · exact h
    · exact absurd rfl (h ys)
  refine ⟨fun i d hi => ?_, ⟨vs, sq, by rw [enum_len, ← k1.length]; exact Nat.le_refl _⟩⟩
  obtain ⟨x', hx, rfl⟩ := enum_get hi
  obtain ⟨v, h1, h2⟩ := VRs.get k1 hx
  refine ⟨⟨vs, v, sq, h1⟩, fun x H2 y => ?_⟩
  obtain ⟨T', x2, rfl, hT, rfl, hy⟩ := y
  have := hy vs sq
  rw [h1] at this
  cases this
  exact got_tup (xs := [.int ((0 + i : Nat) : Int), x']) (vs := [.int (i : Nat), v]) R (VRs.cons (by simp [VR]) (VRs.cons h2 VRs.nil)) hT
theorem it_rng {lo : Int} {k : Nat} : ItOk g K O μ H ⟨intRange lo k, fun _ => true, none⟩ (Itr lo k) := by
  intro O' μ' env st σ H' R E hs
  refine ⟨fun i d hi => ?_, by show k ≤ (intRange lo k).length; simp [intRange]⟩
  have hk : i < k := by
    have := (List.getElem?_eq_some_iff.mp hi).1
    simpa [intRange] using this
  refine ⟨hk, fun x H2 y => ?_⟩
  obtain ⟨rfl, rfl⟩ := y
  simp only [intRange, List.getElem?_map, List.getElem?_range hk, Option.map_some, Option.some.injEq] at hi
  subst hi
  exact ⟨O', μ', R, Ext.refl, rfl⟩
end
end Mn
end

section
set_option Elab.async false
set_option linter.all false
set_option maxRecDepth 100000
set_option maxHeartbeats 2000000
/-! Mini: what loops walk: dicts; the rules. -/
namespace Mn
open PySem L2 PySem.Spec PyProof.Rows
section
variable {g : Pg} {n : Nat} {X : Cx} {W : WX} {N : List Str} {sc : Scope} {a b c : Expr} {ma mb mc : E} {ta tb : Mn.T} {pos apos : Pos} {es : List Expr} {ms : Es}
variable {K : Frag} {T : List (Addr × Str)} {O : Own} {μ : List Addr} {H : Hp} {env : Env} {st : Store} {σ : L2.St}
theorem vrs_map_kD : ∀ (ks : List Key), VRs O μ H (ks.map kD) (ks.map kV)
  | [] => VRs.nil
  | k :: ks => VRs.cons kV_vr (vrs_map_kD ks)
theorem vr_kDT_of {ks : List Key} {q : Addr} (h : H q = some (.tup (ks.map kV))) : VR O μ H (kDT ks) (.ref q) := by
  simp only [kDT, VR]
  exact ⟨q, _, rfl, h, vrs_map_kD ks⟩
theorem VRk.getP : ∀ {kvs : List (D × D)} {l : List (D × V)} {i : Nat} {q : D × D}, VRk O μ H kvs l → kvs[i]? = some q → ∃ v, l[i]? = some (q.1, v) ∧ VR O μ H q.2 v
  | [], _, i, q, h, e => by simp at e
  | (k, x) :: xs, _, 0, q, h, e => by
    simp only [VRk] at h
    obtain ⟨v, r, rfl, h2, h3⟩ := h
    simp at e
    subst e
    exact ⟨v, rfl, h2⟩
  | (k, x) :: xs, _, i + 1, q, h, e => by
    simp only [VRk] at h
    obtain ⟨v, r, rfl, h2, h3⟩ := h
    obtain ⟨u, h4, h5⟩ := VRk.getP (i := i) h3 (by simpa using e)
    exact ⟨u, by simpa using h4, h5⟩
theorem still_dct {st0 st : Store} {j : Nat} {t : Bool} {kvs : List (D × D)} (e : st0[j]? = some (.dct t true kvs)) (h : stillL st0 (.loc j) st = true) : st[j]? = some (.dct t true kvs) := by
  simp only [stillL, decide_eq_true_eq] at h
  rw [h, e]
/-- the pairs as they stand -/
theorem dct_pairs {j : Nat} {t : Bool} {kvs : List (D × D)} {d : Addr} {od : Obj} {u : HO} (R : StR K T O μ env st σ H) (hj : st[j]? = some (.dct t true kvs)) (hm : μ[j]? = some d) (hu : H d = some (.frz od u)) :
    ∃ l, VRk O μ H kvs l ∧ ((t = false ∧ ∃ z : List (Key × V), u = .dK z ∧ l = z.map fun q => (kD q.1, q.2)) ∨ (t = true ∧ ∃ z : List (List Key × V), u = .dT z ∧ l = z.map fun q => (kDT q.1, q.2))) := by
  obtain ⟨b, k1, k2, l, k3, k4⟩ := R.obj j _ hj
  rw [hm] at k1
  cases k1
  refine ⟨l, k4, ?_⟩
  cases t
  · obtain ⟨z, ⟨i, o, z0, z1⟩, z2⟩ := k3
    rw [hu] at z1
    cases z1
    exact .inl ⟨rfl, z, rfl, z2⟩
  · obtain ⟨z, ⟨i, o, z0, z1⟩, z2⟩ := k3
    rw [hu] at z1
    cases z1
    exact .inr ⟨rfl, z, rfl, z2⟩
section
variable {j : Nat} {t : Bool} {kvs : List (D × D)} {d : Addr} {od : Obj} {st0 : Store}
theorem it_itemsT {z : List (List Key × V)} (e0 : st0[j]? = some (.dct true true kvs)) (hm : μ[j]? = some d) (hO : O d = some (.lk j od)) (hu : H d = some (.frz od (.dT z))) :
    ItOk g K O μ H ⟨kvs.map fun q => .tup [q.1, q.2], stillL st0 (.loc j), some j⟩ (ItiT d od z) := by
  intro O' μ' env st σ H' R E hs
  obtain ⟨_, hu'⟩ := E.lk d j od _ hO hu
  obtain ⟨l, hl, hz⟩ := dct_pairs R (still_dct e0 hs) (E.mu _ _ hm) hu'
  rcases hz with ⟨h, _⟩ | ⟨_, z', ez, rfl⟩
  · cases h
  cases ez
  have hlen : kvs.length = z.length := by rw [VRk.length hl, List.length_map]
  refine ⟨fun i dd hi => ?_, ⟨hu', by show z.length ≤ (kvs.map _).length; rw [List.length_map]; omega⟩⟩
  rw [List.getElem?_map] at hi
  cases hk : kvs[i]? with
  | none => rw [hk] at hi; cases hi
  | some q =>
    rw [hk] at hi
    cases hi
    obtain ⟨v, h1, h2⟩ := hl.getP hk
    have hil : i < kvs.length := (List.getElem?_eq_some_iff.mp hk).1
    refine ⟨⟨hu', by omega⟩, fun x H2 y => ?_⟩
    obtain ⟨T', k, v', qa, hz, rfl, hT, hq, rfl⟩ := y
    rw [List.getElem?_map, hz] at h1
    simp only [Option.map_some, Option.some.injEq, Prod.mk.injEq] at h1
    obtain ⟨h1a, rfl⟩ := h1
    have hv : VR O' μ' H' q.1 (.ref qa) := by rw [← h1a]; exact vr_kDT_of hq
    have := got_tup (xs := [q.1, q.2]) (vs := [.ref qa, v']) R (VRs.cons hv (VRs.cons h2 VRs.nil)) hT
    exact this
theorem it_itemsK {z : List (Key × V)} (e0 : st0[j]? = some (.dct false true kvs)) (hm : μ[j]? = some d) (hO : O d = some (.lk j od)) (hu : H d = some (.frz od (.dK z))) :
    ItOk g K O μ H ⟨kvs.map fun q => .tup [q.1, q.2], stillL st0 (.loc j), some j⟩ (Iti d od z) := by
  intro O' μ' env st σ H' R E hs
  obtain ⟨_, hu'⟩ := E.lk d j od _ hO hu
  obtain ⟨l, hl, hz⟩ := dct_pairs R (still_dct e0 hs) (E.mu _ _ hm) hu'
  rcases hz with ⟨_, z', ez, rfl⟩ | ⟨h, _⟩
  rotate_left
  · cases h
  cases ez
  have hlen : kvs.length = z.length := by rw [VRk.length hl, List.length_map]
  refine ⟨fun i dd hi => ?_, ⟨hu', by show z.length ≤ (kvs.map _).length; rw [List.length_map]; omega⟩⟩
  rw [List.getElem?_map] at hi
  cases hk : kvs[i]? with
  | none => rw [hk] at hi; cases hi
  | some q =>
    rw [hk] at hi
    cases hi
    obtain ⟨v, h1, h2⟩ := hl.getP hk
    have hil : i < kvs.length := (List.getElem?_eq_some_iff.mp hk).1
    refine ⟨⟨hu', by omega⟩, fun x H2 y => ?_⟩
    obtain ⟨T', k, v', hz, rfl, hT, rfl⟩ := y
    rw [List.getElem?_map, hz] at h1
    simp only [Option.map_some, Option.some.injEq, Prod.mk.injEq] at h1
    obtain ⟨h1a, rfl⟩ := h1
    have hv : VR O' μ' H' q.1 (kV k) := by rw [← h1a]; exact kV_vr
    have := got_tup (xs := [q.1, q.2]) (vs := [kV k, v']) R (VRs.cons hv (VRs.cons h2 VRs.nil)) hT
    exact this
theorem it_keysT {z : List (List Key × V)} (e0 : st0[j]? = some (.dct true true kvs)) (hm : μ[j]? = some d) (hO : O d = some (.lk j od)) (hu : H d = some (.frz od (.dT z))) :
    ItOk g K O μ H ⟨kvs.map (·.1), stillL st0 (.loc j), some j⟩ (Itkt d od z) := by
  intro O' μ' env st σ H' R E hs
  obtain ⟨_, hu'⟩ := E.lk d j od _ hO hu
  obtain ⟨l, hl, hz⟩ := dct_pairs R (still_dct e0 hs) (E.mu _ _ hm) hu'
  rcases hz with ⟨h, _⟩ | ⟨_, z', ez, rfl⟩
  · cases h
  cases ez
  have hlen : kvs.length = z.length := by rw [VRk.length hl, List.length_map]
  refine ⟨fun i dd hi => ?_, ⟨hu', by show z.length ≤ (kvs.map _).length; rw [List.length_map]; omega⟩⟩
  rw [List.getElem?_map] at hi
  cases hk : kvs[i]? with
  | none => rw [hk] at hi; cases hi
  | some q =>
    rw [hk] at hi
    cases hi
    obtain ⟨v, h1, h2⟩ := hl.getP hk
    have hil : i < kvs.length := (List.getElem?_eq_some_iff.mp hk).1
    refine ⟨⟨hu', by omega⟩, fun x H2 y => ?_⟩
    obtain ⟨rfl, k, v', qa, hz, rfl, hq⟩ := y
    rw [List.getElem?_map, hz] at h1
    simp only [Option.map_some, Option.some.injEq, Prod.mk.injEq] at h1
    obtain ⟨h1a, rfl⟩ := h1
    exact ⟨O', μ', R, Ext.refl, by show VR _ _ _ q.1 _; rw [← h1a]; exact vr_kDT_of hq⟩
theorem it_keysK {z : List (Key × V)} (e0 : st0[j]? = some (.dct false true kvs)) (hm : μ[j]? = some d) (hO : O d = some (.lk j od)) (hu : H d = some (.frz od (.dK z))) :
    ItOk g K O μ H ⟨kvs.map (·.1), stillL st0 (.loc j), some j⟩ (Itk d od z) := by
  intro O' μ' env st σ H' R E hs
  obtain ⟨_, hu'⟩ := E.lk d j od _ hO hu
  obtain ⟨l, hl, hz⟩ := dct_pairs R (still_dct e0 hs) (E.mu _ _ hm) hu'
  rcases hz with ⟨_, z', ez, rfl⟩ | ⟨h, _⟩
  rotate_left
  · cases h
  cases ez
  have hlen : kvs.length = z.length := by rw [VRk.length hl, List.length_map]
  refine ⟨fun i dd hi => ?_, ⟨hu', by show z.length ≤ (kvs.map _).length; rw [List.length_map]; omega⟩⟩
  rw [List.getElem?_map] at hi
  cases hk : kvs[i]? with
  | none => rw [hk] at hi; cases hi
  | some q =>
    rw [hk] at hi
    cases hi
    obtain ⟨v, h1, h2⟩ := hl.getP hk
    have hil : i < kvs.length := (List.getElem?_eq_some_iff.mp hk).1
    refine ⟨⟨hu', by omega⟩, fun x H2 y => ?_⟩
    obtain ⟨rfl, k, v', hz, rfl⟩ := y
    rw [List.getElem?_map, hz] at h1
    simp only [Option.map_some, Option.some.injEq, Prod.mk.injEq] at h1
    obtain ⟨h1a, rfl⟩ := h1
    exact ⟨O', μ', R, Ext.refl, by show VR _ _ _ q.1 _; rw [← h1a]; exact kV_vr⟩
end
theorem lk_none {O0 : Own} {H0 : Hp} {src : Src} (h : src.lk = none) : LkOk X O0 H0 μ src := fun j e => by rw [h] at e; cases e
/-- a dict is locked -/
theorem lock_at {x : D} {v : V} {f : List (D × D) → List D} {pins : List (Addr × Obj)} {s : Shared} {R : L2.It → Hp → Prop} (I : Inv X pins σ H s) (R0 : StR X.K g.T O μ env st σ H) (r : VR O μ H x v) {O0 : Own} {μ0 : List Addr} {H0 : Hp} (E0 : Ext O0 μ0 H0 O μ H) (q : Post (rI g X O0 H0) X.K g.T O μ H env σ W (lockD st x f) R) :
    ∃ j t kvs d od u, x = .loc j ∧ v = .ref d ∧ st[j]? = some (.dct t false kvs) ∧ μ[j]? = some d ∧ Inv X pins σ (upd H d (.frz od u)) s ∧ (tagAt O d (.lk j od)) d = some (.lk j od) ∧ upd H d (.frz od u) d = some (.frz od u) ∧
      ((t = false ∧ ∃ z : List (Key × V), u = .dK z) ∨ (t = true ∧ ∃ z : List (List Key × V), u = .dT z)) ∧
      ∀ J, ItOk g X.K (tagAt O d (.lk j od)) μ (upd H d (.frz od u)) ⟨f kvs, stillL (st.set j (.dct t true kvs)) (.loc j), some j⟩ J → R J (upd H d (.frz od u)) := by
  unfold lockD at q
  cases x <;> first | exact q.elim | skip
  rename_i j
  dsimp only at q
  cases ej : st[j]? with
  | none => rw [ej] at q; exact q.elim
  | some o =>
    rw [ej] at q
    cases o with
    | lst _ _ => exact q.elim
    | ins _ _ => exact q.elim
    | dct t k kvs =>
      cases k with
      | true => exact q.elim
      | false =>
        obtain ⟨d, rfl, h1, h2, h3⟩ := obj_at R0 r ej
        obtain ⟨u, l, hu, mu, _, _, _, _, _, h5⟩ := dct_free h3
        obtain ⟨od, I2⟩ := I.lock hu mu
        obtain ⟨R2, E2⟩ := R0.lock (od := od) ej h1 hu
        refine ⟨j, t, kvs, d, od, u, rfl, rfl, ej, h1, I2, tagAt_same, upd_same, ?_, fun J hJ => ?_⟩
        · rcases h5 with ⟨a, z, b, _⟩ | ⟨a, z, b, _⟩
          · exact .inl ⟨a, z, b⟩
          · exact .inr ⟨a, z, b⟩
        · refine q J _ ⟨_, μ, R2, E2, hJ, fun i e => ?_⟩
          cases e
          refine ⟨d, h1, I.nofrz hu mu, fun i x v z => ?_, fun st' hs => ⟨t, kvs, ?_⟩⟩
          · have := (E0.lk d i x v z.1 z.2).2
            rw [hu] at this
            cases this
            exact mu
          · exact still_dct (List.getElem?_set_self (List.getElem?_eq_some_iff.mp ej).1) hs

/-! ### the rules -/
variable {tg : Expr}
theorem bad_of {α β : Type} {rel : Own → List Addr → Hp → α → β → Prop} {Q : β → Hp → Prop} (h : Post rel K T O μ H env σ W .bad Q) : False := h
theorem pie_tup {a : Addr} {xs : List D} {x : D} {pins : List (Addr × Obj)} {s : Shared} {R : L2.It → Hp → Prop} (I : Inv X pins σ H s) (R0 : StR X.K g.T O μ env st σ H) (r : VR O μ H x (.ref a)) (e : seqOf st x = some xs)
    (q : ∀ J, ItOk g X.K O μ H ⟨xs, stillL st x, none⟩ J → R J H) : wpAny (model X.prog X.w) X.A (pyIter (.ref a)) (PIE X pins σ tg R) X.xe s := by
  obtain ⟨a', vs, e1, k1, k2⟩ := seq_sq R0 r e
  cases e1
  rcases k2 with ⟨hq, ht⟩ | ⟨hq, ht⟩
  · obtain ⟨its, rv, p, hz⟩ := I.tuple hq
    refine wpAny_pyIter_tuple (show s.heap.IsTuple a its.toArray from p) ?_
    refine ⟨s.heap.objs.size, [s.heap.objs.size], _, _, H, rfl, I.kept (t' := s.toks) fun b o e => Heap.get?_push_of_some _ e, turn_tuple a _, ⟨_, Heap.get?_push_size _ rfl, rfl, rfl⟩, fun b hb => ?_, q _ (it_tup (tf := fun _ d => d) ht r e)⟩
    have e : b = s.heap.objs.size := by simpa using hb
    subst e
    exact I.fpOk (Nat.le_refl _) (I.hok.fresh (Nat.le_refl _))
  · obtain ⟨its, rv, p, hz⟩ := I.list hq
    refine wpAny_pyIter_list p.isList ?_
    refine ⟨s.heap.objs.size, [s.heap.objs.size], _, _, H, rfl, I.kept (t' := s.toks) fun b o e => Heap.get?_push_of_some _ e, turn_list a _, ⟨_, Heap.get?_push_size _ rfl, rfl, rfl⟩, fun b hb => ?_, q _ (it_lst ht r e)⟩
    have e : b = s.heap.objs.size := by simpa using hb
    subst e
    exact I.fpOk (Nat.le_refl _) (I.hok.fresh (Nat.le_refl _))
theorem si_val (ha : PE X a (TE_ g n X W ma)) : PI X tg a (TI_ g n X W (.val ma)) := by
  refine ⟨fun pins s σ H R I ⟨O, μ, env, st, R0, q⟩ => ?_⟩
  simp only [evI] at q
  refine thn ((pf ha).run pins s σ H _ I ⟨O, μ, env, st, R0, post_bind VR q⟩) fun v s1 ⟨x, H1, I1, rx, O1, μ1, st1, dx, R1, E1, r1, q1⟩ => ?_
  dsimp only at q1
  cases e : seqOf st1 dx with
  | some xs =>
    rw [e] at q1
    obtain ⟨p, vs, rfl, _⟩ := seq_sq R1 r1 e
    cases rx
    exact pie_tup I1 R1 r1 e fun J hJ => q1 J H1 ⟨O1, μ1, R1, Ext.refl, hJ, lk_none rfl⟩
  | none =>
    rw [e] at q1
    dsimp only at q1
    obtain ⟨j, t, kvs, d, od, u, rfl, rfl, ej, hm, I2, hO, hu, ht, hR⟩ := lock_at I1 R1 r1 E1 q1
    cases rx
    have ej2 : (st1.set j (.dct t true kvs))[j]? = some (.dct t true kvs) := List.getElem?_set_self (List.getElem?_eq_some_iff.mp ej).1
    rcases ht with ⟨rfl, z, rfl⟩ | ⟨rfl, z, rfl⟩
    · obtain ⟨hs, hgd, hx, es, ep, vs, hdt, hsz, kv, hm'⟩ := I2.frzK hu
      refine iter_keys hs hgd hx hdt (pi_one (tk := s1.toks) I2 _ (turn_keys _ hdt) ⟨_, Heap.get?_push_size _ rfl, rfl, ?_⟩ (hR _ (it_keysK ej2 hm hO hu)))
      rw [hsz] <;> rfl
    · obtain ⟨hs, hgd, hx, es, ep, hdt, hsz, ent⟩ := I2.frzT hu
      refine iter_keys hs hgd hx hdt (pi_one (tk := s1.toks) I2 _ (turn_keysT _ hdt) ⟨_, Heap.get?_push_size _ rfl, rfl, ?_⟩ (hR _ (it_keysT ej2 hm hO hu)))
      rw [hsz] <;> rfl
theorem si_rng {p : Pos} (hg : Gl X "range") (hm : X.mg "range" = none) (hs : notStar a = true) (ha : PE X a (TE_ g n X W ma)) : PI X tg (.Call (.Name "range" p) [a] [] pos) (TI_ g n X W (.rng ma)) := by
  refine ⟨fun pins s σ H R I ⟨O, μ, env, st, R0, q⟩ => ?_⟩
  simp only [evI] at q
  have hA : PA X [a] _ := pa_cons (pf ha) pa_nil (star_cons hs)
  refine (pi_range1 (tg := tg) (p := p) (pos := pos) hg hm hA (star_cons hs)).run pins s σ H R I ⟨O, μ, env, st, R0, (post_bind VR q).mono ?_⟩
  rintro v H1 ⟨O1, μ1, st1, dx, R1, E1, r1, q1⟩
  dsimp only at q1
  cases dx <;> first | exact q1.elim | skip
  rename_i k
  dsimp only at q1
  split at q1
  · rename_i hk
    cases r1
    exact ⟨k, rfl, by omega, by omega, q1 _ _ ⟨O1, μ1, R1, Ext.refl, it_rng, lk_none rfl⟩⟩
  · exact q1.elim
theorem si_rng2 {p : Pos} (hg : Gl X "range") (hm : X.mg "range" = none) (hs : notStar a = true) (hs2 : notStar b = true) (ha : PE X a (TE_ g n X W ma)) (hb : PE X b (TE_ g n X W mb)) : PI X tg (.Call (.Name "range" p) [a, b] [] pos) (TI_ g n X W (.rng2 ma mb)) := by
  refine ⟨fun pins s σ H R I ⟨O, μ, env, st, R0, q⟩ => ?_⟩
  simp only [evI] at q
  have hA : PA X [a, b] _ := pa_cons (pf ha) (pa_cons (pf hb) pa_nil (star_cons hs2)) (star_cons hs)
  refine (pi_range2 (tg := tg) (p := p) (pos := pos) hg hm hA (by rw [star_cons hs, star_cons hs2]; rfl) (star_cons hs2)).run pins s σ H R I ⟨O, μ, env, st, R0, (post_bind VR q).mono ?_⟩
  rintro v H1 ⟨O1, μ1, st1, dx, R1, E1, r1, q1⟩
  refine ⟨O1, μ1, env, st1, R1, (post_bind VR q1).mono ?_⟩
  rintro w H2 ⟨O2, μ2, st2, dy, R2, E2, r2, q2⟩
  dsimp only at q2
  cases dx <;> first | exact q2.elim | skip
  cases dy <;> first | exact q2.elim | skip
  dsimp only at q2
  split at q2
  · rename_i hk
    cases r1
    cases r2
    exact ⟨_, _, rfl, ⟨by omega, by omega, by omega, by omega⟩, q2 _ _ ⟨O2, μ2, R2, Ext.refl, it_rng, lk_none rfl⟩⟩
  · exact q2.elim
theorem si_enu {p tpos : Pos} {elts : List Expr} {kk : Nat} (hg : Gl X "enumerate") (hm : X.mg "enumerate" = none) (hs : notStar a = true) (ha : PE X a (TE_ g n X W ma)) :
    PI X (.Tuple elts kk tpos) (.Call (.Name "enumerate" p) [a] [] pos) (TI_ g n X W (.enu ma)) := by
  refine ⟨fun pins s σ H R I ⟨O, μ, env, st, R0, q⟩ => ?_⟩
  simp only [evI] at q
  have hA : PA X [a] (TA_ g n X W (.cons false ma .nil)) := sa_cons hs ha sa_nil
  have q' : Post (rI g X O H) X.K g.T O μ H env σ W ((evEs g.p (g.C n) (.cons false ma .nil) env st).bind fun ds st => match ds with | [x] => (match seqOf st x with | some xs => Res.ok ⟨enumD 0 xs, stillL st x, none⟩ st | none => .bad) | _ => .bad) R := by
    simp only [evEs, Bool.false_eq_true, if_false]
    cases e : (evE g.p (g.C n) ma env st).froz with
    | ok x st1 => rw [e] at q; exact q
    | exc x st1 => rw [e] at q; exact q
    | bad => rw [e] at q; exact q
  refine Call_ (ld_blt I hg hm boot_enumerate (PyProof.Rows.callWith_type1 (thn (hA.run pos pins s σ H _ I ⟨O, μ, env, st, R0, post_bind VRs q'⟩) fun us s1 ⟨vs, H1, I1, rv, O1, μ1, st1, ds, R1, E1, r1, q1⟩ => ?_) (star_cons hs) rfl))
  dsimp only at q1
  split at q1
  · rename_i x
    cases e : seqOf st1 x with
    | none => rw [e] at q1; exact q1.elim
    | some xs =>
      rw [e] at q1
      obtain ⟨v, rfl, r2⟩ := vrs1 r1
      obtain ⟨u, rfl, ru⟩ := vals1 rv
      obtain ⟨ad, vs, rfl, k1, k2⟩ := seq_sq R1 r2 e
      cases ru
      have fin : ∀ {J : L2.It}, ItOk g X.K O1 μ1 H1 ⟨enumD 0 xs, stillL st1 x, none⟩ J → R J H1 := fun {J} hJ => q1 J H1 ⟨O1, μ1, R1, Ext.refl, hJ, lk_none rfl⟩
      rcases k2 with ⟨hq, ht⟩ | ⟨hq, ht⟩
      · obtain ⟨its, rv', p', hz⟩ := I1.tuple hq
        have hlt : ad < s1.heap.objs.size := by obtain ⟨_, e, _⟩ := p'; exact Heap.lt_size e
        refine call_enum1 (begins_tuple ad its.toArray) p' fun h' he hit hsz hk => wpAny_pyIter_enum he ?_
        have I2 : Inv X pins σ H1 { s1 with heap := h' } := I1.kept (t' := s1.toks) hk
        refine ⟨s1.heap.objs.size + 1, [s1.heap.objs.size + 1, s1.heap.objs.size], _, _, H1, rfl, I2, turn_enumT ad (s1.heap.objs.size + 1) s1.heap.objs.size (Nat.ne_of_lt (Nat.lt_succ_of_lt hlt)) (Nat.ne_of_lt hlt), ⟨⟨.none, he⟩, ⟨_, hit, rfl, rfl⟩, Nat.succ_ne_self _⟩, fun b hb => ?_, fin (it_enumT ht r2 e)⟩
        have e' : b = s1.heap.objs.size + 1 ∨ b = s1.heap.objs.size := by simpa using hb
        have hle : s1.heap.objs.size ≤ b := by
          rcases e' with z | z
          · rw [z]; exact Nat.le_add_right _ _
          · rw [z]; exact Nat.le_refl _
        exact I1.fpOk hle (I1.hok.fresh hle)
      · obtain ⟨its, rv', p', hz⟩ := I1.list hq
        refine call_enumerate_list p'.isList fun h' he hit hsz hk => wpAny_pyIter_enum he ?_
        have I2 : Inv X pins σ H1 { s1 with heap := h' } := I1.kept (t' := s1.toks) hk
        refine ⟨s1.heap.objs.size + 1, [s1.heap.objs.size + 1, s1.heap.objs.size], _, _, H1, rfl, I2, turn_enum ad (s1.heap.objs.size + 1) s1.heap.objs.size, ⟨⟨.none, he⟩, hit, Nat.succ_ne_self _⟩, fun b hb => ?_, fin (it_enumL ht r2 e)⟩
        have e' : b = s1.heap.objs.size + 1 ∨ b = s1.heap.objs.size := by simpa using hb
        have hle : s1.heap.objs.size ≤ b := by
          rcases e' with z | z
          · rw [z]; exact Nat.le_add_right _ _
          · rw [z]; exact Nat.le_refl _
        exact I1.fpOk hle (I1.hok.fresh hle)
  · exact q1.elim
theorem si_items {tpos cpos : Pos} {elts : List Expr} {kk : Nat} (hs : notSup a = true) (hline : (apos.endLine == cpos.line) = true) (ha : PE X a (TE_ g n X W ma)) :
    PI X (.Tuple elts kk tpos) (.Call (.Attribute a "items" apos) [] [] cpos) (TI_ g n X W (.items ma)) := by
  refine ⟨fun pins s σ H R I ⟨O, μ, env, st, R0, q⟩ => ?_⟩
  simp only [evI] at q
  refine wpAny_Call_method (T := "dict") (id := "dict.items") (attr_base hs) rfl hline PySem.F.plainAttrs_dict PySem.F.slot_dict_items PySem.F.type_dict_items (thn ((pf ha).run pins s σ H _ I ⟨O, μ, env, st, R0, post_bind VR q⟩) fun v s1 ⟨x, H1, I1, rx, O1, μ1, st1, dx, R1, E1, r1, q1⟩ => ?_)
  dsimp only at q1
  obtain ⟨j, t, kvs, d, od, u, rfl, rfl, ej, hm, I2, hO, hu, ht, hR⟩ := lock_at I1 R1 r1 E1 q1
  cases rx
  have ej2 : (st1.set j (.dct t true kvs))[j]? = some (.dct t true kvs) := List.getElem?_set_self (List.getElem?_eq_some_iff.mp ej).1
  have I3 : Inv X pins σ (upd H1 d (.frz od u)) { s1 with heap := s1.heap.push { cls := .type "dict_items", data := .fields #[.ref d] } } := I2.kept (t' := s1.toks) fun b ob q => Heap.get?_push_of_some _ q
  rcases ht with ⟨rfl, z, rfl⟩ | ⟨rfl, z, rfl⟩
  · obtain ⟨hs', hgd, hx, es, ep, vs, hdt, hsz, kv, hm'⟩ := I2.frzK hu
    have hl : z.length = vs.length := Paired.length kv
    refine ⟨hm'.dictOf.typeIs, hm'.dictOf.mapOf.noDict, ?_⟩
    have fin : wpAny (model X.prog X.w) X.A (pyIter (.ref s1.heap.objs.size)) (PIE X pins σ (.Tuple elts kk tpos) R) X.xe { s1 with heap := s1.heap.push { cls := .type "dict_items", data := .fields #[.ref d] } } := by
      refine wpAny_pyIter_items (d := d) (knd := mixKind X.prog X.w) ⟨_, Heap.get?_push_size _ rfl, rfl, rfl⟩ (hm'.push _) (pi_one (tk := s1.toks) I3 _ (turn_items _ hdt) ⟨.none, .none, ?_⟩ (hR _ (it_itemsK ej2 hm hO hu)))
      rw [hl]
      exact Heap.get?_push_size _ rfl
    show wpAny _ _ (callWith cpos (.builtin "dict.items") [.ref d] [] []) _ X.xe s1
    exact method_meetsIn PySem.F.slot_dict_items PySem.F.entry_dict_items rfl (PySem.evalArgs_none ⟨rfl, hm'.dictOf.typeIs, PySem.F.args_dict_items_1 _, _, meets_dict_items (mixKind X.prog X.w) d hs', ⟨vs, hm'.dictOf⟩, fin⟩)
  · obtain ⟨hs', hgd, hx, es, ep, hdt, hsz, ent⟩ := frzT2 I2 hu
    have raw : DT.Raw s1.heap d es ep := ⟨od, hgd, hx, hdt⟩
    refine ⟨raw.typeIs, fun b e => ?_, ?_⟩
    · cases e
      exact ⟨od, hgd, hx.2.1⟩
    have fin : wpAny (model X.prog X.w) X.A (pyIter (.ref s1.heap.objs.size)) (PIE X pins σ (.Tuple elts kk tpos) R) X.xe { s1 with heap := s1.heap.push { cls := .type "dict_items", data := .fields #[.ref d] } } := by
      refine DT.iterI (d := d) (es := es) (ep := ep) ⟨_, Heap.get?_push_size _ rfl, rfl, rfl⟩ (raw.push _) (pi_one (tk := s1.toks) I3 _ (turn_itemsT _ hdt) ⟨.none, .none, ?_⟩ (hR _ (it_itemsT ej2 hm hO hu)))
      rw [← hsz]
      exact Heap.get?_push_size _ rfl
    show wpAny _ _ (callWith cpos (.builtin "dict.items") [.ref d] [] []) _ X.xe s1
    exact method_meetsIn PySem.F.slot_dict_items PySem.F.entry_dict_items rfl (PySem.evalArgs_none ⟨rfl, raw.typeIs, PySem.F.args_dict_items_1 _, _, DT.meetsItems (es := es) (ep := ep) hs', raw, fin⟩)
end
end Mn
end

section
set_option Elab.async false
set_option linter.all false
set_option maxRecDepth 100000
set_option maxHeartbeats 2000000
/-! Mini: targets, list comprehensions. -/
namespace Mn
open PySem L2 PySem.Spec PyProof.Rows
section
variable {g : Pg} {n : Nat} {X : Cx} {W : WX} {N : List Str} {sc : Scope} {a b c : Expr} {ma mb mc : E} {ta tb : Mn.T} {pos apos : Pos} {es : List Expr} {ms : Es}
variable {K : Frag} {T : List (Addr × Str)} {O : Own} {μ : List Addr} {H : Hp} {env : Env} {st : Store} {σ : L2.St}
theorem StR.setv {i : Nat} {d : D} {v : V} (R : StR K T O μ env st σ H) (h : VR O μ H d v) : StR K T O μ (env.set i (some d)) st (σ.set i (some v)) H := by
  refine ⟨fun k d' e => ?_, by rw [List.length_set, List.length_set]; exact R.len, R.mu, R.obj, R.own, R.tab, R.tgs⟩
  by_cases hk : i = k
  · subst hk
    rw [List.getElem?_set] at e
    simp only [if_true] at e
    split at e
    · rename_i hl
      cases e
      exact ⟨v, by rw [List.getElem?_set_self (by rw [← R.len]; exact hl)], h⟩
    · cases e
  · rw [List.getElem?_set_ne hk] at e
    obtain ⟨u, h1, h2⟩ := R.vars k d' e
    exact ⟨u, by rw [List.getElem?_set_ne hk]; exact h1, h2⟩
theorem StR.wipe1 {i : Nat} (R : StR K T O μ env st σ H) : StR K T O μ (env.set i none) st (σ.set i none) H := by
  refine ⟨fun k d' e => ?_, by rw [List.length_set, List.length_set]; exact R.len, R.mu, R.obj, R.own, R.tab, R.tgs⟩
  by_cases hk : i = k
  · subst hk
    rw [List.getElem?_set] at e
    simp only [if_true] at e
    split at e
    · cases e
    · cases e
  · rw [List.getElem?_set_ne hk] at e
    obtain ⟨u, h1, h2⟩ := R.vars k d' e
    exact ⟨u, by rw [List.getElem?_set_ne hk]; exact h1, h2⟩
theorem StR.wipe (R : StR K T O μ env st σ H) : ∀ vs : List Nat, StR K T O μ (wipeE env vs) st (wipe σ vs) H
  | [] => R
  | v :: vs => (R.wipe vs).wipe1
def setV (σ : L2.St) : List Nat → List V → L2.St
  | i :: is, v :: vs => setV (σ.set i (some v)) is vs
  | _, _ => σ
theorem StR.setA : ∀ {is : List Nat} {ds : List D} {vs : List V} {env : Env} {σ : L2.St}, StR K T O μ env st σ H → VRs O μ H ds vs → StR K T O μ (setAll env is ds) st (setV σ is vs) H
  | [], ds, vs, env, σ, R, h => by
    cases ds <;> (simp only [setAll]; cases vs <;> exact R)
  | i :: is, [], vs, env, σ, R, h => by simp only [VRs] at h; subst h; exact R
  | i :: is, d :: ds, vs, env, σ, R, h => by
    simp only [VRs] at h
    obtain ⟨v, r, rfl, h2, h3⟩ := h
    exact StR.setA (is := is) (ds := ds) (env := env.set i (some d)) (σ := σ.set i (some v)) (R.setv h2) h3
/-- names as targets, slot by slot -/
def gNames (is : List Nat) : TGs := fun vs σ H Q => vs.length = is.length ∧ Q (setV σ is vs) H
def nameOf : Expr → Option Str
  | .Name x _ => some x
  | _ => none
theorem nameOf_eq {e : Expr} {x : Str} (h : nameOf e = some x) : ∃ p, e = .Name x p := by
  unfold nameOf at h
  split at h
  · cases h; exact ⟨_, rfl⟩
  · cases h
/-- a name that may be stored, in its slot -/
def nameAt (N : List Str) (sc : Scope) (fc : Str → Bool) (x : Str) (i : Nat) : Bool := decide (N[i]? = some x) && (decide (sc.names.lookup x = some .local) || (decide (sc.names.lookup x = some .cell) && fc x))
/-- the names of a target stand in their slots -/
def namesAt (N : List Str) (sc : Scope) (fc : Str → Bool) : List Expr → List Nat → Bool
  | [], [] => true
  | e :: es, i :: is => match nameOf e with
    | some x => nameAt N sc fc x i && namesAt N sc fc es is
    | none => false
  | _, _ => false
def FnCell (X : Cx) (fc : Str → Bool) : Prop := ∀ x, fc x = true → X.fn x = true
theorem sg_name {x : Str} {i : Nat} (nd : X.N.Nodup) (hN : X.N = N) (hs : X.env.scope = sc) {fc : Str → Bool} (hf : FnCell X fc) (h : nameAt N sc fc x i = true) : PG X (.Name x pos) (gName i) := by
  simp only [nameAt, Bool.and_eq_true, Bool.or_eq_true, decide_eq_true_eq] at h
  obtain ⟨h1, h2⟩ := h
  exact pg_name nd (by rw [hN]; exact h1) (by rw [hs]; exact h2.imp_right (·.1)) (by
      rcases h2 with h | h
      · exact .inr (by rw [hs]; exact h)
      · exact .inl (hf x h.2))
theorem sg_names (nd : X.N.Nodup) (hN : X.N = N) (hs : X.env.scope = sc) {fc : Str → Bool} (hf : FnCell X fc) : ∀ {es : List Expr} {is : List Nat}, namesAt N sc fc es is = true →
    PGs X es (gNames is) ∧ (assignEach es X.env).length = is.length ∧ (assignEach es X.env).findIdx? (·.1) = none
  | [], [], _ => ⟨⟨fun pins s σ H vs us Q I r h => pgs_nil.run pins s σ H vs us Q I r ⟨List.length_eq_zero_iff.mp h.1, by
      have e := List.length_eq_zero_iff.mp h.1
      subst e
      exact h.2⟩⟩, rfl, rfl⟩
  | [], _ :: _, h => by simp [namesAt] at h
  | _ :: _, [], h => by simp [namesAt] at h
  | e :: es, i :: is, h => by
    simp only [namesAt] at h
    cases en : nameOf e with
    | none => rw [en] at h; cases h
    | some x =>
      rw [en] at h
      obtain ⟨p, rfl⟩ := nameOf_eq en
      simp only [Bool.and_eq_true] at h
      obtain ⟨h1, h3⟩ := h
      obtain ⟨k1, k2, k3⟩ := sg_names nd hN hs hf h3
      have hv : PG X (.Name x p) (gName i) := sg_name nd hN hs hf h1
      have hc := pgs_cons (es := es) hv k1
      refine ⟨⟨fun pins s σ H vs us Q I r hh => hc.run pins s σ H vs us Q I r ?_⟩, ?_, ?_⟩
      · obtain ⟨hl, hq⟩ := hh
        cases vs with
        | nil => simp at hl
        | cons v vs =>
          simp only [List.length_cons, Nat.add_right_cancel_iff] at hl
          exact ⟨v, vs, rfl, hl, hq⟩
      · show (assignEach es X.env).length + 1 = is.length + 1
        rw [k2]
      · show List.findIdx? (·.1) ((false, assign (.Name x p) X.env) :: assignEach es X.env) = none
        rw [List.findIdx?_cons, k3]
        rfl
/-- a target takes a value -/
def TGt (g : Pg) (X : Cx) (tg : Tg) : L2.TG := fun v σ H Q => ∃ O μ env st d env', StR X.K g.T O μ env st σ H ∧ VR O μ H d v ∧ bindTg tg d env = some env' ∧ ∀ σ', StR X.K g.T O μ env' st σ' H → (∃ vs, σ' = setV σ (tgs tg) vs ∧ vs.length = (tgs tg).length) → Q σ' H
def tgAt (N : List Str) (sc : Scope) (fc : Str → Bool) : Expr → Option Tg
  | .Name x _ => match N.findIdx? (· = x) with
    | some i => if nameAt N sc fc x i then some (.name i) else none
    | none => none
  | .Tuple es _ _ => match es.mapM fun e => (nameOf e).bind fun x => N.findIdx? (· = x) with
    | some is => if namesAt N sc fc es is then some (.tup is) else none
    | none => none
  | _ => none
theorem sg_tg {e : Expr} {tg : Tg} (ok : XOk g n N sc X) {fc : Str → Bool} (hf : FnCell X fc) (h : tgAt N sc fc e = some tg) : PG X e (TGt g X tg) := by
  have nd : X.N.Nodup := by rw [ok.nm]; exact ok.nd
  unfold tgAt at h
  split at h
  · rename_i x p
    split at h <;> first | cases h | skip
    rename_i i hi
    split at h <;> first | cases h | skip
    rename_i hn
    have hg := sg_name (pos := p) nd ok.nm ok.scp hf hn
    refine ⟨fun pins s σ H v u Q I r ⟨O, μ, env, st, d, env', R, rd, e, q⟩ => hg.run pins s σ H v u Q I r ?_⟩
    cases e
    exact q _ (R.setv rd) ⟨[v], rfl, rfl⟩
  · rename_i es k p
    split at h <;> first | cases h | skip
    rename_i is hi
    split at h <;> first | cases h | skip
    rename_i hn
    obtain ⟨k1, k2, k3⟩ := sg_names nd ok.nm ok.scp hf hn
    have hg := pg_tup (k := k) (pos := p) ok.calm k1 k2 k3
    refine ⟨fun pins s σ H v u Q I r ⟨O, μ, env, st, d, env', R, rd, e, q⟩ => hg.run pins s σ H v u Q I r ?_⟩
    simp only [bindTg] at e
    split at e <;> first | cases e | skip
    rename_i xs
    split at e <;> first | cases e | skip
    rename_i hl
    obtain ⟨a, vs, rfl, h1, h2⟩ := vr_tup rd
    have hlv : vs.length = is.length := by rw [← h2.length]; exact hl
    exact ⟨a, vs, rfl, .inl (.inl h1), hlv, hlv, q _ (R.setA h2) ⟨vs, rfl, hlv⟩⟩
  · cases h
end
end Mn
end

section
set_option Elab.async false
set_option linter.all false
set_option maxRecDepth 100000
set_option maxHeartbeats 2000000
/-! Mini: list comprehensions. -/
namespace Mn
open PySem L2 PySem.Spec PyProof.Rows
section
variable {g : Pg} {n : Nat} {X : Cx} {W W0 : WX} {N : List Str} {sc : Scope} {a b c : Expr} {ma mb mc : E} {ta tb : Mn.T} {pos apos : Pos} {es : List Expr} {ms : Es}
variable {K : Frag} {T : List (Addr × Str)} {O O1 : Own} {μ μ1 : List Addr} {H H1 : Hp} {env env' : Env} {st : Store} {σ σ2 : L2.St}
/-- behind a part, seen from the start -/
theorem post_base {α β γ δ : Type} {rel : Own → List Addr → Hp → α → β → Prop} {r : Res γ} {k : γ → Store → Res α} {Q : β → Hp → Prop} (relA : Own → List Addr → Hp → γ → δ → Prop) (q : Post rel K T O μ H env σ W (r.bind k) Q) :
    Post relA K T O μ H env σ W r (fun v H1 => ∃ O1 μ1 st1 a, StR K T O1 μ1 env st1 σ H1 ∧ Ext O μ H O1 μ1 H1 ∧ relA O1 μ1 H1 a v ∧ Post rel K T O μ H env σ W (k a st1) Q) := by
  cases r with
  | ok a st' =>
    intro v H' ⟨O', μ', h1, h2, h3⟩
    exact ⟨O', μ', st', a, h1, h2, h3, q⟩
  | exc x st' => exact q
  | bad => exact q
/-- a part that runs in a block of its own -/
theorem post_in {α β γ δ : Type} {rel : Own → List Addr → Hp → α → β → Prop} {r : Res γ} {k : γ → Store → Res α} {Q : β → Hp → Prop} (relA : Own → List Addr → Hp → γ → δ → Prop) (R : StR K T O1 μ1 env st σ H1)
    (q : Post rel K T O μ H env σ W (r.calm.bind k) Q) :
    Post relA K T O1 μ1 H1 env' σ2 W0 r (fun v H2 => ∃ O2 μ2 st2 a, StR K T O2 μ2 env st2 σ H2 ∧ StR K T O2 μ2 env' st2 σ2 H2 ∧ Ext O1 μ1 H1 O2 μ2 H2 ∧ relA O2 μ2 H2 a v ∧ Post rel K T O μ H env σ W (k a st2) Q) := by
  cases r with
  | ok a st' =>
    intro v H' ⟨O', μ', h1, h2, h3⟩
    exact ⟨O', μ', st', a, R.vars_of h2 h1, h1, h2, h3, q⟩
  | exc x st' => exact q.elim
  | bad => exact q
/-- a list that is being made is the maker's alone -/
theorem StR.tagPv {D : Addr} {u : HO} (R : StR K T O μ env st σ H) (h : O D = none) (hu : H D = some u) : StR K T (tagAt O D .pv) μ env st σ H ∧ Ext O μ H (tagAt O D .pv) μ H := by
  have e : Ext O μ H (tagAt O D .pv) μ H := Ext.tag h
  refine ⟨⟨fun i d q => ?_, R.len, R.mu, fun j o q => ?_, fun b t q => ?_, R.tab, fun b j q => R.tgs b j (q.cong (tagAt_ne fun z => q.npv (by rw [z]; exact tagAt_same)).symm)⟩, e⟩
  · obtain ⟨v, h1, h2⟩ := R.vars i d q
    exact ⟨v, h1, VR.mono e d h2⟩
  · obtain ⟨b, h1, h2, h3⟩ := R.obj j o q
    exact ⟨b, h1, h2.cong (tagAt_ne fun z => h2.nn (by rw [z]; exact h)), OR.mono e (fun _ z => z) h3⟩
  · by_cases hb : b = D
    · rw [hb]; exact ⟨u, hu⟩
    · rw [tagAt_ne hb] at q
      exact R.own b t q
/-- it changes -/
theorem StR.upv {D : Addr} {xs ys : List V} (R : StR K T O μ env st σ H) (h : O D = some .pv) (hu : H D = some (.lst xs)) : StR K T O μ env st σ (upd H D (.lst ys)) ∧ ExtV O μ H O μ (upd H D (.lst ys)) ∧
    ∀ O0 μ0 H0, O0 D = none → H0 D = none → Ext O0 μ0 H0 O μ H → Ext O0 μ0 H0 O μ (upd H D (.lst ys)) := by
  have e : ExtV O μ H O μ (upd H D (.lst ys)) := by
    refine ⟨fun b q => ?_, fun b zs q => ?_, fun _ _ q => q⟩
    · have hb : b ≠ D := fun z => by rw [z, h] at q; cases q
      exact ⟨q, fun v _ r => by unfold Rd at r ⊢; rw [upd_ne hb]; exact r, fun zs r => by rw [upd_ne hb]; exact r⟩
    · rw [upd_ne (fun z => by rw [z, hu] at q; cases q)]; exact q
  refine ⟨⟨fun i d q => ?_, R.len, R.mu, fun j o q => ?_, fun b t q => ?_, fun p hp => ?_, R.tgs⟩, e, fun O0 μ0 H0 hO hH x => ⟨fun b q => ?_, fun b zs q => ?_, x.mu, fun b j od u q r => ?_, fun b u q r => ?_, fun b u q => let ⟨u', q'⟩ := x.dom b u q; upd_dom q'⟩⟩
  · obtain ⟨v, h1, h2⟩ := R.vars i d q
    exact ⟨v, h1, VR.monoV e d h2⟩
  · obtain ⟨b, h1, h2, h3⟩ := R.obj j o q
    have hb : b ≠ D := fun z => h2.npv (by rw [z]; exact h)
    exact ⟨b, h1, h2, OR.monoV e (fun v z => by rw [upd_ne hb]; exact z) (fun _ _ z => z) h3⟩
  · by_cases hb : b = D
    · exact ⟨_, by rw [hb, upd_same]⟩
    · rw [upd_ne hb]; exact R.own b t q
  · obtain ⟨ps, h1, h2, h3⟩ := R.tab p hp
    refine ⟨ps, by rw [upd_ne (fun zz => by rw [zz, hu] at h1; cases h1)]; exact h1, h2, fun pos cv hc => ?_⟩
    obtain ⟨c, e1, e2⟩ := h3 pos cv hc
    exact ⟨c, e1, by rw [upd_ne (fun zz => by rw [zz, hu] at e2; cases e2)]; exact e2⟩
  · have hb : b ≠ D := fun z => by rw [z, hO] at q; cases q
    obtain ⟨q1, q2, q3⟩ := x.fz b q
    exact ⟨q1, fun v n r => by have := q2 v n r; unfold Rd at this ⊢; rw [upd_ne hb]; exact this, fun zs r => by rw [upd_ne hb]; exact q3 zs r⟩
  · rw [upd_ne (ne_of_none q hH)]; exact x.tup b zs q
  · rw [upd_ne (ne_of_none r hH)]; exact x.lk b j od u q r
  · rw [upd_ne (ne_of_none r hH)]; exact x.pv b u q r
/-- it is made -/
def unTag (O : Own) (D : Addr) : Own := fun b => if b = D then none else O b
theorem StR.unPv {D : Addr} {xs : List V} (R : StR K T O μ env st σ H) (h : O D = some .pv) (hu : H D = some (.lst xs)) : StR K T (unTag O D) μ env st σ H ∧ ExtV O μ H (unTag O D) μ H ∧
    ∀ O0 μ0 H0, O0 D = none → Ext O0 μ0 H0 O μ H → Ext O0 μ0 H0 (unTag O D) μ H := by
  have ne : ∀ {b}, b ≠ D → unTag O D b = O b := fun hb => if_neg hb
  have e : ExtV O μ H (unTag O D) μ H := by
    refine ⟨fun b q => ⟨?_, fun v _ r => r, fun zs r => r⟩, fun b zs q => q, fun _ _ q => q⟩
    rw [ne (fun z => by rw [z, h] at q; cases q)]
    exact q
  refine ⟨⟨fun i d q => ?_, R.len, R.mu, fun j o q => ?_, fun b t q => ?_, R.tab, fun b j q => R.tgs b j (q.cong (ne fun z => q.nn (by rw [z]; exact if_pos rfl)).symm)⟩, e, fun O0 μ0 H0 hO x => ⟨fun b q => ?_, x.tup, x.mu, fun b j od u q r => ?_, fun b u q r => ?_, x.dom⟩⟩
  · obtain ⟨v, h1, h2⟩ := R.vars i d q
    exact ⟨v, h1, VR.monoV e d h2⟩
  · obtain ⟨b, h1, h2, h3⟩ := R.obj j o q
    have hb : b ≠ D := fun z => h2.npv (by rw [z]; exact h)
    exact ⟨b, h1, h2.cong (ne hb), OR.monoV e (fun v z => z) (fun i x z => by rw [ne hb]; exact z) h3⟩
  · by_cases hb : b = D
    · rw [hb]; exact ⟨_, hu⟩
    · rw [ne hb] at q; exact R.own b t q
  · obtain ⟨q1, q2⟩ := x.fz b q
    exact ⟨by rw [ne (fun z => by rw [z, hO] at q; cases q)]; exact q1, q2⟩
  · obtain ⟨q1, q2⟩ := x.lk b j od u q r
    exact ⟨by rw [ne (fun z => by rw [z, hO] at q; cases q)]; exact q1, q2⟩
  · obtain ⟨q1, q2⟩ := x.pv b u q r
    exact ⟨by rw [ne (fun z => by rw [z, hO] at q; cases q)]; exact q1, q2⟩
theorem wipe_get (σ : L2.St) (k : Nat) : ∀ is : List Nat, (wipe σ is)[k]? = if k ∈ is then (if k < σ.length then some none else none) else σ[k]?
  | [] => by simp [wipe]
  | i :: is => by
    unfold wipe
    rw [List.getElem?_set, wipe_length, wipe_get σ k is]
    by_cases h : i = k
    · subst h; simp
    · rw [if_neg h]
      have : (k ∈ i :: is) ↔ k ∈ is := by simp [Ne.symm h]
      simp only [this]
theorem setV_get : ∀ (is : List Nat) (vs : List V) (σ : L2.St) (k : Nat), k ∉ is → (setV σ is vs)[k]? = σ[k]?
  | [], vs, σ, k, h => by cases vs <;> rfl
  | i :: is, [], σ, k, h => rfl
  | i :: is, v :: vs, σ, k, h => by
    simp only [List.mem_cons, not_or] at h
    show (setV (σ.set i (some v)) is vs)[k]? = _
    rw [setV_get is vs _ k h.2, List.getElem?_set_ne (Ne.symm h.1)]
theorem setV_len : ∀ (is : List Nat) (vs : List V) (σ : L2.St), (setV σ is vs).length = σ.length
  | [], vs, σ => by cases vs <;> rfl
  | i :: is, [], σ => rfl
  | i :: is, v :: vs, σ => by
    show (setV (σ.set i (some v)) is vs).length = _
    rw [setV_len is vs, List.length_set]
theorem wipe_setV (is : List Nat) (vs : List V) (σ : L2.St) : wipe (setV (wipe σ is) is vs) is = wipe σ is := by
  apply List.ext_getElem?
  intro k
  rw [wipe_get, setV_len, wipe_length]
  by_cases h : k ∈ is
  · rw [if_pos h, wipe_get, if_pos h]
  · rw [if_neg h, setV_get is vs _ k h]
/-- a dict is let go, by hand -/
def EPu (X : Cx) (Q : VK) : VK := fun v H => Q v H ∨ ∃ d od u, H d = some (.frz od u) ∧ (∀ o' u', X.H_0 d ≠ some (.frz o' u')) ∧ Q v (upd H d u)
theorem Res.bind_assoc {α β γ : Type} {r : Res α} {f : α → Store → Res β} {h : β → Store → Res γ} : (r.bind f).bind h = r.bind fun a st => (f a st).bind h := by cases r <;> rfl
theorem lc_zero {f : D → Store → Res (Option D)} {acc : List D} {st : Store} : lcLoop f [] acc st = .ok (.fl acc) st := rfl
theorem PTs.weak {X : Cx} {e : List Expr} {t t' : TT} (h : PTs X e t) (k : ∀ σ H Q, t' σ H Q → t σ H Q) : PTs X e t' := ⟨fun pins s σ H Q I q => h.run pins s σ H Q I (k σ H Q q)⟩
/-- the comprehension's own wish -/
theorem lc_sem {melt : E} {mt : Mn.T} {mit : Mn.It} {mtg : Tg} {own : List (Str × Nat)} (ok : XOk g n N sc X) (hown : own.map (·.2) = tgs mtg) {Q : VK} (R : StR X.K g.T O μ env st σ H) (q : Post RVR X.K g.T O μ H env σ W (evE g.p (g.C n) (.lc melt mtg mit mt) env st) Q) :
    tLc (TI_ g n X W mit) (TGt g X mtg) (TT_ g n X (fun _ _ _ _ => False) mt) (TF_ g n X (fun _ _ _ _ => False) melt) (own.map (·.2)) σ H (EPu X Q) := by
  simp only [evE] at q
  refine ⟨O, μ, env, st, R, (post_base (rI g X O H) q).mono ?_⟩
  rintro J H1 ⟨O1, μ1, st1, src, R1, E1, ⟨hit, hlk⟩, q1⟩ D hD
  rw [hown]
  split at q1
  rotate_left
  · exact q1.elim
  rename_i hst
  obtain ⟨hst, hlen⟩ := hst
  generalize hF : (fun (d : Mn.D) (st : Store) => (match bindTg mtg d (wipeE env (tgs mtg)) with
    | some env' => (evT g.p (g.C n) mt env' st).calm.bind fun b st => if b then (evE g.p (g.C n) melt env' st).froz.calm.bind fun x st => if src.still st then .ok (some x) st else .bad
      else if src.still st then .ok none st else .bad
    | none => .bad : Res (Option Mn.D))) = F at q1
  have hD1 : O1 D = none := by
    cases e : O1 D with
    | none => rfl
    | some t => obtain ⟨u, z⟩ := R1.own D t e; rw [hD] at z; cases z
  have hH0 : H D = none := by
    cases e : H D with
    | none => rfl
    | some u => obtain ⟨u', z⟩ := E1.dom D u e; rw [hD] at z; cases z
  have hO0 : O D = none := by
    cases e : O D with
    | none => rfl
    | some t => obtain ⟨u, z⟩ := R.own D t e; rw [hH0] at z; cases z
  let Wf : Nat → Nat → Hp → Prop := fun i m H' => ∃ O2 μ2 st2 acc vs, m = src.items.length - i ∧ i ≤ src.items.length ∧ StR X.K g.T O2 μ2 env st2 σ H' ∧ Ext O μ H O2 μ2 H' ∧ Ext O1 μ1 H1 O2 μ2 H' ∧ O2 D = some .pv ∧ H' D = some (.lst vs) ∧
    VRs O2 μ2 H' acc vs ∧ src.still st2 = true ∧ acc.length ≤ i ∧ Post RVR X.K g.T O μ H env σ W ((lcLoop F (src.items.drop i) acc st2).bind fun r st => .ok r (unlock st src.lk)) Q
  refine ⟨Wf, ⟨src.items.length, ?_⟩, ?_⟩
  · obtain ⟨R2, E2⟩ := R1.new (o := .lst []) hD
    obtain ⟨R3, E3⟩ := R2.tagPv hD1 upd_same
    exact ⟨_, μ1, st1, [], [], by simp, Nat.zero_le _, R3, (E1.trans E2).trans E3, E2.trans E3, tagAt_same, upd_same, VRs.nil, hst, Nat.le_refl _, q1⟩
  rintro i m H2 ⟨O2, μ2, st2, acc, vs, rfl, hi2, R2, E02, E12, hpv, hDv, hacc, hst2, hal, q2⟩
  obtain ⟨hgo, hstop⟩ := hit O2 μ2 env st2 σ H2 R2 E12 hst2
  by_cases hlt : i < src.items.length
  · right
    have hgi : src.items[i]? = some src.items[i] := List.getElem?_eq_getElem hlt
    have hdrop : src.items.drop i = src.items[i] :: src.items.drop (i + 1) := List.drop_eq_getElem_cons hlt
    rw [hdrop] at q2
    generalize src.items[i] = d at hgi q2
    obtain ⟨g1, g2⟩ := hgo i d hgi
    refine ⟨g1, fun H' => ∃ m', m' < src.items.length - i ∧ Wf (i + 1) m' H', fun H' h => h, fun x H' hy => ?_⟩
    obtain ⟨O3, μ3, R3, E3, r3⟩ := g2 x H' hy
    have R3w := R3.wipe (tgs mtg)
    simp only [lcLoop] at q2
    rw [← hF] at q2
    cases eb : bindTg mtg d (wipeE env (tgs mtg)) with
    | none => simp only [eb] at q2; exact q2.elim
    | some env' =>
      simp only [eb] at q2
      rw [hF] at q2
      obtain ⟨hpv3, hDv3⟩ := E3.pv D _ hpv hDv
      refine ⟨O3, μ3, _, st2, d, env', R3w, r3, eb, fun σ' R4 hσ => ?_⟩
      obtain ⟨ws, hσ, _⟩ := hσ
      refine ⟨by rw [hσ]; exact wipe_setV _ _ _, ?_⟩
      rw [Res.bind_assoc, Res.bind_assoc] at q2
      refine ⟨O3, μ3, env', st2, R4, (post_in rB R3 q2).mono ?_⟩
      rintro b H3 ⟨O4, μ4, st4, b', R5, R5', E5, rfl, q5⟩
      obtain ⟨hpv5, hDv5⟩ := E5.pv D _ hpv3 hDv3
      have E15 := (E12.trans E3).trans E5
      have E05 := (E02.trans E3).trans E5
      cases b' with
      | false =>
        rw [if_neg Bool.false_ne_true]
        rw [if_neg Bool.false_ne_true] at q5
        split at q5
        · rename_i hs5
          exact ⟨src.items.length - (i + 1), by omega, O4, μ4, st4, acc, vs, rfl, hlt, R5, E05, E15, hpv5, hDv5, VRs.mono E5 acc (VRs.mono E3 acc hacc), hs5, by omega, q5⟩
        · exact q5.elim
      | true =>
        rw [if_pos rfl]
        rw [if_pos rfl, Res.bind_assoc] at q5
        refine ⟨O4, μ4, env', st4, R5', (post_in VR R5 q5).mono ?_⟩
        rintro y H4 ⟨O6, μ6, st6, dy, R6, R6', E6, r6, q6⟩
        obtain ⟨hpv6, hDv6⟩ := E6.pv D _ hpv5 hDv5
        split at q6
        · rename_i hs6
          have hvl : vs.length = acc.length := hacc.length.symm
          refine ⟨vs, hDv6, ?_, ?_⟩
          · have := lim_le
            have : i < lim := Nat.lt_of_lt_of_le hlt hlen
            omega
          · obtain ⟨R7, V7, E7⟩ := R6.upv (ys := vs ++ [y]) hpv6 hDv6
            have hv : VRs O6 μ6 (upd H4 D (.lst (vs ++ [y]))) (acc ++ [dy]) (vs ++ [y]) :=
              VRs.append (VRs.monoV V7 acc (VRs.mono E6 acc (VRs.mono E5 acc (VRs.mono E3 acc hacc)))) (VRs.cons (VR.monoV V7 dy r6) VRs.nil)
            exact ⟨src.items.length - (i + 1), by omega, O6, μ6, st6, acc ++ [dy], vs ++ [y], rfl, hlt, R7, E7 _ _ _ hO0 hH0 (E05.trans E6), E7 _ _ _ hD1 hD (E15.trans E6), hpv6, upd_same, hv, hs6, by simp; omega, q6⟩
        · exact q6.elim
  · left
    have ei : i = src.items.length := by omega
    subst ei
    refine ⟨hstop, ?_⟩
    rw [List.drop_length] at q2
    obtain ⟨R3, e3, E3⟩ := R2.unPv hpv hDv
    have got : ∀ {st'}, StR X.K g.T (unTag O2 D) μ2 env st' σ H2 → True := fun _ => trivial
    cases el : src.lk with
    | none =>
      left
      rw [el] at q2
      exact q2 _ _ ⟨_, μ2, R3, E3 _ _ _ hO0 E02, D, vs, rfl, if_pos rfl, hDv, VRs.monoV e3 acc hacc⟩
    | some j =>
      right
      obtain ⟨d, hm, hnf, hnl, hs2⟩ := hlk j el
      obtain ⟨t, kvs, ej⟩ := hs2 st2 hst2
      obtain ⟨od, u, hu, R4, V4, E4⟩ := R3.unlock ej (E12.mu _ _ hm)
      refine ⟨d, od, u, hu, hnf, ?_⟩
      rw [el] at q2
      simp only [lcLoop, Res.bind, unlock, ej] at q2
      have hne : D ≠ d := fun z => by rw [← z, hDv] at hu; cases hu
      refine q2 _ _ ⟨_, μ2, R4, E4 _ _ _ hnl (E3 _ _ _ hO0 E02), D, vs, rfl, ?_, by rw [upd_ne hne]; exact hDv, ?_⟩
      · rw [tagAt_ne hne]; exact if_pos rfl
      · exact VRs.monoV V4 acc (VRs.monoV e3 acc hacc)
theorem se_lc {elt tg iter : Expr} {ifs : List Expr} {melt : E} {mt : Mn.T} {mit : Mn.It} {mtg : Tg} {scope : Scope} {own : List (Str × Nat)} (ok : XOk g n N sc X)
    (hi : PI X tg iter (TI_ g n X W mit)) (hb : blkC N sc scope own = true) (hown : own.map (·.2) = tgs mtg)
    (hg : ∀ (s : Shared) (H : Hp) (C : Addr) (cl : List (Str × Addr)) (fp : List Addr), PG (X.blk s H scope (compEnvC scope cl C X.env) fp) tg (TGt g X mtg))
    (ht : ∀ (s : Shared) (H : Hp) (C : Addr) (cl : List (Str × Addr)) (fp : List Addr), PTs (X.blk s H scope (compEnvC scope cl C X.env) fp) ifs (TT_ g n X (fun _ _ _ _ => False) mt))
    (he : ∀ (s : Shared) (H : Hp) (C : Addr) (cl : List (Str × Addr)) (fp : List Addr), PE (X.blk s H scope (compEnvC scope cl C X.env) fp) elt (TE_ g n X (fun _ _ _ _ => False) melt))
    (hs : ∀ x, foldedSetIterable iter X.env x = pure x) : PE X (.ListComp elt [⟨tg, iter, ifs, 0⟩] scope pos) (TE_ g n X W (.lc melt mtg mit mt)) := by
  have nd : X.N.Nodup := by rw [ok.nm]; exact ok.nd
  have hb' : BlkOk X.N X.env.scope scope own := by rw [ok.nm, ok.scp]; exact blkOk_by hb
  have h := pe_lc (pos := pos) (te := TF_ g n X (fun _ _ _ _ => False) melt) ok.calm nd hi hb' hg ht (fun s H C cl fp => pf (X := X.blk s H scope (compEnvC scope cl C X.env) fp) (he s H C cl fp)) hs
  refine ⟨fun pins s σ H Q I ⟨O, μ, env, st, R, q⟩ => ?_⟩
  refine thn (h.run pins s σ H (EPu X Q) I (lc_sem ok hown R q)) fun u s' hu => ?_
  obtain ⟨v, H', I', rv, q'⟩ := hu
  rcases q' with q' | ⟨d, od, x, e1, e2, q'⟩
  · exact ⟨v, H', I', rv, q'⟩
  · exact ⟨v, _, I'.unlock e1 e2, rv, q'⟩
end
end Mn
end

section
set_option Elab.async false
set_option linter.all false
set_option maxRecDepth 100000
set_option maxHeartbeats 2000000
/-! Mini: statements. -/
namespace Mn
open PySem L2 PySem.Spec PyProof.Rows
def PostS (K : Frag) (T : List (Addr × Str)) (O : Own) (μ : List Addr) (H : Hp) (W : WX) (r : RS) (D : Ends) : Prop := match r with
  | .nx env' st' => ∀ σ' H', (∃ O' μ', StR K T O' μ' env' st' σ' H' ∧ Ext O μ H O' μ' H') → D.nx σ' H'
  | .bk env' st' => ∀ σ' H', (∃ O' μ', StR K T O' μ' env' st' σ' H' ∧ Ext O μ H O' μ' H') → D.bk σ' H'
  | .ct env' st' => ∀ σ' H', (∃ O' μ', StR K T O' μ' env' st' σ' H' ∧ Ext O μ H O' μ' H') → D.ct σ' H'
  | .rt rv st' => ∀ v H', (∃ O' μ', StR K T O' μ' [] st' [] H' ∧ Ext O μ H O' μ' H' ∧ RVR O' μ' H' rv v) → D.rt v H'
  | .exc e env' st' => ∀ cls d σ' H', (∃ O' μ', StR K T O' μ' env' st' σ' H' ∧ Ext O μ H O' μ' H' ∧ ExR K O' μ' H' e cls d) → W cls d σ' H'
  | .bad => False
def TS_ (g : Pg) (n : Nat) (X : Cx) (W : WX) (m : S) : TS := fun D σ H => ∃ O μ env st, StR X.K g.T O μ env st σ H ∧ PostS X.K g.T O μ H W (evS g.p (g.C n) g.fuel m env st) D
def TSs_ (g : Pg) (n : Nat) (X : Cx) (W : WX) (m : Ss) : TS := fun D σ H => ∃ O μ env st, StR X.K g.T O μ env st σ H ∧ PostS X.K g.T O μ H W (evSs g.p (g.C n) g.fuel m env st) D
theorem PS.weak {X : Cx} {e : Stmt} {t t' : TS} (h : PS X e t) (k : ∀ D σ H, t' D σ H → t D σ H) : PS X e t' := ⟨fun pins s σ H D I q => h.run pins s σ H D I (k D σ H q)⟩
theorem PSs.weak {X : Cx} {e : List Stmt} {t t' : TS} (h : PSs X e t) (k : ∀ D σ H, t' D σ H → t D σ H) : PSs X e t' := ⟨fun pins s σ H D I q => h.run pins s σ H D I (k D σ H q)⟩
section
variable {g : Pg} {n : Nat} {X : Cx} {W : WX} {N : List Str} {sc : Scope} {fc : Str → Bool} {a b c : Expr} {ma mb mc : E} {ta tb : Mn.T} {pos apos p2 : Pos} {es : List Expr} {ms : Es} {x : Str} {i : Nat}
variable {K : Frag} {T : List (Addr × Str)} {O O1 : Own} {μ μ1 : List Addr} {H H1 : Hp} {env : Env} {st : Store} {σ : L2.St} {D : Ends}
theorem PostS.fwd {r : RS} (e : Ext O μ H O1 μ1 H1) (q : PostS K T O μ H W r D) : PostS K T O1 μ1 H1 W r D := by
  cases r with
  | nx env' st' => exact fun σ' H' ⟨O', μ', h1, h2⟩ => q σ' H' ⟨O', μ', h1, e.trans h2⟩
  | bk env' st' => exact fun σ' H' ⟨O', μ', h1, h2⟩ => q σ' H' ⟨O', μ', h1, e.trans h2⟩
  | ct env' st' => exact fun σ' H' ⟨O', μ', h1, h2⟩ => q σ' H' ⟨O', μ', h1, e.trans h2⟩
  | rt rv st' => exact fun v H' ⟨O', μ', h1, h2, h3⟩ => q v H' ⟨O', μ', h1, e.trans h2, h3⟩
  | exc x env' st' => exact fun cls d σ' H' ⟨O', μ', h1, h2, h3⟩ => q cls d σ' H' ⟨O', μ', h1, e.trans h2, h3⟩
  | bad => exact q
/-- a part of a statement -/
theorem post_S {γ δ : Type} {r : Res γ} {k : γ → Store → RS} (relA : Own → List Addr → Hp → γ → δ → Prop) (q : PostS K T O μ H W (r.toS env k) D) :
    Post relA K T O μ H env σ W r (fun v H1 => ∃ O1 μ1 st1 a, StR K T O1 μ1 env st1 σ H1 ∧ Ext O μ H O1 μ1 H1 ∧ relA O1 μ1 H1 a v ∧ PostS K T O1 μ1 H1 W (k a st1) D) := by
  cases r with
  | ok a st' =>
    intro v H' ⟨O', μ', h1, h2, h3⟩
    exact ⟨O', μ', st', a, h1, h2, h3, PostS.fwd h2 q⟩
  | exc x st' => exact fun cls d H' ⟨O', μ', h1, h2, h3⟩ => q cls d σ H' ⟨O', μ', h1, h2, h3⟩
  | bad => exact q
theorem PostS.nx_of {env' : Env} {st' : Store} {σ' : L2.St} (q : PostS K T O μ H W (.nx env' st') D) (R : StR K T O μ env' st' σ' H) : D.nx σ' H := q σ' H ⟨O, μ, R, Ext.refl⟩
theorem PostS.nxOpt {env' : Env} {o : Option Store} (q : PostS K T O μ H W (nxOpt env' o) D) : ∃ st', o = some st' ∧ PostS K T O μ H W (.nx env' st') D := by
  cases o with
  | none => exact q.elim
  | some st' => exact ⟨st', rfl, q⟩

/-! ### assignments -/
def notComp : Expr → Bool
  | .ListComp _ _ _ _ => false
  | .SetComp _ _ _ _ => false
  | .DictComp _ _ _ _ _ => false
  | _ => true
theorem swaps_no {e : Expr} {t : Option Expr} {l : Nat} {env : PySem.Env} (h : notComp e = true) : swapsWith e t l env = pure false := by
  unfold swapsWith
  split
  · rename_i s hs
    split at hs <;> first | (simp [notComp] at h; done) | cases hs
  · rfl
theorem ss_asg {h : Bool} (ok : XOk g n N sc X) (hf : FnCell X fc) (hn : nameAt N sc fc x i = true) (hs : swapsWith a (some (.Name x p2)) pos.line X.env = pure false) (ha : PE X a (TE_ g n X W ma)) :
    PS X (.Assign [.Name x p2] a pos) (TS_ g n X W (.asg i h ma)) := by
  have nd : X.N.Nodup := by rw [ok.nm]; exact ok.nd
  simp only [nameAt, Bool.and_eq_true, Bool.or_eq_true, decide_eq_true_eq] at hn
  obtain ⟨h1, h2⟩ := hn
  have hl : X.fn x = true ∨ X.env.scope.names.lookup x = some .local := by
    rcases h2 with h | h
    · exact .inr (by rw [ok.scp]; exact h)
    · exact .inl (hf x h.2)
  have fin : ∀ {O : Own} {μ : List Addr} {H : Hp} {env : Env} {σ : L2.St} {r : Res Mn.D} {D : Ends}, PostS X.K g.T O μ H W (r.toS env fun d st => .nx (env.set i (some d)) st) D → Post VR X.K g.T O μ H env σ W r fun x H1 => gName i x σ H1 D.nx := fun q =>
    (post_S VR q).mono fun v H1 ⟨O1, μ1, st1, d, R1, E1, r1, q1⟩ => q1.nx_of (R1.setv r1)
  cases h with
  | false =>
    refine PS.weak (ps_set (te := TF_ g n X W ma) (i := i) nd (by rw [ok.nm]; exact h1) (by rw [ok.scp]; exact h2.imp_right (·.1)) (pf ha) hs hl) fun D σ H ⟨O, μ, env, st, R, q⟩ => ?_
    simp only [evS, Bool.false_eq_true, if_false] at q
    exact ⟨O, μ, env, st, R, fin q⟩
  | true =>
    refine PS.weak (ps_set (te := TK_ g n X W ma) (i := i) nd (by rw [ok.nm]; exact h1) (by rw [ok.scp]; exact h2.imp_right (·.1)) (pk ha) hs hl) fun D σ H ⟨O, μ, env, st, R, q⟩ => ?_
    simp only [evS, if_true] at q
    exact ⟨O, μ, env, st, R, fin q⟩

/-! ### the plain ones -/
theorem ss_ex (hs : notComp a = true) (ha : PE X a (TE_ g n X W ma)) : PS X (.Expr a pos) (TS_ g n X W (.ex ma)) := by
  refine PS.weak (ps_expr (pf ha) (swaps_no hs)) fun D σ H ⟨O, μ, env, st, R, q⟩ => ?_
  simp only [evS] at q
  exact ⟨O, μ, env, st, R, (post_S VR q).mono fun v H1 ⟨O1, μ1, st1, d, R1, E1, r1, q1⟩ => q1.nx_of R1⟩
theorem ss_ret (ha : PE X a (TE_ g n X W ma)) : PS X (.Return (some a) pos) (TS_ g n X W (.ret ma)) := by
  refine PS.weak (ps_ret ha) fun D σ H ⟨O, μ, env, st, R, q⟩ => ?_
  simp only [evS] at q
  exact ⟨O, μ, env, st, R, (post_S RVR q).mono fun v H1 ⟨O1, μ1, st1, d, R1, E1, r1, q1⟩ => q1 v H1 ⟨O1, μ1, R1.bare, Ext.refl, r1⟩⟩
theorem ss_retN : PS X (.Return none pos) (TS_ g n X W .retN) := by
  refine PS.weak ps_retN fun D σ H ⟨O, μ, env, st, R, q⟩ => ?_
  simp only [evS] at q
  exact q .non H ⟨O, μ, R.bare, Ext.refl, rfl⟩
theorem ss_pass : PS X (.Pass pos) (TS_ g n X W .pass) := by
  refine PS.weak ps_pass fun D σ H ⟨O, μ, env, st, R, q⟩ => ?_
  simp only [evS] at q
  exact q.nx_of R
theorem ss_brk : PS X (.Break pos) (TS_ g n X W .brk) := by
  refine PS.weak ps_break fun D σ H ⟨O, μ, env, st, R, q⟩ => ?_
  simp only [evS] at q
  exact q σ H ⟨O, μ, R, Ext.refl⟩
theorem ss_cnt : PS X (.Continue pos) (TS_ g n X W .cnt) := by
  refine PS.weak ps_continue fun D σ H ⟨O, μ, env, st, R, q⟩ => ?_
  simp only [evS] at q
  exact q σ H ⟨O, μ, R, Ext.refl⟩
theorem ss_nil : PSs X [] (TSs_ g n X W .nil) := by
  refine PSs.weak pss_nil fun D σ H ⟨O, μ, env, st, R, q⟩ => ?_
  simp only [evSs] at q
  exact q.nx_of R
theorem seq_post {r : RS} {k : Env → Store → RS} (q : PostS K T O μ H W (r.seq k) D) : PostS K T O μ H W r { D with nx := fun σ1 H1 => ∃ O1 μ1 env1 st1, StR K T O1 μ1 env1 st1 σ1 H1 ∧ PostS K T O1 μ1 H1 W (k env1 st1) D } := by
  cases r with
  | nx env' st' => exact fun σ' H' ⟨O', μ', h1, h2⟩ => ⟨O', μ', env', st', h1, PostS.fwd h2 q⟩
  | bk env' st' => exact q
  | ct env' st' => exact q
  | rt rv st' => exact q
  | exc x env' st' => exact q
  | bad => exact q
theorem ss_cons {s : Stmt} {r : List Stmt} {m : S} {mr : Ss} (hs : PS X s (TS_ g n X W m)) (hr : PSs X r (TSs_ g n X W mr)) : PSs X (s :: r) (TSs_ g n X W (.cons m mr)) := by
  refine PSs.weak (pss_cons hs hr) fun D σ H ⟨O, μ, env, st, R, q⟩ => ?_
  simp only [evSs] at q
  exact ⟨O, μ, env, st, R, seq_post q⟩
theorem post_TS {r : Res Bool} {k : Bool → Store → RS} (q : PostS K T O μ H W (r.toS env k) D) :
    Post rB K T O μ H env σ W r (fun x H1 => ∃ O1 μ1 st1, StR K T O1 μ1 env st1 σ H1 ∧ Ext O μ H O1 μ1 H1 ∧ PostS K T O1 μ1 H1 W (k x st1) D) := by
  refine (post_S rB q).mono ?_
  rintro v H1 ⟨O1, μ1, st1, x, R1, E1, rfl, q1⟩
  exact ⟨O1, μ1, st1, R1, E1, q1⟩
theorem ss_if {xs ys : List Stmt} {mx my : Ss} (hc : PT X c (TT_ g n X W ta)) (hx : PSs X xs (TSs_ g n X W mx)) (hy : PSs X ys (TSs_ g n X W my)) : PS X (.If c xs ys pos) (TS_ g n X W (.ifs ta mx my)) := by
  refine PS.weak (ps_if hc hx hy) fun D σ H ⟨O, μ, env, st, R, q⟩ => ?_
  simp only [evS] at q
  refine ⟨O, μ, env, st, R, (post_TS q).mono ?_⟩
  rintro x H1 ⟨O1, μ1, st1, R1, E1, q1⟩
  cases x with
  | true => rw [if_pos rfl] at q1 ⊢; exact ⟨O1, μ1, env, st1, R1, q1⟩
  | false => rw [if_neg Bool.false_ne_true] at q1 ⊢; exact ⟨O1, μ1, env, st1, R1, q1⟩
end
end Mn
end

section
set_option Elab.async false
set_option linter.all false
set_option maxRecDepth 100000
set_option maxHeartbeats 2000000
/-! Mini: stores into objects. -/
namespace Mn
open PySem L2 PySem.Spec PyProof.Rows
section
variable {g : Pg} {n : Nat} {X : Cx} {W : WX} {N : List Str} {sc : Scope} {fc : Str → Bool} {a b c : Expr} {ma mb mc : E} {ta tb : Mn.T} {pos apos p2 : Pos} {es : List Expr} {ms : Es} {x : Str} {i : Nat}
variable {K : Frag} {T : List (Addr × Str)} {O O1 : Own} {μ μ1 : List Addr} {H H1 : Hp} {env : Env} {st : Store} {σ : L2.St} {D : Ends}
/-- a list of the store that may be changed -/
theorem lst_at {j : Nat} {v : V} {xs : List Mn.D} (R : StR K T O μ env st σ H) (h : VR O μ H (.loc j) v) (e : st[j]? = some (.lst false xs)) : ∃ ad vs, v = .ref ad ∧ H ad = some (.lst vs) ∧ VRs O μ H xs vs ∧
    ∀ ys vs', (Ext O μ H O μ (upd H ad (.lst vs')) → VRs O μ (upd H ad (.lst vs')) ys vs') → StR K T O μ env (st.set j (.lst false ys)) σ (upd H ad (.lst vs')) ∧ Ext O μ H O μ (upd H ad (.lst vs')) := by
  obtain ⟨ad, rfl, h1, h2, vs, h3, h4⟩ := obj_at R h e
  exact ⟨ad, vs, rfl, h3, h4, fun ys vs' hv => R.put e h1 h2 h3 (fun _ q => nomatch q) (fun _ q => nomatch q) (fun _ q => nomatch q) (fun _ _ q => nomatch q) fun e' => ⟨vs', upd_same, hv e'⟩⟩
/-- a dict of the store that may be changed -/
theorem dct_to {j : Nat} {v : V} {t : Bool} {kvs : List (Mn.D × Mn.D)} (R : StR K T O μ env st σ H) (h : VR O μ H (.loc j) v) (e : st[j]? = some (.dct t false kvs)) : ∃ ad, v = .ref ad ∧
    ((t = false ∧ ∃ z : List (Key × V), H ad = some (.dK z) ∧ VRk O μ H kvs (z.map fun q => (kD q.1, q.2)) ∧ ∀ ys (z' : List (Key × V)), (Ext O μ H O μ (upd H ad (.dK z')) → VRk O μ (upd H ad (.dK z')) ys (z'.map fun q => (kD q.1, q.2))) → StR K T O μ env (st.set j (.dct t false ys)) σ (upd H ad (.dK z')) ∧ Ext O μ H O μ (upd H ad (.dK z'))) ∨
     (t = true ∧ ∃ z : List (List Key × V), H ad = some (.dT z) ∧ VRk O μ H kvs (z.map fun q => (kDT q.1, q.2)) ∧ ∀ ys (z' : List (List Key × V)), (Ext O μ H O μ (upd H ad (.dT z')) → VRk O μ (upd H ad (.dT z')) ys (z'.map fun q => (kDT q.1, q.2))) → StR K T O μ env (st.set j (.dct t false ys)) σ (upd H ad (.dT z')) ∧ Ext O μ H O μ (upd H ad (.dT z')))) := by
  obtain ⟨ad, rfl, h1, h2, h3⟩ := obj_at R h e
  obtain ⟨u, l, hu, mu, n1, n2, n3, n4, h4, h5⟩ := dct_free h3
  refine ⟨ad, rfl, ?_⟩
  rcases h5 with ⟨rfl, z, rfl, rfl⟩ | ⟨rfl, z, rfl, rfl⟩
  · exact .inl ⟨rfl, z, hu, h4, fun ys z' hv => R.put e h1 h2 hu n1 n2 n3 n4 fun e' => ⟨_, ⟨z', upd_same, rfl⟩, hv e'⟩⟩
  · exact .inr ⟨rfl, z, hu, h4, fun ys z' hv => R.put e h1 h2 hu n1 n2 n3 n4 fun e' => ⟨_, ⟨z', upd_same, rfl⟩, hv e'⟩⟩
/-- o[i] = v -/
def SSet (g : Pg) (X : Cx) : TSet := fun o i v H Q => ∃ O μ env st σ0 dx dy dv st', StR X.K g.T O μ env st σ0 H ∧ VR O μ H dx o ∧ VR O μ H dy i ∧ VR O μ H dv v ∧ isetD st dx dy dv = some st' ∧
  ∀ H', (∃ O' μ', StR X.K g.T O' μ' env st' σ0 H' ∧ Ext O μ H O' μ' H') → Q H'
theorem setS (hu : X.A.units + 1 < cLine) : PSet X (SSet g X) := by
  intro pins s σ H o i v ov iv u Q I ro ri rv ⟨O, μ, env, st, σ0, dx, dy, dv, st', R, r1, r2, r3, e, q⟩
  unfold isetD at e
  split at e <;> first | cases e | skip
  rename_i j
  cases ej : st[j]? with
  | none => rw [ej] at e; cases e
  | some ob =>
    rw [ej] at e
    cases ob with
    | ins _ _ => cases e
    | lst k xs =>
      cases k with
      | true => cases e
      | false =>
        dsimp only at e
        split at e <;> first | cases e | skip
        rename_i k
        cases r2
        obtain ⟨ad, vs, rfl, h1, h2, put⟩ := lst_at R r1 ej
        cases en : ixN xs.length k with
        | none => rw [en] at e; cases e
        | some m =>
          rw [en] at e
          cases e
          refine set_list pins s σ H _ _ v ov iv u Q I ro ri rv ⟨ad, vs, k, m, rfl, rfl, h1, by rw [← h2.length]; exact en, q _ ⟨O, μ, put _ _ fun e' => ?_⟩⟩
          exact (VRs.mono e' xs h2).set (VR.mono e' dv r3) m
    | dct t k kvs =>
      cases k with
      | true => cases e
      | false =>
        dsimp only at e
        split at e <;> first | cases e | skip
        rename_i hk
        obtain ⟨hik, hl⟩ := hk
        obtain ⟨ad, rfl, hh⟩ := dct_to R r1 ej
        rcases hh with ⟨rfl, z, h1, h2, put⟩ | ⟨rfl, z, h1, h2, put⟩
        · simp only [isKey, Bool.false_eq_true, if_false] at hik
          obtain ⟨κ, ek⟩ := Option.isSome_iff_exists.mp hik
          have ek := keyK_eq ek
          subst ek
          cases vr_kD r2
          have hz : z.length < sizeLine := by
            have := VRk.length h2
            rw [List.length_map] at this
            have := lim_le
            omega
          refine set_dict hu pins s σ H _ _ v ov iv u Q I ro ri rv ⟨ad, _, rfl, .inl ⟨z, κ, h1, rfl, hz, rfl⟩, q _ ⟨O, μ, put _ _ fun e' => ?_⟩⟩
          exact put_rel kD_inj κ (VR.mono e' dv r3) (VRk.mono e' kvs h2)
        · simp only [isKey, if_true] at hik
          obtain ⟨κ, ek⟩ := Option.isSome_iff_exists.mp hik
          have ek := keyT_eq ek
          subst ek
          obtain ⟨b, rfl, hb⟩ := vr_kDT r2
          have hz : z.length < sizeLine := by
            have := VRk.length h2
            rw [List.length_map] at this
            have := lim_le
            omega
          refine set_dict hu pins s σ H _ _ v ov iv u Q I ro ri rv ⟨ad, _, rfl, .inr ⟨z, κ, b, h1, rfl, hb, hz, rfl⟩, q _ ⟨O, μ, put _ _ fun e' => ?_⟩⟩
          exact put_rel kDT_inj κ (VR.mono e' dv r3) (VRk.mono e' kvs h2)
end
end Mn
end

section
set_option Elab.async false
set_option linter.all false
set_option maxRecDepth 100000
set_option maxHeartbeats 2000000
/-! Mini: statements that store into objects, take a value apart. -/
namespace Mn
open PySem L2 PySem.Spec PyProof.Rows
section
variable {g : Pg} {n : Nat} {X : Cx} {W : WX} {N : List Str} {sc : Scope} {fc : Str → Bool} {a b c : Expr} {ma mb mc : E} {ta tb : Mn.T} {pos apos p2 : Pos} {es : List Expr} {ms : Es} {x : Str} {i : Nat}
variable {K : Frag} {T : List (Addr × Str)} {O O1 : Own} {μ μ1 : List Addr} {H H1 : Hp} {env : Env} {st : Store} {σ : L2.St} {D : Ends}
theorem swaps_sub {e o i : Expr} {p : Pos} {l : Nat} {env : PySem.Env} : swapsWith e (some (.Subscript o i p)) l env = pure false := by
  unfold swapsWith
  split
  · rfl
  · rfl
theorem swaps_att {e o : Expr} {f : Str} {p : Pos} {l : Nat} {env : PySem.Env} : swapsWith e (some (.Attribute o f p)) l env = pure false := by
  unfold swapsWith
  split
  · rfl
  · rfl
theorem swaps_tup {e : Expr} {es : List Expr} {k : Nat} {p : Pos} {l : Nat} {env : PySem.Env} : swapsWith e (some (.Tuple es k p)) l env = pure false := by
  unfold swapsWith
  split
  · rfl
  · rfl
theorem sole_sub {e o i : Expr} {p : Pos} {l : Nat} {env : PySem.Env} : swapsWithSole [.Subscript o i p] e l env = pure false := by
  show swapsWith e (some (.Subscript o i p)) l env = pure false
  exact swaps_sub
theorem sole_tup {e : Expr} {es : List Expr} {k : Nat} {p : Pos} {l : Nat} {env : PySem.Env} : swapsWithSole [.Tuple es k p] e l env = pure false := by
  show swapsWith e (some (.Tuple es k p)) l env = pure false
  exact swaps_tup
theorem assign_sub {o i : Expr} {p : Pos} {env : PySem.Env} (h : notSl i = true) (v : Value) : assign (.Subscript o i p) env v = (do
      let ov ← holding [v] (eval o env)
      let iv ← holding [v, ov] (eval i env)
      standAt p
      holding [v, ov, iv] (setItem ov iv v)
      release [v, ov, iv] []) := by
  cases i with
  | Slice lo hi st p =>
    cases st with
    | none => simp [notSl] at h
    | some s => rfl
  | _ => rfl
theorem stores_sub {e o i : Expr} {p : Pos} {env : PySem.Env} : swappedStores [.Subscript o i p] e env = pure none := by
  unfold swappedStores
  rfl
theorem ss_iset {h : Bool} (ok : XOk g n N sc X) (hsl : notSl b = true) (ho : PE X a (TE_ g n X W ma)) (hi : PE X b (TE_ g n X W mb)) (hv : PE X c (TE_ g n X W mc)) : PS X (.Assign [.Subscript a b p2] c pos) (TS_ g n X W (.iset ma mb h mc)) := by
  have hu := ok.room.un
  have hg : PG X (.Subscript a b p2) _ := pg_sub (pf ho) (pf hi) (setS (g := g) (X := X) (by omega)) (assign_sub hsl)
  have fin : ∀ {O : Own} {μ : List Addr} {H : Hp} {env : Env} {σ : L2.St} {r : Res Mn.D} {D : Ends}, PostS X.K g.T O μ H W (r.toS env fun v st => (evE g.p (g.C n) ma env st).froz.toS env fun x st => (evE g.p (g.C n) mb env st).froz.toS env fun y st => nxOpt env (isetD st x y v)) D →
      Post VR X.K g.T O μ H env σ W r fun x H1 => gSub (TF_ g n X W ma) (TF_ g n X W mb) (SSet g X) x σ H1 D.nx := fun {O μ H env σ r D} q => by
    refine (post_S VR q).mono ?_
    rintro v H1 ⟨O1, μ1, st1, dv, R1, E1, r1, q1⟩
    refine ⟨O1, μ1, env, st1, R1, (post_S VR q1).mono ?_⟩
    rintro o H2 ⟨O2, μ2, st2, dx, R2, E2, r2, q2⟩
    refine ⟨O2, μ2, env, st2, R2, (post_S VR q2).mono ?_⟩
    rintro y H3 ⟨O3, μ3, st3, dy, R3, E3, r3, q3⟩
    obtain ⟨st', e, q4⟩ := q3.nxOpt
    exact ⟨O3, μ3, env, st3, σ, dx, dy, dv, st', R3, VR.mono E3 dx r2, r3, VR.mono E3 dv (VR.mono E2 dv r1), e, fun H' hh => q4 σ H' hh⟩
  cases h with
  | false =>
    refine PS.weak (ps_asg (te := TF_ g n X W mc) (pf hv) hg sole_sub stores_sub) fun D σ H ⟨O, μ, env, st, R, q⟩ => ?_
    simp only [evS, Bool.false_eq_true, if_false] at q
    exact ⟨O, μ, env, st, R, fin q⟩
  | true =>
    refine PS.weak (ps_asg (te := TK_ g n X W mc) (pk hv) hg sole_sub stores_sub) fun D σ H ⟨O, μ, env, st, R, q⟩ => ?_
    simp only [evS, if_true] at q
    exact ⟨O, μ, env, st, R, fin q⟩
theorem putF_rel {fs : List (Str × Mn.D)} {f : Str} {d : Mn.D} {v : V} (hv : VR O μ H d v) : ∀ {fs : List (Str × Mn.D)} {l : List (Str × V)}, VRf O μ H fs l → VRf O μ H (setF fs f d) (putF f v l)
  | [], _, h => by
    simp only [VRf] at h
    subst h
    simp only [setF, putF, VRf]
    exact ⟨v, [], rfl, hv, rfl⟩
  | (k, x) :: xs, _, h => by
    simp only [VRf] at h
    obtain ⟨u, r, rfl, h1, h2⟩ := h
    by_cases e : k = f
    · subst e
      simp only [setF, putF, if_true, VRf]
      exact ⟨v, r, rfl, hv, h2⟩
    · simp only [setF, putF, if_neg e, VRf]
      exact ⟨u, _, rfl, h1, putF_rel (fs := fs) hv h2⟩
theorem VRf.length : ∀ {fs : List (Str × Mn.D)} {l : List (Str × V)}, VRf O μ H fs l → fs.length = l.length
  | [], _, h => by simp only [VRf] at h; rw [h]; rfl
  | (k, x) :: xs, _, h => by
    simp only [VRf] at h
    obtain ⟨u, r, rfl, h1, h2⟩ := h
    rw [List.length_cons, List.length_cons, VRf.length h2]
theorem ss_fset {f : Str} (ok : XOk g n N sc X) (ho : PE X a (TE_ g n X W ma)) (hv : PE X c (TE_ g n X W mc)) : PS X (.Assign [.Attribute a f p2] c pos) (TS_ g n X W (.fset ma f mc)) := by
  refine PS.weak (ps_fld (pf ho) (pk hv) swaps_att) fun D σ H ⟨O, μ, env, st, R, q⟩ => ?_
  simp only [evS] at q
  refine ⟨O, μ, env, st, R, (post_S VR q).mono ?_⟩
  rintro v H1 ⟨O1, μ1, st1, dv, R1, E1, r1, q1⟩
  refine ⟨O1, μ1, env, st1, R1, (post_S VR q1).mono ?_⟩
  rintro o H2 ⟨O2, μ2, st2, dx, R2, E2, r2, q2⟩
  obtain ⟨st', e, q3⟩ := q2.nxOpt
  unfold fsetD at e
  split at e <;> first | cases e | skip
  rename_i j
  cases ej : st2[j]? with
  | none => rw [ej] at e; cases e
  | some ob =>
    rw [ej] at e
    cases ob with
    | lst _ _ => cases e
    | dct _ _ _ => cases e
    | ins cn fs =>
      dsimp only at e
      split at e <;> first | cases e | skip
      rename_i hk
      obtain ⟨ad, rfl, k1, k2, dx, fs', k3, k4⟩ := obj_at R2 r2 ej
      obtain ⟨c1, c2⟩ := ok.fld cn f hk.2
      refine ⟨ad, _, dx, fs', rfl, k3, c1, c2, by rw [← VRf.length k4]; omega, ?_⟩
      obtain ⟨R3, E3⟩ := R2.put (o := .ins cn (setF fs f dv)) (u' := .ins (He.ga X.K cn) dx (putF f v fs')) ej k1 k2 k3 (fun _ q => nomatch q) (fun _ q => nomatch q) (fun _ q => nomatch q) (fun _ _ q => nomatch q) fun e' => ⟨dx, _, upd_same, putF_rel (fs := fs) (VR.mono e' dv (VR.mono E2 dv r1)) (VRf.mono e' fs k4)⟩
      exact q3 σ _ ⟨O2, μ2, R3, E3⟩
/-! ### a value taken apart -/
theorem stores_none {e : Expr} {es : List Expr} {k : Nat} {p : Pos} {env : PySem.Env} (h : ∀ vs j q, e ≠ .Tuple vs j q) : swappedStores [.Tuple es k p] e env = pure none := by
  unfold swappedStores
  split
  · rename_i ts vs hm
    split at hm
    · rename_i e1 e2
      cases e1
      exact absurd rfl (h _ _ _)
    · rename_i e1
      cases e1
    · cases hm
  · rfl
def notTup : Expr → Bool
  | .Tuple _ _ _ => false
  | _ => true
theorem notTup_ne {e : Expr} (h : notTup e = true) : ∀ vs j q, e ≠ .Tuple vs j q := fun vs j q z => by rw [z] at h; simp [notTup] at h
theorem ss_unp {k : Nat} {is : List Nat} (ok : XOk g n N sc X) (hf : FnCell X fc) (hn : namesAt N sc fc es is = true) (ht : notTup a = true) (ha : PE X a (TE_ g n X W ma)) : PS X (.Assign [.Tuple es k p2] a pos) (TS_ g n X W (.unp is ma)) := by
  have nd : X.N.Nodup := by rw [ok.nm]; exact ok.nd
  obtain ⟨k1, k2, k3⟩ := sg_names nd ok.nm ok.scp hf hn
  have hg := pg_tup (k := k) (pos := p2) ok.calm k1 k2 k3
  refine PS.weak (ps_asg (pf ha) hg sole_tup (stores_none (notTup_ne ht))) fun D σ H ⟨O, μ, env, st, R, q⟩ => ?_
  simp only [evS] at q
  refine ⟨O, μ, env, st, R, (post_S VR q).mono ?_⟩
  rintro v H1 ⟨O1, μ1, st1, d, R1, E1, r1, q1⟩
  cases d <;> first | exact q1.elim | skip
  rename_i xs
  dsimp only at q1
  split at q1
  · rename_i hl
    obtain ⟨ad, vs, rfl, h1, h2⟩ := vr_tup r1
    have hlv : vs.length = is.length := by rw [← h2.length]; exact hl
    exact ⟨ad, vs, rfl, .inl (.inl h1), hlv, hlv, q1.nx_of (R1.setA h2)⟩
  · exact q1.elim
/-- o[i], name = a pair -/
theorem ss_unpS {k : Nat} {px pt : Pos} (ok : XOk g n N sc X) (hsl : notSl b = true) (hf : FnCell X fc) (hn : nameAt N sc fc x i = true) (ht : notTup c = true) (ho : PE X a (TE_ g n X W ma)) (hi : PE X b (TE_ g n X W mb)) (hv : PE X c (TE_ g n X W mc)) :
    PS X (.Assign [.Tuple [.Subscript a b p2, .Name x px] k pt] c pos) (TS_ g n X W (.unpS ma mb i mc)) := by
  have hu := ok.room.un
  have nd : X.N.Nodup := by rw [ok.nm]; exact ok.nd
  have hs : PG X (.Subscript a b p2) _ := pg_sub (pf ho) (pf hi) (setS (g := g) (X := X) (by omega)) (assign_sub hsl)
  have hg := pg_tup (k := k) (pos := pt) (es := [.Subscript a b p2, .Name x px]) ok.calm (pgs_cons hs (pgs_cons (sg_name (pos := px) nd ok.nm ok.scp hf hn) pgs_nil))
  refine PS.weak (ps_asg (pf hv) hg sole_tup (stores_none (notTup_ne ht))) fun D σ H ⟨O, μ, env, st, R, q⟩ => ?_
  simp only [evS] at q
  refine ⟨O, μ, env, st, R, (post_S VR q).mono ?_⟩
  rintro v H1 ⟨O1, μ1, st1, d, R1, E1, r1, q1⟩
  split at q1
  · rename_i da db
    obtain ⟨ad, vs, rfl, h1, h2⟩ := vr_tup r1
    obtain ⟨v1, v2, rfl, h3, h4⟩ := vrs2 h2
    refine ⟨ad, _, rfl, .inl (.inl h1), rfl, v1, [v2], rfl, O1, μ1, env, st1, R1, (post_S VR q1).mono ?_⟩
    rintro o H2 ⟨O2, μ2, st2, dx, R2, E2, r2, q2⟩
    refine ⟨O2, μ2, env, st2, R2, (post_S VR q2).mono ?_⟩
    rintro y H3 ⟨O3, μ3, st3, dy, R3, E3, r3, q3⟩
    obtain ⟨st', e, q4⟩ := q3.nxOpt
    refine ⟨O3, μ3, env, st3, σ, dx, dy, da, st', R3, VR.mono E3 dx r2, r3, VR.mono E3 da (VR.mono E2 da h3), e, fun H' ⟨O', μ', R', E'⟩ => ?_⟩
    exact ⟨v2, [], rfl, rfl, (PostS.fwd E' q4).nx_of (R'.setv (VR.mono E' db (VR.mono E3 db (VR.mono E2 db h4))))⟩
  · exact q1.elim
end
end Mn
end

section
set_option Elab.async false
set_option linter.all false
set_option maxRecDepth 100000
set_option maxHeartbeats 2000000
/-! Mini: op=, del, several names at once, a comprehension into a name, while, for. -/
namespace Mn
open PySem L2 PySem.Spec PyProof.Rows
section
variable {g : Pg} {n : Nat} {X : Cx} {W : WX} {N : List Str} {sc : Scope} {fc : Str → Bool} {a b c : Expr} {ma mb mc : E} {ta tb : Mn.T} {pos apos p2 : Pos} {es : List Expr} {ms : Es} {x : Str} {i : Nat}
variable {K : Frag} {T : List (Addr × Str)} {O O1 : Own} {μ μ1 : List Addr} {H H1 : Hp} {env : Env} {st : Store} {σ : L2.St} {D : Ends}
/-! ### name += e -/
def SAug (g : Pg) (X : Cx) : TIp := fun x y H Q => ∃ O μ env st σ0 dx dy dz st', StR X.K g.T O μ env st σ0 H ∧ VR O μ H dx x ∧ VR O μ H dy y ∧ augD st .add dx dy = .ok dz st' ∧
  ∀ v H', (∃ O' μ', StR X.K g.T O' μ' env st' σ0 H' ∧ Ext O μ H O' μ' H' ∧ VR O' μ' H' dz v) → Q v H'
theorem augS : PIp X .Add (SAug g X) := by
  intro pins s σ H x y v u Q I rx ry ⟨O, μ, env, st, σ0, dx, dy, dz, st', R, r1, r2, e, q⟩
  simp only [augD, if_true] at e
  split at e <;> first | cases e | skip
  · cases r1
    cases r2
    exact ip_add pins s σ H _ _ v u Q I rx ry ⟨_, _, rfl, rfl, q _ _ ⟨O, μ, R, Ext.refl, rfl⟩⟩
  · rename_i j
    split at e <;> first | cases e | skip
    rename_i xs ys ej el
    split at e <;> first | cases e | skip
    rename_i hz
    obtain ⟨ad, vs, rfl, h1, h2, put⟩ := lst_at R r1 ej
    have hb : ∃ b zs, y = .ref b ∧ H b = some (.lst zs) ∧ VRs O μ H ys zs := by
      unfold lstOf at el
      split at el <;> first | cases el | skip
      · obtain ⟨b, zs, e1, e2, e3, e4⟩ := vr_lst r2
        exact ⟨b, zs, e1, e3, e4⟩
      · rename_i j2
        split at el <;> first | cases el | skip
        rename_i ej2
        obtain ⟨b, zs, e1, e3, e4, _⟩ := lst_at R r2 ej2
        exact ⟨b, zs, e1, e3, e4⟩
    obtain ⟨b, zs, rfl, h3, h4⟩ := hb
    refine iop_ext pins s σ H _ _ v u Q I rx ry ⟨ad, b, vs, zs, rfl, rfl, h1, h3, le_line (by rw [← h2.length, ← h4.length]; exact hz), ?_⟩
    obtain ⟨R2, E2⟩ := put (xs ++ ys) (vs ++ zs) fun e' => (VRs.mono e' xs h2).append (VRs.mono e' ys h4)
    exact q _ _ ⟨O, μ, R2, E2, VR.mono E2 (.loc j) r1⟩
theorem ss_aug (ok : XOk g n N sc X) (hf : FnCell X fc) (hn : nameAt N sc fc x i = true) (ha : PE X a (TE_ g n X W ma)) : PS X (.AugAssign (.Name x p2) .Add a pos) (TS_ g n X W (.aug i .add ma)) := by
  have nd : X.N.Nodup := by rw [ok.nm]; exact ok.nd
  simp only [nameAt, Bool.and_eq_true, Bool.or_eq_true, decide_eq_true_eq] at hn
  obtain ⟨h1, h2⟩ := hn
  have hl : X.fn x = true ∨ X.env.scope.names.lookup x = some .local := by
    rcases h2 with h | h
    · exact .inr (by rw [ok.scp]; exact h)
    · exact .inl (hf x h.2)
  refine PS.weak (ps_aug (i := i) nd (by rw [ok.nm]; exact h1) (by rw [ok.scp]; exact h2.imp_right (·.1)) (pf ha) (augS (g := g)) hl) fun D σ H ⟨O, μ, env, st, R, q⟩ => ?_
  simp only [evS] at q
  cases ei : env[i]? with
  | none => rw [ei] at q; exact q.elim
  | some o =>
    cases o with
    | none => rw [ei] at q; exact q.elim
    | some d =>
      rw [ei] at q
      obtain ⟨v, hv, rv⟩ := R.vars i d ei
      refine ⟨v, hv, O, μ, env, st, R, (post_S VR q).mono ?_⟩
      rintro y H1 ⟨O1, μ1, st1, dy, R1, E1, r1, q1⟩
      cases e : augD st1 .add d dy with
      | ok dz st' =>
        rw [e] at q1
        refine ⟨O1, μ1, env, st1, σ, d, dy, dz, st', R1, VR.mono E1 d rv, r1, e, fun v H' ⟨O', μ', R', E', r'⟩ => ?_⟩
        exact (PostS.fwd E' (show PostS X.K g.T O1 μ1 H1 W (.nx (env.set i (some dz)) st') D from q1)).nx_of (R'.setv r')
      | exc x st' =>
        exfalso
        unfold augD at e
        split at e <;> first | cases e | skip
        split at e <;> first | cases e | skip
        split at e <;> first | cases e | skip
        split at e <;> cases e
      | bad => rw [e] at q1; exact q1.elim

/-! ### del o[i] -/
theorem d_delItemT {X : Cx} {pins : List (Addr × Obj)} {σ : L2.St} {H : Hp} {s : Shared} {ad b : Addr} {kvs : List (List Key × V)} {k : List Key} {A : Around} {E : Value → Shared → Prop} {Q : Unit → Shared → Prop} (hu : A.units + 1 < cLine) (I : Inv X pins σ H s) (e : H ad = some (.dT kvs)) (eb : H b = some (.tup (k.map kV))) (l : (valV kvs k).isSome = true)
    (h : ∀ s', Inv X pins σ (upd H ad (.dT (dropK kvs k))) s' → Q () s') : wpAny (model X.prog X.w) A (delItem (.ref ad) (.ref b)) Q E s := by
  obtain ⟨z, hd, xs, rel, dd⟩ := dt_of I.hok e
  have hz : xs.length ≤ sizeLine := by rw [← Paired.length rel]; exact z
  refine wpAny_delItem_slot dd.typeIs (by decide) PySem.F.slot_dict_delitem
    (call_meetsIn PySem.F.slot_dict_delitem dd.typeIs PySem.F.entry_dict_delitem (PySem.F.args_dict_delitem_2 _ _) (meetsH_dict_delitem (tupleKind (mixKind X.prog X.w)) ad b hd)
      ⟨tupleKind_room_in1 hu, k, xs, key_of I.hok eb, dd, hz, fun p hp h' dd' hs => h _ ?_, fun hn => ?_⟩)
  · obtain ⟨q, es, ep, hq, h2, h3, h4, _, h5⟩ := dd'
    refine d_write I (by rw [e]; exact True.intro) hs ⟨q, hq⟩ ⟨Nat.le_trans (dropK_le kvs k) z, hd, _, (L2.DX.KT_drop k rel).keeps fun c ys ec => ?_, q, es, ep, hq, h2, h3, h4, h5⟩
    rw [upd_ne (ne_of ec e (fun z => nomatch z))]
    exact ec
  · have r := rel.val k
    rw [hn] at r
    cases ev : valV kvs k with
    | none => rw [ev] at l; cases l
    | some v0 => rw [ev] at r; exact (show False from r).elim
theorem ss_del (ok : XOk g n N sc X) (ho : PE X a (TE_ g n X W ma)) (hi : PE X b (TE_ g n X W mb)) : PS X (.Delete [.Subscript a b p2] pos) (TS_ g n X W (.del ma mb)) := by
  have hu := ok.room.un
  refine ⟨fun pins s σ H D I ⟨O, μ, env, st, R, q⟩ => ?_⟩
  simp only [evS] at q
  refine wpAny_Delete (wpAny_deleteEach_cons (wpAny_delete_Subscript (thn ((pf ho).run pins s σ H _ I ⟨O, μ, env, st, R, post_S VR q⟩) fun u s1 ⟨v, H1, I1, rv, O1, μ1, st1, dx, R1, E1, r1, q1⟩ => thn ((pf hi).run pins s1 σ H1 _ I1 ⟨O1, μ1, env, st1, R1, post_S VR q1⟩) fun iv s2 ⟨y, H2, I2, ry, O2, μ2, st2, dy, R2, E2, r2, q2⟩ => ?_)))
  obtain ⟨st', e, q3⟩ := q2.nxOpt
  have rx := VR.mono E2 dx r1
  unfold delAt at e
  cases dx with
  | loc j =>
    dsimp only at e
    cases ej : st2[j]? with
    | none => rw [ej] at e; cases e
    | some ob =>
      rw [ej] at e
      cases ob with
      | ins _ _ => cases e
      | lst _ _ => cases e
      | dct t k kvs =>
        cases k with
        | true => cases e
        | false =>
          dsimp only at e
          split at e <;> first | cases e | skip
          rename_i hk
          obtain ⟨hik, hl⟩ := hk
          obtain ⟨ad, rfl, hh⟩ := dct_to R2 rx ej
          cases rv
          rcases hh with ⟨rfl, z, h1, h2, put⟩ | ⟨rfl, z, h1, h2, put⟩
          · simp only [isKey, Bool.false_eq_true, if_false] at hik
            obtain ⟨κ, ek⟩ := Option.isSome_iff_exists.mp hik
            have ek := keyK_eq ek
            subst ek
            cases vr_kD r2
            have hs : (valV z κ).isSome = true := by rw [← opt2_some (look_rel kD_inj κ h2)]; exact hl
            obtain ⟨R3, E3⟩ := put (delD kvs (kD κ)) (dropK z κ) fun e' => VRk.mono e' _ (del_rel kD_inj κ h2)
            exact d_delItem I2 h1 ry hs fun s3 I3 => wpAny_deleteEach_nil ⟨σ, _, I3, (PostS.fwd E3 q3).nx_of R3⟩
          · simp only [isKey, if_true] at hik
            obtain ⟨κ, ek⟩ := Option.isSome_iff_exists.mp hik
            have ek := keyT_eq ek
            subst ek
            obtain ⟨b, rfl, hb⟩ := vr_kDT r2
            cases ry
            have hs : (valV z κ).isSome = true := by rw [← opt2_some (look_rel kDT_inj κ h2)]; exact hl
            obtain ⟨R3, E3⟩ := put (delD kvs (kDT κ)) (dropK z κ) fun e' => VRk.mono e' _ (del_rel kDT_inj κ h2)
            exact d_delItemT (by omega) I2 h1 hb hs fun s3 I3 => wpAny_deleteEach_nil ⟨σ, _, I3, (PostS.fwd E3 q3).nx_of R3⟩
  | _ => cases e
end
end Mn
end

section
set_option Elab.async false
set_option linter.all false
set_option maxRecDepth 100000
set_option maxHeartbeats 2000000
/-! Mini: several names at once, a comprehension into a name. -/
namespace Mn
open PySem L2 PySem.Spec PyProof.Rows
section
variable {g : Pg} {n : Nat} {X : Cx} {W : WX} {N : List Str} {sc : Scope} {fc : Str → Bool} {a b c : Expr} {ma mb mc : E} {ta tb : Mn.T} {pos apos p2 : Pos} {es : List Expr} {ms : Es} {x : Str} {i : Nat}
variable {K : Frag} {T : List (Addr × Str)} {O O1 : Own} {μ μ1 : List Addr} {H H1 : Hp} {env : Env} {st : Store} {σ : L2.St} {D : Ends}
/-- how x, y = a, b is stored -/
def swV (bk : ScopeKind) (kd : Str → Option NameKind) (ts vs : List Expr) : Option (Option (List Str)) :=
  if (!(ts.length == 2 || ts.length == 3) || vs.length != ts.length || bk != .function) = true then some none
  else if (vs.any fun | .Starred .. => true | _ => false) = true then some none
  else
    let line := (ts.head?.map (·.pos.line)).getD 0
    let names := ts.filterMap fun
      | .Name id pos => if kd id == some .local && pos.line == line then some id else none
      | _ => none
    if (names.length != ts.length || names.eraseDups.length != names.length) = true then some none
    else if vs.all (foldedForSure 8) = true then some none
    else if vs.all (constantsAlone 8) = true then none
    else some (some names)
theorem swV_ok {ts vs : List Expr} {k k2 : Nat} {p p2 : Pos} {env : PySem.Env} {r : Option (List Str)} (h : swV env.blockKind env.kindOf ts vs = some r) : swappedStores [.Tuple ts k p] (.Tuple vs k2 p2) env = pure r := by
  unfold swV at h
  unfold swappedStores
  dsimp only
  split at h
  · rename_i h1
    refine Eq.trans (if_pos h1) ?_
    cases h
    rfl
  · rename_i h1
    refine Eq.trans (if_neg h1) ?_
    split at h
    · rename_i h2
      refine Eq.trans (if_pos h2) ?_
      cases h
      rfl
    · rename_i h2
      refine Eq.trans (if_neg h2) ?_
      dsimp only at h
      split at h
      · rename_i h3
        refine Eq.trans (if_pos h3) ?_
        cases h
        rfl
      · rename_i h3
        refine Eq.trans (if_neg h3) ?_
        split at h
        · rename_i h4
          refine Eq.trans (if_pos h4) ?_
          cases h
          rfl
        · rename_i h4
          refine Eq.trans (if_neg h4) ?_
          split at h
          · cases h
          · rename_i h5
            refine Eq.trans (if_neg h5) ?_
            cases h
            rfl
theorem blockKind_fn {env : PySem.Env} (h : env.scope.kind = .function) : env.blockKind = .function := by
  unfold Env.blockKind
  rw [h]
  rfl
/-- a, b = x, y, by a tuple -/
theorem ss_asgs {k k2 : Nat} {pt pt2 : Pos} {is : List Nat} {ts vs : List Expr} (ok : XOk g n N sc X) (hk : sc.kind = .function) (hf : FnCell X fc) (hn : namesAt N sc fc ts is = true) (hl : ms.len ≤ lim) (ha : PA X vs (TA_ g n X W ms))
    (hs : swV .function (fun x => sc.names.lookup x) ts vs = some none) : PS X (.Assign [.Tuple ts k pt] (.Tuple vs k2 pt2) pos) (TS_ g n X W (.asgs is ms)) := by
  have nd : X.N.Nodup := by rw [ok.nm]; exact ok.nd
  obtain ⟨k1, k2', k3⟩ := sg_names nd ok.nm ok.scp hf hn
  have hg := pg_tup (k := k) (pos := pt) ok.calm k1 k2' k3
  have hw : swappedStores [.Tuple ts k pt] (.Tuple vs k2 pt2) X.env = pure none := swV_ok (by
    rw [blockKind_fn (by rw [ok.scp]; exact hk), show X.env.kindOf = fun x => sc.names.lookup x from by funext x; show X.env.scope.names.lookup x = _; rw [ok.scp]]
    exact hs)
  refine PS.weak (ps_asg (pe_tup ha) hg sole_tup hw) fun D σ H ⟨O, μ, env, st, R, q⟩ => ?_
  simp only [evS] at q
  refine ⟨O, μ, env, st, R, ?_⟩
  have q' : Post VRs X.K g.T O μ H env σ W (evEs g.p (g.C n) ms env st) (fun vs H1 => ∃ O1 μ1 st1 ds, evEs g.p (g.C n) ms env st = .ok ds st1 ∧ StR X.K g.T O1 μ1 env st1 σ H1 ∧ Ext O μ H O1 μ1 H1 ∧ VRs O1 μ1 H1 ds vs ∧ PostS X.K g.T O1 μ1 H1 W (if ds.length = is.length then .nx (setAll env is ds) st1 else .bad) D) := by
    cases e : evEs g.p (g.C n) ms env st with
    | ok ds st' =>
      rw [e] at q
      intro v H' ⟨O', μ', h1, h2, h3⟩
      exact ⟨O', μ', st', ds, rfl, h1, h2, h3, PostS.fwd h2 q⟩
    | exc x st' =>
      rw [e] at q
      exact fun cls d H' ⟨O', μ', h1, h2, h3⟩ => q cls d σ H' ⟨O', μ', h1, h2, h3⟩
    | bad => rw [e] at q; exact q
  refine q'.mono ?_
  rintro us H1 ⟨O1, μ1, st1, ds, e, R1, E1, r1, q1⟩
  refine ⟨le_line (by rw [← r1.length, es_len e]; exact hl), fun p hp => ?_⟩
  split at q1
  · rename_i hlen
    obtain ⟨R2, E2⟩ := R1.new (o := .tup us) hp
    have hlv : us.length = is.length := by rw [← r1.length]; exact hlen
    exact ⟨p, us, rfl, .inl (.inl upd_same), hlv, hlv, (PostS.fwd E2 q1).nx_of (R2.setA (VRs.mono E2 ds r1))⟩
  · exact q1.elim
/-- .. stored from the right -/
theorem ss_par {i j : Nat} {x y : Str} {a b : Expr} {px py pt pt2 : Pos} {kt k2 : Nat} (ok : XOk g n N sc X) (hk : sc.kind = .function) (hi : N[i]? = some x) (hj : N[j]? = some y) (hij : i ≠ j) (hx : sc.names.lookup x = some .local) (hy : sc.names.lookup y = some .local)
    (ha : PA X [a, b] (TA_ g n X W ms)) (hs : swV .function (fun x => sc.names.lookup x) [.Name x px, .Name y py] [a, b] = some (some [x, y])) : PS X (.Assign [.Tuple [.Name x px, .Name y py] kt pt] (.Tuple [a, b] k2 pt2) pos) (TS_ g n X W (.asgs [i, j] ms)) := by
  have nd : X.N.Nodup := by rw [ok.nm]; exact ok.nd
  have hw : swappedStores [.Tuple [.Name x px, .Name y py] kt pt] (.Tuple [a, b] k2 pt2) X.env = pure (some [x, y]) := swV_ok (by
    rw [blockKind_fn (by rw [ok.scp]; exact hk), show X.env.kindOf = fun x => sc.names.lookup x from by funext x; show X.env.scope.names.lookup x = _; rw [ok.scp]]
    exact hs)
  refine PS.weak (ps_par ok.calm nd (by rw [ok.nm]; exact hi) (by rw [ok.nm]; exact hj) hij (by rw [ok.scp]; exact hx) (by rw [ok.scp]; exact hy) ha hw sole_tup) fun D σ H ⟨O, μ, env, st, R, q⟩ => ?_
  simp only [evS] at q
  refine ⟨O, μ, env, st, R, (post_S VRs q).mono ?_⟩
  rintro us H1 ⟨O1, μ1, st1, ds, R1, E1, r1, q1⟩
  split at q1
  · rename_i hlen
    have hlv : us.length = 2 := by rw [← r1.length]; exact hlen
    match us, hlv with
    | [v, w], _ => exact ⟨v, w, rfl, q1.nx_of (R1.setA r1)⟩
  · exact q1.elim
theorem ss_par3 {i j l : Nat} {x y z : Str} {a b c : Expr} {px py pz pt pt2 : Pos} {kt k2 : Nat} (ok : XOk g n N sc X) (hk : sc.kind = .function) (hi : N[i]? = some x) (hj : N[j]? = some y) (hl : N[l]? = some z) (hij : i ≠ j) (hil : i ≠ l) (hjl : j ≠ l)
    (hx : sc.names.lookup x = some .local) (hy : sc.names.lookup y = some .local) (hz : sc.names.lookup z = some .local) (ha : PA X [a, b, c] (TA_ g n X W ms)) (hs : swV .function (fun x => sc.names.lookup x) [.Name x px, .Name y py, .Name z pz] [a, b, c] = some (some [x, y, z])) :
    PS X (.Assign [.Tuple [.Name x px, .Name y py, .Name z pz] kt pt] (.Tuple [a, b, c] k2 pt2) pos) (TS_ g n X W (.asgs [i, j, l] ms)) := by
  have nd : X.N.Nodup := by rw [ok.nm]; exact ok.nd
  have hw : swappedStores [.Tuple [.Name x px, .Name y py, .Name z pz] kt pt] (.Tuple [a, b, c] k2 pt2) X.env = pure (some [x, y, z]) := swV_ok (by
    rw [blockKind_fn (by rw [ok.scp]; exact hk), show X.env.kindOf = fun x => sc.names.lookup x from by funext x; show X.env.scope.names.lookup x = _; rw [ok.scp]]
    exact hs)
  refine PS.weak (ps_par3 ok.calm nd (by rw [ok.nm]; exact hi) (by rw [ok.nm]; exact hj) (by rw [ok.nm]; exact hl) hij hil hjl (by rw [ok.scp]; exact hx) (by rw [ok.scp]; exact hy) (by rw [ok.scp]; exact hz) ha hw sole_tup) fun D σ H ⟨O, μ, env, st, R, q⟩ => ?_
  simp only [evS] at q
  refine ⟨O, μ, env, st, R, (post_S VRs q).mono ?_⟩
  rintro us H1 ⟨O1, μ1, st1, ds, R1, E1, r1, q1⟩
  split at q1
  · rename_i hlen
    have hlv : us.length = 3 := by rw [← r1.length]; exact hlen
    match us, hlv with
    | [v, w, u], _ => exact ⟨v, w, u, rfl, q1.nx_of (R1.setA r1)⟩
  · exact q1.elim

/-! ### a comprehension into a name -/
def swC (bk : ScopeKind) (kd : Str → Option NameKind) (e : Expr) (x : Str) (l : Nat) : Bool := match e with
  | .ListComp _ _ s p => bk == .function && kd x == some .local && l == p.line && !(s.names.any fun (n, k) => n == x && (k == .local || k == .cell))
  | _ => false
theorem swC_ok {elt : Expr} {gs : List Comprehension} {s : Scope} {p px : Pos} {x : Str} {l : Nat} {env : PySem.Env} : swapsWith (.ListComp elt gs s p) (some (.Name x px)) l env = pure (swC env.blockKind env.kindOf (.ListComp elt gs s p) x px.line) := rfl
end
end Mn
end

section
set_option Elab.async false
set_option linter.all false
set_option maxRecDepth 100000
set_option maxHeartbeats 2000000
/-! Mini: a comprehension into a name, while, for. -/
namespace Mn
open PySem L2 PySem.Spec PyProof.Rows
section
variable {g : Pg} {n : Nat} {X : Cx} {W : WX} {N : List Str} {sc : Scope} {fc : Str → Bool} {a b c : Expr} {ma mb mc : E} {ta tb : Mn.T} {pos apos p2 : Pos} {es : List Expr} {ms : Es} {x : Str} {i : Nat}
variable {K : Frag} {T : List (Addr × Str)} {O O1 : Own} {μ μ1 : List Addr} {H H1 : Hp} {env : Env} {st : Store} {σ : L2.St} {D : Ends}
/-- an end behind a walk through a dict -/
def nxU (X : Cx) (Q : L2.St → Hp → Prop) : L2.St → Hp → Prop := fun σ H => Q σ H ∨ ∃ d od u, H d = some (.frz od u) ∧ (∀ o' u', X.H_0 d ≠ some (.frz o' u')) ∧ Q σ (upd H d u)
theorem nxU_out {Q : L2.St → Hp → Prop} {pins : List (Addr × Obj)} {s : Shared} (h : ∃ σ' H', Inv X pins σ' H' s ∧ nxU X Q σ' H') : ∃ σ' H', Inv X pins σ' H' s ∧ Q σ' H' := by
  obtain ⟨σ', H', I, q⟩ := h
  rcases q with q | ⟨d, od, u, e1, e2, q⟩
  · exact ⟨σ', H', I, q⟩
  · exact ⟨σ', _, I.unlock e1 e2, q⟩
theorem rtU_out {Q : VK} {pins : List (Addr × Obj)} {s : Shared} {u : Value} (h : ∃ v σ' H', Inv X pins σ' H' s ∧ RelV v u ∧ EPu X Q v H') : ∃ v σ' H', Inv X pins σ' H' s ∧ RelV v u ∧ Q v H' := by
  obtain ⟨v, σ', H', I, r, q⟩ := h
  rcases q with q | ⟨d, od, x, e1, e2, q⟩
  · exact ⟨v, σ', H', I, r, q⟩
  · exact ⟨v, σ', _, I.unlock e1 e2, r, q⟩
/-- the end as a value's end -/
theorem asg_post {r : Res RV} {h : Bool} (q : PostS K T O μ H W (Res.toS (if h then r.kept else r.froz) env fun d st => .nx (env.set i (some d)) st) D) : Post RVR K T O μ H env σ W r fun x H1 => D.nx (σ.set i (some x)) H1 := by
  cases h with
  | false =>
    simp only [Bool.false_eq_true, if_false] at q
    exact post_froz ((post_S VR q).mono fun v H1 ⟨O1, μ1, st1, d, R1, E1, r1, q1⟩ => q1.nx_of (R1.setv r1))
  | true =>
    simp only [if_true] at q
    exact post_kept ((post_S VR q).mono fun v H1 ⟨O1, μ1, st1, d, R1, E1, r1, q1⟩ => q1.nx_of (R1.setv r1))
theorem tLc_mono {wi : TI} {g : L2.TG} {tt : TT} {te : TE} {vs : List Nat} {σ : L2.St} {H : Hp} {Q Q' : VK} (h : tLc wi g tt te vs σ H Q) (hw : ∀ R R' : L2.It → Hp → Prop, (∀ J H, R J H → R' J H) → wi σ H R → wi σ H R') (hq : ∀ v H, Q v H → Q' v H) : tLc wi g tt te vs σ H Q' := by
  refine hw _ _ (fun J H1 z => ?_) h
  intro D hD
  obtain ⟨Wf, h0, turn⟩ := z D hD
  exact ⟨Wf, h0, fun i m H hW => (turn i m H hW).imp (fun ⟨a, b⟩ => ⟨a, hq _ _ b⟩) fun b => b⟩
theorem ss_setLc {h : Bool} {elt tg iter : Expr} {ifs : List Expr} {melt : E} {mt : Mn.T} {mit : Mn.It} {mtg : Tg} {scope : Scope} {own : List (Str × Nat)} {vp : Pos} (ok : XOk g n N sc X) (hk : sc.kind = .function) (hN : N[i]? = some x) (hx : sc.names.lookup x = some .local)
    (hi : PI X tg iter (TI_ g n X W mit)) (hb : blkC N sc scope own = true) (hown : own.map (·.2) = tgs mtg)
    (hg : ∀ (s : Shared) (H : Hp) (C : Addr) (cl : List (Str × Addr)) (fp : List Addr), PG (X.blk s H scope (compEnvC scope cl C X.env) fp) tg (TGt g X mtg))
    (ht : ∀ (s : Shared) (H : Hp) (C : Addr) (cl : List (Str × Addr)) (fp : List Addr), PTs (X.blk s H scope (compEnvC scope cl C X.env) fp) ifs (TT_ g n X (fun _ _ _ _ => False) mt))
    (he : ∀ (s : Shared) (H : Hp) (C : Addr) (cl : List (Str × Addr)) (fp : List Addr), PE (X.blk s H scope (compEnvC scope cl C X.env) fp) elt (TE_ g n X (fun _ _ _ _ => False) melt))
    (hs : ∀ x, foldedSetIterable iter X.env x = pure x) (hsw : swC .function (fun x => sc.names.lookup x) (.ListComp elt [⟨tg, iter, ifs, 0⟩] scope vp) x p2.line = true) :
    PS X (.Assign [.Name x p2] (.ListComp elt [⟨tg, iter, ifs, 0⟩] scope vp) pos) (TS_ g n X W (.asg i h (.lc melt mtg mit mt))) := by
  have nd : X.N.Nodup := by rw [ok.nm]; exact ok.nd
  have hb' : BlkOk X.N X.env.scope scope own := by rw [ok.nm, ok.scp]; exact blkOk_by hb
  have hsw' : swapsWith (.ListComp elt [⟨tg, iter, ifs, 0⟩] scope vp) (some (.Name x p2)) pos.line X.env = pure true := by
    rw [swC_ok, blockKind_fn (by rw [ok.scp]; exact hk), show X.env.kindOf = fun x => sc.names.lookup x from by funext x; show X.env.scope.names.lookup x = _; rw [ok.scp], hsw]
  have hh := ps_setLc (te := TF_ g n X (fun _ _ _ _ => False) melt) (pos := vp) (spos := pos) (i := i) ok.calm nd (by rw [ok.nm]; exact hN) (by rw [ok.scp]; exact hx) hsw' hi hb' hg ht (fun s H C cl fp => pf (X := X.blk s H scope (compEnvC scope cl C X.env) fp) (he s H C cl fp)) hs
  refine ⟨fun pins s σ H D I ⟨O, μ, env, st, R, q⟩ => ?_⟩
  simp only [evS] at q
  have q2 := asg_post (σ := σ) q
  refine thn (hh.run pins s σ H { D with nx := nxU X D.nx } I ?_) fun f s' hsp => ?_
  · refine tLc_mono (lc_sem ok hown R q2) (fun R R' hR z => ?_) fun v H z => ?_
    · obtain ⟨O, μ, env, st, R0, q⟩ := z
      exact ⟨O, μ, env, st, R0, q.mono hR⟩
    · rcases z with z | ⟨d, od, u, e1, e2, z⟩
      · exact .inl z
      · exact .inr ⟨d, od, u, e1, e2, z⟩
  · cases f with
    | next => exact nxU_out hsp
    | brk => exact hsp
    | cont => exact hsp
    | ret u => exact hsp

/-! ### while -/
theorem ss_whl {xs : List Stmt} {mx : Ss} (hp : PassesOwn (model X.prog X.w) X.A X.env X.xe) (hc : PT X c (TT_ g n X W ta)) (hx : PSs X xs (TSs_ g n X W mx)) : PS X (.While c xs [] pos) (TS_ g n X W (.whl ta mx)) := by
  refine PS.weak (ps_while hp hc hx) fun D σ H ⟨O, μ, env, st, R, q⟩ => ?_
  simp only [evS] at q
  refine ⟨fun m σ' H' => ∃ O' μ' env' st', StR X.K g.T O' μ' env' st' σ' H' ∧ PostS X.K g.T O' μ' H' W (whLoop (fun env st => evT g.p (g.C n) ta env st) (fun env st => evSs g.p (g.C n) g.fuel mx env st) m env' st') D, ⟨g.fuel, O, μ, env, st, R, q⟩, ?_⟩
  rintro m σ1 H1 ⟨O1, μ1, env1, st1, R1, q1⟩
  cases m with
  | zero => exact q1.elim
  | succ m =>
    simp only [whLoop] at q1
    refine ⟨O1, μ1, env1, st1, R1, ?_⟩
    cases e : evT g.p (g.C n) ta env1 st1 with
    | bad => rw [e] at q1; exact q1.elim
    | exc x st2 =>
      rw [e] at q1
      exact fun cls d H' ⟨O', μ', h1, h2, h3⟩ => q1 cls d σ1 H' ⟨O', μ', h1, h2, h3⟩
    | ok bb st2 =>
      rw [e] at q1
      rintro b' H2 ⟨O2, μ2, R2, E2, eb⟩
      have eb : bb = b' := eb
      subst eb
      have q2 := PostS.fwd E2 q1
      cases bb with
      | false =>
        rw [if_neg Bool.false_ne_true]
        exact q2.nx_of R2
      | true =>
        rw [if_pos rfl]
        refine ⟨fun σ' H' => ∃ O' μ' env' st', StR X.K g.T O' μ' env' st' σ' H' ∧ PostS X.K g.T O' μ' H' W (whLoop (fun env st => evT g.p (g.C n) ta env st) (fun env st => evSs g.p (g.C n) g.fuel mx env st) m env' st') D, fun σ' H' h => ⟨m, Nat.lt_succ_self m, h⟩, O2, μ2, env1, st2, R2, ?_⟩
        dsimp only at q2
        cases er : evSs g.p (g.C n) g.fuel mx env1 st2 with
        | nx env' st' =>
          rw [er] at q2
          exact fun σ' H' ⟨O', μ', h1, h2⟩ => ⟨O', μ', env', st', h1, PostS.fwd h2 q2⟩
        | ct env' st' =>
          rw [er] at q2
          exact fun σ' H' ⟨O', μ', h1, h2⟩ => ⟨O', μ', env', st', h1, PostS.fwd h2 q2⟩
        | bk env' st' => rw [er] at q2; exact q2
        | rt rv st' => rw [er] at q2; exact q2
        | exc x env' st' => rw [er] at q2; exact q2
        | bad => rw [er] at q2; exact q2
end
end Mn
end

section
set_option Elab.async false
set_option linter.all false
set_option maxRecDepth 100000
set_option maxHeartbeats 2000000
/-! Mini: for. -/
namespace Mn
open PySem L2 PySem.Spec PyProof.Rows
section
variable {g : Pg} {n : Nat} {X : Cx} {W : WX} {N : List Str} {sc : Scope} {fc : Str → Bool} {a b c : Expr} {ma mb mc : E} {ta tb : Mn.T} {pos apos p2 : Pos} {es : List Expr} {ms : Es} {x : Str} {i : Nat}
variable {K : Frag} {T : List (Addr × Str)} {O O1 O0 : Own} {μ μ1 μ0 : List Addr} {H H1 H0 : Hp} {env : Env} {st : Store} {σ : L2.St} {D : Ends}
theorem post_baseS {γ δ : Type} {r : Res γ} {k : γ → Store → RS} (relA : Own → List Addr → Hp → γ → δ → Prop) (q : PostS K T O μ H W (r.toS env k) D) :
    Post relA K T O μ H env σ W r (fun v H1 => ∃ O1 μ1 st1 a, StR K T O1 μ1 env st1 σ H1 ∧ Ext O μ H O1 μ1 H1 ∧ relA O1 μ1 H1 a v ∧ PostS K T O μ H W (k a st1) D) := by
  cases r with
  | ok a st' =>
    intro v H' ⟨O', μ', h1, h2, h3⟩
    exact ⟨O', μ', st', a, h1, h2, h3, q⟩
  | exc x st' => exact fun cls d H' ⟨O', μ', h1, h2, h3⟩ => q cls d σ H' ⟨O', μ', h1, h2, h3⟩
  | bad => exact q
theorem RVR.unl {rv : RV} {v : V} {ad : Addr} {j : Nat} {od : Obj} {u : HO} (hu : H ad = some (.frz od u)) (e : ExtV O μ H (tagAt O ad (.obj j)) μ (upd H ad u)) (h : RVR O μ H rv v) : RVR (tagAt O ad (.obj j)) μ (upd H ad u) rv v := by
  cases rv with
  | d x => exact VR.monoV e x h
  | fl xs =>
    obtain ⟨a, vs, rfl, h1, h2, h3⟩ := h
    have hne : a ≠ ad := fun z => by rw [z, hu] at h2; cases h2
    exact ⟨a, vs, rfl, by rw [tagAt_ne hne]; exact h1, by rw [upd_ne hne]; exact h2, VRs.monoV e xs h3⟩
  | fd t kvs =>
    obtain ⟨a, l, rfl, h1, h2, h3⟩ := h
    have hs : ∃ w, H a = some w ∧ ∀ o x, w ≠ .frz o x := by
      unfold DctAt at h2
      cases t
      · obtain ⟨z, q, _⟩ := h2; exact ⟨_, q, fun _ _ z => nomatch z⟩
      · obtain ⟨z, q, _⟩ := h2; exact ⟨_, q, fun _ _ z => nomatch z⟩
    obtain ⟨w, hw, hf⟩ := hs
    have hne : a ≠ ad := fun z => by rw [z, hu] at hw; cases hw; exact hf _ _ rfl
    refine ⟨a, l, rfl, by rw [tagAt_ne hne]; exact h1, ?_, VRk.monoV e kvs h3⟩
    unfold DctAt at h2 ⊢
    rw [upd_ne hne]
    exact h2
/-- behind a walk -/
theorem walk_out {src : Src} {μ1 : List Addr} {K : Frag} (hlk : LkOk X O0 H0 μ1 src) (hmu : ∀ (j : Nat) (a : Addr), μ1[j]? = some a → μ[j]? = some a) (R : StR K T O μ env st σ H) (E : Ext O0 μ0 H0 O μ H) (hs : src.lk = none ∨ src.still st = true) :
    (∃ O' , StR K T O' μ env (unlock st src.lk) σ H ∧ Ext O0 μ0 H0 O' μ H ∧ ∀ rv v, RVR O μ H rv v → RVR O' μ H rv v) ∨
    ∃ d od u O', H d = some (.frz od u) ∧ (∀ o' u', X.H_0 d ≠ some (.frz o' u')) ∧ StR K T O' μ env (unlock st src.lk) σ (upd H d u) ∧ Ext O0 μ0 H0 O' μ (upd H d u) ∧ ∀ rv v, RVR O μ H rv v → RVR O' μ (upd H d u) rv v := by
  cases el : src.lk with
  | none => exact .inl ⟨O, R, E, fun _ _ h => h⟩
  | some j =>
    right
    obtain ⟨d, hm, hnf, hnl, hs2⟩ := hlk j el
    have hst : src.still st = true := by
      rcases hs with h | h
      · rw [el] at h; cases h
      · exact h
    obtain ⟨t, kvs, ej⟩ := hs2 st hst
    obtain ⟨od, u, hu, R4, V4, E4⟩ := R.unlock ej (hmu _ _ hm)
    refine ⟨d, od, u, _, hu, hnf, ?_, E4 _ _ _ hnl E, fun rv v h => RVR.unl hu V4 h⟩
    simp only [unlock, ej]
    exact R4
theorem ss_frs {tg iter : Expr} {xs : List Stmt} {mx : Ss} {mit : Mn.It} {mtg : Tg} (ok : XOk g n N sc X) (hp : PassesOwn (model X.prog X.w) X.A X.env X.xe) (hi : PI X tg iter (TI_ g n X W mit)) (hg : PG X tg (TGt g X mtg)) (hb : PSs X xs (TSs_ g n X W mx))
    (hs : ∀ x, foldedSetIterable iter X.env x = pure x) : PS X (.For tg iter xs [] pos) (TS_ g n X W (.frs mtg mit mx)) := by
  have hh := ps_for (pos := pos) hp ok.calm hi hg hb hs
  refine ⟨fun pins s σ H D I ⟨O, μ, env, st, R, q⟩ => ?_⟩
  simp only [evS] at q
  refine thn (hh.run pins s σ H { D with nx := nxU X D.nx, rt := EPu X D.rt } I ?_) fun f s' hsp => ?_
  rotate_left
  · cases f with
    | next => exact nxU_out hsp
    | brk => exact hsp
    | cont => exact hsp
    | ret u => exact rtU_out hsp
  refine ⟨O, μ, env, st, R, (post_baseS (rI g X O H) q).mono ?_⟩
  rintro J H1 ⟨O1, μ1, st1, src, R1, E1, ⟨hit, hlk⟩, q1⟩
  split at q1
  rotate_left
  · exact q1.elim
  rename_i hst
  generalize hF : (fun (d : Mn.D) (env : Env) (st : Store) => (match bindTg mtg d env with
    | some env' => turnR src (evSs g.p (g.C n) g.fuel mx env' st)
    | none => .bad : RS)) = F at q1
  let Wf : Nat → Nat → L2.St → Hp → Prop := fun i m σ' H' => ∃ O2 μ2 env2 st2, m = src.items.length - i ∧ i ≤ src.items.length ∧ StR X.K g.T O2 μ2 env2 st2 σ' H' ∧ Ext O μ H O2 μ2 H' ∧ Ext O1 μ1 H1 O2 μ2 H' ∧ src.still st2 = true ∧
    PostS X.K g.T O μ H W (RS.unl src.lk (frLoop F (src.items.drop i) env2 st2)) D
  refine ⟨Wf, ⟨src.items.length, O1, μ1, env, st1, by simp, Nat.zero_le _, R1, E1, Ext.refl, hst, q1⟩, ?_⟩
  rintro i m σ2 H2 ⟨O2, μ2, env2, st2, rfl, hi2, R2, E02, E12, hst2, q2⟩
  obtain ⟨hgo, hstop⟩ := hit O2 μ2 env2 st2 σ2 H2 R2 E12 hst2
  have outN : ∀ {O3 : Own} {μ3 : List Addr} {env3 : Env} {st3 : Store} {σ3 : L2.St} {H3 : Hp}, StR X.K g.T O3 μ3 env3 st3 σ3 H3 → Ext O μ H O3 μ3 H3 → Ext O1 μ1 H1 O3 μ3 H3 → (src.lk = none ∨ src.still st3 = true) → PostS X.K g.T O μ H W (.nx env3 (unlock st3 src.lk)) D → nxU X D.nx σ3 H3 := by
    intro O3 μ3 env3 st3 σ3 H3 R3 E03 E13 hs3 q3
    rcases walk_out (μ0 := μ) hlk E13.mu R3 E03 hs3 with ⟨O', h1, h2, _⟩ | ⟨d, od, u, O', e1, e2, h1, h2, _⟩
    · exact .inl (q3 σ3 H3 ⟨O', μ3, h1, h2⟩)
    · exact .inr ⟨d, od, u, e1, e2, q3 σ3 _ ⟨O', μ3, h1, h2⟩⟩
  by_cases hlt : i < src.items.length
  · right
    have hgi : src.items[i]? = some src.items[i] := List.getElem?_eq_getElem hlt
    have hdrop : src.items.drop i = src.items[i] :: src.items.drop (i + 1) := List.drop_eq_getElem_cons hlt
    rw [hdrop] at q2
    generalize src.items[i] = d at hgi q2
    obtain ⟨g1, g2⟩ := hgo i d hgi
    refine ⟨g1, fun σ' H' => ∃ m', m' < src.items.length - i ∧ Wf (i + 1) m' σ' H', fun σ' H' h => h, fun x H' hy => ?_⟩
    obtain ⟨O3, μ3, R3, E3, r3⟩ := g2 x H' hy
    simp only [frLoop] at q2
    rw [← hF] at q2
    cases eb : bindTg mtg d env2 with
    | none => simp only [eb] at q2; exact q2.elim
    | some env' =>
      simp only [eb] at q2
      rw [hF] at q2
      refine ⟨O3, μ3, env2, st2, d, env', R3, r3, eb, fun σ' R4 _ => ⟨O3, μ3, env', st2, R4, ?_⟩⟩
      have E03 := E02.trans E3
      have E13 := E12.trans E3
      cases er : evSs g.p (g.C n) g.fuel mx env' st2 with
      | bad => rw [er] at q2; exact q2
      | exc y env3 st3 =>
        rw [er] at q2
        exact fun cls dd σ3 H3 ⟨O4, μ4, h1, h2, h3⟩ => q2 cls dd σ3 H3 ⟨O4, μ4, h1, E03.trans h2, h3⟩
      | nx env3 st3 =>
        rw [er] at q2
        simp only [turnR] at q2
        by_cases hs3 : src.still st3 = true
        · rw [if_pos hs3] at q2
          exact fun σ3 H3 ⟨O4, μ4, h1, h2⟩ => ⟨src.items.length - (i + 1), by omega, O4, μ4, env3, st3, rfl, hlt, h1, E03.trans h2, E13.trans h2, hs3, q2⟩
        · rw [if_neg hs3] at q2; exact (show False from q2).elim
      | ct env3 st3 =>
        rw [er] at q2
        simp only [turnR] at q2
        by_cases hs3 : src.still st3 = true
        · rw [if_pos hs3] at q2
          exact fun σ3 H3 ⟨O4, μ4, h1, h2⟩ => ⟨src.items.length - (i + 1), by omega, O4, μ4, env3, st3, rfl, hlt, h1, E03.trans h2, E13.trans h2, hs3, q2⟩
        · rw [if_neg hs3] at q2; exact (show False from q2).elim
      | bk env3 st3 =>
        rw [er] at q2
        simp only [turnR] at q2
        by_cases hs3 : (src.lk = none ∨ src.still st3 = true)
        · rw [if_pos hs3] at q2
          exact fun σ3 H3 ⟨O4, μ4, h1, h2⟩ => outN h1 (E03.trans h2) (E13.trans h2) hs3 q2
        · rw [if_neg hs3] at q2; exact (show False from q2).elim
      | rt rv st3 =>
        rw [er] at q2
        simp only [turnR] at q2
        by_cases hs3 : (src.lk = none ∨ src.still st3 = true)
        · rw [if_pos hs3] at q2
          intro v H3 ⟨O4, μ4, h1, h2, h3⟩
          have q3 : PostS X.K g.T O μ H W (.rt rv (unlock st3 src.lk)) D := q2
          rcases walk_out (μ0 := μ) hlk (E13.trans h2).mu h1 (E03.trans h2) hs3 with ⟨O', k1, k2, k3⟩ | ⟨dd, od, u, O', e1, e2, k1, k2, k3⟩
          · exact .inl (q3 v H3 ⟨O', μ4, k1, k2, k3 _ _ h3⟩)
          · exact .inr ⟨dd, od, u, e1, e2, q3 v _ ⟨O', μ4, k1, k2, k3 _ _ h3⟩⟩
        · rw [if_neg hs3] at q2; exact (show False from q2).elim
  · left
    have ei : i = src.items.length := by omega
    subst ei
    refine ⟨hstop, ?_⟩
    rw [List.drop_length] at q2
    exact outN R2 E02 E12 (.inr hst2) q2
end
end Mn
end

section
set_option Elab.async false
set_option linter.all false
set_option maxRecDepth 100000
set_option maxHeartbeats 2000000
/-! Mini: a def keeps its promise. -/
namespace Mn
open PySem L2 PySem.Spec PyProof.Rows
section
variable {K : Frag} {T : List (Addr × Str)} {O O1 O' : Own} {μ μ1 : List Addr} {H H1 : Hp} {env : Env} {st : Store} {σ : L2.St}
mutual
theorem VR.bnd : ∀ (d : D) {v : V}, VR O μ H d v → D.bnd μ.length d = true
  | .non, _, _ => rfl
  | .bl _, _, _ => rfl
  | .int _, _, _ => rfl
  | .str _, _, _ => rfl
  | .tup xs, _, h => by
    simp only [VR] at h
    obtain ⟨a, vs, _, _, h3⟩ := h
    simp only [D.bnd]; exact VRs.bnd xs h3
  | .lst xs, _, h => by
    simp only [VR] at h
    obtain ⟨a, vs, _, _, _, h3⟩ := h
    simp only [D.bnd]; exact VRs.bnd xs h3
  | .dct t kvs, _, h => by
    simp only [VR] at h
    obtain ⟨a, l, _, _, _, h3⟩ := h
    simp only [D.bnd]; exact VRk.bnd kvs h3
  | .loc j, _, h => by
    simp only [VR] at h
    obtain ⟨a, _, h2⟩ := h
    simp only [D.bnd, Nat.blt_eq]
    exact (List.getElem?_eq_some_iff.mp h2).1
theorem VRs.bnd : ∀ (ds : List D) {vs : List V}, VRs O μ H ds vs → D.bnds μ.length ds = true
  | [], _, _ => rfl
  | x :: xs, _, h => by
    simp only [VRs] at h
    obtain ⟨v, r, _, h2, h3⟩ := h
    simp only [D.bnds, VR.bnd x h2, VRs.bnd xs h3, Bool.and_self]
theorem VRk.bnd : ∀ (ds : List (D × D)) {l : List (D × V)}, VRk O μ H ds l → D.bndp μ.length ds = true
  | [], _, _ => rfl
  | (k, x) :: xs, _, h => by
    simp only [VRk] at h
    obtain ⟨v, r, _, h2, h3⟩ := h
    simp only [D.bndp, VR.bnd x h2, VRk.bnd xs h3, Bool.and_self]
end
theorem VRf.bnd : ∀ (ds : List (Str × D)) {l : List (Str × V)}, VRf O μ H ds l → bndf μ.length ds = true
  | [], _, _ => rfl
  | (k, x) :: xs, _, h => by
    simp only [VRf] at h
    obtain ⟨v, r, _, h2, h3⟩ := h
    simp only [bndf, VR.bnd x h2, VRf.bnd xs h3, Bool.and_self]
theorem OR.bnd {o : AO} {a : Addr} (h : OR K O μ H o a) : o.bnd μ.length = true := by
  cases o with
  | lst k xs => obtain ⟨vs, _, h2⟩ := h; exact VRs.bnd xs h2
  | dct t k kvs => obtain ⟨l, _, h2⟩ := h; exact VRk.bnd kvs h2
  | ins c fs => obtain ⟨_, _, _, h2⟩ := h; exact VRf.bnd fs h2
section
variable {n : Nat} (hO : ∀ a, O a = some .fz → O' a = some .fz)
include hO
mutual
theorem VR.tk : ∀ (d : D) {v : V}, VR O μ H d v → D.bnd n d = true → VR O' (μ.take n) H d v
  | .non, _, h, _ => h
  | .bl _, _, h, _ => h
  | .int _, _, h, _ => h
  | .str _, _, h, _ => h
  | .tup xs, _, h, b => by
    simp only [VR] at h ⊢
    obtain ⟨a, vs, h1, h2, h3⟩ := h
    exact ⟨a, vs, h1, h2, VRs.tk xs h3 b⟩
  | .lst xs, _, h, b => by
    simp only [VR] at h ⊢
    obtain ⟨a, vs, h1, h2, h3, h4⟩ := h
    exact ⟨a, vs, h1, hO a h2, h3, VRs.tk xs h4 b⟩
  | .dct t kvs, _, h, b => by
    simp only [VR] at h ⊢
    obtain ⟨a, l, h1, h2, h3, h4⟩ := h
    exact ⟨a, l, h1, hO a h2, h3, VRk.tk kvs h4 b⟩
  | .loc j, _, h, b => by
    simp only [VR] at h ⊢
    obtain ⟨a, h1, h2⟩ := h
    simp only [D.bnd, Nat.blt_eq] at b
    exact ⟨a, h1, by rw [List.getElem?_take_of_lt b]; exact h2⟩
theorem VRs.tk : ∀ (ds : List D) {vs : List V}, VRs O μ H ds vs → D.bnds n ds = true → VRs O' (μ.take n) H ds vs
  | [], _, h, _ => h
  | x :: xs, _, h, b => by
    simp only [VRs] at h ⊢
    obtain ⟨v, r, h1, h2, h3⟩ := h
    simp only [D.bnds, Bool.and_eq_true] at b
    exact ⟨v, r, h1, VR.tk x h2 b.1, VRs.tk xs h3 b.2⟩
theorem VRk.tk : ∀ (ds : List (D × D)) {l : List (D × V)}, VRk O μ H ds l → D.bndp n ds = true → VRk O' (μ.take n) H ds l
  | [], _, h, _ => h
  | (k, x) :: xs, _, h, b => by
    simp only [VRk] at h ⊢
    obtain ⟨v, r, h1, h2, h3⟩ := h
    simp only [D.bndp, Bool.and_eq_true] at b
    exact ⟨v, r, h1, VR.tk x h2 b.1, VRk.tk xs h3 b.2⟩
end
theorem VRf.tk : ∀ (ds : List (Str × D)) {l : List (Str × V)}, VRf O μ H ds l → bndf n ds = true → VRf O' (μ.take n) H ds l
  | [], _, h, _ => h
  | (k, x) :: xs, _, h, b => by
    simp only [VRf] at h ⊢
    obtain ⟨v, r, h1, h2, h3⟩ := h
    simp only [bndf, Bool.and_eq_true] at b
    exact ⟨v, r, h1, VR.tk hO x h2 b.1, VRf.tk xs h3 b.2⟩
theorem OR.tk {o : AO} {a : Addr} (hl : ∀ i x, O a = some (.lk i x) → O' a = some (.lk i x)) (h : OR K O μ H o a) (b : o.bnd n = true) : OR K O' (μ.take n) H o a := by
  cases o with
  | lst k xs => obtain ⟨vs, h1, h2⟩ := h; exact ⟨vs, h1, VRs.tk hO xs h2 b⟩
  | dct t k kvs =>
    obtain ⟨l, h1, h2⟩ := h
    refine ⟨l, ?_, VRk.tk hO kvs h2 b⟩
    cases t <;> cases k
    · exact h1
    · obtain ⟨z, ⟨j, x, z0, z1⟩, z2⟩ := h1
      exact ⟨z, ⟨j, x, hl _ _ z0, z1⟩, z2⟩
    · exact h1
    · obtain ⟨z, ⟨j, x, z0, z1⟩, z2⟩ := h1
      exact ⟨z, ⟨j, x, hl _ _ z0, z1⟩, z2⟩
  | ins c fs => obtain ⟨dx, fs', h1, h2⟩ := h; exact ⟨dx, fs', h1, VRf.tk hO fs h2 b⟩
end
theorem okPre_get {k : Nat} : ∀ {st st' : Store}, okPre k st st' = true → ∀ (j : Nat) (o o' : AO), st[j]? = some o → st'[j]? = some o' → o = o' ∨ o'.bnd k = true
  | [], _, _, j, o, o', h, _ => by simp at h
  | _ :: _, [], h, _, _, _, _, _ => by simp [okPre] at h
  | x :: st, y :: st', h, j, o, o', h1, h2 => by
    simp only [okPre, Bool.and_eq_true, Bool.or_eq_true, decide_eq_true_eq] at h
    cases j with
    | zero =>
      simp only [List.getElem?_cons_zero, Option.some.injEq] at h1 h2
      subst h1 h2
      exact h.1
    | succ j => exact okPre_get h.2 j o o' (by simpa using h1) (by simpa using h2)
theorem okPre_len {k : Nat} : ∀ {st st' : Store}, okPre k st st' = true → st.length ≤ st'.length
  | [], _, _ => Nat.zero_le _
  | _ :: _, [], h => by simp [okPre] at h
  | x :: st, y :: st', h => by
    simp only [okPre, Bool.and_eq_true] at h
    exact Nat.succ_le_succ (okPre_len h.2)
/-- the objects that came in the call are forgotten -/
theorem trim_ok {H' : Hp} {μ' : List Addr} {st' : Store} {rv : RV} {v : V} (R : StR K T O μ [] st [] H) (R' : StR K T O' μ' [] st' [] H') (E : Ext O μ H O' μ' H') (r : RVR O' μ' H' rv v) :
    ∃ O2 μ2 st2 rv2, trim st st' rv = .ok rv2 st2 ∧ StR K T O2 μ2 [] st2 [] H' ∧ Ext O μ H O2 μ2 H' ∧ RVR O2 μ2 H' rv2 v := by
  unfold trim
  split
  rotate_left
  · exact ⟨O', μ', st', rv, rfl, R', E, r⟩
  rename_i hpre
  cases hf : rv.fresh st.length st' with
  | none => exact ⟨O', μ', st', rv, rfl, R', E, r⟩
  | some rv2 =>
    let O2 : Own := fun a => match O' a with
      | some (.obj j) => if j < st.length then O' a else none
      | some (.lk j _) => if j < st.length then O' a else none
      | t => t
    have f1 : ∀ a, O' a = some .fz → O2 a = some .fz := fun a h => by show (match O' a with | some (.obj j) => _ | some (.lk j _) => _ | t => t) = _; rw [h]
    have f2 : ∀ a j, j < st.length → OwnJ O' a j → O2 a = O' a := fun a j hj h => by
      show (match O' a with | some (.obj j) => (if j < st.length then O' a else none) | some (.lk j _) => (if j < st.length then O' a else none) | t => t) = O' a
      rcases h with h | ⟨o, h⟩
      · rw [h]; exact if_pos hj
      · rw [h]; exact if_pos hj
    have f3 : ∀ a, O' a = none → O2 a = none := fun a h => by show (match O' a with | some (.obj j) => _ | some (.lk j _) => _ | t => t) = _; rw [h]
    have f4 : ∀ a, O' a = some .pv → O2 a = some .pv := fun a h => by show (match O' a with | some (.obj j) => _ | some (.lk j _) => _ | t => t) = _; rw [h]
    have f5 : ∀ a t, O2 a = some t → O' a = some t := fun a t h => by
      have h : (match O' a with | some (.obj j) => (if j < st.length then O' a else none) | some (.lk j _) => (if j < st.length then O' a else none) | t => t) = some t := h
      split at h
      · rename_i j e
        split at h
        · exact h
        · cases h
      · rename_i j o e
        split at h
        · exact h
        · cases h
      · exact h
    have f6 : ∀ a j, st.length ≤ j → OwnJ O' a j → O2 a = none := fun a j hj h => by
      show (match O' a with | some (.obj j) => (if j < st.length then O' a else none) | some (.lk j _) => (if j < st.length then O' a else none) | t => t) = none
      rcases h with h | ⟨o, h⟩
      · rw [h]; exact if_neg (by omega)
      · rw [h]; exact if_neg (by omega)
    have hlen := okPre_len hpre
    have hmul : st.length ≤ μ'.length := by rw [R'.mu]; exact hlen
    have R2 : StR K T O2 (μ'.take st.length) [] (st'.take st.length) [] H' := by
      refine ⟨fun i d h => by simp at h, rfl, by rw [List.length_take, List.length_take, R'.mu], fun j o h => ?_, fun a t h => R'.own a t (f5 a t h), R'.tab, fun a j h => ?_⟩
      · have hj : j < st.length := by
          have := (List.getElem?_eq_some_iff.mp h).1
          rw [List.length_take] at this
          omega
        rw [List.getElem?_take_of_lt hj] at h
        obtain ⟨a, h1, h2, h3⟩ := R'.obj j o h
        have h0 : ∃ o0, st[j]? = some o0 := ⟨_, List.getElem?_eq_getElem hj⟩
        obtain ⟨o0, h0⟩ := h0
        have hb : o.bnd st.length = true := by
          rcases okPre_get hpre j o0 o h0 h with e | e
          · obtain ⟨a0, _, _, k3⟩ := R.obj j o0 h0
            rw [← e, ← R.mu]
            exact k3.bnd
          · exact e
        refine ⟨a, by rw [List.getElem?_take_of_lt hj]; exact h1, h2.cong (f2 a j hj h2), OR.tk f1 (fun i x z => ?_) h3 hb⟩
        rw [f2 a j hj h2]; exact z
      · have h' : OwnJ O' a j := by
          rcases h with h | ⟨o, h⟩
          · exact .inl (f5 a _ h)
          · exact .inr ⟨o, f5 a _ h⟩
        have hj : j < st.length := by
          apply Nat.lt_of_not_le
          intro z
          exact h.nn (f6 a j z h')
        rw [List.getElem?_take_of_lt hj]
        exact R'.tgs a j h'
    have E2 : Ext O μ H O2 (μ'.take st.length) H' := by
      refine ⟨fun a h => ?_, E.tup, fun j a h => ?_, fun a j od u h1 h2 => ?_, fun a u h1 h2 => ?_, E.dom⟩
      · obtain ⟨e1, e2, e3⟩ := E.fz a h
        exact ⟨f1 a e1, e2, e3⟩
      · have hj : j < st.length := by rw [← R.mu]; exact (List.getElem?_eq_some_iff.mp h).1
        rw [List.getElem?_take_of_lt hj]
        exact E.mu j a h
      · obtain ⟨e1, e2⟩ := E.lk a j od u h1 h2
        have hj : j < st.length := by rw [← R.mu]; exact (List.getElem?_eq_some_iff.mp (R.tgs a j (.inr ⟨od, h1⟩))).1
        exact ⟨by rw [f2 a j hj (.inr ⟨od, e1⟩)]; exact e1, e2⟩
      · obtain ⟨e1, e2⟩ := E.pv a u h1 h2
        exact ⟨f4 a e1, e2⟩
    refine ⟨O2, _, _, rv2, rfl, R2, E2, ?_⟩
    unfold RV.fresh at hf
    split at hf
    · rename_i xs
      split at hf <;> first | cases hf | skip
      rename_i hb
      obtain ⟨a, vs, rfl, h1, h2, h3⟩ := r
      exact ⟨a, vs, rfl, f3 a h1, h2, VRs.tk f1 xs h3 hb⟩
    · rename_i t kvs
      split at hf <;> first | cases hf | skip
      rename_i hb
      obtain ⟨a, l, rfl, h1, h2, h3⟩ := r
      exact ⟨a, l, rfl, f3 a h1, h2, VRk.tk f1 kvs h3 hb⟩
    · rename_i j
      split at hf
      · rename_i hj
        cases hf
        exact VR.tk (H := H') f1 (.loc j) r (by simp only [D.bnd, Nat.blt_eq]; exact hj)
      · rename_i hj
        split at hf
        · rename_i xs ej
          split at hf <;> first | cases hf | skip
          rename_i hb
          obtain ⟨a, rfl, h1, h2, vs, h3, h4⟩ := obj_at R' r ej
          exact ⟨a, vs, rfl, f6 a j (by omega) h2, h3, VRs.tk f1 xs h4 hb⟩
        · rename_i t kvs ej
          split at hf <;> first | cases hf | skip
          rename_i hb
          obtain ⟨a, rfl, h1, h2, l, h3, h4⟩ := obj_at R' r ej
          refine ⟨a, l, rfl, f6 a j (by omega) h2, ?_, VRk.tk f1 kvs h4 hb⟩
          simpa using h3
        · cases hf
    · rename_i x hn1
      split at hf <;> first | cases hf | skip
      rename_i hb
      exact VR.tk (H := H') f1 x r hb
theorem Takes.cxOf {P : Program} {w : World} {K : Frag} {mg : Str → Option Value} {base : Heap} {N : List Str} {qual : Str} {scope : Scope} {f : Addr} {cd : Value} {A : Around} {outer : List PySem.Env} {s : Shared} {H : Hp} {E : XK} :
    Takes (L2.cxOf (L2.CX P w) P w K mg base N qual scope f cd A outer s H E) (fun cls d _ H' => E cls d H') := L2.takes_of rfl rfl rfl rfl
/-- the start of a def's body -/
theorem start_rel {N : List Str} {ds : List Mn.D} {vs : List V} (R : StR K T O μ [] st [] H) (r : VRs O μ H ds vs) (hl : ds.length ≤ N.length) :
    StR K T O μ (ds.map some ++ List.replicate (N.length - ds.length) none) st (L2.start N vs) H := by
  have e := r.length
  refine ⟨fun i d h => ?_, ?_, R.mu, R.obj, R.own, R.tab, R.tgs⟩
  · unfold L2.start
    by_cases hi : i < ds.length
    · rw [List.getElem?_append_left (by simpa using hi), List.getElem?_map] at h
      cases hd : ds[i]? with
      | none => rw [hd] at h; cases h
      | some d' =>
        rw [hd] at h
        cases h
        obtain ⟨v, h1, h2⟩ := VRs.get r hd
        exact ⟨v, by rw [List.getElem?_append_left (by simp; omega), List.getElem?_map, h1]; rfl, h2⟩
    · rw [List.getElem?_append_right (by simp; omega)] at h
      have := List.mem_of_getElem? h
      rw [List.mem_replicate] at this
      cases this.2
  · unfold L2.start
    rw [List.length_append, List.length_append, List.length_map, List.length_map, List.length_replicate, List.length_replicate, e]
/-- what is known of the whole program at a level -/
structure Lev (g : Pg) (P : Program) (w : World) (K : Frag) (mg : Str → Option Value) (base : Heap) (n : Nat) : Prop where
  calls : CallsOk g P w K mg base n
  mth : ∀ c m, g.p.isM c m = true → (g.defs (c, some m)).isSome = true ∧ g.p.prop c m = false ∧ m ≠ "__init__"
  fld : ∀ c f, g.p.isF c f = true → Cls K (He.ga K c) ∧ NoAttr K (He.ga K c) f
  kit : ∀ c, g.p.cls.contains c = true → KitC g.p K mg c
  con : ∀ x d, g.p.con.lookup x = some d → ∃ u v, mg x = some u ∧ RelV v u ∧ ∀ O μ H, VR O μ H d v
/-- where lambdas are made, the table of the code object is at hand -/
def LamAt (g : Pg) (mg : Str → Option Value) (base : Heap) (cdv : Value) (qual : Str) : Prop := g.lams.contains (qual ++ (".<locals>." : Str)) = true → ∃ c Pt, cdv = .ref c ∧ LamX.TabB base mg c Pt ∧ (Pt, qual ++ (".<locals>." : Str) ++ "<lambda>") ∈ g.T ∧ ∀ p ∈ g.T, p.1 = Pt → p.2 = qual ++ (".<locals>." : Str) ++ "<lambda>"
/-- a def's promise as it binds its values, wherever nothing is being shown -/
structure FnOkG (P : Program) (w : World) (K : Frag) (mg : Str → Option Value) (base : Heap) (CX : CXT) (k : Nat) (f : Addr) (fd : FuncData) (ps : List Str) (sp : Sp) : Prop where
  len : ∀ vs H Q E, sp vs H Q E → vs.length = ps.length
  go : ∀ (A : Around) (outer : List PySem.Env) (s : Shared) (H : Hp) (args : Args) (us : List Value) (vs : List V) (Q : VK) (E : XK), sp vs H Q E → RoomG k A → Vals vs us → Env0 P w K mg base A outer s H → BindsTo s fd args (ps.zip us) → codeAny (model P w) A (.call (.ref f) args) (CR CX outer P w H s Q E) s
theorem defG {CX : CXT} {P : Program} {w : World} {mg : Str → Option Value} {base : Heap} {k : Nat} {f : Addr} {name qual : Str} {params : Arguments} {body : List Stmt} {scope : Scope} {dV kV doc pm cdv ct oc : Value} {an od : Option Addr} {osl : Array (Option Value)} {N ps : List Str} {sp : Sp}
    (lk : K.lookup f = some ⟨oc, od, .func (PySem.W.fnOf name qual params body scope dV kV doc pm an cdv ct), osl⟩) (S : FnScope N ps scope) (hcd : PySem.W.codeIn K cdv qual = true) (len : ∀ vs H Q E, sp vs H Q E → vs.length = ps.length)
    (hb : ∀ (A : Around) (outer : List PySem.Env) (s : Shared) (H : Hp) (vs : List V) (Q : VK) (E : XK), sp vs H Q E → RoomG k (A.deeper (envOfC qual scope s.heap.objs.size f cdv)) → ∃ t, PSs (cxOf CX P w K mg base N qual scope f cdv A outer s H E) body t ∧ t { nx := fun _ H' => Q .non H', rt := Q } (start N vs) H) :
    FnOkG P w K mg base CX (k + 1) f (PySem.W.fnOf name qual params body scope dV kV doc pm an cdv ct) ps sp := by
  refine ⟨len, fun A outer s H args us vs Q E hsp hr rv e0 bd => ?_⟩
  have old := fun b o e => (e0.bs b o e).1
  have Ks := e0.mod.kin.keeps old
  have kinds : ∀ y ∈ ps.zip us, scope.names.lookup y.1 = some .local ∨ (scope.names.lookup y.1 = some .cell ∧ ((cellsFrom (s.heap.objs.size + 1) scope.names []).lookup y.1).isSome = true) := fun y hy => (S.par y.1 (List.of_mem_zip (show (y.1, y.2) ∈ ps.zip us from hy)).1).imp id fun z => ⟨z, PySem.W.cellsFrom_some _ _ _ (.inl z)⟩
  obtain ⟨t, hp, ht⟩ := hb A outer s H vs Q E hsp (hr.deeper _)
  refine codeAny_call_function hr.toRoom.depth (Ks _ _ lk) rfl S.co S.gen rfl (PySem.W.codeRec_of Ks hcd) (bd _ _ _ _ (wpAny_newFunctionEnv_cells S.kind kinds fun env z s1 x => ?_))
  subst z
  have J : Inv (cxOf CX P w K mg base N qual scope f cdv A outer s H E) [] (start N vs) H s1 := inv_start S hr.hd e0 (len _ _ _ _ hsp) rv x
  refine ⟨(e0.mod.nolimit.keeps old).keeps x.toInCall.keep, codeAny_func (wpAny_mono (hp.run [] s1 (start N vs) H _ J ht) (fun fl s2 z => ?_) fun e s2 z => z)⟩
  cases fl with
  | next => obtain ⟨σ2, H2, J2, q⟩ := z; exact ⟨.non, H2, J2.os, J2.bare, J2.base, J2.hok, rfl, q⟩
  | ret u => obtain ⟨v, σ2, H2, J2, rv2, q⟩ := z; exact ⟨v, H2, J2.os, J2.bare, J2.base, J2.hok, rv2, q⟩
  | brk => exact (Exists.elim z fun _ z => Exists.elim z fun _ z => z.2).elim
  | cont => exact (Exists.elim z fun _ z => Exists.elim z fun _ z => z.2).elim
/-- a def of the text, by its body -/
theorem fn_bodyF {g : Pg} {P : Program} {w : World} {mg : Str → Option Value} {base : Heap} {n : Nat} {q : Fn} {d : MDef} {f : Addr} {name qual : Str} {params : Arguments} {body : List Stmt} {scope : Scope} {dV kV doc pm cdv ct oc : Value} {an od : Option Addr}
    {osl : Array (Option Value)} {N ps : List Str} (L : Lev g P w K mg base n) (hd : g.defs q = some d) (hnp : d.np = ps.length) (hn : d.n = N.length) (lk : K.lookup f = some ⟨oc, od, .func (PySem.W.fnOf name qual params body scope dV kV doc pm an cdv ct), osl⟩) (hcd : PySem.W.codeIn K cdv qual = true) (S : FnScope N ps scope) (lamH : LamAt g mg base cdv qual)
    (hbody : ∀ (X : Cx) (W : WX), X.prog = P → X.w = w → X.K = K → X.mg = mg → X.base = base → X.env.qual = qual ++ (".<locals>." : Str) → XOk g n N scope X → Takes X W → PassesOwn (model X.prog X.w) X.A X.env X.xe → (∀ x, X.fn x = true) → PSs X body (TSs_ g n X W d.body)) :
    FnOkG P w K mg base (L2.CX P w) (4 * (n + 1)) f (PySem.W.fnOf name qual params body scope dV kV doc pm an cdv ct) ps (spOf g K (n + 1) q d.np) := by
  have F : FnOkG P w K mg base (L2.CX P w) ((4 * n + 3) + 1) f (PySem.W.fnOf name qual params body scope dV kV doc pm an cdv ct) ps (spOf g K (n + 1) q d.np) := by
    refine defG lk S hcd (fun vs H Q E h => by rw [h.1, hnp]) fun A outer s H vs Q E h hr => ?_
    obtain ⟨hl, O, μ, st, ds, R, rv, post⟩ := h
    have hds : ds.length = d.np := by rw [rv.length]; exact hl
    have hpre : ps.length ≤ N.length := by have := congrArg List.length S.pre; rw [List.length_take] at this; omega
    refine ⟨_, hbody _ (fun cls d _ H' => E cls d H') rfl rfl rfl rfl rfl rfl ⟨rfl, S.nd, rfl, rfl, hr, L.mth, L.fld, L.calls, L.kit, L.con, lamH⟩ Takes.cxOf (L2.passes_of rfl) (fun _ => rfl), ?_⟩
    refine ⟨O, μ, _, st, start_rel (N := N) R rv (by omega), ?_⟩
    have ev : g.C (n + 1) q ds st = endS st (evSs g.p (g.C n) g.fuel d.body (ds.map some ++ List.replicate (d.n - d.np) none) st) := by
      show callN g.p g.fuel g.defs (n + 1) q ds st = _
      simp only [callN, hd, hds, if_true]
    rw [ev, hn, ← hds] at post
    cases er : evSs g.p (g.C n) g.fuel d.body (ds.map some ++ List.replicate (N.length - ds.length) none) st with
    | nx env' st' =>
      rw [er] at post
      intro σ' H' ⟨O', μ', h1, h2⟩
      obtain ⟨O2, μ2, st2, rv2, e2, R2, E2, r2⟩ := trim_ok R h1.bare h2 (rv := .d .non) (v := .non) rfl
      simp only [endS, e2] at post
      exact post _ _ ⟨O2, μ2, R2, E2, r2⟩
    | rt rv' st' =>
      rw [er] at post
      intro v H' ⟨O', μ', h1, h2, h3⟩
      obtain ⟨O2, μ2, st2, rv2, e2, R2, E2, r2⟩ := trim_ok R h1 h2 h3
      simp only [endS, e2] at post
      exact post _ _ ⟨O2, μ2, R2, E2, r2⟩
    | exc x env' st' =>
      rw [er] at post
      exact fun cls dd σ' H' ⟨O', μ', h1, h2, h3⟩ => post cls dd H' ⟨O', μ', h1.bare, h2, h3⟩
    | bk env' st' => rw [er] at post; exact post.elim
    | ct env' st' => rw [er] at post; exact post.elim
    | bad => rw [er] at post; exact post.elim
  exact F
/-- the same, as it is called -/
theorem fn_body {P : Program} {w : World} {mg : Str → Option Value} {base : Heap} {k : Nat} {f : Addr} {fd : FuncData} {ps : List Str} {sp : Sp} (F : FnOkG P w K mg base (L2.CX P w) k f fd ps sp) (hp : plainP fd.params = true) (hps : fd.params.args.map (·.arg) = ps) (nd : ps.Nodup)
    (hd : ∀ s : Shared, K.In s.heap → fd.defaults = .none ∨ ∃ T o its n, fd.defaults = .ref T ∧ s.heap.get? T = some o ∧ o.data = .seq its n) : FnG P w K mg base (L2.CX P w) k f ps sp := by
  subst hps
  intro A outer s H args us vs Q E hr e0 ha rv hs
  have Ks := e0.mod.kin.keeps fun b o e => (e0.bs b o e).1
  refine F.go A outer s H args us vs Q E hs hr rv e0 ?_
  rcases ha with ⟨rfl, hl⟩ | ⟨u1, ws, ks, rfl, hw, hk, rfl⟩
  · exact bindsTo_plain hp nd hl (hd s Ks)
  · exact bindsTo_kw hp nd hk hw (hd s Ks)
end
end Mn
end

section
set_option Elab.async false
set_option linter.all false
set_option maxRecDepth 100000
set_option maxHeartbeats 4000000
/-! Mini: sorted(..) of a tuple. -/
namespace Mn
open PySem PySem.Spec PySem.W PyProof.Rows
section
variable {prog : Program} {w : World} {A : Around} {E : Value → Shared → Prop} {s : Shared} {t : Addr} {vs : List Value}
theorem tupCollect {Q : List Value → Shared → Prop} (ht : s.heap.IsTuple t vs.toArray) (hL : vs.length ≤ sizeLine) (q : Q vs { s with heap := (s.heap.push (seqObj "list" #[] 0)).update s.heap.objs.size (Obj.mapSeq (· ++ vs.toArray)) }) : wpAny (model prog w) A (collect (.ref t)) Q E s := by
  obtain ⟨o, e1, e2, k, e3⟩ := ht
  unfold collect
  refine wpAny_bind (wpAny_runValue (codeAny_builtin entry_proto_collect' (?_ : wpAny (model prog w) _ (do again (.builtin "list.__iadd__" ⟨[← newList [], .ref t], []⟩)) _ _ s)))
  refine wpAny_bind (wpAny_newList (wpAny_pure ⟨Code.quiet_builtin _ (by decide +kernel), codeAny_builtin entry_list_iadd' (?_ : wpAny _ _ (Builtin.List.listExtendWith (.ref s.heap.objs.size) (.ref t) (.ref s.heap.objs.size)) _ _ { s with heap := s.heap.push (seqObj "list" #[] 0) })⟩))
  have e4 : (s.heap.push (seqObj "list" #[] 0)).get? t = some o := Heap.get?_push_of_some _ e1
  have c : (Value.type "tuple" == Value.type "tuple") = true := rfl
  unfold Builtin.List.listExtendWith
  refine wpAny_bind (wpAny_typeOf (T := "tuple") ⟨o, e4, e2⟩ ?_)
  rw [if_pos (by rw [c]; simp)]
  refine wpAny_bind (listItems_at e4 e3 (wpAny_bind (listItems_at (xs := #[]) (n := 0) (Heap.get?_push_size _ rfl) rfl ?_)))
  rw [if_neg (by simp)]
  refine wpAny_bind (listUpdate_at (n := 0) (xs := #[]) (Heap.get?_push_size _ rfl) rfl (wpAny_pure ?_) (Nat.zero_le _) (by show (#[] ++ vs.toArray).size ≤ sizeLine + 1; simp only [Array.size_append, List.size_toArray, List.length_nil]; omega))
  refine wpAny_bind (wpAny_load (get?_update_seq (Heap.get?_push_size _ rfl) _) (?_ : wpAny _ _ (pure ((#[] : Array Value) ++ vs.toArray).toList) Q E _))
  have e5 : ((#[] : Array Value) ++ vs.toArray).toList = vs := by simp
  rw [e5]
  exact wpAny_pure q
theorem tupSorted {κ : KeyKind} {Q : Value → Shared → Prop} (ht : s.heap.IsTuple t vs.toArray) (S : SortsAt prog w A.in1.in1 { s with heap := sortingHeap (copyHeap s.heap vs) (s.heap.objs.size + 1) vs } κ vs) (hL : vs.length ≤ sizeLine)
    (q : Q (.ref (s.heap.objs.size + 1)) { s with heap := sortedAll s.heap vs (sortVals κ false vs vs).toArray }) : wpAny (model prog w) A (call (.builtin "sorted") [.ref t]) Q E s := by
  refine call_function_entry_kw kind_sorted plain_sorted entry_sorted (args_sorted1 _) ?_
  unfold Builtin.«sorted»
  refine wpAny_bind (m := checkCount "sorted" 1 1 _) (wpAny_pure (wpAny_bind (tupCollect ht hL (wpAny_bind (wpAny_newList ?_ hL)))))
  have z : ((s.heap.push (seqObj "list" #[] 0)).update s.heap.objs.size (Obj.mapSeq (· ++ vs.toArray))).objs.size = s.heap.objs.size + 1 := by rw [Heap.size_update, size_push']
  show wpAny _ _ _ _ _ { s with heap := copyHeap s.heap vs }
  rw [z]
  refine wpAny_bind (wpAny_holding (wpAny_call_entry_kw slot_list_sort ⟨_, copyHeap_at s.heap vs, rfl⟩ entry_list_sort (wpAny_mono (list_sort_vals (P := fun f s' => f = .done (.ret .none) ∧ Q (.ref (s.heap.objs.size + 1)) s') (s := { s with heap := copyHeap s.heap vs }) (copyHeap_at s.heap vs) S hL ⟨rfl, q⟩) (fun f s' ⟨e, q'⟩ => ?_) fun _ _ x => x) (args_list_sort _)))
  subst e
  exact ⟨_, rfl, wpAny_pure ⟨_, rfl, q'⟩⟩
variable {β : Type} {R : Value → β → Prop} {bs : List β} {enc : β → PyData}
theorem tupSortData {Q : Value → Shared → Prop} (ht : s.heap.IsTuple t vs.toArray) (e : EachIs R vs bs) (er : EachIs (fun v b => ∃ as, Reads s.heap v (enc b) as) vs bs) (hal : AllAlike (bs.map enc)) (hk : Sortable (bs.map enc)) (hL : bs.length ≤ sizeLine) (hu : ∀ b, b ∈ bs → A.units + 2 + (enc b).depth < cLine)
    (q : ∀ out, out.length = bs.length → EachIs R out (bs.mergeSort (dataLe false enc)) → Q (.ref (s.heap.objs.size + 1)) { s with heap := sortedAll s.heap vs (List.toArray out) }) : wpAny (model prog w) A (call (.builtin "sorted") [.ref t]) Q E s := by
  let s2 : Shared := { s with heap := sortingHeap (copyHeap s.heap vs) (s.heap.objs.size + 1) vs }
  have er2 : EachIs (fun v b => ∃ as, Reads s2.heap v (enc b) as) vs bs := er.mono fun _ _ ⟨as, r⟩ => ⟨as, PyProof.Rows.Reads.keeps (fun _ _ => sorting_copy_old) r⟩
  have l : vs.length = bs.length := e.length
  exact tupSorted ht (SortsAt.data (s := s2) (each_map (R := fun v d => ∃ as, Reads s2.heap v d as) enc er2) hal hk (bound_map hu)) (by rw [l]; exact hL) (q _ (by rw [sortVals_length false rfl]; exact l) (sortVals_data false e er2 hal))
end
end Mn
end

section
set_option Elab.async false
set_option linter.all false
set_option maxRecDepth 100000
set_option maxHeartbeats 4000000
/-! Mini: sorted(..). -/
namespace Mn
open PySem L2 PySem.Spec PyProof.Rows
section
variable {g : Pg} {n : Nat} {X : Cx}
variable {K : Frag} {T : List (Addr × Str)} {O : Own} {μ : List Addr} {H : Hp} {env : Env} {st : Store} {σ : L2.St}
theorem pds_len : ∀ {xs : List D} {ps : List PyData}, pds xs = some ps → xs.length = ps.length
  | [], ps, h => by simp only [pds, Option.some.injEq] at h; rw [← h]; rfl
  | x :: xs, ps, h => by
    simp only [pds] at h
    split at h <;> first | cases h | skip
    obtain ⟨ys, e, rfl⟩ := Option.map_eq_some_iff.mp h
    rw [List.length_cons, List.length_cons, pds_len e]
/-- the items, with what they read as -/
theorem each_of {pins : List (Addr × Obj)} {s : Shared} (I : Inv X pins σ H s) : ∀ {xs : List D} {ps : List PyData} {vs : List V} {us : List Value}, VRs O μ H xs vs → pds xs = some ps → Vals vs us →
    PySem.W.EachIs (fun (v : Value) (b : D × PyData) => ∃ u, RelV u v ∧ VR O μ H b.1 u) us (xs.zip ps) ∧ PySem.W.EachIs (fun (v : Value) (b : D × PyData) => ∃ as, PySem.Reads s.heap v b.2 as) us (xs.zip ps)
  | [], ps, vs, us, r, e, rv => by
    simp only [pds, Option.some.injEq] at e
    simp only [VRs] at r
    subst e r
    cases rv
    exact ⟨.nil, .nil⟩
  | x :: xs, ps, vs, us, r, e, rv => by
    simp only [pds] at e
    split at e <;> first | cases e | skip
    rename_i p hp
    obtain ⟨qs, e2, rfl⟩ := Option.map_eq_some_iff.mp e
    simp only [VRs] at r
    obtain ⟨v, r0, rfl, r1, r2⟩ := r
    cases rv with
    | cons a b =>
      obtain ⟨k1, k2⟩ := each_of I r2 e2 b
      exact ⟨.cons ⟨v, a, r1⟩ k1, .cons (Dp.reads I p v _ (dp_of (K := X.K) x r1 hp) a) k2⟩
theorem alikeB_ok {ps : List PyData} (h : alikeB ps = true) : PySem.W.AllAlike ps := fun d hd d' hd' => by
  unfold alikeB at h
  rw [List.all_eq_true] at h
  have h1 := h d hd
  rw [List.all_eq_true] at h1
  exact h1 d' hd'
theorem sortableB_ok {ps : List PyData} (h : sortableB ps = true) : PySem.W.Sortable ps := by
  unfold sortableB at h
  rw [Bool.or_eq_true, List.all_eq_true, List.all_eq_true] at h
  rcases h with h | h
  · refine .inl fun d hd => ?_
    have := h d hd
    unfold tupB at this
    split at this
    · exact ⟨_, _, rfl⟩
    · cases this
  · refine .inr fun d hd => ?_
    have := h d hd
    unfold flatB at this
    split at this
    · cases this
    · cases this
    · rename_i h1 h2
      exact ⟨h1, h2⟩
theorem each_vals {out : List Value} : ∀ {bs : List (D × PyData)}, PySem.W.EachIs (fun (v : Value) (b : D × PyData) => ∃ u, RelV u v ∧ VR O μ H b.1 u) out bs → ∃ vs : List V, Vals vs out ∧ VRs O μ H (bs.map fun q => q.1) vs := by
  intro bs h
  induction h with
  | nil => exact ⟨[], .nil, VRs.nil⟩
  | cons a b ih =>
    obtain ⟨u, h1, h2⟩ := a
    obtain ⟨vs, h3, h4⟩ := ih
    exact ⟨u :: vs, .cons h1 h3, VRs.cons h2 h4⟩
theorem zip_snd : ∀ {xs : List D} {ps : List PyData}, xs.length = ps.length → (xs.zip ps).map (fun q => q.2) = ps
  | [], [], _ => rfl
  | x :: xs, p :: ps, h => by rw [List.zip_cons_cons, List.map_cons, zip_snd (Nat.succ.inj h)]
  | [], _ :: _, h => by cases h
  | _ :: _, [], h => by cases h
theorem cb_sortedD (hu : X.A.units + 64 < cLine) : CallR X (.builtin "sorted") (SBifD g X .sorted) := by
  intro pins s σ H xs us Q I rv ⟨O, μ, env, st, σ0, ds, out, R, r, e, q⟩
  simp only [bifD, srtD] at e
  split at e <;> first | cases e | skip
  rename_i d
  obtain ⟨v, rfl, r1⟩ := vrs1 r
  split at e <;> first | cases e | skip
  rename_i hl
  obtain ⟨xs, ex, e⟩ := Option.bind_eq_some_iff.mp e
  obtain ⟨ys, ey, rfl⟩ := Option.map_eq_some_iff.mp e
  obtain ⟨ps, ep, ey⟩ := Option.bind_eq_some_iff.mp (show (pds xs).bind _ = some ys from ey)
  by_cases hc : (alikeB ps && (sortableB ps && (decide (xs.length ≤ lim) && ps.all fun p => decide (p.depth ≤ 50)))) = true
  rotate_left
  · rw [if_neg hc] at ey; cases ey
  rw [if_pos hc] at ey
  cases ey
  simp only [Bool.and_eq_true, decide_eq_true_eq, List.all_eq_true] at hc
  obtain ⟨c1, c2, c3, c4⟩ := hc
  obtain ⟨ad, vs, rfl, h2, h3⟩ := seq_sq R r1 ex
  obtain ⟨u, rfl, ru⟩ := vals1 rv
  cases ru
  have hlen := pds_len ep
  have hmap : (xs.zip ps).map (fun q => q.2) = ps := zip_snd hlen
  have hzl : (xs.zip ps).length = xs.length := by rw [List.length_zip, ← hlen, Nat.min_self]
  have hdep : ∀ b ∈ xs.zip ps, X.A.units + 2 + b.2.depth < cLine := fun b hb => by
    have hb2 : b.2 ∈ ps := by rw [← hmap]; exact List.mem_map.mpr ⟨b, hb, rfl⟩
    have := c4 b.2 hb2
    omega
  have fin : ∀ (its : List Value) (out : List Value), out.length = (xs.zip ps).length → PySem.W.EachIs (fun (v : Value) (b : D × PyData) => ∃ u, RelV u v ∧ VR O μ H b.1 u) out ((xs.zip ps).mergeSort (PySem.W.dataLe false fun q => q.2)) → EP X pins σ Q (.ref (s.heap.objs.size + 1)) { s with heap := sortedAll s.heap its (List.toArray out) } := fun its out ho he => by
    obtain ⟨ws, w1, w2⟩ := each_vals he
    obtain ⟨ep', he'⟩ := PyProof.Rows.sortedAll_at s.heap its out.toArray
    have hlw : ws.length ≤ sizeLine := by
      rw [w1.length, ho, hzl]
      exact le_line c3
    exact ⟨.ref _, upd H (s.heap.objs.size + 1) (.lst ws), I.laid (t' := s.toks) (fun _ _ => PyProof.Rows.sortedAll_old) (Nat.le_succ _) ⟨hlw, out, ep', w1, he'⟩, rfl, q _ _ (got_fl R w2 (I.hok.fresh (Nat.le_succ _)))⟩
  rcases h3 with ⟨hT, _⟩ | ⟨hq, _⟩
  · obtain ⟨its, rvs, pl, hz⟩ := I.tuple hT
    obtain ⟨k1, k2⟩ := each_of I h2 ep rvs
    exact tupSortData (enc := fun q : D × PyData => q.2) pl k1 k2 (by rw [hmap]; exact alikeB_ok c1) (by rw [hmap]; exact sortableB_ok c2) (by rw [hzl]; exact le_line c3) hdep (fin its)
  · obtain ⟨its, rvs, pl, hz⟩ := I.list hq
    obtain ⟨k1, k2⟩ := each_of I h2 ep rvs
    exact PySem.W.sorted_data (enc := fun q : D × PyData => q.2) pl.isList k1 k2 (by rw [hmap]; exact alikeB_ok c1) (by rw [hmap]; exact sortableB_ok c2) (by rw [hzl]; exact le_line c3) hdep (fin its)
end
end Mn
end

section
set_option Elab.async false
set_option linter.all false
set_option maxRecDepth 100000
set_option maxHeartbeats 2000000
/-! Mini: methods of built-in types. -/
namespace Mn
open PySem L2 PySem.Spec PyProof.Rows
section
variable {g : Pg} {n : Nat} {X : Cx} {W : WX} {N : List Str} {sc : Scope} {fc : Str → Bool} {a b c : Expr} {ma mb mc : E} {ta tb : Mn.T} {pos apos p2 : Pos} {es : List Expr} {ms : Es} {x : Str} {i : Nat}
variable {K : Frag} {T : List (Addr × Str)} {O O1 : Own} {μ μ1 : List Addr} {H H1 : Hp} {env : Env} {st : Store} {σ : L2.St}
def SBm (g : Pg) (X : Cx) (m : Bmt) : V → List V → Hp → VK → Prop := fun x xs H Q => ∃ O μ env st σ0 dx ds rv st', StR X.K g.T O μ env st σ0 H ∧ VR O μ H dx x ∧ VRs O μ H ds xs ∧ bmtD st m dx ds = .ok rv st' ∧
  ∀ v H', (∃ O' μ', StR X.K g.T O' μ' env st' σ0 H' ∧ Ext O μ H O' μ' H' ∧ RVR O' μ' H' rv v) → Q v H'
theorem bm_append : MtR X "list.append" (SBm g X .append) := by
  intro pins s σ H x xs v us Q I rx rs ⟨O, μ, env, st, σ0, dx, ds, rv, st', R, r1, r2, e, q⟩
  simp only [bmtD, appD] at e
  split at e <;> first | cases e | skip
  rename_i dv
  split at e <;> first | cases e | skip
  rename_i j
  split at e <;> first | cases e | skip
  rename_i xs0 ej
  split at e <;> first | cases e | skip
  rename_i hz
  obtain ⟨y, rfl, ry⟩ := vrs1 r2
  obtain ⟨ad, vs, rfl, h1, h2, put⟩ := lst_at R r1 ej
  obtain ⟨R2, E2⟩ := put (xs0 ++ [dv]) (vs ++ [y]) fun e' => (VRs.mono e' xs0 h2).append (VRs.cons (VR.mono e' dv ry) VRs.nil)
  have hl := h2.length
  have := lim_le
  exact mt_append pins s σ H _ _ v us Q I rx rs ⟨ad, vs, y, rfl, rfl, h1, by omega, q _ _ ⟨O, μ, R2, E2, rfl⟩⟩
theorem bm_pop : MtR X "list.pop" (SBm g X .pop) := by
  intro pins s σ H x xs v us Q I rx rs ⟨O, μ, env, st, σ0, dx, ds, rv, st', R, r1, r2, e, q⟩
  simp only [bmtD, popD] at e
  split at e <;> first | cases e | skip
  split at e <;> first | cases e | skip
  rename_i j
  split at e <;> first | cases e | skip
  rename_i xs0 ej
  split at e <;> first | cases e | skip
  rename_i dv ev
  obtain ⟨ad, vs, rfl, h1, h2, put⟩ := lst_at R r1 ej
  simp only [VRs] at r2
  subst r2
  obtain ⟨y, hy, ry⟩ := VRs.get h2 ev
  obtain ⟨R2, E2⟩ := put xs0.dropLast vs.dropLast fun e' => (VRs.mono e' xs0 h2).dropLast
  exact mt_pop pins s σ H _ _ v us Q I rx rs ⟨ad, vs, y, rfl, rfl, h1, by rw [← h2.length]; exact hy, q _ _ ⟨O, μ, R2, E2, VR.mono E2 dv ry⟩⟩
theorem bm_get (hu : X.A.units + 1 < cLine) : MtR X "dict.get" (SBm g X .get) := by
  intro pins s σ H x xs v us Q I rx rs ⟨O, μ, env, st, σ0, dx, ds, rv, st', R, r1, r2, e, q⟩
  simp only [bmtD, getD] at e
  split at e <;> first | cases e | skip
  · rename_i dk
    split at e <;> first | cases e | skip
    rename_i o eo
    obtain ⟨y, rfl, ry⟩ := vrs1 r2
    obtain ⟨u, rfl, ru⟩ := vals1 rs
    obtain ⟨ad, o', rfl, hg, ho⟩ := dget_at R r1 ry eo
    cases rx
    refine d_get1 hu I hg ru fun w' s3 I3 rw' => ⟨_, H, I3, rw', q _ _ ⟨O, μ, R, Ext.refl, ?_⟩⟩
    cases o <;> cases o' <;> first | exact ho.elim | skip
    · rfl
    · exact ho
  · rename_i dk dz
    split at e <;> first | cases e | skip
    rename_i o eo
    obtain ⟨y, z, rfl, ry, rz⟩ := vrs2 r2
    obtain ⟨u, w', rfl, ru, rw'⟩ := vals2 rs
    obtain ⟨ad, o', rfl, hg, ho⟩ := dget_at R r1 ry eo
    cases rx
    refine d_get2 hu I hg ru rw' fun w3 s3 I3 rw3 => ⟨_, H, I3, rw3, q _ _ ⟨O, μ, R, Ext.refl, ?_⟩⟩
    cases o <;> cases o' <;> first | exact ho.elim | skip
    · exact rz
    · exact ho
theorem strs_of : ∀ {ds : List Mn.D} {vs : List V} {ys : List Str}, VRs O μ H ds vs → strsOf ds = some ys → vs = ys.map V.str
  | [], vs, ys, r, e => by
    simp only [strsOf, Option.some.injEq] at e
    subst e
    simp only [VRs] at r
    exact r
  | d :: ds, vs, ys, r, e => by
    simp only [VRs] at r
    obtain ⟨v, r0, rfl, r1, r2⟩ := r
    cases d <;> simp only [strsOf, reduceCtorEq] at e
    cases e2 : strsOf ds with
    | none => rw [e2] at e; cases e
    | some zs =>
      rw [e2] at e
      cases e
      cases r1
      rw [strs_of r2 e2]
      rfl
theorem bm_join : MtR X "str.join" (SBm g X .join) := by
  intro pins s σ H x xs v us Q I rx rs ⟨O, μ, env, st, σ0, dx, ds, rv, st', R, r1, r2, e, q⟩
  simp only [bmtD, joinD] at e
  split at e <;> first | cases e | skip
  rename_i d
  split at e <;> first | cases e | skip
  rename_i z
  split at e <;> first | cases e | skip
  rename_i ys ey
  split at e <;> first | cases e | skip
  rename_i hz
  obtain ⟨y, rfl, ry⟩ := vrs1 r2
  obtain ⟨xs0, ex, ey⟩ := Option.bind_eq_some_iff.mp ey
  obtain ⟨ad, vs, rfl, h2, h3⟩ := seq_sq R ry ex
  cases r1
  have hv := strs_of h2 ey
  subst hv
  have hl := lim_le
  refine mt_join pins s σ H _ _ v us Q I rx rs ⟨z, ad, ys, rfl, rfl, ?_, Nat.le_trans hz (by decide), q _ _ ⟨O, μ, R, Ext.refl, rfl⟩⟩
  rcases h3 with ⟨h, _⟩ | ⟨h, _⟩
  · exact .inr h
  · exact .inl h
theorem vrs_strs : ∀ (ys : List Str), VRs O μ H (ys.map Mn.D.str) (ys.map V.str)
  | [] => VRs.nil
  | y :: ys => VRs.cons rfl (vrs_strs ys)
theorem bm_split : MtR X "str.split" (SBm g X .split) := by
  intro pins s σ H x xs v us Q I rx rs ⟨O, μ, env, st, σ0, dx, ds, rv, st', R, r1, r2, e, q⟩
  simp only [bmtD, splitD] at e
  split at e <;> first | cases e | skip
  rename_i z
  split at e <;> first | cases e | skip
  rename_i y
  split at e <;> first | cases e | skip
  rename_i hz
  obtain ⟨w', rfl, rfl⟩ := vrs1 r2
  cases r1
  refine mt_split pins s σ H _ _ v us Q I rx rs ⟨y, z, rfl, rfl, by simpa using hz.1, le_line hz.2, fun p hp => ?_⟩
  obtain ⟨O', μ', h1, h2, h3⟩ := got_fl R (vrs_strs (Txt.split y z)) hp
  exact q _ _ ⟨O', μ', h1, h2, h3⟩
def bmtId : Bmt → String × Str × String
  | .append => ("list", "append", "list.append")
  | .pop => ("list", "pop", "list.pop")
  | .index => ("list", "index", "list.index")
  | .get => ("dict", "get", "dict.get")
  | .join => ("str", "join", "str.join")
  | .split => ("str", "split", "str.split")
/-- the receiver's type -/
theorem tyB_is {m : Bmt} {dx : Mn.D} {v : V} {u : Value} {pins : List (Addr × Obj)} {s : Shared} (I : Inv X pins σ H s) (R : StR X.K g.T O μ env st σ H) (r : VR O μ H dx v) (rv : RelV v u) (h : tyB m st dx = true) :
    s.TypeIs u (bmtId m).1 ∧ ∀ a, u = .ref a → ∃ ob, s.heap.get? a = some ob ∧ ob.dict = none := by
  have lst : ∀ {xs}, isL dx = true → seqOf st dx = some xs → s.TypeIs u "list" ∧ ∀ a, u = .ref a → ∃ ob, s.heap.get? a = some ob ∧ ob.dict = none := fun {xs} hl e => by
    obtain ⟨ad, vs, rfl, h2, h3⟩ := seq_sq R r e
    have hq : SqL X.K H ad vs := by
      rcases h3 with ⟨_, ys, rfl⟩ | ⟨h, _⟩
      · simp [isL] at hl
      · exact h
    cases rv
    obtain ⟨its, _, pl, _⟩ := I.list hq
    refine ⟨pl.isList.typeIs, fun a e => ?_⟩
    cases e
    obtain ⟨o, n, e, c, hd, _⟩ := pl
    exact ⟨o, e, hd⟩
  have str : ∀ {z}, dx = .str z → s.TypeIs u "str" ∧ ∀ a, u = .ref a → ∃ ob, s.heap.get? a = some ob ∧ ob.dict = none := fun {z} e => by
    subst e
    cases r
    obtain ⟨t, rfl⟩ := rv
    exact ⟨typeIs_str s z t, fun _ e => nomatch e⟩
  cases m <;> simp only [tyB, Bool.and_eq_true, Option.isSome_iff_exists] at h
  case append => obtain ⟨hl, xs, e⟩ := h; exact lst hl e
  case pop => obtain ⟨hl, xs, e⟩ := h; exact lst hl e
  case index => obtain ⟨hl, xs, e⟩ := h; exact lst hl e
  case join => split at h <;> first | (cases h; done) | exact str rfl
  case split => split at h <;> first | (cases h; done) | exact str rfl
  case get =>
    obtain ⟨⟨t, e1⟩, kvs, e2⟩ := h
    obtain ⟨ad, l, rfl, h2, _⟩ := dct_at R r e1 e2
    cases rv
    have z : ∃ o, s.heap.get? ad = some o ∧ o.ExactDict := by
      cases t
      · obtain ⟨z, hz, _⟩ := h2
        obtain ⟨_, _, _, _, o, _, _, e, ex, _⟩ := dk_rd I.hok hz
        exact ⟨o, e, ex⟩
      · obtain ⟨z, hz, _⟩ := h2
        obtain ⟨_, _, _, _, o, _, _, e, ex, _⟩ := dt_rd I.hok hz
        exact ⟨o, e, ex⟩
    obtain ⟨o, e, ex⟩ := z
    refine ⟨⟨o, e, ex.1⟩, fun a e2 => ?_⟩
    cases e2
    exact ⟨o, e, ex.2.1⟩
theorem few_of {es : List Expr} {env : PySem.Env} {pos : Pos} (h : notStars es = true) (hl : es.length < 30) : ((backTo pos (starEach es env)).all (fun x => !x.1) && (backToKw pos (keywordEach [] env)).all (fun x => x.1.isSome)
      && decide (es.length + ([] : List Keyword).length + (if ([] : List Keyword).isEmpty then 0 else 1) < 30)) = true := by
  rw [stars_all h]
  show (true && true && decide (es.length + 0 + 0 < 30)) = true
  rw [decide_eq_true (by omega)]
  rfl
theorem bmt_facts (m : Bmt) (hm : m ≠ .index) : PlainAttrs (bmtId m).1 ∧ Slot (bmtId m).1 (bmtId m).2.1 (bmtId m).2.2 ∧ typeOf (.builtin (bmtId m).2.2) = pure (.type "method_descriptor") := by
  cases m
  case append => exact ⟨PySem.F.plainAttrs_list, PySem.F.slot_list_append, PySem.F.type_list_append⟩
  case pop => exact ⟨PySem.F.plainAttrs_list, PySem.F.slot_list_pop, PySem.F.type_list_pop⟩
  case index => exact absurd rfl hm
  case get => exact ⟨PySem.F.plainAttrs_dict, PySem.F.slot_dict_get, PySem.F.type_dict_get⟩
  case join => exact ⟨PySem.F.plainAttrs_str, PySem.F.slot_str_join, PySem.F.type_str_join⟩
  case split => exact ⟨PySem.F.plainAttrs_str, PySem.F.slot_str_split, PySem.F.type_str_split⟩
theorem bmt_mt (m : Bmt) (hu : X.A.units + 1 < cLine) : MtR X (bmtId m).2.2 (SBm g X m) := by
  cases m
  case append => exact bm_append
  case pop => exact bm_pop
  case index => intro pins s σ H x xs v us Q I rx rs ⟨O, μ, env, st, σ0, dx, ds, rv, st', R, r1, r2, e, q⟩; cases e
  case get => exact bm_get hu
  case join => exact bm_join
  case split => exact bm_split
theorem se_bmt {m : Bmt} (ok : XOk g n N sc X) (hm : m ≠ .index) (h : mOk a es apos pos = true) (ha : PE X a (TE_ g n X W ma)) (hb : PA X es (TA_ g n X W ms)) (he : es = [] → ms = .nil) : PE X (.Call (.Attribute a (bmtId m).2.1 apos) es [] pos) (TE_ g n X W (.bmt m ma ms)) := by
  have hu := ok.room.un
  simp only [mOk, Bool.and_eq_true, decide_eq_true_eq] at h
  obtain ⟨h1, h2, h3, h4⟩ := h
  obtain ⟨f1, f2, f3⟩ := bmt_facts m hm
  refine ⟨fun pins s σ H Q I ⟨O, μ, env, st, R, q⟩ => ?_⟩
  simp only [evE] at q
  refine wpAny_Call_method_late (attr_base h1) (few_of h2 h3) h4 rfl (thn ((pf ha).run pins s σ H _ I ⟨O, μ, env, st, R, post_bind VR q⟩) fun v s1 ⟨x, H1, I1, rx, O1, μ1, st1, dx, R1, E1, r1, q1⟩ => ?_)
  dsimp only at q1
  by_cases ht : tyB m st1 dx = true
  rotate_left
  · rw [if_neg ht] at q1; exact q1.elim
  rw [if_pos ht] at q1
  obtain ⟨t1, t2⟩ := tyB_is I1 R1 r1 rx ht
  refine ⟨_, _, f1, f2, f3, t1, t2, ?_⟩
  have fin : ∀ {s2 : Shared} {H2 : Hp} {us : List Value} {vs : List V}, Inv X pins σ H2 s2 → Vals vs us → Rest RVR VRs X.K g.T O1 μ1 H1 env σ W (fun ds st => bmtD st m dx ds) Q vs H2 → wpAny (model X.prog X.w) X.A (call (.builtin (bmtId m).2.2) (v :: us)) (EP X pins σ Q) X.xe s2 := by
    intro s2 H2 us vs I2 rs ⟨O2, μ2, st2, ds, R2, E2, r2, q2⟩
    dsimp only at q2
    cases e : bmtD st2 m dx ds with
    | ok rv st' =>
      rw [e] at q2
      exact bmt_mt (g := g) m (by omega) pins s2 σ H2 x vs v us Q I2 rx rs ⟨O2, μ2, env, st2, σ, dx, ds, rv, st', R2, VR.mono E2 dx r1, r2, e, fun v H' ⟨O', μ', k1, k2, k3⟩ => q2 v H' ⟨O', μ', k1, k2, k3⟩⟩
    | exc y st' =>
      exfalso
      cases m <;> simp only [bmtD, appD, popD, getD, joinD, splitD] at e
      all_goals (repeat' (first | (cases e; done) | split at e))
    | bad => rw [e] at q2; exact q2.elim
  cases es with
  | nil =>
    rw [he rfl] at q1
    exact Calls.callWith_builtin rfl (PySem.evalArgs_none (fin I1 .nil ⟨O1, μ1, st1, [], R1, Ext.refl, VRs.nil, by simpa only [evEs, Res.bind] using q1⟩))
  | cons e es =>
    simp only [notStars, Bool.and_eq_true] at h2
    have hA := hb.run pos pins s1 σ H1 _ I1 ⟨O1, μ1, env, st1, R1, post_bind VRs q1⟩
    rw [starT h2.1] at hA ⊢
    refine Calls.callWith_builtin (by show (false || (backTo pos (starEach es X.env)).any (·.1)) = false; rw [stars_any h2.2] <;> rfl) (Calls.evalArgs_plain ?_)
    exact thn hA fun us s2 ⟨vs, H2, I2, r2, q2⟩ => fin I2 r2 q2
end
end Mn
end

section
set_option Elab.async false
set_option linter.all false
set_option maxRecDepth 100000
set_option maxHeartbeats 2000000
/-! Mini: f-strings, isinstance. -/
namespace Mn
open PySem L2 PySem.Spec PyProof.Rows
section
variable {g : Pg} {n : Nat} {X : Cx} {W : WX} {N : List Str} {sc : Scope} {fc : Str → Bool} {a b c : Expr} {ma mb mc : E} {ta tb : Mn.T} {pos apos p2 : Pos} {es : List Expr} {ms : Es} {x : Str} {i : Nat}
variable {K : Frag} {T : List (Addr × Str)} {O O1 : Own} {μ μ1 : List Addr} {H H1 : Hp} {env : Env} {st : Store} {σ : L2.St}
/-- a part of an f-string -/
def TFm (g : Pg) (n : Nat) (X : Cx) (W : WX) (m : E) : TE := fun σ H Q => ∃ O μ env st, StR X.K g.T O μ env st σ H ∧ Post (fun O μ H (d : Mn.D) (v : V) => ∃ a, fmtD d = some a ∧ v = .str a) X.K g.T O μ H env σ W ((evE g.p (g.C n) m env st).froz.bind fun x st => if (fmtD x).isSome then .ok x st else .bad) Q
theorem sf_fmt (ha : PE X a (TE_ g n X W ma)) : PE X (.FormattedValue a (-1) none pos) (TFm g n X W ma) := by
  refine PE.weak (pe_fmt (pf ha)) fun σ H Q ⟨O, μ, env, st, R, q⟩ => ?_
  refine ⟨O, μ, env, st, R, (post_bind VR q).mono ?_⟩
  rintro v H1 ⟨O1, μ1, st1, d, R1, E1, r1, q1⟩
  cases e : fmtD d with
  | none => simp only [e, Option.isSome_none, Bool.false_eq_true, if_false] at q1; exact q1.elim
  | some y =>
    simp only [e, Option.isSome_some, if_true] at q1
    have q2 := q1 (.str y) H1 ⟨O1, μ1, R1, Ext.refl, y, e, rfl⟩
    unfold fmtD at e
    split at e <;> first | cases e | skip
    · split at e <;> first | cases e | skip
      rename_i hz
      cases r1
      exact .inl ⟨_, rfl, le_line hz, q2⟩
    · split at e <;> first | cases e | skip
      rename_i hz
      cases r1
      exact .inr ⟨_, rfl, log_lt hz, q2⟩
theorem sf_str {s : Str} {e : Expr} (h : PE X e (tC (.str s))) : PE X e (TFm g n X W (.cst (.str s))) := by
  refine PE.weak h fun σ H Q ⟨O, μ, env, st, R, q⟩ => ?_
  simp only [evE] at q
  cases e : fmtD (.str s) with
  | none => simp only [Res.froz, Res.bind, RV.toD, e, Option.isSome_none, Bool.false_eq_true, if_false] at q; exact q.elim
  | some y =>
    simp only [Res.froz, Res.bind, RV.toD, e, Option.isSome_some, if_true] at q
    have ey : y = s := by
      simp only [fmtD] at e
      split at e <;> cases e
      rfl
    subst ey
    exact q _ H ⟨O, μ, R, Ext.refl, y, e, rfl⟩
/-- the parts, one by one -/
inductive FJ (g : Pg) (n : Nat) (X : Cx) (W : WX) : List Expr → Es → Prop where
  | nil : FJ g n X W [] .nil
  | cons {e : Expr} {m : E} {h : Bool} {es : List Expr} {ms : Es} (he : PE X e (TFm g n X W m)) (r : FJ g n X W es ms) : FJ g n X W (e :: es) (.cons h m ms)
theorem FJ.run (h : FJ g n X W es ms) : ∃ ts, PJ X es ts ∧ ∀ (acc : Str) (σ : L2.St) (H : Hp) (Q : Str → Hp → Prop) (O : Own) (μ : List Addr) (env : Env) (st : Store), StR X.K g.T O μ env st σ H →
    Post (fun O μ H (a b : Str) => a = b) X.K g.T O μ H env σ W (evF g.p (g.C n) ms acc env st) Q → tJs ts acc σ H Q := by
  induction h with
  | nil =>
    refine ⟨[], .nil, fun acc σ H Q O μ env st R q => ?_⟩
    simp only [evF] at q
    exact q acc H ⟨O, μ, R, Ext.refl, rfl⟩
  | @cons e m h es ms he r ih =>
    obtain ⟨ts, h1, h2⟩ := ih
    refine ⟨_ :: ts, .cons he h1, fun acc σ H Q O μ env st R q => ?_⟩
    simp only [evF] at q
    have q' : Post (fun O μ H (a b : Str) => a = b) X.K g.T O μ H env σ W (((evE g.p (g.C n) m env st).froz.bind fun x st => if (fmtD x).isSome then .ok x st else .bad).bind fun x st => match fmtD x with | some a => if acc.length + a.length ≤ lim then evF g.p (g.C n) ms (acc ++ a) env st else .bad | none => .bad) Q := by
      rw [Res.bind_assoc]
      cases e0 : (evE g.p (g.C n) m env st).froz with
      | ok x st1 =>
        rw [e0] at q
        simp only [Res.bind] at q ⊢
        cases e1 : fmtD x with
        | none => rw [e1] at q; exact q.elim
        | some y => rw [e1] at q; simp only [Option.isSome_some, if_true, e1]; exact q
      | exc x st1 => rw [e0] at q; exact q
      | bad => rw [e0] at q; exact q
    refine ⟨O, μ, env, st, R, (post_bind _ q').mono ?_⟩
    rintro v H1 ⟨O1, μ1, st1, d, R1, E1, ⟨y, ey, rfl⟩, q1⟩
    simp only [ey] at q1
    split at q1
    · rename_i hz
      have hl : (acc ++ y).length = acc.length + y.length := Str.length_append acc y
      exact ⟨y, rfl, le_line (by rw [hl]; exact hz), h2 _ _ _ _ O1 μ1 env st1 R1 q1⟩
    · exact q1.elim
theorem se_fst {v1 v2 : Expr} {rest : List Expr} (h : FJ g n X W (v1 :: v2 :: rest) ms) : PE X (.JoinedStr (v1 :: v2 :: rest) pos) (TE_ g n X W (.fst ms)) := by
  obtain ⟨ts, h1, h2⟩ := h.run
  refine PE.weak (pe_joined h1) fun σ H Q ⟨O, μ, env, st, R, q⟩ => ?_
  simp only [evE] at q
  refine h2 _ _ _ _ O μ env st R ((post_bind (fun O μ H (a b : Str) => a = b) q).mono ?_)
  rintro s H1 ⟨O1, μ1, st1, s', R1, E1, rfl, q1⟩
  exact q1 _ _ (got_d R1 rfl)
/-! ### isinstance -/
/-- the class or type that is asked for, as a value -/
def IsT (K : Frag) (t : String ⊕ Str) (u : Value) : Prop := match t with
  | .inl n => u = .type n
  | .inr k => u = .ref (He.ga K k)
theorem kitB_some {K : Frag} {T n : String} {b : Bool} (h : kitB T n = some b) : PySem.W.kitOne K (.type T) (.type n) = some b := kit_ty h
/-- the answer at a value -/
theorem isi_at {d : Mn.D} {v : V} {t : String ⊕ Str} {b : Bool} (ok : XOk g n N sc X) (R : StR X.K g.T O μ env st σ H) (r : VR O μ H d v) (h : isiD g.p st d t = some b) {c : V} {u : Value}
    (hc : IsT X.K t u) : ∃ ty, TyX X.K H v ty ∧ PySem.W.kitOne X.K ty u = some b := by
  have own : ∀ {T : String}, ["NoneType", "bool", "int", "str", "tuple", "list", "dict"].contains T = true → ownT g.p t T = some b → PySem.W.kitOne X.K (.type T) u = some b := fun {T} hT e => by
    cases t with
    | inl m => cases hc; exact kitB_some e
    | inr k =>
      cases hc
      simp only [ownT] at e
      split at e <;> cases e
      rename_i hk
      exact (ok.kit k hk).bt T hT
  cases d with
  | non => cases r; exact ⟨_, .base .non, own (by decide) h⟩
  | bl x => cases r; exact ⟨_, .base (.bl x), own (by decide) h⟩
  | int x => cases r; exact ⟨_, .base (.int x), own (by decide) h⟩
  | str x => cases r; exact ⟨_, .base (.str x), own (by decide) h⟩
  | tup xs =>
    obtain ⟨a, vs, rfl, h1, _⟩ := vr_tup r
    exact ⟨_, .base (.tup h1), own (by decide) h⟩
  | lst xs =>
    obtain ⟨a, vs, rfl, _, h1, _⟩ := vr_lst r
    exact ⟨_, .base (.lst h1), own (by decide) h⟩
  | dct t kvs => cases h
  | loc j =>
    simp only [isiD] at h
    cases ej : st[j]? with
    | none => rw [ej] at h; cases h
    | some o =>
      rw [ej] at h
      obtain ⟨ad, rfl, k1, k2, k3⟩ := obj_at R r ej
      cases o with
      | lst k xs =>
        obtain ⟨vs, h1, _⟩ := k3
        cases k with
        | false => exact ⟨_, .base (.lst h1), own (by decide) h⟩
        | true =>
          obtain ⟨od, h1⟩ := h1
          exact ⟨_, .base (.frz h1), own (by decide) h⟩
      | dct t' k kvs =>
        cases k with
        | true => cases h
        | false =>
          obtain ⟨u', l, hu, _, _, _, _, _, _, h5⟩ := dct_free k3
          rcases h5 with ⟨rfl, z, rfl, _⟩ | ⟨rfl, z, rfl, _⟩
          · exact ⟨_, .base (.dK hu), own (by decide) h⟩
          · exact ⟨_, .base (.dT hu), own (by decide) h⟩
      | ins k fs =>
        obtain ⟨dx, fs', h1, _⟩ := k3
        dsimp only at h
        split at h <;> first | cases h | skip
        rename_i hk
        have kc := ok.kit k hk
        refine ⟨_, .base (.ins h1 kc.cl kc.ha kc.hn kc.htk kc.hm), ?_⟩
        cases t with
        | inl m =>
          cases hc
          dsimp only at h
          split at h <;> cases h
          rename_i hm
          exact kc.tb m hm
        | inr c =>
          cases hc
          dsimp only at h
          split at h <;> cases h
          rename_i hc
          exact (ok.kit c hc).own k hk
theorem isi_rest {cv : V} {u : Value} {t : String ⊕ Str} (ok : XOk g n N sc X) (k : ClsV cv u) (hc : IsT X.K t u) {H : Hp} {Q : VK} {O : Own} {μ : List Addr} {env : Env} {st : Store} {σ : L2.St}
    (q : Post RVR X.K g.T O μ H env σ W (evE g.p (g.C n) (.isi ma t) env st) Q) : Post VR X.K g.T O μ H env σ W (evE g.p (g.C n) ma env st).froz fun x H1 => tC cv σ H1 fun y H2 => tNil σ H2 fun zs H3 => rIsi X.K (x :: y :: zs) H3 Q := by
  simp only [evE] at q
  refine (post_bind VR q).mono ?_
  rintro v H1 ⟨O1, μ1, st1, d, R1, E1, r1, q1⟩
  obtain ⟨rv, e, q2⟩ := post_opt q1
  cases ei : isiD g.p st1 d t with
  | none => simp only [ei, Option.map_none] at e; cases e
  | some b =>
    simp only [ei, Option.map_some, Option.some.injEq] at e
    subst e
    obtain ⟨ty, h1, h2⟩ := isi_at (c := cv) ok R1 r1 ei hc
    exact ⟨v, cv, ty, u, b, rfl, k, h1, h2, q2 _ _ (got_d R1 rfl)⟩
theorem se_isiT {p p3 : Pos} {x : Str} {T : String} (ok : XOk g n N sc X) (hg : Gl X "isinstance") (hm : X.mg "isinstance" = none) (hs : notStar a = true) (ha : PE X a (TE_ g n X W ma)) (hgx : Gl X x) (hmx : X.mg x = none) (hv : bootBuiltins x = some (.type T)) (hn : x ≠ "__name__") (hd : (x == ("__debug__" : Str)) = false) :
    PE X (.Call (.Name "isinstance" p) [a, .Name x p3] [] pos) (TE_ g n X W (.isi ma (.inl T))) := by
  have hb : PE X (.Name x p3) (tC (.ty T)) := pe_bltn hgx hmx hv rfl hn hd
  refine PE.weak (pe_callB (call_isi (X := X)) hg hm (by kernel_rfl) (pa_cons (pf ha) (pa_cons hb pa_nil (star_cons rfl)) (star_cons hs)) (by decide) (by decide) (star_cons hs) rfl) fun σ H Q ⟨O, μ, env, st, R, q⟩ => ⟨O, μ, env, st, R, ?_⟩
  exact isi_rest (t := .inl T) ok (.ty T) (show IsT X.K (.inl T) (.type T) from rfl) q
theorem se_isiC {p p3 : Pos} {x : Str} (ok : XOk g n N sc X) (hg : Gl X "isinstance") (hm : X.mg "isinstance" = none) (hs : notStar a = true) (ha : PE X a (TE_ g n X W ma)) (hgx : Gl X x) (hc : g.p.cls.contains x = true) (hd : (x == ("__debug__" : Str)) = false) :
    PE X (.Call (.Name "isinstance" p) [a, .Name x p3] [] pos) (TE_ g n X W (.isi ma (.inr x))) := by
  have hb : PE X (.Name x p3) (tC (.ref (He.ga X.K x))) := pe_glob hgx (ok.kit x hc).mgc rfl hd
  refine PE.weak (pe_callB (call_isi (X := X)) hg hm (by kernel_rfl) (pa_cons (pf ha) (pa_cons hb pa_nil (star_cons rfl)) (star_cons hs)) (by decide) (by decide) (star_cons hs) rfl) fun σ H Q ⟨O, μ, env, st, R, q⟩ => ⟨O, μ, env, st, R, ?_⟩
  exact isi_rest (t := .inr x) ok (.own _) (show IsT X.K (.inr x) (.ref (He.ga X.K x)) from rfl) q
end
end Mn
end

section
set_option Elab.async false
set_option linter.all false
set_option maxRecDepth 100000
set_option maxHeartbeats 4000000
/-! Mini: a lambda is made. -/
namespace Mn
open PySem L2 PySem.Spec PyProof.Rows
/-- a lambda's function -/
structure LF where
  qual : Str
  params : Arguments
  body : Expr
  scope : Scope
  cl : List (Str × Addr)
  c : Addr
abbrev LF.fd (F : LF) (pm ctv : Value) : FuncData := PySem.W.kla_fn "<lambda>" F.qual F.params F.body F.scope F.cl pm (.ref F.c) ctv
def LamO (f : Addr) (F : LF) : HO := .ext fun h => ∃ (od : Option Addr) (sl : Array (Option Value)) (pm ctv : Value), h.get? f = some (⟨.type "function", od, .func (F.fd pm ctv), sl⟩ : Obj)
theorem lamO_nt {f : Addr} {F : LF} : NT (LamO f F) := fun ps z => by
  unfold LamO at z
  cases z
theorem lamO_at {P : Program} {w : World} {H : Hp} {h : Heap} {f : Addr} {F : LF} (k : HOk P w H h) (e : H f = some (LamO f F)) : ∃ (od : Option Addr) (sl : Array (Option Value)) (pm ctv : Value), h.get? f = some (⟨.type "function", od, .func (F.fd pm ctv), sl⟩ : Obj) := (k f _ e).1
section
variable {X : Cx} {pins : List (Addr × Obj)} {σ : L2.St} {H : Hp} {s : Shared}
theorem inv_lam {F : LF} {h' : Heap} {t' : Nat} {pm ctv : Value} (I : Inv X pins σ H s) (hx : ∀ b u, s.heap.get? b = some u → h'.get? b = some u) (hz : s.heap.objs.size ≤ h'.objs.size) :
    Inv X pins σ (upd H h'.objs.size (LamO h'.objs.size F)) { s with heap := h'.push { cls := .type "function", data := .func (F.fd pm ctv) }, toks := t' } := by
  have e0 : (h'.push ({ cls := .type "function", data := .func (F.fd pm ctv) } : Obj)).get? h'.objs.size = some ({ cls := .type "function", data := .func (F.fd pm ctv) } : Obj) := Heap.get?_push_size _ rfl
  exact I.laid (a := h'.objs.size) (fun b u z => Heap.get?_push_of_some _ (hx b u z)) hz ⟨⟨_, _, pm, ctv, e0⟩, ⟨_, e0⟩, fun h1 h2 ⟨od, sl, p, t, z⟩ st => ⟨od, sl, p, t, st _ z⟩⟩
theorem upd_no {H : Hp} {a b : Addr} {o : HO} (z : upd H a o b = none) : H b = none := by
  by_cases q : b = a
  · rw [q, upd_same] at z; cases z
  · rw [upd_ne q] at z; exact z
/-- the function object of a lambda is made; it is known from now on -/
theorem lam_new {T : List (Addr × Str)} {cd Pt : Addr} {params : Arguments} {body : Expr} {scope : Scope} {pos : Pos} {E Q : Value → Shared → Prop} (I : Inv X pins σ H s) (TB : LamX.TabB X.base X.mg cd Pt) (hcd : X.env.code = .ref cd)
    (hin : (Pt, X.env.qual ++ "<lambda>") ∈ T) (hone : ∀ p ∈ T, p.1 = Pt → p.2 = X.env.qual ++ "<lambda>") (tabs : LamX.Tabs T H) (nod : defaultsOf params X.env = ([], [])) (caps : ∀ y ∈ scope.names, y.2 = .free → ∃ c, X.env.cells.lookup y.1 = some c)
    (go : ∀ (f c' : Addr) (H1 : Hp) (s' : Shared), Inv X pins σ H1 s' → LamX.ExtN H H1 → (∀ b, H1 b = none → H b = none) → LamX.Tabs T H1 → H f = none → H1 f = some (LamO f ⟨X.env.qual ++ "<lambda>", params, body, scope, cloFrom X.env.cells scope.names [], c'⟩) →
      H1 c' = some (LamX.CodeO c' (X.env.qual ++ "<lambda>")) → Q (.ref f) s') : wpAny (model X.prog X.w) X.A (eval (.Lambda params body scope pos) X.env) Q E s := by
  obtain ⟨tb, tb1, tb2, tb3⟩ := tabs _ hin
  have tb4 : s.heap.get? Pt = some { cls := .none, data := .fields tb } := I.hok Pt _ tb1
  have bat : s.heap.BuiltinsAt X.mg Pt := TB.bm.keeps I.bk
  apply PySem.W.kla_eval nod
  cases known : codeAmong pos tb.toList with
  | some cv =>
    obtain ⟨c', rfl, kc⟩ := tb3 pos cv known
    apply PySem.W.kla_makeFunctionHit (mg := X.mg) (c := cd) (P := Pt) (ps := tb) (closure_ok caps) I.ok.glob (I.mod.glob.keeps I.bk) hcd (TB.code.keeps I.bk) tb4 tb2 known bat
    intro ctv h' tk old big
    have J := inv_lam (F := ⟨X.env.qual ++ "<lambda>", params, body, scope, cloFrom X.env.cells scope.names [], c'⟩) (t' := tk) (pm := (X.mg "__name__").getD .none) (ctv := ctv) I old big
    have nof : H h'.objs.size = none := I.hok.fresh big
    have up : ∀ b u, H b = some u → upd H h'.objs.size (LamO h'.objs.size ⟨X.env.qual ++ "<lambda>", params, body, scope, cloFrom X.env.cells scope.names [], c'⟩) b = some u := fun b u z => by rw [upd_ne (ne_of_none z nof)]; exact z
    exact go _ c' _ _ J (.of up) (fun b z => upd_no z) (tabs.ext up) nof upd_same (up _ _ kc)
  | none =>
    apply PySem.W.kla_makeFunction (mg := X.mg) (c := cd) (P := Pt) (ps := tb) (closure_ok caps) I.ok.glob (I.mod.glob.keeps I.bk) hcd (TB.code.keeps I.bk) tb4 tb2 known TB.gP bat
    intro c' ctv h' tk old ge lt rec_ tb5
    obtain ⟨c2, oc, vs, t, e2, q1, q2, q3⟩ := rec_
    cases e2
    have noc : H c' = none := I.hok.fresh ge
    have J1 := LamX.inv_table (t' := s.toks) (more := #[rawInt pos.line, rawInt pos.col, .ref c']) (h' := h') I tb1 (fun b o hb z => old b o hb z) tb5 ge ⟨oc, vs, t, q1, q2, q3⟩
    have big : s.heap.objs.size ≤ h'.objs.size := Nat.le_of_lt (Nat.lt_of_le_of_lt ge lt)
    have J2 := inv_lam (F := ⟨X.env.qual ++ "<lambda>", params, body, scope, cloFrom X.env.cells scope.names [], c'⟩) (h' := h') (t' := tk) (pm := (X.mg "__name__").getD .none) (ctv := ctv) J1 (fun b u z => z) (Nat.le_refl _)
    generalize hH1 : upd (upd H Pt (.tbl (tb ++ #[rawInt pos.line, rawInt pos.col, .ref c']))) c' (LamX.CodeO c' (X.env.qual ++ "<lambda>")) = H1 at J1 J2
    have nofs : H h'.objs.size = none := I.hok.fresh big
    have nf1 : H1 h'.objs.size = none := J1.hok.fresh (Nat.le_refl _)
    have ext1 : LamX.ExtN H H1 := fun b o z n => by
      rw [← hH1, upd_ne (ne_of_none z noc), upd_ne (fun q => n tb (Option.some.inj (z.symm.trans (by rw [q]; exact tb1))))]
      exact z
    have up2 : ∀ b u, H1 b = some u → upd H1 h'.objs.size (LamO h'.objs.size ⟨X.env.qual ++ "<lambda>", params, body, scope, cloFrom X.env.cells scope.names [], c'⟩) b = some u := fun b u z => by rw [upd_ne (ne_of_none z nf1)]; exact z
    have atc : H1 c' = some (LamX.CodeO c' (X.env.qual ++ "<lambda>")) := by rw [← hH1, upd_same]
    have tabs1 : LamX.Tabs T H1 := fun p hp => by
      by_cases hb : p.1 = Pt
      · rw [hone p hp hb, hb]
        have eL : (tb ++ #[rawInt pos.line, rawInt pos.col, .ref c']).toList = tb.toList ++ [rawInt pos.line, rawInt pos.col, .ref c'] := by simp
        refine ⟨tb ++ #[rawInt pos.line, rawInt pos.col, .ref c'], by rw [← hH1, upd_ne (ne_of_none tb1 noc), upd_same], by rw [eL]; exact PySem.TriplesOk_snoc _ _ _ _ tb2, fun p' cv hcv => ?_⟩
        rw [eL] at hcv
        rcases LamX.among_app _ tb2 hcv with z | z
        · obtain ⟨c0, w1, w2⟩ := tb3 p' cv z
          exact ⟨c0, w1, ext1 _ _ w2 LamX.codeO_ne⟩
        · exact ⟨c', z, atc⟩
      · obtain ⟨ps', a1, a2, a3⟩ := tabs p hp
        refine ⟨ps', by rw [← hH1, upd_ne (ne_of_none a1 noc), upd_ne hb]; exact a1, a2, fun p' cv hcv => ?_⟩
        obtain ⟨c0, w1, w2⟩ := a3 p' cv hcv
        exact ⟨c0, w1, ext1 _ _ w2 LamX.codeO_ne⟩
    exact go _ c' _ _ J2 (ext1.trans (.of up2)) (fun b z => by have z2 := upd_no z; rw [← hH1] at z2; exact upd_no (upd_no z2)) (tabs1.ext up2) nofs upd_same (up2 _ _ atc)
end
/-- the heap has grown but for the tables -/
theorem StR.growN {K : Frag} {T : List (Addr × Str)} {O : Own} {μ : List Addr} {H H' : Hp} {env : Env} {st : Store} {σ : L2.St} (R : StR K T O μ env st σ H) (k : LamX.ExtN H H') (dm : ∀ b, H' b = none → H b = none) (tb : LamX.Tabs T H') : StR K T O μ env st σ H' ∧ Ext O μ H O μ H' := by
  have dom : ∀ a u, H a = some u → ∃ u', H' a = some u' := fun a u z => by
    cases q : H' a with
    | none => rw [dm a q] at z; cases z
    | some u' => exact ⟨u', rfl⟩
  have rd : ∀ {a u}, NT u → Rd H a u → Rd H' a u := fun {a u} n z => by
    rcases z with z | ⟨x, z⟩
    · exact .inl (k _ _ z n)
    · exact .inr ⟨x, k _ _ z (fun ps q => by cases q)⟩
  have e : Ext O μ H O μ H' := ⟨fun a z => ⟨z, fun u n q => rd n q, fun xs q => k _ _ q (fun ps z => by cases z)⟩, fun a xs q => k _ _ q (fun ps z => by cases z), fun _ _ q => q, fun a j od u q r => ⟨q, k _ _ r (fun ps z => by cases z)⟩, fun a u q r => ⟨q, k _ _ r (fun ps z => by cases z)⟩, dom⟩
  refine ⟨⟨fun i d z => ?_, R.len, R.mu, fun j o z => ?_, fun a t z => ?_, tb, R.tgs⟩, e⟩
  · obtain ⟨v, h1, h2⟩ := R.vars i d z
    exact ⟨v, h1, VR.mono e d h2⟩
  · obtain ⟨a, h1, h2, h3⟩ := R.obj j o z
    refine ⟨a, h1, h2, ?_⟩
    cases o with
    | lst b xs =>
      obtain ⟨vs, w1, w2⟩ := h3
      refine ⟨vs, ?_, VRs.mono e xs w2⟩
      cases b
      · exact k _ _ w1 (fun ps z => by cases z)
      · obtain ⟨x, w1⟩ := w1
        exact ⟨x, k _ _ w1 (fun ps z => by cases z)⟩
    | dct t b kvs =>
      obtain ⟨l, w1, w2⟩ := h3
      refine ⟨l, ?_, VRk.mono e kvs w2⟩
      cases t <;> cases b
      · obtain ⟨z, z1, z2⟩ := w1
        exact ⟨z, k _ _ z1 (fun ps z => by cases z), z2⟩
      · obtain ⟨z, ⟨i, x, z0, z1⟩, z2⟩ := w1
        exact ⟨z, ⟨i, x, z0, k _ _ z1 (fun ps z => by cases z)⟩, z2⟩
      · obtain ⟨z, z1, z2⟩ := w1
        exact ⟨z, k _ _ z1 (fun ps z => by cases z), z2⟩
      · obtain ⟨z, ⟨i, x, z0, z1⟩, z2⟩ := w1
        exact ⟨z, ⟨i, x, z0, k _ _ z1 (fun ps z => by cases z)⟩, z2⟩
    | ins c fs =>
      obtain ⟨dx, fs', w1, w2⟩ := h3
      exact ⟨dx, fs', k _ _ w1 (fun ps z => by cases z), VRf.mono e fs w2⟩
  · obtain ⟨u, q⟩ := R.own a t z
    exact dom a u q
end Mn
end

section
set_option Elab.async false
set_option linter.all false
set_option maxRecDepth 100000
set_option maxHeartbeats 4000000
/-! Mini: the key of a sort. -/
namespace Mn
open PySem L2 PySem.Spec PyProof.Rows
section
variable {prog : Program} {w : World} {A : Around} {s2 : Shared} {f : Addr} {F : LF} {x : Str} {v : Value} {k : PyData}
/-- a lambda of one name is called: its body's end is the call's -/
theorem key_run {od : Option Addr} {sl : Array (Option Value)} {pm ctv : Value} (ho : s2.heap.get? f = some (⟨.type "function", od, .func (F.fd pm ctv), sl⟩ : Obj)) (hcd : s2.heap.CodeRec (.ref F.c) F.qual) (lim : s2.heap.NoLimit) (room : A.depth < recursionLimit)
    (hb : bindArgs (F.fd pm ctv) ⟨[v], []⟩ = pure [(x, v)]) (hk : F.scope.kind = .function) (co : F.scope.isCoroutine = false) (gn : F.scope.isGenerator = false) (noc : ∀ y ∈ F.scope.names, y.2 ≠ .cell) (loc : F.scope.names.lookup x = some .local)
    (body : ∀ (L : Addr) (h1 : Heap) (tk : Nat), h1.Ns L (fun y => ([(x, v)] : List (Str × Value)).reverse.lookup y) → (∀ b o, s2.heap.get? b = some o → h1.get? b = some o) →
      wpAny (model prog w) (A.deeper (PySem.W.envX F.qual F.scope L f (.ref F.c) F.cl)) (eval F.body (PySem.W.envX F.qual F.scope L f (.ref F.c) F.cl)) (PySem.W.KeyPure k { s2 with heap := h1, toks := tk }) (fun _ _ => False) { s2 with heap := h1, toks := tk }) :
    wpAny (model prog w) A (call (.ref f) [v]) (PySem.W.KeyPure k s2) (fun _ _ => False) s2 := by
  apply wpAny_call
  apply PySem.W.kla_callFunE room ho rfl co gn rfl hcd
  rw [hb]
  apply wpAny_pure
  refine wpAny_newFunctionEnv noc (fun y hy => ?_) (fun h1 hns hsb => ⟨lim.fresh _ hsb, ?_⟩) hk
  · rw [List.mem_singleton] at hy
    rw [hy]
    exact loc
  · have old : ∀ b o, s2.heap.get? b = some o → h1.get? b = some o := fun b o z => hsb.extBut b o (Nat.ne_of_lt (Heap.lt_size z)) (Heap.get?_push_of_some _ z)
    apply PySem.W.kla_codeExpr
    refine wpAny_mono (body _ h1 _ hns old) (fun u s' q => ?_) fun _ _ q => q.elim
    obtain ⟨h', tk, e1, e2, e3⟩ := q
    exact ⟨h', tk, e1, fun b o z => e2 b o (old b o z), e3⟩
theorem reads_ints : ∀ {xs : List Int} {vs : List Value} {as : List Addr} {h : Heap}, PySem.ReadsAll h vs (xs.map PyData.int) as → as = []
  | [], _, _, _, r => by cases r; rfl
  | x :: xs, _, _, _, r => by
    rw [List.map_cons] at r
    cases r with
    | cons a b => cases a; rw [reads_ints b]; rfl
/-- the body (len(x), x) -/
theorem key_len {mg mb : Str → Option Value} {items : Array Value} {ps : List PyData} {t : Addr} {p1 p2 p3 p4 p5 : Pos} {kk : Nat} (hbody : F.body = .Tuple [.Call (.Name "len" p1) [.Name x p2] [] p3, .Name x p4] kk p5) (hk : F.scope.kind = .function) (loc : F.scope.names.lookup x = some .local) (hx : (x == ("__debug__" : Str)) = false)
    (gl : F.scope.names.lookup ("len" : Str) = some .globalImplicit) (hg : s2.heap.Ns mainGlobals mg) (hm : mg ("len" : Str) = none) (hbl : s2.heap.Ns builtinsNs mb) (hv : mb ("len" : Str) = some (.builtin "len")) (ht : IsTup s2.heap t items) (hz : items.size < 1000000000) (hr : PySem.Reads s2.heap (.ref t) (.tuple ps) [])
    (L : Addr) (h1 : Heap) (tk : Nat) (hns : h1.Ns L (fun y => ([(x, .ref t)] : List (Str × Value)).reverse.lookup y)) (old : ∀ b o, s2.heap.get? b = some o → h1.get? b = some o) :
    wpAny (model prog w) (A.deeper (PySem.W.envX F.qual F.scope L f (.ref F.c) F.cl)) (eval F.body (PySem.W.envX F.qual F.scope L f (.ref F.c) F.cl)) (PySem.W.KeyPure (.tuple [.int items.size, .tuple ps]) { s2 with heap := h1, toks := tk }) (fun _ _ => False) { s2 with heap := h1, toks := tk } := by
  rw [hbody]
  have ldx : ∀ {pos : Pos} {tk2 : Nat} {Q : Value → Shared → Prop} {E : Value → Shared → Prop}, Q (.ref t) { s2 with heap := h1, toks := tk2 } →
      wpAny (model prog w) (A.deeper (PySem.W.envX F.qual F.scope L f (.ref F.c) F.cl)) (eval (.Name x pos) (PySem.W.envX F.qual F.scope L f (.ref F.c) F.cl)) Q E { s2 with heap := h1, toks := tk2 } := fun {pos tk2 Q E} q =>
    wpAny_Name (wpAny_loadName_local (s := { s2 with heap := h1, toks := tk2 }) (env := PySem.W.envX F.qual F.scope L f (.ref F.c) F.cl) hk loc hns (v := .ref t) (by simp) q) hx
  apply wpAny_Tuple
  refine spliced_more ?_
  refine wpAny_Call_Name_kw (Calls.Name_function_global hk gl (Calls.loadGlobal_builtin (hg.keeps old) hm (hbl.keeps old) hv ?_))
  refine PyProof.Rows.callWith_builtin1 (spliced_more (ldx (spliced_none ?_)))
  refine len_tuple (ht.keeps old) (by omega) ?_
  refine spliced_more (ldx (spliced_none ⟨by show 2 ≤ sizeLine; decide, ?_⟩))
  refine ⟨_, _, rfl, fun b o z => Heap.get?_push_of_some _ z, ?_⟩
  have r2 : PySem.Reads (h1.push ({ cls := .type "tuple", data := .seq [Value.int items.size (tk + 1), Value.ref t].toArray } : Obj)) (.ref t) (.tuple ps) [] := Reads.keeps (fun b o z => Heap.get?_push_of_some _ (old b o z)) hr
  exact .tuple (as := []) (Heap.get?_push_size _ rfl) rfl rfl (.cons (as := []) (.int _ _) (.cons (as := []) (bs := []) r2 .nil))
end
end Mn
end

section
set_option Elab.async false
set_option linter.all false
set_option maxRecDepth 100000
set_option maxHeartbeats 4000000
/-! Mini: sorted(.., key=lambda ..). -/
namespace Mn
open PySem L2 PySem.Spec PyProof.Rows
/-- the lambda is: x -> (len(x), x) -/
def lenLam (a : Arguments) (body : Expr) (sc : Scope) : Bool := match a.args, body with
  | [⟨x, _, _⟩], .Tuple [.Call (.Name f _) [.Name y _] [] _, .Name z _] _ _ => plainP a && (a.defaults.isEmpty && (a.kw_defaults.isEmpty && (decide (f = Str.ofString "len") && (decide (y = x) && (decide (z = x) && (!(x == ("__debug__" : Str)) && (decide (sc.kind = .function) && (!sc.isCoroutine && (!sc.isGenerator &&
      ((sc.names.all fun q => !decide (q.2 = .cell) && !decide (q.2 = .free)) && (decide (sc.names.lookup x = some .local) && decide (sc.names.lookup (Str.ofString "len") = some .globalImplicit))))))))))))
  | _, _ => false
theorem depth_ints : ∀ is : List Int, PyData.depthAll (is.map PyData.int) = 0
  | [] => by simp [PyData.depthAll]
  | i :: is => by rw [List.map_cons, PyData.depthAll, depth_ints is]; simp [PyData.depth]
theorem alike_ints : ∀ is js : List Int, PySem.W.alikeAll (is.map PyData.int) (js.map PyData.int) = true
  | [], _ => by simp [PySem.W.alikeAll]
  | i :: is, [] => by simp [PySem.W.alikeAll]
  | i :: is, j :: js => by simp [PySem.W.alikeAll, PySem.W.alike, alike_ints is js]
theorem keyLen_is {d : D} {k : PyData} (h : keyLen d = some k) : ∃ xs is, d = .tup xs ∧ intsOf xs = some is ∧ k = .tuple [.int is.length, .tuple (is.map .int)] := by
  cases d with
  | tup xs =>
    obtain ⟨is, h1, h2⟩ := Option.map_eq_some_iff.mp (show (intsOf xs).map (fun is : List Int => PyData.tuple [.int is.length, .tuple (is.map .int)]) = some k from h)
    exact ⟨xs, is, rfl, h1, h2.symm⟩
  | _ => cases h
theorem keysLen_cons {x : D} {xs : List D} {ks : List PyData} (h : keysLen (x :: xs) = some ks) : ∃ k r, ks = k :: r ∧ keyLen x = some k ∧ keysLen xs = some r := by
  simp only [keysLen] at h
  cases e : keyLen x with
  | none => rw [e] at h; cases h
  | some k =>
    rw [e] at h
    obtain ⟨r, h1, h2⟩ := Option.map_eq_some_iff.mp h
    exact ⟨k, r, h2.symm, rfl, h1⟩
theorem keysLen_len : ∀ {xs : List D} {ks : List PyData}, keysLen xs = some ks → xs.length = ks.length
  | [], ks, h => by simp only [keysLen] at h; cases h; rfl
  | x :: xs, ks, h => by
    obtain ⟨k, r, rfl, _, h2⟩ := keysLen_cons h
    rw [List.length_cons, List.length_cons, keysLen_len h2]
theorem keysLen_all : ∀ {xs : List D} {ks : List PyData}, keysLen xs = some ks → ∀ k ∈ ks, ∃ is : List Int, k = .tuple [.int is.length, .tuple (is.map .int)]
  | [], ks, h, k, hk => by simp only [keysLen] at h; cases h; cases hk
  | x :: xs, ks, h, k, hk => by
    obtain ⟨k0, r, rfl, h1, h2⟩ := keysLen_cons h
    rcases List.mem_cons.mp hk with z | z
    · obtain ⟨_, is, _, _, e⟩ := keyLen_is h1
      exact ⟨is, by rw [z, e]⟩
    · exact keysLen_all h2 k z
theorem intsOf_map : ∀ {xs : List D} {is : List Int}, intsOf xs = some is → xs = is.map D.int
  | [], is, h => by simp only [intsOf] at h; cases h; rfl
  | .int i :: xs, is, h => by
    simp only [intsOf] at h
    obtain ⟨js, h1, h2⟩ := Option.map_eq_some_iff.mp h
    rw [← h2, intsOf_map h1]; rfl
  | .non :: _, _, h => by simp [intsOf] at h
  | .bl _ :: _, _, h => by simp [intsOf] at h
  | .str _ :: _, _, h => by simp [intsOf] at h
  | .tup _ :: _, _, h => by simp [intsOf] at h
  | .lst _ :: _, _, h => by simp [intsOf] at h
  | .dct _ _ :: _, _, h => by simp [intsOf] at h
  | .loc _ :: _, _, h => by simp [intsOf] at h
theorem pds_ints : ∀ is : List Int, pds (is.map D.int) = some (is.map PyData.int)
  | [] => rfl
  | i :: is => by simp only [List.map_cons, pds, pd, pds_ints is, Option.map_some]
section
variable {g : Pg} {n : Nat} {X : Cx} {W : WX} {N : List Str} {sc : Scope} {a : Expr} {ma : E} {pos : Pos}
variable {K : Frag} {O : Own} {μ : List Addr} {H : Hp} {σ : L2.St} {pins : List (Addr × Obj)} {s : Shared}
/-- the items, with their keys -/
theorem each_key : ∀ {xs : List D} {ks : List PyData} {vs : List V} {us : List Value}, VRs O μ H xs vs → keysLen xs = some ks → Vals vs us →
    PySem.W.EachIs (fun (v : Value) (b : D × PyData) => keyLen b.1 = some b.2 ∧ ∃ u, RelV u v ∧ VR O μ H b.1 u) us (xs.zip ks)
  | [], ks, vs, us, r, e, rv => by
    simp only [keysLen] at e
    cases e
    simp only [VRs] at r
    subst r
    cases rv
    exact .nil
  | x :: xs, ks, vs, us, r, e, rv => by
    obtain ⟨k, r0, rfl, h1, h2⟩ := keysLen_cons e
    simp only [VRs] at r
    obtain ⟨v, r1, rfl, r2, r3⟩ := r
    cases rv with
    | cons p q => exact .cons ⟨h1, v, p, r2⟩ (each_key r3 h2 q)
/-- the sorted list's values -/
theorem each_vals2 {out : List Value} : ∀ {bs : List (D × PyData)}, PySem.W.EachIs (fun (v : Value) (b : D × PyData) => keyLen b.1 = some b.2 ∧ ∃ u, RelV u v ∧ VR O μ H b.1 u) out bs → ∃ vs : List V, Vals vs out ∧ VRs O μ H (bs.map fun q => q.1) vs := by
  intro bs h
  induction h with
  | nil => exact ⟨[], .nil, VRs.nil⟩
  | cons a b ih =>
    obtain ⟨_, u, h1, h2⟩ := a
    obtain ⟨vs, h3, h4⟩ := ih
    exact ⟨u :: vs, .cons h1 h3, VRs.cons h2 h4⟩
theorem se_sortL {f kw : Str} {p p2 p3 : Pos} {params : Arguments} {body : Expr} {scope : Scope} (ok : XOk g n N sc X) (hf : f = Str.ofString "sorted") (hkw : kw = Str.ofString "key") (hg : Gl X f) (hm : X.mg f = none) (hml : X.mg ("len" : Str) = none) (hl : g.lams.contains X.env.qual = true) (hs : notStar a = true) (hb : lenLam params body scope = true)
    (ha : PE X a (TE_ g n X W ma)) : PE X (.Call (.Name f p) [a] [⟨some kw, .Lambda params body scope p2, p3⟩] pos) (TE_ g n X W (.sortL ma)) := by
  subst hf hkw
  refine ⟨fun pins s σ H Q I ⟨O, μ, env, st, R, q⟩ => ?_⟩
  simp only [evE] at q
  obtain ⟨cd, Pt, lm1, lm2, lm3, lm4⟩ := ok.lam hl
  unfold lenLam at hb
  split at hb <;> first | cases hb | skip
  rename_i x an px f2 p4 y p5 p6 z p7 kk p8 hargs
  simp only [Bool.and_eq_true, decide_eq_true_eq, Bool.not_eq_true', List.isEmpty_iff, List.all_eq_true, decide_eq_false_iff_not] at hb
  obtain ⟨b1, b2, b3, rfl, rfl, rfl, b4, b5, b6, b7, b8, b9, b10⟩ := hb
  have nod : defaultsOf params X.env = ([], []) := by
    obtain ⟨t1, t2, t3, t4, t5, t6, t7⟩ := params
    simp only at b2 b3
    subst b2 b3
    rfl
  refine wpAny_Call_Name_kw (ld_blt I hg hm boot_sorted ?_)
  have hpa : PA X [a] (TA_ g n X W (.cons false ma .nil)) := sa_cons hs ha sa_nil
  have q2 : Post RVR X.K g.T O μ H env σ W ((evEs g.p (g.C n) (.cons false ma .nil) env st).bind fun ds st => match ds with
      | [x] => if isL x = true then (match seqOf st x with
        | some xs => Res.ofOpt ((sortLen xs).map .fl) st
        | none => .bad) else .bad
      | _ => .bad) Q := by
    simp only [evEs, Bool.false_eq_true, if_false]
    cases e : (evE g.p (g.C n) ma env st).froz with
    | ok d st' => rw [e] at q; exact q
    | exc x st' => rw [e] at q; exact q
    | bad => rw [e] at q; exact q
  refine PyProof.Rows.callWith_kw (thn (hpa.run pos pins s σ H _ I ⟨O, μ, env, st, R, post_bind VRs q2⟩) fun us s1 ⟨vs, H1, I1, rv, O1, μ1, st1, ds, R1, E1, r1, q1⟩ => ?_) (by rw [star_cons hs]; rfl) (stars_any (by simp only [notStars, hs, Bool.and_true])) rfl rfl
  refine wpAny_evalAll_cons ?_
  refine wpAny_bind (lam_new I1 lm2 lm1 lm3 lm4 R1.tab nod (fun y hy e => absurd e (b8 y hy).2) fun fa c' H2 s2 I2 xn dm tb2 nf hfa hc' => wpAny_bind (wpAny_standAt (wpAny_pure (wpAny_evalAll_nil ?_))))
  obtain ⟨R2, E2⟩ := R1.growN xn dm tb2
  have r2 := VRs.mono E2 ds r1
  dsimp only at q1
  split at q1 <;> first | exact q1.elim | skip
  rename_i d
  split at q1 <;> first | exact q1.elim | skip
  rename_i hld
  split at q1 <;> first | exact q1.elim | skip
  rename_i xs ex
  obtain ⟨rr, er, q1⟩ := post_opt q1
  obtain ⟨ys, ey, rfl⟩ := Option.map_eq_some_iff.mp er
  obtain ⟨ks, ek, ey⟩ := Option.bind_eq_some_iff.mp (show (keysLen xs).bind _ = some ys from ey)
  split at ey <;> cases ey
  rename_i hlen
  obtain ⟨v, rfl, r3⟩ := vrs1 r2
  obtain ⟨ad, ws, rfl, h2, h3⟩ := seq_sq (K := X.K) R2 r3 ex
  have hq : SqL X.K H2 ad ws := by
    rcases h3 with ⟨_, zs, rfl⟩ | ⟨h, _⟩
    · simp [isL] at hld
    · exact h
  obtain ⟨u, rfl, ru⟩ := vals1 rv
  cases ru
  obtain ⟨its, rvs, pl, hz⟩ := I2.list hq
  have hlk := keysLen_len ek
  have hmap : (xs.zip ks).map (fun q => q.2) = ks := zip_snd hlk
  have hzl : (xs.zip ks).length = xs.length := by rw [List.length_zip, ← hlk, Nat.min_self]
  have room := ok.room.toRoom
  have hal : PySem.W.AllAlike ks := fun k hk k' hk' => by
    obtain ⟨is, rfl⟩ := keysLen_all ek k hk
    obtain ⟨js, rfl⟩ := keysLen_all ek k' hk'
    simp [PySem.W.alike, PySem.W.alikeAll, alike_ints is js]
  have hsk : ∀ k ∈ ks, ∃ x xs, k = PyData.tuple (x :: xs) := fun k hk => by
    obtain ⟨is, rfl⟩ := keysLen_all ek k hk
    exact ⟨_, _, rfl⟩
  obtain ⟨od, sl, pm, ctv, ho⟩ := lamO_at I2.hok hfa
  obtain ⟨⟨oc, cvs, ct, hc1, hc2, hc3⟩, _, _⟩ := I2.hok c' _ hc'
  obtain ⟨mb, hmb, hmb2⟩ := I2.mod.blt
  refine PySem.W.sorted_key_data (b := false) (fun q : D × PyData => q.2) pl.isList (each_key h2 ek rvs) (by rw [hmap]; exact hal) (by rw [hmap]; exact .inl hsk) (by rw [hzl]; exact le_line hlen) (fun b hb => ?_) (PyProof.Rows.ksk_s1 _ _) (fun _ => PyProof.Rows.ksk_l1 _ _) (fun _ => PyProof.Rows.ksk_t1 _ _) (fun v b hR hb h tk old => ?_) fun out c h' tk old fr hat ho2 he => ?_
  · have hb2 : b.2 ∈ ks := by rw [← hmap]; exact List.mem_map.mpr ⟨b, hb, rfl⟩
    obtain ⟨is, e⟩ := keysLen_all ek b.2 hb2
    show X.A.units + 2 + b.2.depth < cLine
    rw [e]
    have hu := room.un
    have hd : (PyData.tuple [.int is.length, .tuple (is.map .int)]).depth = 2 := by
      simp [PyData.depth, PyData.depthAll, depth_ints]
    rw [hd]
    omega
  · obtain ⟨hk, u, ru, rr⟩ := hR
    obtain ⟨zs, is, e1, e2, e3⟩ := keyLen_is hk
    rw [e1] at rr
    simp only [VR] at rr
    obtain ⟨t, tv, rfl, ht, hts⟩ := rr
    cases ru
    obtain ⟨tits, trv, tpl, tz⟩ := I2.tuple (X := X) (a := t) (xs := tv) (.inl (.inl ht))
    have hln : tits.length = is.length := by
      rw [← trv.length, ← hts.length, intsOf_map e2, List.length_map]
    obtain ⟨as, hrd⟩ := Dp.reads I2 (.tuple (is.map .int)) (.ref t) (.ref t) (dp_of (K := X.K) (.tup zs) (by simp only [VR]; exact ⟨t, tv, rfl, ht, hts⟩) (by rw [intsOf_map e2]; simp only [pd]; rw [pds_ints]; rfl)) rfl
    have has : as = [] := by
      cases hrd with
      | tuple _ _ _ r => exact reads_ints r
    subst has
    rw [e3, show ((is.length : Nat) : Int) = ((tits.toArray.size : Nat) : Int) by rw [List.size_toArray, hln]]
    refine key_run (s2 := { s2 with heap := h, toks := tk }) (x := z) (old _ _ ho) ⟨c', oc, cvs, ct, rfl, old _ _ hc1, hc2, hc3⟩ (I2.nolimit.keeps old) ?_ (bind_one b1 (by rw [hargs]; rfl) rfl) b5 b6 b7 (fun y hy => (b8 y hy).1) b9 ?_
    · have r3 : Room 3 X.A := room.mono (by omega)
      have r4 : Room 1 X.A.in1.in1 := Room.in1 (Room.in1 r3)
      have := r4.dp
      omega
    · have hsl : sizeLine = 16777216 := sizeLine_eq
      exact key_len (mg := X.mg) (mb := mb) (items := tits.toArray) (ps := is.map .int) rfl b5 b9 b4 b10 ((I2.mod.glob.keeps I2.bk).keeps old) hml ((hmb.keeps I2.bk).keeps old) ((hmb2 ("len" : Str) (by decide)).trans PySem.boot_len) (tpl.keeps old) (by rw [List.size_toArray]; rw [← trv.length]; omega) (Reads.keeps old hrd)
  · obtain ⟨wvs, w1, w2⟩ := each_vals2 he
    have hlw : wvs.length ≤ sizeLine := by
      rw [w1.length, ho2, hzl]
      exact le_line hlen
    exact ⟨.ref _, upd H2 (s2.heap.objs.size + 1) (.lst wvs), I2.laid (t' := tk) old (Nat.le_succ _) ⟨hlw, out, c, w1, hat⟩, rfl, q1 _ _ ((got_fl R2 w2 (I2.hok.fresh (Nat.le_succ _))).back E2)⟩
end
end Mn
end

section
set_option Elab.async false
set_option linter.all false
set_option maxRecDepth 100000
set_option maxHeartbeats 2000000
/-! Mini: calls with keywords. -/
namespace Mn
open PySem L2 PySem.Spec PyProof.Rows
def Es.app : Es → Es → Es
  | .nil, b => b
  | .cons h e r, b => .cons h e (Es.app r b)
section
variable {g : Pg} {n : Nat} {X : Cx} {W : WX} {N : List Str} {sc : Scope} {a b c : Expr} {ma mb mc : E} {pos : Pos} {es : List Expr} {kws : List Keyword} {ms mk : Es}
variable {K : Frag} {T : List (Addr × Str)} {O : Own} {μ : List Addr} {H : Hp} {env : Env} {st : Store} {σ : L2.St}
theorem bind_assoc {α β γ : Type} {r : Res α} {f : α → Store → Res β} {k : β → Store → Res γ} : (r.bind f).bind k = r.bind fun a st => (f a st).bind k := by cases r <;> rfl
theorem ev_app {p : PTab} {C : Calls} : ∀ {a b : Es} {env : Env} {st : Store}, evEs p C (a.app b) env st = (evEs p C a env st).bind fun xs st => (evEs p C b env st).bind fun ys st => .ok (xs ++ ys) st
  | .nil, b, env, st => by
    simp only [Es.app, evEs, Res.bind, List.nil_append]
    cases evEs p C b env st <;> rfl
  | .cons h e r, b, env, st => by
    simp only [Es.app, evEs, bind_assoc]
    congr 1
    funext x st1
    rw [ev_app, bind_assoc]
    congr 1
    funext xs st2
    simp only [bind_assoc, Res.bind, List.cons_append]
    cases evEs p C b env st2 <;> rfl
/-- the values' number is known -/
def TAL (g : Pg) (n : Nat) (X : Cx) (W : WX) (l : Nat) (m : Es) : TA := fun σ H Q => TA_ g n X W m σ H fun zs H1 => zs.length = l → Q zs H1
theorem sk_nil : PK X [] (TAL g n X W 0 .nil) := by
  refine ⟨fun pos pins s σ H Q I ⟨O, μ, env, st, R, q⟩ => pk_nil.run pos pins s σ H Q I ?_⟩
  simp only [evEs] at q
  exact q _ _ ⟨O, μ, R, Ext.refl, VRs.nil⟩ rfl
theorem sk_cons {x : Str} {kp : Pos} {h : Bool} (ha : PE X a (TE_ g n X W ma)) (hr : PK X kws (TAL g n X W kws.length ms)) : PK X (⟨some x, a, kp⟩ :: kws) (TAL g n X W (kws.length + 1) (.cons h ma ms)) := by
  have fin : ∀ {O : Own} {μ : List Addr} {H : Hp} {env : Env} {σ : L2.St} {r : Res D} {Q : List V → Hp → Prop}, Post VRs X.K g.T O μ H env σ W (r.bind fun x st => (evEs g.p (g.C n) ms env st).bind fun xs st => .ok (x :: xs) st) (fun zs H1 => zs.length = kws.length + 1 → Q zs H1) →
      Post VR X.K g.T O μ H env σ W r fun x H1 => TAL g n X W kws.length ms σ H1 fun xs H2 => Q (x :: xs) H2 := fun {O μ H env σ r Q} q => by
    refine (post_bind VR q).mono ?_
    rintro x H1 ⟨O1, μ1, st1, dx, R1, E1, r1, q1⟩
    refine ⟨O1, μ1, env, st1, R1, (post_bind VRs q1).mono ?_⟩
    rintro xs H2 ⟨O2, μ2, st2, ds, R2, E2, r2, q2⟩ hl
    exact q2 _ _ ⟨O2, μ2, R2, Ext.refl, VRs.cons (VR.mono E2 dx r1) r2⟩ (by rw [List.length_cons, hl])
  cases h with
  | false =>
    refine ⟨fun pos pins s σ H Q I ⟨O, μ, env, st, R, q⟩ => (L2.pk_cons (nm := some x) (kpos := kp) (pf ha) hr).run pos pins s σ H Q I ?_⟩
    simp only [evEs, Bool.false_eq_true, if_false] at q
    exact ⟨O, μ, env, st, R, fin q⟩
  | true =>
    refine ⟨fun pos pins s σ H Q I ⟨O, μ, env, st, R, q⟩ => (L2.pk_cons (nm := some x) (kpos := kp) (pk ha) hr).run pos pins s σ H Q I ?_⟩
    simp only [evEs, if_true] at q
    exact ⟨O, μ, env, st, R, fin q⟩
def kwNames : List Keyword → Option (List Str)
  | [] => some []
  | ⟨some x, _, _⟩ :: r => (kwNames r).map fun l => x :: l
  | _ => none
theorem kw_all {env : PySem.Env} : ∀ {kws : List Keyword} {ks : List Str}, kwNames kws = some ks → (backToKw pos (keywordEach kws env)).all (·.1.isSome) = true ∧ (backToKw pos (keywordEach kws env)).filterMap (·.1) = ks ∧ (backToKw pos (keywordEach kws env)).any (·.1.isNone) = false
  | [], ks, h => by cases h; exact ⟨rfl, rfl, rfl⟩
  | ⟨some x, e, kp⟩ :: r, ks, h => by
    simp only [kwNames] at h
    obtain ⟨l, h1, rfl⟩ := Option.map_eq_some_iff.mp h
    obtain ⟨k1, k2, k3⟩ := kw_all (env := env) h1
    refine ⟨?_, ?_, ?_⟩
    · show (true && (backToKw pos (keywordEach r env)).all (·.1.isSome)) = true
      rw [k1]; rfl
    · show x :: (backToKw pos (keywordEach r env)).filterMap (·.1) = _
      rw [k2]
    · show (false || (backToKw pos (keywordEach r env)).any (·.1.isNone)) = false
      rw [k3]; rfl
  | ⟨none, e, kp⟩ :: r, ks, h => by simp [kwNames] at h
theorem kw_len : ∀ {kws : List Keyword} {ks : List Str}, kwNames kws = some ks → ks.length = kws.length
  | [], ks, h => by cases h; rfl
  | ⟨some x, e, kp⟩ :: r, ks, h => by
    simp only [kwNames] at h
    obtain ⟨l, h1, rfl⟩ := Option.map_eq_some_iff.mp h
    rw [List.length_cons, List.length_cons, kw_len h1]
  | ⟨none, e, kp⟩ :: r, ks, h => by simp [kwNames] at h
/-- behind the values the rest -/
def RestK (g : Pg) (n : Nat) (X : Cx) (W : WX) (O : Own) (μ : List Addr) (H : Hp) (env : Env) (σ : L2.St) (k : List D → Store → Res RV) (Q : VK) (vs : List V) (H2 : Hp) : Prop :=
  ∃ O2 μ2 st2 ds, StR X.K g.T O2 μ2 env st2 σ H2 ∧ Ext O μ H O2 μ2 H2 ∧ VRs O2 μ2 H2 ds vs ∧ Post RVR X.K g.T O2 μ2 H2 env σ W (k ds st2) Q
theorem ta_app {k : List D → Store → Res RV} {Q : VK} {l : Nat} (R : StR X.K g.T O μ env st σ H) (q : Post RVR X.K g.T O μ H env σ W ((evEs g.p (g.C n) (ms.app mk) env st).bind k) Q) :
    TA_ g n X W ms σ H fun vs H1 => TAL g n X W l mk σ H1 fun zs H2 => zs.length = l ∧ RestK g n X W O μ H env σ k Q (vs ++ zs) H2 := by
  rw [ev_app, bind_assoc] at q
  refine ⟨O, μ, env, st, R, (post_bind VRs q).mono ?_⟩
  rintro xs H1 ⟨O1, μ1, st1, ds1, R1, E1, r1, q1⟩
  simp only [bind_assoc] at q1
  refine ⟨O1, μ1, env, st1, R1, (post_bind VRs q1).mono ?_⟩
  rintro ys H2 ⟨O2, μ2, st2, ds2, R2, E2, r2, q2⟩ hl
  exact ⟨hl, O2, μ2, st2, ds1 ++ ds2, R2, E1.trans E2, VRs.append (VRs.mono E2 ds1 r1) r2, q2⟩
theorem se_callK {f : Str} {p : Pos} {ks : List Str} (ok : XOk g n N sc X) (tk : Takes X W) (hg : Gl X f) (hd : (f == ("__debug__" : Str)) = false) (hdef : (g.defs (f, none)).isSome = true) (hs : notStars es = true) (hks : kwNames kws = some ks) (he : es = [] → ms = .nil) (ha : PA X es (TA_ g n X W ms)) (hk : PK X kws (TAL g n X W kws.length mk)) :
    PE X (.Call (.Name f p) es kws pos) (TE_ g n X W (.callK f (g.prm (f, none)) ks (ms.app mk))) := by
  refine ⟨fun pins s σ H Q I ⟨O, μ, env, st, R, q⟩ => ?_⟩
  simp only [evE] at q
  obtain ⟨d, hdef⟩ := Option.isSome_iff_exists.mp hdef
  obtain ⟨c1, c2⟩ := (ok.calls (f, none) d hdef).gl rfl
  obtain ⟨k1, k2, k3⟩ := kw_all (pos := pos) (env := X.env) hks
  have q0 := ta_app (l := kws.length) R q
  refine wpAny_Call_Name_kw (ld_glob I hg c1 ?_ hd)
  have fin : ∀ {us ws : List Value} {vs zs : List V} {s2 : Shared} {H2 : Hp}, Inv X pins σ H2 s2 → Vals vs us → Vals zs ws → zs.length = kws.length ∧ RestK g n X W O μ H env σ (fun ds st => if kwOk (g.prm (f, none)) ks ds.length = true then g.C n (f, none) (kwPerm (g.prm (f, none)) ks ds) st else .bad) Q (vs ++ zs) H2 →
      wpAny (model X.prog X.w) X.A (call (.ref (fA g X.K (f, none))) us (ks.zip ws)) (EP X pins σ Q) X.xe s2 := fun {us ws vs zs s2 H2} I2 r rz ⟨hw, O2, μ2, st2, ds, R2, E2, r2, q2⟩ => by
    dsimp only at q2
    split at q2
    · rename_i hkw
      exact call_runK ok tk (ok.room.mono (by omega)) I2.env0 I2 (by rw [← rz.length, hw, kw_len hks]) (r.append rz) R2 r2 hkw q2
    · exact q2.elim
  cases es with
  | nil =>
    refine PySem.W.callWith_KW0 (h₀ := X.base) I.ok.mod.kin c2 k1 ?_ (by rw [show (backTo pos (starEach [] X.env)).any (·.1) = false from rfl, k3]; rfl)
    rw [he rfl] at q0
    obtain ⟨O1, μ1, env1, st1, R1, p1⟩ := q0
    simp only [evEs] at p1
    have p2 := p1 _ _ ⟨O1, μ1, R1, Ext.refl, VRs.nil⟩
    rw [k2]
    exact thn (hk.run pos pins s σ H _ I p2) fun ws s2 ⟨zs, H2, I2, rz, p2⟩ => ⟨I2.kIn, fin I2 .nil rz p2⟩
  | cons e es =>
    simp only [notStars, Bool.and_eq_true] at hs
    refine PySem.W.callWith_KW (h₀ := X.base) I.ok.mod.kin c2 k1 (thn (ha.run pos pins s σ H _ I q0) fun us s1 ⟨vs, H1, I1, r, p1⟩ => ?_) (by rw [stars_any (by simp only [notStars, hs.1, hs.2]; rfl), k3]; rfl) (starT hs.1)
    rw [k2]
    exact thn (hk.run pos pins s1 σ H1 _ I1 p1) fun ws s2 ⟨zs, H2, I2, rz, p2⟩ => ⟨I2.kIn, fin I2 r rz p2⟩
end
end Mn
end

section
set_option Elab.async false
set_option linter.all false
set_option maxRecDepth 100000
set_option maxHeartbeats 2000000
/-! Mini: repr of data. -/
namespace Mn
open PySem L2 PySem.Spec PyProof.Rows
section
variable {g : Pg} {n : Nat} {X : Cx}
variable {K : Frag} {T : List (Addr × Str)} {O : Own} {μ : List Addr} {H : Hp} {env : Env} {st : Store} {σ : L2.St}
theorem cb_reprD (hg : X.A.guards = some []) (hu : X.A.units + 64 < cLine) : CallR X (.builtin "repr") (SBifD g X .repr) := by
  intro pins s σ H xs us Q I rv ⟨O, μ, env, st, σ0, ds, out, R, r, e, q⟩
  simp only [bifD, reprD] at e
  split at e <;> first | cases e | skip
  rename_i d
  obtain ⟨v, rfl, r1⟩ := vrs1 r
  unfold pdShow at e
  obtain ⟨t, e2, rfl⟩ := Option.map_eq_some_iff.mp e
  obtain ⟨x, ex, et⟩ := Option.bind_eq_some_iff.mp e2
  unfold showP at et
  by_cases hc : (x.showable && (!x.hasDict && (decide (x.depth ≤ 50) && decide (x.shown.length ≤ lim)))) = true
  rotate_left
  · rw [if_neg hc] at et; cases et
  rw [if_pos hc] at et
  cases et
  simp only [Bool.and_eq_true, decide_eq_true_eq, Bool.not_eq_true'] at hc
  obtain ⟨c1, c2, c3, c4⟩ := hc
  obtain ⟨u, rfl, ru⟩ := vals1 rv
  have hd := dpS_of R r1 ex
  have fin : ∀ (h' : Heap) (u' tk : Tok), (∀ b o, s.heap.get? b = some o → h'.get? b = some o) → EP X pins σ Q (.str x.shown u') { s with heap := h', toks := tk } := fun h' u' tk k => ⟨.str x.shown, H, I.kept k, ⟨u', rfl⟩, q _ _ (got_d R rfl)⟩
  have hsz : x.shown.length ≤ sizeLine := Nat.le_trans c4 (le_line (Nat.le_refl _))
  obtain ⟨as, rd⟩ := Dp.reads I x v u hd ru
  have old : ∀ b o, s.heap.get? b = some o → s.heap.get? b = some o := fun _ _ y => y
  cases u with
  | ref a => exact repr_of_reads' rd c1 (fun z => by rw [c2] at z; cases z) hg (by omega) old (fun h' u' tk k => fin h' u' tk k) hsz
  | none => cases rd; exact P.repr_of_none (fin _ _ _ old)
  | bool b =>
    cases rd
    exact P.repr_of_bool (fin _ _ _ old)
  | int i t =>
    cases rd
    exact P.repr_of_int (of_decide_eq_true c1) (fin _ _ _ old)
  | str y t =>
    cases rd
    exact P.repr_of_str (fin _ _ _ old) hsz
  | _ => cases rd
end
end Mn
end

section
set_option Elab.async false
set_option linter.all false
set_option maxRecDepth 100000
set_option maxHeartbeats 2000000
/-! Mini: the translator from the text's trees. -/
namespace Mn
open PySem L2
/-- where a piece of text stands: slots, scope, which cells are the block's own, the program's tables, its defs and classes, names that the module lacks -/
structure Cn where
  N : List Str
  sc : Scope
  fc : Str → Bool
  p : PTab
  fns : List Str
  news : List Str
  fre : List Str
  /-- a new empty dict is to have tuple keys -/
  dk : Bool
  /-- the qualified name ahead of what is made here; where lambdas are made -/
  q : Str
  lams : List Str
  /-- the parameters of the defs -/
  prm : Fn → List Str
def Cn.slot (c : Cn) (x : Str) : Option Nat := c.N.findIdx? (· = x)
def Cn.gl (c : Cn) (x : Str) : Bool := decide (c.sc.names.lookup x = some .globalImplicit) && !(x == ("__debug__" : Str))
/-- the module lacks the name: the built-in one is meant -/
def Cn.bl (c : Cn) (x : Str) : Bool := c.gl x && c.fre.contains x
def bifOf (x : Str) : Option Bif := [Bif.len, .int, .str, .repr, .abs, .divmod, .max, .min, .tuple, .list, .sorted, .all, .any].find? fun f => decide (x = Str.ofString (bifId f))
def bmtOf (x : Str) : Option Bmt := [Bmt.append, .pop, .get, .join, .split].find? fun m => decide (x = (bmtId m).2.1)
def tyOfN (x : Str) : Option String := tyNames.find? fun n => decide (x = Str.ofString n)
/-- the block of a comprehension -/
def Cn.blk (c : Cn) (scope : Scope) : Cn := { c with sc := relS scope c.sc, fc := fun x => scope.names.lookup x == some .cell }
def notSetD : Expr → Bool
  | .Set _ _ _ => false
  | _ => true
/-- a test that is its value's truth -/
def plainT : Expr → Bool
  | .Name _ _ => true
  | .Call _ _ _ _ => true
  | .Attribute _ _ _ => true
  | .Subscript _ _ _ => true
  | .Constant _ _ _ => true
  | _ => false
mutual
def trE : Nat → Cn → Expr → Option E
  | 0, _, _ => none
  | k + 1, c, e => match e with
    | .Name x _ => if (x == ("__debug__" : Str)) || (x == ("__classdict__" : Str)) then none else match c.sc.names.lookup x with
      | some .globalImplicit => if (c.p.con.lookup x).isSome then some (.glo x) else none
      | some .globalExplicit => none
      | some _ => (c.slot x).bind fun i => if decide (c.N[i]? = some x) then some (.var i) else none
      | none => none
    | .Constant .none _ _ => some (.cst .non)
    | .Constant (.bool b) _ _ => some (.cst (.bl b))
    | .Constant (.int i) _ _ => some (.cst (.int i))
    | .Constant (.str s) _ _ => some (.cst (.str s))
    | .BinOp a o b _ => (bopOf o).bind fun o => (trE k c a).bind fun a => (trE k c b).map fun b => .bin o a b
    | .UnaryOp .USub a _ => (trE k c a).map .neg
    | .UnaryOp .Not a _ => (trE k c a).map .notv
    | .Compare a [o] [b] _ => if behindInMarks o b then none else (copOf o).bind fun co => (trE k c a).bind fun a => (trE k c b).map fun b => .cmp co a b
    | .Compare a [o, o'] [b, d] _ => if lastMarks [o, o'] [b, d] then none else (copOf o).bind fun co => (copOf o').bind fun co' => (trE k c a).bind fun a => (trE k c b).bind fun b => (trE k c d).map fun d => .chn co co' a b d
    | .BoolOp .And (a :: b :: r) p => (trE k c a).bind fun a => (trE k c (.BoolOp .And (b :: r) p)).map fun b => .andv a b
    | .BoolOp .Or (a :: b :: r) p => (trE k c a).bind fun a => (trE k c (.BoolOp .Or (b :: r) p)).map fun b => .orv a b
    | .BoolOp _ [a] _ => trE k c a
    | .IfExp t a b _ => (trT k c t).bind fun t => (trE k c a).bind fun a => (trE k c b).map fun b => .ife t a b
    | .Attribute a f _ => if notSup a then (trE k c a).map fun a => .fld a f else none
    | .Subscript a (.Slice lo hi none _) _ => (trE k c a).bind fun a => (trO k c lo).bind fun lo => (trO k c hi).map fun hi => .sl a lo hi
    | .Subscript a b _ => if notSl b then (trE k c a).bind fun a => (trE k c b).map fun b => .ix a b else none
    | .Tuple es _ _ => (trEs k c false es).bind fun ms => if ms.len ≤ lim then some (.tup ms) else none
    | .List (.Starred a _ :: es) _ => (trE k c a).bind fun a => (trEs k c false es).map fun ms => .star a ms
    | .List es _ => (trEs k c false es).bind fun ms => if ms.len ≤ lim then some (.lst ms) else none
    | .Dict [] [] _ => some (.dct c.dk)
    | .ListComp elt [⟨tg, it, ifs, 0⟩] scope _ =>
      let c' := c.blk scope
      (tgAt c'.N c'.sc c'.fc tg).bind fun mtg => (trI k c tg it).bind fun mit => if notSetD it && blkC c.N c.sc scope (((tgs mtg).map fun i => (c.N.getD i Str.empty, i))) then
        (trE k c' elt).bind fun melt => (match ifs with
          | [] => some Mn.T.tt
          | [t] => trT k c' t
          | _ => none).map fun mt => .lc melt mtg mit mt
      else none
    | .Call (.Name f _) args [] _ => if c.gl f then (if notStars args then (
        if c.fns.contains f then (trEs k c true args).map fun ms => .call f ms
        else if c.news.contains f then (trEs k c true args).map fun ms => .new f ms
        else if c.fre.contains f then (
          if f = Str.ofString "isinstance" then (match args with
            | [a, .Name x _] => if c.gl x then (trE k c a).bind fun ma => (if c.fre.contains x then (tyOfN x).map fun T => .isi ma (.inl T) else if c.p.cls.contains x then some (.isi ma (.inr x)) else none) else none
            | _ => none)
          else (bifOf f).bind fun b => (match args with
            | [] => none
            | _ => (trEs k c false args).map fun ms => .bif b ms))
        else none) else none) else none
    | .Call (.Attribute o m apos) args [] pos => if mOk o args apos pos then (match bmtOf m with
        | some b => (trE k c o).bind fun a => (trEs k c true args).map fun ms => .bmt b a ms
        | none => (trE k c o).bind fun a => (trEs k c true args).map fun ms => .meth a m ms) else none
    | .Call (.Name f _) [a] [⟨some kw, .Lambda params body scope _, _⟩] _ => if c.bl f && (c.fre.contains (Str.ofString "len") && (decide (f = Str.ofString "sorted") && (decide (kw = Str.ofString "key") && (c.lams.contains c.q && (notStar a && lenLam params body scope))))) then (trE k c a).map .sortL else none
    | .Call (.Name f _) args (kw :: kws) _ => if c.gl f && (notStars args && c.fns.contains f) then (kwNames (kw :: kws)).bind fun ks => (trEs k c true args).bind fun ms => (trK k c (kw :: kws)).map fun mk => .callK f (c.prm (f, none)) ks (ms.app mk) else none
    | .JoinedStr (v1 :: v2 :: rest) _ => (trF k c (v1 :: v2 :: rest)).map .fst
    | _ => none
def trEs : Nat → Cn → Bool → List Expr → Option Es
  | 0, _, _, _ => none
  | _ + 1, _, _, [] => some .nil
  | k + 1, c, h, e :: es => if notStar e then (trE k c e).bind fun m => (trEs k c h es).map fun ms => .cons h m ms else none
def trK : Nat → Cn → List Keyword → Option Es
  | 0, _, _ => none
  | _ + 1, _, [] => some .nil
  | k + 1, c, ⟨some _, e, _⟩ :: es => (trE k c e).bind fun m => (trK k c es).map fun ms => .cons true m ms
  | _, _, _ => none
/-- the parts of an f-string -/
def trF : Nat → Cn → List Expr → Option Es
  | 0, _, _ => none
  | _ + 1, _, [] => some .nil
  | k + 1, c, e :: es => (match e with
    | .FormattedValue a (-1) none _ => trE k c a
    | .Constant (.str s) _ _ => some (.cst (.str s))
    | _ => none).bind fun m => (trF k c es).map fun ms => .cons false m ms
/-- a part of a slice -/
def trO : Nat → Cn → Option Expr → Option Es
  | 0, _, _ => none
  | _ + 1, _, none => some .nil
  | k + 1, c, some e => (trE k c e).map fun m => .cons false m .nil
def trT : Nat → Cn → Expr → Option T
  | 0, _, _ => none
  | k + 1, c, e => match e with
    | .BoolOp .And (a :: b :: r) p => (trT k c a).bind fun a => (trT k c (.BoolOp .And (b :: r) p)).map fun b => .and a b
    | .BoolOp .Or (a :: b :: r) p => (trT k c a).bind fun a => (trT k c (.BoolOp .Or (b :: r) p)).map fun b => .or a b
    | .BoolOp _ [a] _ => trT k c a
    | .UnaryOp .Not a _ => (trT k c a).map .not
    | .Compare a [o] [b] _ => if behindInMarks o b then none else (copOf o).bind fun co => (trE k c a).bind fun a => (trE k c b).map fun b => .val (.cmp co a b)
    | .Compare a [o, o'] [b, d] _ => if lastMarks [o, o'] [b, d] then none else (copOf o).bind fun co => (copOf o').bind fun co' => (trE k c a).bind fun a => (trE k c b).bind fun b => (trE k c d).map fun d => .val (.chn co co' a b d)
    | e => if plainT e then (trE k c e).map .val else none
def trI : Nat → Cn → Expr → Expr → Option It
  | 0, _, _, _ => none
  | k + 1, c, tg, e => match e with
    | .Call (.Name f p) [a] [] q => if c.bl f && decide (f = Str.ofString "range") && notStar a then (trE k c a).map .rng
      else if c.bl f && decide (f = Str.ofString "enumerate") && notStar a then (match tg with
        | .Tuple _ _ _ => (trE k c a).map .enu
        | _ => none)
      else (trE k c (.Call (.Name f p) [a] [] q)).map .val
    | .Call (.Name f p) [a, b] [] q => if c.bl f && decide (f = Str.ofString "range") && notStar a && notStar b then (trE k c a).bind fun a => (trE k c b).map fun b => .rng2 a b
      else (trE k c (.Call (.Name f p) [a, b] [] q)).map .val
    | .Call (.Attribute o m apos) [] [] pos => if decide (m = Str.ofString "items") then (if notSup o && (apos.endLine == pos.line) then (match tg with
        | .Tuple _ _ _ => (trE k c o).map .items
        | _ => none) else none)
      else (trE k c (.Call (.Attribute o m apos) [] [] pos)).map .val
    | e => (trE k c e).map .val
end
def nmL (c : Cn) (x : Str) (i : Nat) : Bool := decide (c.N[i]? = some x) && decide (c.sc.names.lookup x = some .local)
/-- a, b = x, y and a, b, c = x, y, z, stored from the right -/
def parK (c : Cn) (ts vs : List Expr) (is : List Nat) (ms : Es) : Option S := match ts, vs, is with
  | [.Name x px, .Name y py], [a, b], [i, j] => if (decide (swV .function (fun x => c.sc.names.lookup x) [.Name x px, .Name y py] [a, b] = some (some [x, y])) && (nmL c x i && (nmL c y j && decide (i ≠ j)))) = true then some (.asgs [i, j] ms) else none
  | [.Name x px, .Name y py, .Name z pz], [a, b, d], [i, j, l] => if (decide (swV .function (fun x => c.sc.names.lookup x) [.Name x px, .Name y py, .Name z pz] [a, b, d] = some (some [x, y, z])) && (nmL c x i && (nmL c y j && (nmL c z l && (decide (i ≠ j) && (decide (i ≠ l) && decide (j ≠ l))))))) = true then some (.asgs [i, j, l] ms) else none
  | _, _, _ => none
mutual
def trS : Nat → Cn → Stmt → Option S
  | 0, _, _ => none
  | k + 1, c, s => match s with
    | .Return (some e) _ => (trE k c e).map .ret
    | .Return none _ => some .retN
    | .Expr e _ => if notComp e then (trE k c e).map .ex else none
    | .Pass _ => some .pass
    | .Break _ => some .brk
    | .Continue _ => some .cnt
    | .If t a b _ => (trT k c t).bind fun t => (trSs k c a).bind fun a => (trSs k c b).map fun b => .ifs t a b
    | .While t b [] _ => (trT k c t).bind fun t => (trSs k c b).map fun b => .whl t b
    | .For tg it b [] _ => (tgAt c.N c.sc c.fc tg).bind fun mtg => (trI k c tg it).bind fun mit => if notSetD it then (trSs k c b).map fun b => .frs mtg mit b else none
    | .AugAssign (.Name x _) .Add e _ => (c.slot x).bind fun i => if nameAt c.N c.sc c.fc x i then (trE k c e).map fun e => .aug i .add e else none
    | .Delete [.Subscript o i _] _ => (trE k c o).bind fun o => (trE k c i).map fun i => .del o i
    | .Assign [.Name x p] e _ => (c.slot x).bind fun i => if nameAt c.N c.sc c.fc x i && (notComp e || decide (c.sc.names.lookup x = some .local)) then
        (if notComp e || !(swC .function (fun x => c.sc.names.lookup x) e x p.line) || decide (c.sc.names.lookup x = some .local) then (trE k c e).map fun e => .asg i true e else none) else none
    | .Assign [.Attribute o f _] e _ => (trE k c o).bind fun o => (trE k c e).map fun e => .fset o f e
    | .Assign [.Subscript o i _] e _ => if notSl i then (trE k c o).bind fun o => (trE k c i).bind fun i => (trE k c e).map fun e => .iset o i true e else none
    | .Assign [.Tuple ts _ _] (.Tuple vs _ _) _ => (ts.mapM fun e => (nameOf e).bind c.slot).bind fun is => if namesAt c.N c.sc c.fc ts is then (trEs k c true vs).bind fun ms => if ms.len ≤ lim then (match swV .function (fun x => c.sc.names.lookup x) ts vs with
        | some none => some (.asgs is ms)
        | some (some _) => parK c ts vs is ms
        | none => none) else none else none
    | .Assign [.Tuple [.Subscript o i _, .Name x _] _ _] e _ => if notTup e && notSl i then (c.slot x).bind fun j => if nameAt c.N c.sc c.fc x j then (trE k c o).bind fun o => (trE k c i).bind fun i => (trE k c e).map fun e => .unpS o i j e else none else none
    | .Assign [.Tuple ts _ _] e _ => (ts.mapM fun e => (nameOf e).bind c.slot).bind fun is => if namesAt c.N c.sc c.fc ts is && notTup e then (trE k c e).map fun e => .unp is e else none
    | _ => none
def trSs : Nat → Cn → List Stmt → Option Ss
  | 0, _, _ => none
  | _ + 1, _, [] => some .nil
  | k + 1, c, s :: r => (trSs k c r).map fun ms => .cons ((trS k c s).getD .bad) ms
end
end Mn
end

section
set_option Elab.async false
set_option linter.all false
set_option maxRecDepth 100000
set_option maxHeartbeats 4000000
/-! Mini: the translator is right. -/
namespace Mn
open PySem L2 PySem.Spec PyProof.Rows
/-- the context fits the program -/
structure CnOk (g : Pg) (n : Nat) (c : Cn) (X : Cx) : Prop where
  ok : XOk g n c.N c.sc X
  fc : FnCell X c.fc
  kind : c.sc.kind = .function
  p : g.p = c.p
  fns : ∀ f, c.fns.contains f = true → (g.defs (f, none)).isSome = true
  news : ∀ f, c.news.contains f = true → (g.defs (f, some "__init__")).isSome = true ∧ g.p.prop f "__init__" = false
  fre : ∀ x, c.fre.contains x = true → X.mg x = none
  ql : X.env.qual = c.q
  lams : g.lams = c.lams
  prm : g.prm = c.prm
structure SndE (g : Pg) (n k : Nat) : Prop where
  e : ∀ {c : Cn} {X : Cx} {W : WX} {e : Expr} {m : E}, CnOk g n c X → Takes X W → trE k c e = some m → PE X e (TE_ g n X W m)
  es : ∀ {c : Cn} {X : Cx} {W : WX} {h : Bool} {e : List Expr} {m : Es}, CnOk g n c X → Takes X W → trEs k c h e = some m → PA X e (TA_ g n X W m)
  f : ∀ {c : Cn} {X : Cx} {W : WX} {e : List Expr} {m : Es}, CnOk g n c X → Takes X W → trF k c e = some m → FJ g n X W e m
  kw : ∀ {c : Cn} {X : Cx} {W : WX} {e : List Keyword} {m : Es}, CnOk g n c X → Takes X W → trK k c e = some m → PK X e (TAL g n X W e.length m)
  o : ∀ {c : Cn} {X : Cx} {W : WX} {e : Option Expr} {m : Es}, CnOk g n c X → Takes X W → trO k c e = some m → PO X e (TO_ g n X W m)
  t : ∀ {c : Cn} {X : Cx} {W : WX} {e : Expr} {m : T}, CnOk g n c X → Takes X W → trT k c e = some m → PT X e (TT_ g n X W m)
  w : ∀ {c : Cn} {X : Cx} {W : WX} {op : BoolOp} {vs : List Expr} {p : Pos} {m : T}, CnOk g n c X → Takes X W → trT k c (.BoolOp op vs p) = some m → PW X (.BoolOp op vs p) (TT_ g n X W m)
  i : ∀ {c : Cn} {X : Cx} {W : WX} {tg e : Expr} {m : It}, CnOk g n c X → Takes X W → trI k c tg e = some m → PI X tg e (TI_ g n X W m)
section
variable {g : Pg} {n k : Nat} {c : Cn} {X : Cx} {W : WX}
theorem bind2 {α β : Type} {o : Option α} {f : α → Option β} {b : β} (h : o.bind f = some b) : ∃ a, o = some a ∧ f a = some b := Option.bind_eq_some_iff.mp h
theorem map2 {α β : Type} {o : Option α} {f : α → β} {b : β} (h : o.map f = some b) : ∃ a, o = some a ∧ f a = b := Option.map_eq_some_iff.mp h
theorem snd_es (S : SndE g n k) {h : Bool} {e : List Expr} {m : Es} (C : CnOk g n c X) (tk : Takes X W) (hh : trEs (k + 1) c h e = some m) : PA X e (TA_ g n X W m) := by
  cases e with
  | nil => simp only [trEs] at hh; cases hh; exact sa_nil
  | cons e es =>
    simp only [trEs] at hh
    split at hh <;> first | cases hh | skip
    rename_i hs
    obtain ⟨m1, h1, hh⟩ := bind2 hh
    obtain ⟨m2, h2, rfl⟩ := map2 hh
    exact sa_cons hs (S.e C tk h1) (S.es C tk h2)
theorem snd_k (S : SndE g n k) {e : List Keyword} {m : Es} (C : CnOk g n c X) (tk : Takes X W) (hh : trK (k + 1) c e = some m) : PK X e (TAL g n X W e.length m) := by
  cases e with
  | nil => simp only [trK] at hh; cases hh; exact sk_nil
  | cons e es =>
    obtain ⟨nm, e, kp⟩ := e
    cases nm with
    | none => simp [trK] at hh
    | some x =>
      simp only [trK] at hh
      obtain ⟨m1, h1, hh⟩ := bind2 hh
      obtain ⟨m2, h2, rfl⟩ := map2 hh
      exact sk_cons (S.e C tk h1) (S.kw C tk h2)
theorem snd_o (S : SndE g n k) {e : Option Expr} {m : Es} (C : CnOk g n c X) (tk : Takes X W) (hh : trO (k + 1) c e = some m) : PO X e (TO_ g n X W m) := by
  cases e with
  | none => simp only [trO] at hh; cases hh; exact so_none
  | some e =>
    simp only [trO] at hh
    obtain ⟨m1, h1, rfl⟩ := map2 hh
    exact so_some (S.e C tk h1)
theorem snd_f (S : SndE g n k) {e : List Expr} {m : Es} (C : CnOk g n c X) (tk : Takes X W) (hh : trF (k + 1) c e = some m) : FJ g n X W e m := by
  cases e with
  | nil => simp only [trF] at hh; cases hh; exact .nil
  | cons e es =>
    simp only [trF] at hh
    obtain ⟨m1, h1, hh⟩ := bind2 hh
    obtain ⟨m2, h2, rfl⟩ := map2 hh
    split at h1 <;> first | cases h1 | skip
    · exact .cons (sf_fmt (S.e C tk h1)) (S.f C tk h2)
    · exact .cons (sf_str pe_str) (S.f C tk h2)
theorem slot_some {x : Str} {i : Nat} (h : decide (c.N[i]? = some x) = true) : c.N[i]? = some x := of_decide_eq_true h
theorem gl_of (C : CnOk g n c X) {x : Str} (h : c.gl x = true) : Gl X x ∧ (x == ("__debug__" : Str)) = false := by
  simp only [Cn.gl, Bool.and_eq_true, decide_eq_true_eq, Bool.not_eq_true'] at h
  refine ⟨?_, h.2⟩
  show X.env.scope.names.lookup x = _
  rw [C.ok.scp]
  exact h.1
theorem bl_of (C : CnOk g n c X) {x : Str} (h : c.bl x = true) : Gl X x ∧ X.mg x = none := by
  simp only [Cn.bl, Bool.and_eq_true] at h
  exact ⟨(gl_of C h.1).1, C.fre x h.2⟩
theorem snd_i (S : SndE g n k) {tg e : Expr} {m : It} (C : CnOk g n c X) (tk : Takes X W) (hh : trI (k + 1) c tg e = some m) : PI X tg e (TI_ g n X W m) := by
  simp only [trI] at hh
  split at hh
  · split at hh
    · rename_i hb
      simp only [Bool.and_eq_true, decide_eq_true_eq] at hb
      obtain ⟨⟨hb, rfl⟩, hs⟩ := hb
      obtain ⟨m1, h1, rfl⟩ := map2 hh
      exact si_rng (bl_of C hb).1 (bl_of C hb).2 hs (S.e C tk h1)
    · split at hh
      · rename_i hb
        simp only [Bool.and_eq_true, decide_eq_true_eq] at hb
        obtain ⟨⟨hb, rfl⟩, hs⟩ := hb
        split at hh <;> first | cases hh | skip
        obtain ⟨m1, h1, rfl⟩ := map2 hh
        exact si_enu (bl_of C hb).1 (bl_of C hb).2 hs (S.e C tk h1)
      · obtain ⟨m1, h1, rfl⟩ := map2 hh
        exact si_val (S.e C tk h1)
  · split at hh
    · rename_i hb
      simp only [Bool.and_eq_true, decide_eq_true_eq] at hb
      obtain ⟨⟨⟨hb, rfl⟩, hs⟩, hs2⟩ := hb
      obtain ⟨m1, h1, hh⟩ := bind2 hh
      obtain ⟨m2, h2, rfl⟩ := map2 hh
      exact si_rng2 (bl_of C hb).1 (bl_of C hb).2 hs hs2 (S.e C tk h1) (S.e C tk h2)
    · obtain ⟨m1, h1, rfl⟩ := map2 hh
      exact si_val (S.e C tk h1)
  · split at hh
    · rename_i hb
      simp only [decide_eq_true_eq] at hb
      subst hb
      split at hh <;> first | cases hh | skip
      rename_i hs
      simp only [Bool.and_eq_true] at hs
      split at hh <;> first | cases hh | skip
      obtain ⟨m1, h1, rfl⟩ := map2 hh
      exact si_items hs.1 hs.2 (S.e C tk h1)
    · obtain ⟨m1, h1, rfl⟩ := map2 hh
      exact si_val (S.e C tk h1)
  · obtain ⟨m1, h1, rfl⟩ := map2 hh
    exact si_val (S.e C tk h1)
end
end Mn
end

section
set_option Elab.async false
set_option linter.all false
set_option maxRecDepth 100000
set_option maxHeartbeats 8000000
/-! Mini: the translator is right: expressions. -/
namespace Mn
open PySem L2 PySem.Spec PyProof.Rows
section
variable {g : Pg} {n k : Nat} {c : Cn} {X : Cx} {W : WX}
theorem vis_of (C : CnOk g n c X) {x : Str} {kd : NameKind} (h : c.sc.names.lookup x = some kd) (h1 : kd ≠ .globalImplicit) (h2 : kd ≠ .globalExplicit) : Vis X.env.scope x := by
  rw [C.ok.scp]
  cases kd
  · exact .inl h
  · exact .inr (.inl h)
  · exact .inr (.inr h)
  · exact absurd rfl h2
  · exact absurd rfl h1
theorem bifOf_id {x : Str} {b : Bif} (h : bifOf x = some b) : x = Str.ofString (bifId b) := by
  have := List.find?_some h
  exact of_decide_eq_true this
theorem bmtOf_id {x : Str} {b : Bmt} (h : bmtOf x = some b) : x = (bmtId b).2.1 ∧ b ≠ .index := by
  have h1 := List.find?_some h
  have h2 := List.mem_of_find?_eq_some h
  refine ⟨of_decide_eq_true h1, fun e => ?_⟩
  subst e
  simp at h2
theorem tyOf_id {x : Str} {T : String} (h : tyOfN x = some T) : x = Str.ofString T ∧ T ∈ tyNames := by
  have h1 := List.find?_some (show tyNames.find? (fun n => decide (x = Str.ofString n)) = some T from h)
  exact ⟨of_decide_eq_true h1, List.mem_of_find?_eq_some h⟩
theorem foldS {e : Expr} (h : notSetD e = true) {env : PySem.Env} : ∀ x, foldedSetIterable e env x = pure x := by
  intro x
  unfold foldedSetIterable
  cases e <;> first | rfl | (simp [notSetD] at h)
/-- a built-in function is right -/
theorem cb_all_bif (ok : XOk g n c.N c.sc X) (b : Bif) (h : b ≠ .sorted ∧ b ≠ .repr) : CallR X (bifV b) (SBifD g X b) := by
  cases b
  case len => exact cb_len
  case int => exact cb_int
  case str => exact cb_str
  case repr => exact absurd rfl h.2
  case abs => exact cb_abs
  case divmod => exact cb_divmod
  case max => exact cb_max ok.calm
  case min => exact cb_min ok.calm
  case tuple => exact cb_tuple
  case list => exact cb_list
  case sorted => exact absurd rfl h.1
  case all => exact cb_all ok.calm
  case any => exact cb_any ok.calm
theorem cb_any_bif (ok : XOk g n c.N c.sc X) (b : Bif) : CallR X (bifV b) (SBifD g X b) := by
  by_cases h : b = .sorted
  · subst h
    have hu := ok.room.un
    exact cb_sortedD (by omega)
  · by_cases h2 : b = .repr
    · subst h2
      have hu := ok.room.un
      exact cb_reprD ok.room.gd (by omega)
    · exact cb_all_bif ok b ⟨h, h2⟩
/-- the block's context -/
theorem blk_ok (C : CnOk g n c X) {scope : Scope} (hk : scope.kind = .function) {s : Shared} {H : Hp} {C' : Addr} {cl : List (Str × Addr)} {fp : List Addr} : CnOk g n (c.blk scope) (X.blk s H scope (compEnvC scope cl C' X.env) fp) :=
  ⟨⟨C.ok.nm, C.ok.nd, by show relS scope X.env.scope = relS scope c.sc; rw [C.ok.scp], C.ok.calm, C.ok.room, C.ok.mth, C.ok.fld, C.ok.calls, C.ok.kit, C.ok.con, C.ok.lam⟩, fun x h => h, hk, C.p, C.fns, C.news, C.fre, C.ql, C.lams, C.prm⟩
theorem blkC_kind {N : List Str} {sc scope : Scope} {own : List (Str × Nat)} (h : blkC N sc scope own = true) : scope.kind = .function := (blkOk_by h).kind
theorem own_snd {c : Cn} {is : List Nat} : (is.map fun i => (c.N.getD i Str.empty, i)).map (·.2) = is := by
  rw [List.map_map]
  induction is with
  | nil => rfl
  | cons i is ih => rw [List.map_cons, ih]; rfl
theorem es_nil {h : Bool} {ms : Es} {j : Nat} (e : trEs j c h [] = some ms) : ms = .nil := by
  cases j with
  | zero => simp [trEs] at e
  | succ j => simp only [trEs] at e; cases e; rfl
theorem se_methA {N : List Str} {sc : Scope} {a : Expr} {ma : E} {es : List Expr} {ms : Es} {m : Str} {apos pos : Pos} (ok : XOk g n N sc X) (tk : Takes X W) (h : mOk a es apos pos = true) (ha : PE X a (TE_ g n X W ma)) (hb : PA X es (TA_ g n X W ms)) (he : es = [] → ms = .nil) :
    PE X (.Call (.Attribute a m apos) es [] pos) (TE_ g n X W (.meth ma m ms)) := by
  cases es with
  | nil => rw [he rfl]; exact se_meth0 ok tk h ha
  | cons e es => exact se_meth ok tk h ha hb
theorem se_callA {N : List Str} {sc : Scope} {es : List Expr} {ms : Es} {f : Str} {p pos : Pos} (ok : XOk g n N sc X) (tk : Takes X W) (hg : Gl X f) (hd : (f == ("__debug__" : Str)) = false) (hdef : (g.defs (f, none)).isSome = true) (hs : notStars es = true) (hb : PA X es (TA_ g n X W ms)) (he : es = [] → ms = .nil) :
    PE X (.Call (.Name f p) es [] pos) (TE_ g n X W (.call f ms)) := by
  cases es with
  | nil => rw [he rfl]; exact se_call0 ok tk hg hd hdef
  | cons e es => exact se_call ok tk hg hd hdef hs hb
theorem se_newA {N : List Str} {sc : Scope} {es : List Expr} {ms : Es} {f : Str} {p pos : Pos} (ok : XOk g n N sc X) (tk : Takes X W) (hg : Gl X f) (hd : (f == ("__debug__" : Str)) = false) (hdef : (g.defs (f, some "__init__")).isSome = true) (hp : g.p.prop f "__init__" = false) (hs : notStars es = true) (hb : PA X es (TA_ g n X W ms)) (he : es = [] → ms = .nil) :
    PE X (.Call (.Name f p) es [] pos) (TE_ g n X W (.new f ms)) := by
  cases es with
  | nil => rw [he rfl]; exact se_new0 ok tk hg hd hdef hp
  | cons e es => exact se_new ok tk hg hd hdef hp hs hb
theorem se_bifA {N : List Str} {sc : Scope} {es : List Expr} {ms : Es} {b : Bif} {x : Str} {p pos : Pos} (ok : XOk g n N sc X) (tk : Takes X W) (h : CallR X (bifV b) (SBifD g X b)) (hx : x = Str.ofString (bifId b)) (hg : Gl X x) (hm : X.mg x = none) (hs : notStars es = true) (hb : PA X es (TA_ g n X W ms)) (hne : es = [] → False) :
    PE X (.Call (.Name x p) es [] pos) (TE_ g n X W (.bif b ms)) := by
  cases es with
  | nil => exact (hne rfl).elim
  | cons e es => exact se_bif ok tk h hx hg hm hs hb
theorem takes_no {X : Cx} : Takes X (fun _ _ _ _ => False) := fun _ _ x => by
  obtain ⟨_, _, _, _, _, _, _, _, _, _, _, _, _, _, _, _, z⟩ := x
  exact z.elim
theorem ty_boot {T : String} (h : T ∈ tyNames) : bootBuiltins (Str.ofString T) = some (.type T) ∧ Str.ofString T ≠ "__name__" ∧ (Str.ofString T == ("__debug__" : Str)) = false := by
  simp only [tyNames, List.mem_cons, List.not_mem_nil, or_false] at h
  rcases h with rfl | rfl | rfl | rfl
  · exact ⟨by kernel_rfl, by decide, by decide⟩
  · exact ⟨by kernel_rfl, by decide, by decide⟩
  · exact ⟨by kernel_rfl, by decide, by decide⟩
  · exact ⟨by kernel_rfl, by decide, by decide⟩
theorem snd_e (S : SndE g n k) {e : Expr} {m : E} (C : CnOk g n c X) (tk : Takes X W) (hh : trE (k + 1) c e = some m) : PE X e (TE_ g n X W m) := by
  have ok := C.ok
  simp only [trE] at hh
  split at hh
  · -- Name
    split at hh <;> first | cases hh | skip
    rename_i hx
    simp only [Bool.or_eq_true, not_or, Bool.not_eq_true] at hx
    split at hh
    · rename_i hl
      split at hh <;> first | cases hh | skip
      rename_i hc
      obtain ⟨d, hd⟩ := Option.isSome_iff_exists.mp hc
      have hg : Gl X _ := (show X.env.scope.names.lookup _ = _ by rw [ok.scp]; exact hl)
      exact se_glo ok hg (by rw [C.p]; exact hd) hx.1
    · cases hh
    · rename_i kd hn1 hn2 hl
      obtain ⟨i, hi, hh⟩ := bind2 hh
      split at hh <;> first | cases hh | skip
      rename_i hN
      exact se_var (by rw [ok.nm]; exact of_decide_eq_true hN) (vis_of C hl (fun z => hn1 z) (fun z => hn2 z)) hx.1 hx.2
    · cases hh
  · cases hh; exact se_cst pe_non fun _ _ _ => rfl
  · cases hh; exact se_cst pe_bl fun _ _ _ => rfl
  · cases hh; exact se_cst pe_int fun _ _ _ => rfl
  · cases hh; exact se_cst pe_str fun _ _ _ => rfl
  · obtain ⟨o, h0, hh⟩ := bind2 hh
    obtain ⟨m1, h1, hh⟩ := bind2 hh
    obtain ⟨m2, h2, rfl⟩ := map2 hh
    exact se_bin h0 (S.e C tk h1) (S.e C tk h2)
  · obtain ⟨m1, h1, rfl⟩ := map2 hh
    exact se_neg (S.e C tk h1)
  · obtain ⟨m1, h1, rfl⟩ := map2 hh
    exact se_not (S.e C tk h1)
  · split at hh <;> first | cases hh | skip
    rename_i hm
    obtain ⟨o, h0, hh⟩ := bind2 hh
    obtain ⟨m1, h1, hh⟩ := bind2 hh
    obtain ⟨m2, h2, rfl⟩ := map2 hh
    exact se_cmp ok h0 (by simpa using hm) (S.e C tk h1) (S.e C tk h2)
  · split at hh <;> first | cases hh | skip
    rename_i hm
    obtain ⟨o, h0, hh⟩ := bind2 hh
    obtain ⟨o', h0', hh⟩ := bind2 hh
    obtain ⟨m1, h1, hh⟩ := bind2 hh
    obtain ⟨m2, h2, hh⟩ := bind2 hh
    obtain ⟨m3, h3, rfl⟩ := map2 hh
    exact se_chn ok h0 h0' (by simpa using hm) (S.e C tk h1) (S.e C tk h2) (S.e C tk h3)
  · obtain ⟨m1, h1, hh⟩ := bind2 hh
    obtain ⟨m2, h2, rfl⟩ := map2 hh
    exact se_and (S.e C tk h1) (S.e C tk h2)
  · obtain ⟨m1, h1, hh⟩ := bind2 hh
    obtain ⟨m2, h2, rfl⟩ := map2 hh
    exact se_or (S.e C tk h1) (S.e C tk h2)
  · exact se_one (S.e C tk hh)
  · obtain ⟨m0, h0, hh⟩ := bind2 hh
    obtain ⟨m1, h1, hh⟩ := bind2 hh
    obtain ⟨m2, h2, rfl⟩ := map2 hh
    exact se_ife (S.t C tk h0) (S.e C tk h1) (S.e C tk h2)
  · split at hh <;> first | cases hh | skip
    rename_i hs
    obtain ⟨m1, h1, rfl⟩ := map2 hh
    exact se_fld ok hs (S.e C tk h1)
  · obtain ⟨m1, h1, hh⟩ := bind2 hh
    obtain ⟨m2, h2, hh⟩ := bind2 hh
    obtain ⟨m3, h3, rfl⟩ := map2 hh
    exact se_sl (S.e C tk h1) (S.o C tk h2) (S.o C tk h3)
  · split at hh <;> first | cases hh | skip
    rename_i hs
    obtain ⟨m1, h1, hh⟩ := bind2 hh
    obtain ⟨m2, h2, rfl⟩ := map2 hh
    exact se_ix ok hs (S.e C tk h1) (S.e C tk h2)
  · obtain ⟨m1, h1, hh⟩ := bind2 hh
    split at hh <;> cases hh
    rename_i hl
    exact se_tup hl (S.es C tk h1)
  · obtain ⟨m1, h1, hh⟩ := bind2 hh
    obtain ⟨m2, h2, rfl⟩ := map2 hh
    exact se_star (S.e C tk h1) (S.es C tk h2)
  · obtain ⟨m1, h1, hh⟩ := bind2 hh
    split at hh <;> cases hh
    rename_i hl
    exact se_lst hl (S.es C tk h1)
  · cases hh; exact se_dct
  · -- comprehensions
    obtain ⟨mtg, h0, hh⟩ := bind2 hh
    obtain ⟨mit, h1, hh⟩ := bind2 hh
    split at hh <;> first | cases hh | skip
    rename_i hb
    simp only [Bool.and_eq_true] at hb
    obtain ⟨hb1, hb2⟩ := hb
    obtain ⟨melt, h2, hh⟩ := bind2 hh
    obtain ⟨mt, h3, rfl⟩ := map2 hh
    have hk := blkC_kind hb2
    refine se_lc ok (S.i C tk h1) hb2 own_snd (fun s H C' cl fp => ?_) (fun s H C' cl fp => ?_) (fun s H C' cl fp => ?_) (foldS hb1)
    · have C2 := blk_ok C hk (s := s) (H := H) (C' := C') (cl := cl) (fp := fp)
      exact sg_tg C2.ok C2.fc h0
    · have C2 := blk_ok C hk (s := s) (H := H) (C' := C') (cl := cl) (fp := fp)
      split at h3
      · cases h3
        exact ⟨fun pins s' σ H' Q I q => pts_nil.run pins s' σ H' Q I (by
          obtain ⟨O, μ, env, st, R, q⟩ := q
          simp only [evT] at q
          exact q _ _ ⟨O, μ, R, Ext.refl, rfl⟩)⟩
      · exact pts_one (S.t (W := fun _ _ _ _ => False) C2 takes_no h3)
      · cases h3
    · have C2 := blk_ok C hk (s := s) (H := H) (C' := C') (cl := cl) (fp := fp)
      exact S.e (W := fun _ _ _ _ => False) C2 takes_no h2
  · -- calls
    split at hh <;> first | cases hh | skip
    rename_i hgl
    obtain ⟨hg, hd⟩ := gl_of C hgl
    split at hh <;> first | cases hh | skip
    rename_i hs
    split at hh
    · rename_i hf
      obtain ⟨m1, h1, rfl⟩ := map2 hh
      exact se_callA ok tk hg hd (C.fns _ hf) hs (S.es C tk h1) fun z => by subst z; exact es_nil h1
    · split at hh
      · rename_i hf
        obtain ⟨m1, h1, rfl⟩ := map2 hh
        obtain ⟨n1, n2⟩ := C.news _ hf
        exact se_newA ok tk hg hd n1 n2 hs (S.es C tk h1) fun z => by subst z; exact es_nil h1
      · split at hh <;> first | cases hh | skip
        rename_i hfr
        have hm := C.fre _ hfr
        split at hh
        · rename_i hx
          subst hx
          split at hh <;> first | cases hh | skip
          split at hh <;> first | cases hh | skip
          rename_i hxg
          obtain ⟨hg2, hd2⟩ := gl_of C hxg
          obtain ⟨m1, h1, hh⟩ := bind2 hh
          simp only [notStars, Bool.and_eq_true] at hs
          split at hh
          · rename_i hx2
            obtain ⟨T, hT, rfl⟩ := map2 hh
            obtain ⟨rfl, hT2⟩ := tyOf_id hT
            obtain ⟨b1, b2, b3⟩ := ty_boot hT2
            exact se_isiT ok hg hm hs.1 (S.e C tk h1) hg2 (C.fre _ hx2) b1 b2 b3
          · split at hh <;> cases hh
            rename_i hc
            exact se_isiC ok hg hm hs.1 (S.e C tk h1) hg2 (by rw [C.p]; exact hc) hd2
        · obtain ⟨b, hb, hh⟩ := bind2 hh
          have hx := bifOf_id hb
          split at hh
          · cases hh
          · rename_i hne
            obtain ⟨m1, h1, rfl⟩ := map2 hh
            exact se_bifA ok tk (cb_any_bif ok b) hx hg hm hs (S.es C tk h1) fun z => hne z
  · -- methods
    split at hh <;> first | cases hh | skip
    rename_i hm
    split at hh
    · rename_i b hb
      obtain ⟨rfl, hne⟩ := bmtOf_id hb
      obtain ⟨m1, h1, hh⟩ := bind2 hh
      obtain ⟨m2, h2, rfl⟩ := map2 hh
      exact se_bmt ok hne hm (S.e C tk h1) (S.es C tk h2) fun z => by subst z; exact es_nil h2
    · obtain ⟨m1, h1, hh⟩ := bind2 hh
      obtain ⟨m2, h2, rfl⟩ := map2 hh
      exact se_methA ok tk hm (S.e C tk h1) (S.es C tk h2) fun z => by subst z; exact es_nil h2
  · -- sorted by a key
    split at hh <;> first | cases hh | skip
    rename_i hc
    simp only [Bool.and_eq_true, decide_eq_true_eq] at hc
    obtain ⟨hb, hlen, h1, h2, h3, h4, h5⟩ := hc
    obtain ⟨m1, h6, rfl⟩ := map2 hh
    exact se_sortL ok h1 h2 (bl_of C hb).1 (bl_of C hb).2 (C.fre _ hlen) (by rw [C.lams, C.ql]; exact h3) h4 h5 (S.e C tk h6)
  · -- keywords
    split at hh <;> first | cases hh | skip
    rename_i hc
    simp only [Bool.and_eq_true] at hc
    obtain ⟨c1, c2, c3⟩ := hc
    obtain ⟨hg, hd⟩ := gl_of C c1
    obtain ⟨ks, h0, hh⟩ := bind2 hh
    obtain ⟨m1, h1, hh⟩ := bind2 hh
    obtain ⟨m2, h2, rfl⟩ := map2 hh
    rw [← C.prm]
    exact se_callK ok tk hg hd (C.fns _ c3) c2 h0 (fun z => by subst z; exact es_nil h1) (S.es C tk h1) (S.kw C tk h2)
  · obtain ⟨m1, h1, rfl⟩ := map2 hh
    exact se_fst (S.f C tk h1)
  · cases hh
theorem plainT_true {e : Expr} {env : PySem.Env} (h : plainT e = true) : ∀ whole, isTrue e env whole = (do let v ← whole; standAt e.pos; holding [v] (truthy v)) := by
  intro whole
  cases e <;> first | (simp [plainT] at h; done) | rfl
theorem pw_pt {e : Expr} {t : TT} (h : PW X e t) : PT X e t := ⟨fun pins s σ H Q I q => h.run _ pins s σ H Q I q⟩
theorem snd_w (S : SndE g n k) {op : BoolOp} {vs : List Expr} {p : Pos} {m : Mn.T} (C : CnOk g n c X) (tk : Takes X W) (hh : trT (k + 1) c (.BoolOp op vs p) = some m) : PW X (.BoolOp op vs p) (TT_ g n X W m) := by
  simp only [trT] at hh
  split at hh
  · rename_i e
    cases e
    obtain ⟨m1, h1, hh⟩ := bind2 hh
    obtain ⟨m2, h2, rfl⟩ := map2 hh
    exact sw_and (S.t C tk h1) (S.w C tk h2)
  · rename_i e
    cases e
    obtain ⟨m1, h1, hh⟩ := bind2 hh
    obtain ⟨m2, h2, rfl⟩ := map2 hh
    exact sw_or (S.t C tk h1) (S.w C tk h2)
  · rename_i e
    cases e
    cases op
    · exact sw_and1 (S.t C tk hh)
    · exact sw_or1 (S.t C tk hh)
  · rename_i e; cases e
  · rename_i e; cases e
  · rename_i e; cases e
  · simp [plainT] at hh
theorem snd_t (S : SndE g n k) {e : Expr} {m : Mn.T} (C : CnOk g n c X) (tk : Takes X W) (hh : trT (k + 1) c e = some m) : PT X e (TT_ g n X W m) := by
  have ok := C.ok
  by_cases hb : ∃ op vs p, e = .BoolOp op vs p
  · obtain ⟨op, vs, p, rfl⟩ := hb
    exact (snd_w S C tk hh).pt
  simp only [trT] at hh
  split at hh
  · exact absurd ⟨_, _, _, rfl⟩ hb
  · exact absurd ⟨_, _, _, rfl⟩ hb
  · exact absurd ⟨_, _, _, rfl⟩ hb
  · obtain ⟨m1, h1, rfl⟩ := map2 hh
    exact st_not (S.t C tk h1)
  · split at hh <;> first | cases hh | skip
    rename_i hm
    obtain ⟨o, h0, hh⟩ := bind2 hh
    obtain ⟨m1, h1, hh⟩ := bind2 hh
    obtain ⟨m2, h2, rfl⟩ := map2 hh
    exact st_cmp ok h0 (by simpa using hm) (S.e C tk h1) (S.e C tk h2)
  · split at hh <;> first | cases hh | skip
    rename_i hm
    obtain ⟨o, h0, hh⟩ := bind2 hh
    obtain ⟨o', h0', hh⟩ := bind2 hh
    obtain ⟨m1, h1, hh⟩ := bind2 hh
    obtain ⟨m2, h2, hh⟩ := bind2 hh
    obtain ⟨m3, h3, rfl⟩ := map2 hh
    exact st_chn ok h0 h0' (by simpa using hm) (S.e C tk h1) (S.e C tk h2) (S.e C tk h3)
  · split at hh <;> first | cases hh | skip
    rename_i hp
    obtain ⟨m1, h1, rfl⟩ := map2 hh
    exact st_val (pt_val (pf (S.e C tk h1)) (plainT_true hp))
/-- the translator of expressions is right -/
theorem snd_all : ∀ k, SndE g n k
  | 0 => ⟨fun _ _ h => by simp [trE] at h, fun _ _ h => by simp [trEs] at h, fun _ _ h => by simp [trF] at h, fun _ _ h => by simp [trK] at h, fun _ _ h => by simp [trO] at h, fun _ _ h => by simp [trT] at h, fun _ _ h => by simp [trT] at h, fun _ _ h => by simp [trI] at h⟩
  | k + 1 => by
    have S := snd_all k
    exact ⟨fun C tk h => snd_e S C tk h, fun C tk h => snd_es S C tk h, fun C tk h => snd_f S C tk h, fun C tk h => snd_k S C tk h, fun C tk h => snd_o S C tk h, fun C tk h => snd_t S C tk h, fun C tk h => snd_w S C tk h, fun C tk h => snd_i S C tk h⟩
end
end Mn
end

section
set_option Elab.async false
set_option linter.all false
set_option maxRecDepth 100000
set_option maxHeartbeats 8000000
/-! Mini: the translator is right: statements. -/
namespace Mn
open PySem L2 PySem.Spec PyProof.Rows
structure SndS (g : Pg) (n k : Nat) : Prop where
  s : ∀ {c : Cn} {X : Cx} {W : WX} {s : Stmt} {m : S}, CnOk g n c X → Takes X W → PassesOwn (model X.prog X.w) X.A X.env X.xe → trS k c s = some m → PS X s (TS_ g n X W m)
  ss : ∀ {c : Cn} {X : Cx} {W : WX} {s : List Stmt} {m : Ss}, CnOk g n c X → Takes X W → PassesOwn (model X.prog X.w) X.A X.env X.xe → trSs k c s = some m → PSs X s (TSs_ g n X W m)
section
variable {g : Pg} {n k : Nat} {c : Cn} {X : Cx} {W : WX}
theorem ss_bad {s : Stmt} : PS X s (TS_ g n X W .bad) := ⟨fun pins s σ H D I ⟨O, μ, env, st, R, q⟩ => by simp only [evS] at q; exact q.elim⟩
theorem snd_ss (S : SndS g n k) {s : List Stmt} {m : Ss} (C : CnOk g n c X) (tk : Takes X W) (hp : PassesOwn (model X.prog X.w) X.A X.env X.xe) (hh : trSs (k + 1) c s = some m) : PSs X s (TSs_ g n X W m) := by
  cases s with
  | nil => simp only [trSs] at hh; cases hh; exact ss_nil
  | cons s r =>
    simp only [trSs] at hh
    obtain ⟨m2, h2, rfl⟩ := map2 hh
    refine ss_cons ?_ (S.ss C tk hp h2)
    cases h1 : trS k c s with
    | none => exact ss_bad
    | some m1 => exact S.s C tk hp h1
theorem asg_lc {elt : Expr} {gs : List Comprehension} {scope : Scope} {vp px pos : Pos} {x : Str} {i : Nat} {m : E} {h : Bool} (C : CnOk g n c X) (tk : Takes X W) (hh : trE k c (.ListComp elt gs scope vp) = some m) (hN : c.N[i]? = some x)
    (hsw : swC .function (fun x => c.sc.names.lookup x) (.ListComp elt gs scope vp) x px.line = true) : PS X (.Assign [.Name x px] (.ListComp elt gs scope vp) pos) (TS_ g n X W (.asg i h m)) := by
  cases k with
  | zero => simp [trE] at hh
  | succ k =>
    have S := snd_all (g := g) (n := n) k
    simp only [trE] at hh
    split at hh <;> first | (rename_i e; cases e; done) | skip
    all_goals first | (rename_i e; cases e) | skip
    · obtain ⟨mtg, h0, hh⟩ := bind2 hh
      obtain ⟨mit, h1, hh⟩ := bind2 hh
      split at hh <;> first | cases hh | skip
      rename_i hb
      simp only [Bool.and_eq_true] at hb
      obtain ⟨hb1, hb2⟩ := hb
      obtain ⟨melt, h2, hh⟩ := bind2 hh
      obtain ⟨mt, h3, rfl⟩ := map2 hh
      have hk := blkC_kind hb2
      have hx : c.sc.names.lookup x = some .local := by
        simp only [swC, Bool.and_eq_true, beq_iff_eq] at hsw
        exact hsw.1.1.2
      refine ss_setLc C.ok C.kind hN hx (S.i C tk h1) hb2 own_snd (fun s H C' cl fp => ?_) (fun s H C' cl fp => ?_) (fun s H C' cl fp => ?_) (foldS hb1) hsw
      · have C2 := blk_ok C hk (s := s) (H := H) (C' := C') (cl := cl) (fp := fp)
        exact sg_tg C2.ok C2.fc h0
      · have C2 := blk_ok C hk (s := s) (H := H) (C' := C') (cl := cl) (fp := fp)
        split at h3
        · cases h3
          exact ⟨fun pins s' σ H' Q I q => pts_nil.run pins s' σ H' Q I (by
            obtain ⟨O, μ, env, st, R, q⟩ := q
            simp only [evT] at q
            exact q _ _ ⟨O, μ, R, Ext.refl, rfl⟩)⟩
        · exact pts_one (S.t (W := fun _ _ _ _ => False) C2 takes_no h3)
        · cases h3
      · have C2 := blk_ok C hk (s := s) (H := H) (C' := C') (cl := cl) (fp := fp)
        exact S.e (W := fun _ _ _ _ => False) C2 takes_no h2
    · cases hh
theorem asg_any {e : Expr} {px pos : Pos} {x : Str} {i : Nat} {m : E} {h : Bool} (C : CnOk g n c X) (tk : Takes X W) (hh : trE k c e = some m) (hn : nameAt c.N c.sc c.fc x i = true) : PS X (.Assign [.Name x px] e pos) (TS_ g n X W (.asg i h m)) := by
  have ok := C.ok
  have E := snd_all (g := g) (n := n) k
  by_cases hnc : notComp e = true
  · exact ss_asg ok C.fc hn (swaps_no hnc) (E.e C tk hh)
  have hN : c.N[i]? = some x := by
    simp only [nameAt, Bool.and_eq_true, decide_eq_true_eq] at hn
    exact hn.1
  cases e with
  | ListComp elt gs scope vp =>
    by_cases hsw : swC .function (fun x => c.sc.names.lookup x) (.ListComp elt gs scope vp) x px.line = true
    · exact asg_lc C tk hh hN hsw
    · refine ss_asg ok C.fc hn ?_ (E.e C tk hh)
      rw [swC_ok, blockKind_fn (by rw [ok.scp]; exact C.kind), show X.env.kindOf = fun x => c.sc.names.lookup x from by funext x; show X.env.scope.names.lookup x = _; rw [ok.scp]]
      rw [Bool.not_eq_true] at hsw
      rw [hsw]
  | SetComp a b d e =>
    cases k with
    | zero => simp [trE] at hh
    | succ k => simp [trE] at hh
  | DictComp a b d e f =>
    cases k with
    | zero => simp [trE] at hh
    | succ k => simp [trE] at hh
  | _ => simp [notComp] at hnc
theorem par_any {ts vs : List Expr} {is : List Nat} {ms : Es} {m : Mn.S} {kt k2 : Nat} {pt pt2 pos : Pos} (C : CnOk g n c X) (ha : PA X vs (TA_ g n X W ms)) (h : parK c ts vs is ms = some m) : PS X (.Assign [.Tuple ts kt pt] (.Tuple vs k2 pt2) pos) (TS_ g n X W m) := by
  unfold parK at h
  split at h
  · split at h <;> cases h
    rename_i hc
    simp only [Bool.and_eq_true, decide_eq_true_eq, nmL] at hc
    obtain ⟨h1, ⟨h2, h3⟩, ⟨h4, h5⟩, h6⟩ := hc
    exact ss_par C.ok C.kind h2 h4 h6 h3 h5 ha h1
  · split at h <;> cases h
    rename_i hc
    simp only [Bool.and_eq_true, decide_eq_true_eq, nmL] at hc
    obtain ⟨h1, ⟨h2, h3⟩, ⟨h4, h5⟩, ⟨h6, h7⟩, h8, h9, h10⟩ := hc
    exact ss_par3 C.ok C.kind h2 h4 h6 h8 h9 h10 h3 h5 h7 ha h1
  · cases h
theorem mapM_slots {ts : List Expr} {is : List Nat} (h : namesAt c.N c.sc c.fc ts is = true) : True := trivial
theorem snd_s (S : SndS g n k) {s : Stmt} {m : Mn.S} (C : CnOk g n c X) (tk : Takes X W) (hp : PassesOwn (model X.prog X.w) X.A X.env X.xe) (hh : trS (k + 1) c s = some m) : PS X s (TS_ g n X W m) := by
  have ok := C.ok
  have E := snd_all (g := g) (n := n) k
  simp only [trS] at hh
  split at hh
  · obtain ⟨m1, h1, rfl⟩ := map2 hh
    exact ss_ret (E.e C tk h1)
  · cases hh; exact ss_retN
  · split at hh <;> first | cases hh | skip
    rename_i hc
    obtain ⟨m1, h1, rfl⟩ := map2 hh
    exact ss_ex hc (E.e C tk h1)
  · cases hh; exact ss_pass
  · cases hh; exact ss_brk
  · cases hh; exact ss_cnt
  · obtain ⟨m1, h1, hh⟩ := bind2 hh
    obtain ⟨m2, h2, hh⟩ := bind2 hh
    obtain ⟨m3, h3, rfl⟩ := map2 hh
    exact ss_if (E.t C tk h1) (S.ss C tk hp h2) (S.ss C tk hp h3)
  · obtain ⟨m1, h1, hh⟩ := bind2 hh
    obtain ⟨m2, h2, rfl⟩ := map2 hh
    exact ss_whl hp (E.t C tk h1) (S.ss C tk hp h2)
  · obtain ⟨mtg, h0, hh⟩ := bind2 hh
    obtain ⟨mit, h1, hh⟩ := bind2 hh
    split at hh <;> first | cases hh | skip
    rename_i hs
    obtain ⟨m2, h2, rfl⟩ := map2 hh
    exact ss_frs ok hp (E.i C tk h1) (sg_tg ok C.fc h0) (S.ss C tk hp h2) (foldS hs)
  · obtain ⟨i, hi, hh⟩ := bind2 hh
    split at hh <;> first | cases hh | skip
    rename_i hn
    obtain ⟨m1, h1, rfl⟩ := map2 hh
    exact ss_aug ok C.fc hn (E.e C tk h1)
  · obtain ⟨m1, h1, hh⟩ := bind2 hh
    obtain ⟨m2, h2, rfl⟩ := map2 hh
    exact ss_del ok (E.e C tk h1) (E.e C tk h2)
  · obtain ⟨i, hi, hh⟩ := bind2 hh
    split at hh <;> first | cases hh | skip
    rename_i hn
    simp only [Bool.and_eq_true] at hn
    split at hh <;> first | cases hh | skip
    obtain ⟨m1, h1, rfl⟩ := map2 hh
    exact asg_any C tk h1 hn.1
  · obtain ⟨m1, h1, hh⟩ := bind2 hh
    obtain ⟨m2, h2, rfl⟩ := map2 hh
    exact ss_fset ok (E.e C tk h1) (E.e C tk h2)
  · split at hh <;> first | cases hh | skip
    rename_i hs
    obtain ⟨m1, h1, hh⟩ := bind2 hh
    obtain ⟨m2, h2, hh⟩ := bind2 hh
    obtain ⟨m3, h3, rfl⟩ := map2 hh
    exact ss_iset ok hs (E.e C tk h1) (E.e C tk h2) (E.e C tk h3)
  · obtain ⟨is, hi, hh⟩ := bind2 hh
    split at hh <;> first | cases hh | skip
    rename_i hn
    obtain ⟨ms, h1, hh⟩ := bind2 hh
    split at hh <;> first | cases hh | skip
    rename_i hl
    split at hh
    · rename_i hs
      cases hh
      exact ss_asgs ok C.kind C.fc hn hl (E.es C tk h1) hs
    · exact par_any C (E.es C tk h1) hh
    · cases hh
  · split at hh <;> first | cases hh | skip
    rename_i hs
    simp only [Bool.and_eq_true] at hs
    obtain ⟨j, hj, hh⟩ := bind2 hh
    split at hh <;> first | cases hh | skip
    rename_i hn
    obtain ⟨m1, h1, hh⟩ := bind2 hh
    obtain ⟨m2, h2, hh⟩ := bind2 hh
    obtain ⟨m3, h3, rfl⟩ := map2 hh
    exact ss_unpS ok hs.2 C.fc hn hs.1 (E.e C tk h1) (E.e C tk h2) (E.e C tk h3)
  · obtain ⟨is, hi, hh⟩ := bind2 hh
    split at hh <;> first | cases hh | skip
    rename_i hs
    simp only [Bool.and_eq_true] at hs
    obtain ⟨m1, h1, rfl⟩ := map2 hh
    exact ss_unp ok C.fc hs.1 hs.2 (E.e C tk h1)
  · cases hh
/-- the translator of statements is right -/
theorem snd_stmts : ∀ k, SndS g n k
  | 0 => ⟨fun _ _ _ h => by simp [trS] at h, fun _ _ _ h => by simp [trSs] at h⟩
  | k + 1 => ⟨fun C tk hp h => snd_s (snd_stmts k) C tk hp h, fun C tk hp h => snd_ss (snd_stmts k) C tk hp h⟩
end
end Mn
end

section
set_option Elab.async false
set_option linter.all false
set_option maxRecDepth 100000
set_option maxHeartbeats 4000000
/-! Mini: the head's facts, by a Hook; each def of the program keeps its promise. -/
namespace Mn
open PySem L2 PySem.Spec PyProof.Rows
/-! ### a program's data -/
structure Raw where
  q : Fn
  params : Arguments
  body : List Stmt
  scope : Scope
def Raw.name (r : Raw) : Str := match r.q.2 with
  | none => r.q.1
  | some m => m
def Raw.qual (r : Raw) : Str := match r.q.2 with
  | none => r.q.1
  | some m => r.q.1 ++ (Str.ofString "." ++ m)
def Raw.ps (r : Raw) : List Str := r.params.args.map (·.arg)
def Raw.val (r : Raw) : He.FnW := some (r.name, r.qual, r.params, .stmts r.body, r.scope, mainGlobals, [], builtinsNs)
def rawsOf (p : Program) : List Raw := p.main.body.flatMap fun
  | .FunctionDef n a b _ _ _ sc _ _ _ => [⟨(n, none), a, b, sc⟩]
  | .ClassDef n _ _ body _ _ _ _ _ _ _ => body.filterMap fun
    | .FunctionDef m a b _ _ _ sc _ _ _ => some ⟨(n, some m), a, b, sc⟩
    | _ => none
  | _ => []
def namesS (sc : Scope) : List Str := sc.names.filterMap fun (x, k) => if k = .globalImplicit then none else some x
def tgN : Expr → List Str
  | .Name x _ => [x]
  | .Tuple es _ _ => es.filterMap nameOf
  | _ => []
mutual
def compN : Nat → Expr → List Str
  | 0, _ => []
  | k + 1, e => match e with
    | .ListComp elt gs sc _ => (gs.flatMap fun g => tgN g.target) ++ compN k elt ++ gs.flatMap (fun g => compN k g.iter ++ compL k g.ifs)
    | .BinOp a _ b _ => compN k a ++ compN k b
    | .Call f as _ _ => compN k f ++ compL k as
    | .BoolOp _ es _ => compL k es
    | .UnaryOp _ e _ => compN k e
    | .Compare a _ es _ => compN k a ++ compL k es
    | .IfExp a b c _ => compN k a ++ compN k b ++ compN k c
    | .Tuple es _ _ => compL k es
    | .List es _ => compL k es
    | .Subscript a b _ => compN k a ++ compN k b
    | .Attribute a _ _ => compN k a
    | .Starred a _ => compN k a
    | .JoinedStr es _ => compL k es
    | .FormattedValue e _ _ _ => compN k e
    | _ => []
def compL : Nat → List Expr → List Str
  | 0, _ => []
  | _ + 1, [] => []
  | k + 1, e :: es => compN k e ++ compL k es
end
def compS : Nat → List Stmt → List Str
  | 0, _ => []
  | _ + 1, [] => []
  | k + 1, s :: ss => (match s with
    | .Return (some e) _ => compN k e
    | .Expr e _ => compN k e
    | .Assign _ e _ => compN k e
    | .AugAssign _ _ e _ => compN k e
    | .If t a b _ => compN k t ++ compS k a ++ compS k b
    | .While t a b _ => compN k t ++ compS k a ++ compS k b
    | .For _ it a b _ => compN k it ++ compS k a ++ compS k b
    | _ => []) ++ compS k ss
/-- the slots: parameters first -/
def Raw.N (r : Raw) : List Str := (r.ps ++ (namesS r.scope).filter (fun x => !r.ps.contains x) ++ compS 80 r.body).eraseDups
/-- what a program is, for the evaluator and for its proof -/
structure Pj where
  P : Program
  raws : List Raw
  con : List (Str × D)
  cls : List Str
  props : List (Str × Str)
  flds : List (Str × Str)
  fre : List Str
  dk : Bool
  tf : List Fn
def Pj.prop (j : Pj) (c f : Str) : Bool := j.props.contains (c, f)
def Pj.isM (j : Pj) (c m : Str) : Bool := (j.raws.any fun r => decide (r.q = (c, some m))) && (!(m == ("__init__" : Str)) && !j.prop c m)
def Pj.p (j : Pj) : PTab := ⟨j.con, j.prop, fun c f => j.flds.contains (c, f), j.isM, fun k c => k == c, j.cls, fun _ => []⟩
def Pj.fns (j : Pj) : List Str := j.raws.filterMap fun r => match r.q.2 with
  | none => some r.q.1
  | some _ => none
def Pj.news (j : Pj) : List Str := j.raws.filterMap fun r => match r.q.2 with
  | none => none
  | some m => if (m == ("__init__" : Str)) && !j.prop r.q.1 m then some r.q.1 else none
def fnQ (q : Fn) : Str := match q.2 with
  | none => q.1
  | some m => q.1 ++ (Str.ofString "." ++ m)
def locQ (q : Str) : Str := q ++ (".<locals>." : Str)
def Pj.lams (j : Pj) : List Str := j.tf.map fun q => locQ (fnQ q)
def Pj.prm (j : Pj) (q : Fn) : List Str := match j.raws.find? fun r => decide (r.q = q) with
  | some r => r.ps
  | none => []
def Pj.cn (j : Pj) (r : Raw) : Cn := ⟨r.N, r.scope, fun _ => true, j.p, j.fns, j.news, j.fre, j.dk, locQ r.qual, j.lams, j.prm⟩
def Pj.body (j : Pj) (r : Raw) : Option Ss := trSs 80 (j.cn r) r.body
def Pj.md (j : Pj) (r : Raw) : MDef := ⟨r.N.length, r.ps.length, (j.body r).getD .nil⟩
def Pj.defs (j : Pj) (q : Fn) : Option MDef := (j.raws.find? fun r => decide (r.q = q)).map j.md
/-! ### what is asked of the text alone -/
def fnScB (N ps : List Str) (sc : Scope) : Bool := decide (sc.kind = .function) && (!sc.isCoroutine && (!sc.isGenerator && (decide N.Nodup && (decide (N.take ps.length = ps) && ((ps.all fun x => decide (sc.names.lookup x = some .local) || decide (sc.names.lookup x = some .cell)) && (decide ps.Nodup && sc.names.all fun y => !decide (y.2 = .free)))))))
theorem fnScB_ok {N ps : List Str} {sc : Scope} (h : fnScB N ps sc = true) : FnScope N ps sc ∧ ps.Nodup := by
  unfold fnScB at h
  simp only [Bool.and_eq_true, decide_eq_true_eq, Bool.not_eq_true', List.all_eq_true, Bool.or_eq_true, decide_eq_false_iff_not] at h
  obtain ⟨h1, h2, h3, h4, h5, h6, h7, h8⟩ := h
  exact ⟨⟨h1, h2, h3, h4, h5, h6, fun y hy => h8 y hy⟩, h7⟩
def Pj.txtB (j : Pj) : Bool := (j.raws.all fun r => plainP r.params && (fnScB r.N r.ps r.scope && ((j.body r).isSome && j.tf.all fun q => !decide (locQ (fnQ q) = locQ r.qual) || decide (q = r.q))))
/-! ### the hook -/
def isLst : Obj → Bool
  | ⟨.type c, _, .seq _ _, _⟩ => decide (c = "list")
  | _ => false
def frM (g : Addr → Option Obj) (as : List Addr) : Frag := (He.frT g as).filter fun q => !isLst q.2
theorem frM_mem {g : Addr → Option Obj} {as : List Addr} {a : Addr} {o : Obj} (h : (frM g as).lookup a = some o) : g a = some o ∧ He.emptyTab o = false ∧ isLst o = false := by
  obtain ⟨h1, h2⟩ := List.mem_filter.mp (He.lookup_mem h)
  obtain ⟨h3, h4⟩ := List.mem_filter.mp h1
  refine ⟨He.frG_mem h3, ?_, ?_⟩
  · simpa using h4
  · simpa using h2
theorem frM_in {as : List Addr} {h : Heap} : (frM h.get? as).In h := fun _ _ e => (frM_mem e).1
theorem frM_none {g : Addr → Option Obj} {as : List Addr} {a : Addr} {o : Obj} (h : g a = some o) (ht : He.emptyTab o = true) : (frM g as).lookup a = none := by
  cases e : (frM g as).lookup a with
  | none => rfl
  | some u =>
    obtain ⟨h1, h2, _⟩ := frM_mem e
    rw [h] at h1
    rw [← Option.some.inj h1, ht] at h2
    cases h2
/-- where the function of a name stands -/
def fAp (p : PTab) (K : Frag) (q : Fn) : Addr := match q.2 with
  | none => He.ga K q.1
  | some m => if p.prop q.1 m then (match PySem.W.recIn K (He.ma K (He.ga K q.1) m) "property" with
    | some (.ref a :: _) => a
    | _ => 0) else He.ma K (He.ga K q.1) m
def fnWp (p : PTab) (K : Frag) (q : Fn) : He.FnW := match K.lookup (fAp p K q) with
  | some ⟨_, _, .func fd, _⟩ => some (fd.name, fd.qualname, fd.params, fd.body, fd.scope, fd.globals, fd.closure, fd.builtins)
  | _ => none
def dflS (K : Frag) (has : Bool) : Value → Bool
  | .none => true
  | .ref T => has && (match K.lookup T with
    | some ⟨_, _, .seq _ _, _⟩ => true
    | _ => false)
  | _ => false
def propB (K : Frag) (C : Addr) (m : Str) (f : Addr) : Bool :=
  He.eqO (PySem.W.findIn K (.ref C) m) (some (some (.ref (He.ma K C m)))) && (He.eqO (PySem.W.specialIn K (.ref (He.ma K C m)) "__get__") (some (some (.builtin "property.__get__"))) && (decide (PySem.W.takesIn K (.ref (He.ma K C m)) = some true) &&
    (match PySem.W.recIn K (He.ma K C m) "property" with
    | some (.ref a :: _) => decide (a = f)
    | _ => false)))
def rawB (p : PTab) (K : Frag) (r : Raw) : Bool := (match K.lookup (fAp p K r.q) with
  | some ⟨_, _, .func fd, _⟩ => PySem.W.codeIn K fd.code r.qual && dflS K (!r.params.defaults.isEmpty) fd.defaults
  | _ => false) && (match r.q.2 with
  | none => He.eqO (PySem.W.nsIn K mainGlobals r.q.1) (some (some (.ref (fAp p K r.q)))) && PySem.W.keepIn K (.ref (fAp p K r.q))
  | some m => (He.Fa.cls r.q.1).ok K && (if m = Str.ofString "__init__" then (He.Fa.mkr r.q.1).ok K && ((He.Fa.glo r.q.1).ok K && !p.prop r.q.1 m) else if p.prop r.q.1 m then propB K (He.ga K r.q.1) m (fAp p K r.q) else (He.Fa.meth r.q.1 m).ok K))
def kitB (p : PTab) (K : Frag) (c : Str) : Bool := (He.Fa.cls c).ok K && (He.eqO (PySem.W.findIn K (.ref (He.ga K c)) "__class__") (some (some (.builtin "object.__class__"))) && (He.eqO (PySem.W.specialIn K (.builtin "object.__class__") "__get__") (some (some (.builtin "getset_descriptor.__get__"))) &&
  (decide (PySem.W.takesIn K (.builtin "object.__class__") = some true) && (decide (PySem.W.mroIn K (He.ga K c) (.type "object") = some true) && ((["NoneType", "bool", "int", "str", "tuple", "list", "dict"].all fun T => decide (PySem.W.kitOne K (.type T) (.ref (He.ga K c)) = some false)) &&
  ((tyNames.all fun n => decide (PySem.W.kitOne K (.ref (He.ga K c)) (.type n) = some false)) && ((p.cls.all fun k => decide (PySem.W.kitOne K (.ref (He.ga K k)) (.ref (He.ga K c)) = some (p.sub k c))) && (He.Fa.glo c).ok K)))))))
def conB (K : Frag) : Str × D → Bool
  | (x, .int i) => (He.Fa.int x i).ok K
  | (x, .str z) => (He.Fa.str x z).ok K
  | _ => false
def Pj.exB (j : Pj) (K : Frag) : Bool := (j.raws.all fun r => rawB j.p K r) && ((j.flds.all fun q => (He.Fa.cls q.1).ok K && (He.Fa.noat q.1 q.2).ok K) && ((j.cls.all fun c => kitB j.p K c) && ((j.con.all fun q => conB K q) && j.fre.all fun x => (He.Fa.free x).ok K)))
def codeP (p : PTab) (K : Frag) (q : Fn) : Addr := match K.lookup (fAp p K q) with
  | some ⟨_, _, .func fd, _⟩ => (match fd.code with
    | .ref c => c
    | _ => 0)
  | _ => 0
def cTp (p : PTab) (K : Frag) (q : Fn) : Addr × Addr := (codeP p K q, He.tabOf K (codeP p K q))
structure SaysM (j : Pj) (h : Heap) (K : Frag) : Prop where
  ok : j.exB K = true
  fn : j.raws.map (fun r => fnWp j.p K r.q) = j.raws.map Raw.val
  hd : ∀ q ∈ j.tf, PySem.W.codeHdIn K (cTp j.p K q).1 (cTp j.p K q).2 = true
  out : ∀ q ∈ j.tf, K.lookup (cTp j.p K q).2 = none
  empty : ∀ q ∈ j.tf, h.get? (cTp j.p K q).2 = some { cls := .none, data := .fields #[] }
  nl : ∀ a o, K.lookup a = some o → isLst o = false
  nd : (j.tf.map fun q => (cTp j.p K q).2).Nodup
def tabsM (p : PTab) (g : Addr → Option Obj) (tf : List Fn) (K : Frag) : Bool := tf.all fun q => PySem.W.codeHdIn K (cTp p K q).1 (cTp p K q).2 && (match g (cTp p K q).2 with
  | some o => He.emptyTab o
  | none => false)
abbrev AlM : Type := Bool × List He.FnW
def obsM (n : Nat) (j : Pj) (g : Addr → Option Obj) : AlM := (j.exB (frM g (He.asD g n)) && (tabsM j.p g j.tf (frM g (He.asD g n)) && decide (j.tf.map fun q => (cTp j.p (frM g (He.asD g n)) q).2).Nodup), j.raws.map fun r => fnWp j.p (frM g (He.asD g n)) r.q)
def valM (j : Pj) : AlM := (true, j.raws.map Raw.val)
theorem saysM_of {n : Nat} {j : Pj} {h : Heap} (e : obsM n j h.get? = valM j) : SaysM j h (frM h.get? (He.asD h.get? n)) := by
  have e1 : (j.exB (frM h.get? (He.asD h.get? n)) && (tabsM j.p h.get? j.tf (frM h.get? (He.asD h.get? n)) && decide (j.tf.map fun q => (cTp j.p (frM h.get? (He.asD h.get? n)) q).2).Nodup)) = true := congrArg (fun z : AlM => z.1) e
  have e2 := congrArg (fun z : AlM => z.2) e
  obtain ⟨h1, e1⟩ := He.ba e1
  obtain ⟨h2, hnd⟩ := He.ba e1
  have key : ∀ p ∈ j.tf, PySem.W.codeHdIn (frM h.get? (He.asD h.get? n)) (cTp j.p (frM h.get? (He.asD h.get? n)) p).1 (cTp j.p (frM h.get? (He.asD h.get? n)) p).2 = true ∧ ∃ o, h.get? (cTp j.p (frM h.get? (He.asD h.get? n)) p).2 = some o ∧ He.emptyTab o = true := fun p hp => by
    obtain ⟨h3, h4⟩ := He.ba (List.all_eq_true.mp h2 p hp)
    refine ⟨h3, ?_⟩
    cases q : h.get? (cTp j.p (frM h.get? (He.asD h.get? n)) p).2 with
    | none =>
      rw [q] at h4
      cases h4
    | some o =>
      rw [q] at h4
      exact ⟨o, rfl, h4⟩
  exact ⟨h1, e2, fun p hp => (key p hp).1, fun p hp => by
    obtain ⟨_, o, q, z⟩ := key p hp
    exact frM_none q z, fun p hp => by
    obtain ⟨_, o, q, z⟩ := key p hp
    rw [q, He.emptyTab_eq z], fun a o e => (frM_mem e).2.2, of_decide_eq_true hnd⟩
def hookM (n : Nat) (j : Pj) : PySem.W.Hook where
  α := AlM
  obs := fun s => obsM n j s.heap.get?
  val := fun _ => valM j
  says := fun _ h => ∃ K : PySem.W.Frag, K.In h ∧ SaysM j h K
  of := fun _ _ e => ⟨_, frM_in, saysM_of e⟩
  keeps := fun _ _ _ ⟨K, hK, c⟩ k => ⟨K, PySem.W.Frag.In.keeps hK k, ⟨c.ok, c.fn, c.hd, c.out, fun p hp => k _ _ (c.empty p hp), c.nl, c.nd⟩⟩
theorem obsM_eq {n : Nat} {j : Pj} {g : Addr → Option Obj} {s : Shared} (h : ∀ a, g a = s.heap.get? a) : obsM n j g = (hookM n j).obs s := by
  have e : g = s.heap.get? := funext h
  rw [e] <;> rfl
end Mn
end

section
set_option Elab.async false
set_option linter.all false
set_option maxRecDepth 100000
set_option maxHeartbeats 4000000
/-! Mini: each def of the program keeps its promise; a law's end. -/
namespace Mn
open PySem L2 PySem.Spec PyProof.Rows
/-- the tables of the defs that make lambdas -/
def Pj.T (j : Pj) (K : Frag) : List (Addr × Str) := j.tf.map fun q => ((cTp j.p K q).2, locQ (fnQ q) ++ "<lambda>")
abbrev Pj.g (j : Pj) (fuel : Nat) (T : List (Addr × Str)) : Pg := ⟨j.p, fuel, j.defs, j.prm, T, j.lams⟩
section
variable {j : Pj} {fuel : Nat} {T : List (Addr × Str)} {P : Program} {w : World} {K : Frag} {mg : Str → Option Value} {base : Heap} {h : Heap}
theorem and3 {a b : Bool} (h : (a && b) = true) : a = true ∧ b = true := Bool.and_eq_true_iff.mp h
theorem SaysM.parts (c : SaysM j h K) : (∀ r ∈ j.raws, rawB j.p K r = true) ∧ (∀ q ∈ j.flds, (He.Fa.cls q.1).ok K = true ∧ (He.Fa.noat q.1 q.2).ok K = true) ∧ (∀ x ∈ j.cls, kitB j.p K x = true) ∧ (∀ q ∈ j.con, conB K q = true) ∧ ∀ x ∈ j.fre, (He.Fa.free x).ok K = true := by
  obtain ⟨h1, z⟩ := and3 c.ok
  obtain ⟨h2, z⟩ := and3 z
  obtain ⟨h3, z⟩ := and3 z
  obtain ⟨h4, h5⟩ := and3 z
  exact ⟨List.all_eq_true.mp h1, fun q hq => and3 (List.all_eq_true.mp h2 q hq), List.all_eq_true.mp h3, List.all_eq_true.mp h4, List.all_eq_true.mp h5⟩
theorem SaysM.fnEq (c : SaysM j h K) {r : Raw} (hr : r ∈ j.raws) : fnWp j.p K r.q = r.val := List.map_inj_left.mp c.fn r hr
theorem raw_fn (c : SaysM j h K) {r : Raw} (hr : r ∈ j.raws) : ∃ (oc : Value) (od : Option Addr) (osl : Array (Option Value)) (dV kV doc pm : Value) (an : Option Addr) (cdv ct : Value),
    K.lookup (fAp j.p K r.q) = some ⟨oc, od, .func (PySem.W.fnOf r.name r.qual r.params r.body r.scope dV kV doc pm an cdv ct), osl⟩ ∧ PySem.W.codeIn K cdv r.qual = true ∧ dflS K (!r.params.defaults.isEmpty) dV = true := by
  have e := c.fnEq hr
  obtain ⟨c2, _⟩ := and3 (c.parts.1 r hr)
  unfold fnWp at e
  cases q : K.lookup (fAp j.p K r.q) with
  | none =>
    rw [q] at c2
    cases c2
  | some o =>
    obtain ⟨oc, od, dt, osl⟩ := o
    rw [q] at c2 e
    cases dt with
    | func fd =>
      obtain ⟨n1, n2, n3, n4, n5, n6, n7, n8, n9, n10, n11, n12, n13, n14, n15⟩ := fd
      have e2 : (some (n1, n2, n3, n4, n5, n6, n7, n15) : He.FnW) = some (r.name, r.qual, r.params, .stmts r.body, r.scope, mainGlobals, [], builtinsNs) := e
      simp only [Option.some.injEq, Prod.mk.injEq] at e2
      obtain ⟨h1, h2, h3, h4, h5, h6, h7, h8⟩ := e2
      subst h1 h2 h3 h4 h5 h6 h7 h8
      obtain ⟨k1, k2⟩ := and3 c2
      exact ⟨oc, od, osl, n8, n9, n10, n11, n12, n13, n14, rfl, k1, k2⟩
    | _ => cases c2
theorem propB_ok {C : Addr} {m : Str} {f : Addr} (h : propB K C m f = true) : PropOf K C m (He.ma K C m) f := by
  obtain ⟨h1, z⟩ := and3 h
  obtain ⟨h2, z⟩ := and3 z
  obtain ⟨h3, z⟩ := and3 z
  refine ⟨He.eqO_ok h1, He.eqO_ok h2, of_decide_eq_true h3, ?_⟩
  split at z
  · rename_i a rest e
    exact ⟨rest, by rw [e, of_decide_eq_true z]⟩
  · cases z
theorem raw_gl (c : SaysM j h K) (X : K.In h) (G : h.Ns mainGlobals mg) {r : Raw} (hr : r ∈ j.raws) (hq : r.q.2 = none) : mg r.q.1 = some (.ref (fAp j.p K r.q)) ∧ PySem.W.keepIn K (.ref (fAp j.p K r.q)) = true := by
  obtain ⟨_, z⟩ := and3 (c.parts.1 r hr)
  rw [hq] at z
  obtain ⟨h1, h2⟩ := and3 z
  exact ⟨PySem.W.mg_of X G (He.eqO_ok h1), h2⟩
theorem raw_me (c : SaysM j h K) (X : K.In h) (G : h.Ns mainGlobals mg) {r : Raw} (hr : r ∈ j.raws) {m : Str} (hq : r.q.2 = some m) : Cls K (He.ga K r.q.1) ∧ (m = "__init__" → Mk K (He.ga K r.q.1) (fAp j.p K r.q) ∧ mg r.q.1 = some (.ref (He.ga K r.q.1))) ∧
    (j.p.prop r.q.1 m = true → ∃ pa, PropOf K (He.ga K r.q.1) m pa (fAp j.p K r.q)) ∧ (m ≠ "__init__" → j.p.prop r.q.1 m = false → Meth K (He.ga K r.q.1) m (fAp j.p K r.q)) := by
  obtain ⟨_, z⟩ := and3 (c.parts.1 r hr)
  rw [hq] at z
  obtain ⟨h1, z⟩ := and3 z
  refine ⟨He.cls_ok h1, fun e => ?_, fun e => ?_, fun e1 e2 => ?_⟩
  · have e : m = Str.ofString "__init__" := e
    rw [if_pos e] at z
    obtain ⟨h2, z⟩ := and3 z
    obtain ⟨h3, h4⟩ := and3 z
    have hp : j.p.prop r.q.1 m = false := by simpa using h4
    have ef : fAp j.p K r.q = He.ma K (He.ga K r.q.1) "__init__" := by
      unfold fAp
      rw [hq]
      dsimp only
      rw [if_neg (by rw [hp]; simp), e]
    rw [ef]
    exact ⟨He.mkr_ok h2, He.glo_ok X G h3⟩
  · by_cases hm : m = Str.ofString "__init__"
    · rw [if_pos hm] at z
      obtain ⟨_, z⟩ := and3 z
      obtain ⟨_, h4⟩ := and3 z
      rw [e] at h4
      cases h4
    · rw [if_neg hm, if_pos e] at z
      exact ⟨_, propB_ok z⟩
  · have e1 : ¬ m = Str.ofString "__init__" := e1
    rw [if_neg e1, if_neg (by rw [e2]; simp)] at z
    have ef : fAp j.p K r.q = He.ma K (He.ga K r.q.1) m := by
      unfold fAp
      rw [hq]
      dsimp only
      rw [if_neg (by rw [e2]; simp)]
    rw [ef]
    exact He.meth_ok z
theorem kitB_ok (X : K.In h) (G : h.Ns mainGlobals mg) {c : Str} (z : kitB j.p K c = true) : KitC j.p K mg c := by
  unfold kitB at z
  obtain ⟨h1, z⟩ := and3 z
  obtain ⟨h2, z⟩ := and3 z
  obtain ⟨h3, z⟩ := and3 z
  obtain ⟨h4, z⟩ := and3 z
  obtain ⟨h5, z⟩ := and3 z
  obtain ⟨h6, z⟩ := and3 z
  obtain ⟨h7, z⟩ := and3 z
  obtain ⟨h8, h9⟩ := and3 z
  exact ⟨He.cls_ok h1, He.eqO_ok h2, He.eqO_ok h3, of_decide_eq_true h4, of_decide_eq_true h5, fun T hT => of_decide_eq_true (List.all_eq_true.mp h6 T (List.contains_iff_mem.mp hT)), fun T hT => of_decide_eq_true (List.all_eq_true.mp h7 T (List.contains_iff_mem.mp hT)),
    fun k hk => of_decide_eq_true (List.all_eq_true.mp h8 k (List.contains_iff_mem.mp hk)), He.glo_ok X G h9⟩
theorem lookup_mem2 {α : Type} {x : Str} {d : α} : ∀ {l : List (Str × α)}, l.lookup x = some d → (x, d) ∈ l
  | [], h => by cases h
  | (y, e) :: l, h => by
    rw [List.lookup_cons] at h
    split at h
    · rename_i q
      cases h
      rw [beq_iff_eq.mp q]
      exact List.mem_cons_self ..
    · exact List.mem_cons_of_mem _ (lookup_mem2 h)
theorem con_ok (c : SaysM j h K) (X : K.In h) (G : h.Ns mainGlobals mg) {x : Str} {d : D} (hl : j.con.lookup x = some d) : ∃ u v, mg x = some u ∧ RelV v u ∧ ∀ O μ H, VR O μ H d v := by
  have z := c.parts.2.2.2.1 _ (lookup_mem2 hl)
  cases d with
  | int i =>
    obtain ⟨t, e⟩ := He.int_ok X G (show (He.Fa.int x i).ok K = true from z)
    exact ⟨_, .int i, e, ⟨t, rfl⟩, fun _ _ _ => rfl⟩
  | str s =>
    obtain ⟨t, e⟩ := He.str_ok X G (show (He.Fa.str x s).ok K = true from z)
    exact ⟨_, .str s, e, ⟨t, rfl⟩, fun _ _ _ => rfl⟩
  | _ => cases z
theorem defs_raw {q : Fn} {d : MDef} (e : j.defs q = some d) : ∃ r ∈ j.raws, r.q = q ∧ j.md r = d ∧ j.prm q = r.ps := by
  unfold Pj.defs at e
  obtain ⟨r, h1, h2⟩ := Option.map_eq_some_iff.mp e
  refine ⟨r, List.mem_of_find?_eq_some h1, of_decide_eq_true (List.find?_some (p := fun r : Raw => decide (r.q = q)) h1), h2, ?_⟩
  unfold Pj.prm
  rw [h1]
theorem defs_some {q : Fn} (h : (j.raws.any fun r => decide (r.q = q)) = true) : (j.defs q).isSome = true := by
  unfold Pj.defs
  rw [Option.isSome_map]
  rw [List.find?_isSome]
  rw [List.any_eq_true] at h
  exact h
theorem contains_filterMap {f : Raw → Option Str} {x : Str} (h : (j.raws.filterMap f).contains x = true) : ∃ r ∈ j.raws, f r = some x := by
  rw [List.contains_iff_mem, List.mem_filterMap] at h
  exact h
theorem raw_defs {r : Raw} (hr : r ∈ j.raws) {q : Fn} (e : r.q = q) : (j.defs q).isSome = true := defs_some (List.any_eq_true.mpr ⟨r, hr, decide_eq_true e⟩)
theorem txt_lam (ht : j.txtB = true) {r : Raw} (hr : r ∈ j.raws) {q : Fn} (hq : q ∈ j.tf) (e : locQ (fnQ q) = locQ r.qual) : q = r.q := by
  obtain ⟨_, z⟩ := and3 (List.all_eq_true.mp (show (j.raws.all fun r => plainP r.params && (fnScB r.N r.ps r.scope && ((j.body r).isSome && j.tf.all fun q => !decide (locQ (fnQ q) = locQ r.qual) || decide (q = r.q)))) = true from ht) r hr)
  obtain ⟨_, z⟩ := and3 z
  obtain ⟨_, z⟩ := and3 z
  have z2 := List.all_eq_true.mp z q hq
  rw [decide_eq_true e, Bool.not_true, Bool.false_or] at z2
  exact of_decide_eq_true z2
theorem txt_ok (ht : j.txtB = true) {r : Raw} (hr : r ∈ j.raws) : plainP r.params = true ∧ FnScope r.N r.ps r.scope ∧ r.ps.Nodup ∧ trSs 80 (j.cn r) r.body = some (j.md r).body := by
  obtain ⟨h1, z⟩ := and3 (List.all_eq_true.mp (show (j.raws.all fun r => plainP r.params && (fnScB r.N r.ps r.scope && ((j.body r).isSome && j.tf.all fun q => !decide (locQ (fnQ q) = locQ r.qual) || decide (q = r.q)))) = true from ht) r hr)
  obtain ⟨h2, z⟩ := and3 z
  obtain ⟨h3, _⟩ := and3 z
  obtain ⟨h4, h5⟩ := fnScB_ok h2
  refine ⟨h1, h4, h5, ?_⟩
  obtain ⟨m, hm⟩ := Option.isSome_iff_exists.mp h3
  show j.body r = some ((j.body r).getD .nil)
  rw [hm]
  rfl
theorem cn_ok (c : SaysM j h K) (Xi : K.In h) (G : h.Ns mainGlobals mg) {n : Nat} {X : Cx} {r : Raw} (hr : r ∈ j.raws) (e1 : X.mg = mg) (eq : X.env.qual = locQ r.qual) (S : FnScope r.N r.ps r.scope) (ok : XOk (j.g fuel T) n r.N r.scope X) (hf : ∀ x, X.fn x = true) : CnOk (j.g fuel T) n (j.cn r) X := by
  refine ⟨ok, fun x _ => hf x, S.kind, rfl, fun f hf => ?_, fun f hf => ?_, fun x hx => ?_, eq, rfl, rfl⟩
  · obtain ⟨r2, h2, h3⟩ := contains_filterMap (show j.fns.contains f = true from hf)
    split at h3 <;> cases h3
    rename_i e
    exact raw_defs h2 (by rw [← e])
  · obtain ⟨r2, h2, h3⟩ := contains_filterMap (show j.news.contains f = true from hf)
    split at h3 <;> first | cases h3 | skip
    rename_i m e
    split at h3 <;> cases h3
    rename_i hc
    simp only [Bool.and_eq_true, beq_iff_eq, Bool.not_eq_true'] at hc
    obtain ⟨rfl, hc2⟩ := hc
    exact ⟨raw_defs h2 (by rw [← e]), hc2⟩
  · rw [e1]
    exact He.free_ok Xi G (c.parts.2.2.2.2 x (List.contains_iff_mem.mp hx))
theorem raw_binds (ht : j.txtB = true) {r : Raw} (hr : r ∈ j.raws) {dV kV doc pm cdv ct : Value} {an : Option Addr} {s : Shared} {us : List Value} (hd : dV = .none ∨ ∃ Ta o its n, dV = .ref Ta ∧ s.heap.get? Ta = some o ∧ o.data = .seq its n) (hl : us.length = r.ps.length) :
    BindsTo s (PySem.W.fnOf r.name r.qual r.params r.body r.scope dV kV doc pm an cdv ct) ⟨us, []⟩ (r.ps.zip us) := by
  obtain ⟨h1, _, h3, _⟩ := txt_ok ht hr
  exact bindsTo_plain (fd := PySem.W.fnOf r.name r.qual r.params r.body r.scope dV kV doc pm an cdv ct) h1 h3 hl hd
theorem dflS_ok {b : Bool} {dV : Value} {s : Shared} (X : K.In s.heap) (z : dflS K b dV = true) : dV = .none ∨ ∃ Ta o its n, dV = .ref Ta ∧ s.heap.get? Ta = some o ∧ o.data = .seq its n := by
  cases dV with
  | none => exact .inl rfl
  | ref Ta =>
    obtain ⟨_, z⟩ := and3 z
    cases q : K.lookup Ta with
    | none => rw [q] at z; cases z
    | some o =>
      obtain ⟨oc, od, dt, osl⟩ := o
      rw [q] at z
      cases dt with
      | seq its n => exact .inr ⟨Ta, _, its, n, rfl, X _ _ q, rfl⟩
      | _ => cases z
  | _ => cases z
theorem nodup_at {α β : Type} {f : α → β} : ∀ {l : List α}, (l.map f).Nodup → ∀ {x y : α}, x ∈ l → y ∈ l → f x = f y → x = y
  | [], _, _, _, hx, _, _ => by cases hx
  | a :: l, h, x, y, hx, hy, e => by
    rw [List.map_cons, List.nodup_cons] at h
    rcases List.mem_cons.mp hx with ex | hx2
    · rcases List.mem_cons.mp hy with ey | hy2
      · rw [ex, ey]
      · exact absurd (List.mem_map.mpr ⟨y, hy2, by rw [← e, ex]⟩) h.1
    · rcases List.mem_cons.mp hy with ey | hy2
      · exact absurd (List.mem_map.mpr ⟨x, hx2, by rw [e, ey]⟩) h.1
      · exact nodup_at h.2 hx2 hy2 e
theorem lam_at (c : SaysM j h K) (ht : j.txtB = true) (TB : ∀ p ∈ j.tf.map (cTp j.p K), LamX.TabB base mg p.1 p.2) {r : Raw} (hr : r ∈ j.raws) {oc : Value} {od : Option Addr} {osl : Array (Option Value)} {fd : FuncData} (lk : K.lookup (fAp j.p K r.q) = some ⟨oc, od, .func fd, osl⟩) (hcd : PySem.W.codeIn K fd.code r.qual = true) :
    LamAt (j.g fuel (j.T K)) mg base fd.code r.qual := by
  intro hl
  obtain ⟨q, hq, e⟩ := List.mem_map.mp (List.contains_iff_mem.mp hl)
  have eq := txt_lam ht hr hq e
  subst eq
  obtain ⟨cc, ecc⟩ := He.codeIn_ref hcd
  have e2 : (cTp j.p K r.q).1 = cc := by
    show codeP j.p K r.q = cc
    unfold codeP
    rw [lk]
    show (match fd.code with | .ref c => c | _ => 0) = cc
    rw [ecc]
  refine ⟨cc, (cTp j.p K r.q).2, ecc, ?_, ?_, fun p hp e3 => ?_⟩
  · rw [← e2]
    exact TB _ (List.mem_map.mpr ⟨r.q, hq, rfl⟩)
  · refine List.mem_map.mpr ⟨r.q, hq, ?_⟩
    rw [e]
  · obtain ⟨q2, hq2, rfl⟩ := List.mem_map.mp hp
    have := nodup_at c.nd hq2 hq e3
    subst this
    show locQ (fnQ r.q) ++ _ = _
    rw [e]
/-- each def keeps its promise, at each level -/
theorem lev (c : SaysM j h K) (Xi : K.In h) (G : h.Ns mainGlobals mg) (ht : j.txtB = true) (TB : ∀ p ∈ j.tf.map (cTp j.p K), LamX.TabB base mg p.1 p.2) : ∀ n, Lev (j.g fuel (j.T K)) P w K mg base n := by
  have mth : ∀ x m, (j.g fuel (j.T K)).p.isM x m = true → ((j.g fuel (j.T K)).defs (x, some m)).isSome = true ∧ (j.g fuel (j.T K)).p.prop x m = false ∧ m ≠ "__init__" := fun x m hm => by
    obtain ⟨h1, z⟩ := and3 (show ((j.raws.any fun r => decide (r.q = (x, some m))) && (!(m == ("__init__" : Str)) && !j.prop x m)) = true from hm)
    simp only [Bool.and_eq_true, Bool.not_eq_true', beq_eq_false_iff_ne] at z
    exact ⟨defs_some h1, z.2, z.1⟩
  have fld : ∀ x f, (j.g fuel (j.T K)).p.isF x f = true → Cls K (He.ga K x) ∧ NoAttr K (He.ga K x) f := fun x f hf => by
    obtain ⟨h1, h2⟩ := c.parts.2.1 (x, f) (List.contains_iff_mem.mp hf)
    exact ⟨He.cls_ok h1, He.noat_ok h2⟩
  have kit : ∀ x, (j.g fuel (j.T K)).p.cls.contains x = true → KitC (j.g fuel (j.T K)).p K mg x := fun x hx => kitB_ok Xi G (c.parts.2.2.1 x (List.contains_iff_mem.mp hx))
  have con : ∀ x d, (j.g fuel (j.T K)).p.con.lookup x = some d → ∃ u v, mg x = some u ∧ RelV v u ∧ ∀ O μ H, VR O μ H d v := fun x d hd => con_ok c Xi G hd
  intro n
  induction n with
  | zero =>
    refine ⟨fun q d hd => ?_, mth, fld, kit, con⟩
    obtain ⟨r, hr, rfl, rfl, hpr⟩ := defs_raw hd
    refine ⟨fun A outer s H args us vs Q E _ _ _ _ hs => ?_, by show r.ps.length = (j.prm r.q).length; rw [hpr], fun e => raw_gl c Xi G hr e, fun m e => raw_me c Xi G hr e⟩
    obtain ⟨_, _, _, _, _, _, _, z⟩ := hs
    exact z.elim
  | succ n ih =>
    refine ⟨fun q d hd => ?_, mth, fld, kit, con⟩
    obtain ⟨r, hr, rfl, rfl, hpr⟩ := defs_raw hd
    refine ⟨?_, by show r.ps.length = (j.prm r.q).length; rw [hpr], fun e => raw_gl c Xi G hr e, fun m e => raw_me c Xi G hr e⟩
    obtain ⟨oc, od, osl, dV, kV, doc, pm, an, cdv, ct, lk, hcd, hds⟩ := raw_fn c hr
    obtain ⟨h1, h2, h3, h4⟩ := txt_ok ht hr
    have F := fn_bodyF (g := j.g fuel (j.T K)) (w := w) (name := r.name) (qual := r.qual) (params := r.params) (body := r.body) (scope := r.scope) (N := r.N) (ps := r.ps) ih hd rfl rfl lk hcd h2 (lam_at c ht TB hr lk hcd) fun X W e1 e2 e3 e4 e5 eq ok tk hp hf => (snd_stmts 80).ss (cn_ok c Xi G hr e4 eq h2 ok hf) tk hp h4
    rw [show (j.g fuel (j.T K)).prm r.q = r.ps from hpr]
    exact fn_body F h1 rfl h3 fun s X => dflS_ok X hds
end
end Mn
end

section
set_option Elab.async false
set_option linter.all false
set_option maxRecDepth 100000
set_option maxHeartbeats 4000000
/-! Mini: the law is called, nothing being shown. -/
namespace Mn
open PySem L2 PySem.Spec PyProof.Rows
/-- the heap at the law's call: the script, the tables, nothing else -/
def H0 (a : Addr) (o : Obj) (xs : List V) (ts : List Addr) : Hp := fun b => if b = a then some (.frz o (.lst xs)) else if b ∈ ts then some (.tbl #[]) else none
section
variable {P : Program} {w : World} {K : Frag} {mg mb : Str → Option Value} {fa a : Addr} {cs : List (Addr × Addr)} {s : Shared} {vs : List Value} {ns : List Int}
theorem law_run (KX : K.In s.heap) (gl : s.heap.Ns mainGlobals mg) (bl : s.heap.Ns builtinsNs mb) (bb : ∀ x : Str, x ≠ "__name__" → mb x = bootBuiltins x) (lim : s.heap.NoLimit) (g0 : s.gens = #[])
    (tab : ∀ p ∈ cs, s.heap.get? p.2 = some { cls := .none, data := .fields #[] }) (out : ∀ p ∈ cs, K.lookup p.2 = none) (cod : ∀ p ∈ cs, PySem.W.CodeHd s.heap p.1 p.2)
    (bm : ∃ (b : Addr) (ob : Obj), mg "__builtins__" = some (.ref b) ∧ b ≠ builtinsNs ∧ s.heap.get? b = some ob ∧ ob.cls = .type "module" ∧ ob.dict = some builtinsNs ∧ ob.data = .plain)
    (ob : s.heap.get? a = some { cls := .type "list", data := .seq vs.toArray }) (is : IntsAre vs ns) (len : ns.length ≤ sizeLine) (ka : K.lookup a = none)
    (run : ∀ (base : Heap) (H : Hp), K.In base → base.Ns mainGlobals mg → (∀ p ∈ cs, LamX.TabB base mg p.1 p.2) → (∀ p ∈ cs, H p.2 = some (.tbl #[])) → Rd H a (.lst (ns.map V.int)) → Env0 P w K mg base callerA [] s H →
      codeAny (model P w) callerA (.call (.ref fa) ⟨[.ref a], []⟩) (CR (L2.CX P w) [] P w H s (fun v _ => v = .bl true) fun _ _ _ => False) s) :
    codeAny (model P w) callerA (.call (.ref fa) ⟨[.ref a], []⟩) (fun r s' => r = .ok (.ret (.bool true)) ∧ OldK s.heap s'.heap ∧ s'.os = s.os ∧ AllBare s'.gens) s := by
  let o0 : Obj := { cls := .type "list", data := .seq vs.toArray }
  let ts := cs.map (·.2)
  let H := H0 a o0 (ns.map V.int) ts
  have rv := vals_ints is
  have tsAt : ∀ b ∈ ts, s.heap.get? b = some { cls := .none, data := .fields #[] } := fun b hb => by
    obtain ⟨p, hp, rfl⟩ := List.mem_map.mp hb
    exact tab p hp
  have aN : a ∉ ts := fun z => by
    have e := (tsAt a z).symm.trans ob
    cases e
  have Ha : H a = some (.frz o0 (.lst (ns.map V.int))) := if_pos rfl
  have Ht : ∀ b ∈ ts, H b = some (.tbl #[]) := fun b hb => (if_neg fun z : b = a => aN (z ▸ hb)).trans (if_pos hb)
  have Hn : ∀ b, b ≠ a → b ∉ ts → H b = none := fun b h1 h2 => (if_neg h1).trans (if_neg h2)
  have far : ∀ {b : Addr} {o : Obj}, s.heap.get? b = some o → (∀ v n, o.data ≠ .seq v n) → o.data ≠ .fields #[] → H b = none := fun {b o} e h1 h2 => by
    refine Hn b (fun z => ?_) fun z => ?_
    · subst z; rw [ob] at e; cases e; exact h1 _ _ rfl
    · rw [tsAt b z] at e; cases e; exact h2 rfl
  have toB : ∀ {b : Addr} {o : Obj}, s.heap.get? b = some o → H b = none → (hidT s.heap H).get? b = some o := fun e n => hidT_get e n
  have plain : ∀ {b : Addr} {o : Obj}, s.heap.get? b = some o → (∀ v n, o.data ≠ .seq v n) → o.data ≠ .fields #[] → (hidT s.heap H).get? b = some o := fun e h1 h2 => toB e (far e h1 h2)
  have dct : ∀ {b : Addr} {o : Obj} {es : Array DictEntry} {ep : Nat}, s.heap.get? b = some o → o.data = .dict es ep → (hidT s.heap H).get? b = some o := fun e d => plain e (fun v n z => by rw [d] at z; cases z) fun z => by rw [d] at z; cases z
  have nsB : ∀ {b : Addr} {m : Str → Option Value}, s.heap.Ns b m → (hidT s.heap H).Ns b m := fun ⟨o, es, ep, e, d, r⟩ => ⟨o, es, ep, dct e d, d, r⟩
  have KB : K.In (hidT s.heap H) := fun b o e => toB (KX b o e) (Hn b (fun z => by rw [z, ka] at e; cases e) fun z => by
    obtain ⟨p, hp, rfl⟩ := List.mem_map.mp z
    rw [out p hp] at e
    cases e)
  have mod : L2.Mod K mg (hidT s.heap H) := ⟨KB, nsB gl, ⟨mb, nsB bl, bb⟩, let ⟨mc, h1, h2⟩ := lim; ⟨mc, nsB h1, h2⟩⟩
  have tb : ∀ p ∈ cs, LamX.TabB (hidT s.heap H) mg p.1 p.2 := fun p hp => by
    have et := tab p hp
    obtain ⟨og, eg, kg, hog, hdg, _⟩ := id gl
    refine ⟨?_, ?_, fun z => ?_⟩
    · obtain ⟨o, us, f1, f2, f3, f4, f5, f6, f7, e, c1, c2, c3, rest⟩ := cod p hp
      exact ⟨o, us, f1, f2, f3, f4, f5, f6, f7, plain e (fun v n z => by rw [c2] at z; cases z) (fun z => by rw [c2] at z; cases z; simp at c3), c1, c2, c3, rest⟩
    · obtain ⟨b, ob', b1, b2, b3, b4, b5, b6⟩ := bm
      refine ⟨b, ob', b1, b2, fun z => ?_, fun z => ?_, plain b3 (fun v n z => by rw [b6] at z; cases z) (fun z => by rw [b6] at z; cases z), b4, b5, b6⟩
      · rw [z, hog] at b3; cases b3; rw [hdg] at b6; cases b6
      · rw [z, et] at b3; cases b3; cases b6
    · rw [z, et] at hog; cases hog; cases hdg
  have hok : HOk P w H s.heap := fun b u z => by
    by_cases h1 : b = a
    · subst h1
      rw [Ha] at z
      cases z
      exact ⟨ob, by rw [List.length_map]; exact len, vs, _, rv, ob⟩
    · by_cases h2 : b ∈ ts
      · rw [Ht b h2] at z; cases z; exact tsAt b h2
      · rw [Hn b h1 h2] at z; cases z
  have env : Env0 P w K mg (hidT s.heap H) callerA [] s H := ⟨rfl, mod, fun b o e => of_hidT e, Nat.le_of_eq (hidT_size _ _), trivial, fun b hb => (List.not_mem_nil (show b ∈ ([] : List Addr) from hb)).elim, hok, .of_eq g0⟩
  refine codeAny_mono (run _ H KB (nsB gl) tb (fun p hp => Ht _ (List.mem_map.mpr ⟨p, hp, rfl⟩)) (.inr ⟨_, Ha⟩) env) fun r s' h => ?_
  cases r with
  | error e => exact (by obtain ⟨_, _, _, _, _, _, _, _, _, _, _, _, z⟩ := h; exact z : False).elim
  | ok fl =>
    cases fl with
    | next => exact False.elim h
    | brk => exact False.elim h
    | cont => exact False.elim h
    | ret u =>
      obtain ⟨v, H', os, bare, un, hok', rl, q⟩ := h
      have q : v = .bl true := q
      subst q
      have e : u = Value.bool true := rl
      subst e
      have stay : ∀ b o, b ∉ ts → s.heap.get? b = some o → s'.heap.get? b = some o := fun b o nb e => by
        by_cases h1 : b = a
        · subst h1
          rw [ob] at e
          cases e
          exact (hok' b _ (un.frzs b o0 _ Ha)).1
        · exact un.keep b o e (Hn b h1 nb) (fun z => (List.not_mem_nil (show b ∈ ([] : List Addr) from z)).elim) (by simp)
      have more : ∀ b ∈ ts, ∃ m : Array Value, s'.heap.get? b = some { cls := .none, data := .fields m } := fun b hb => by
        obtain ⟨m, z⟩ := un.tbls b #[] (Ht b hb)
        exact ⟨_, hok' b _ z⟩
      refine ⟨rfl, ⟨fun b o e => ?_, fun b o e => ?_⟩, os, bare⟩
      · by_cases hb : b ∈ ts
        · obtain ⟨m, hm⟩ := more b hb
          rw [tsAt b hb] at e
          cases e
          obtain ⟨p, hp, rfl⟩ := List.mem_map.mp hb
          exact .inr (.inl ⟨((cod p hp).tab (tab p hp)).isCodeTable, rfl, #[], m, rfl, by rw [Array.empty_append]; exact hm⟩)
        · exact .inl (stay b o hb e)
      · by_cases hb : b ∈ ts
        · obtain ⟨m, hm⟩ := more b hb
          exact ⟨_, hm⟩
        · exact ⟨o, stay b o hb e⟩
end
end Mn
end

section
set_option Elab.async false
set_option linter.all false
set_option maxRecDepth 100000
set_option maxHeartbeats 4000000
/-! Mini: a law's end. -/
namespace Mn
open PySem L2 PySem.Spec PyProof.Rows
section
variable {j : Pj} {fuel : Nat} {w : World} {K : Frag} {mg : Str → Option Value} {h : Heap}
abbrev lawF : Fn := (Str.ofString "law", none)
theorem vrs_ints {O : Own} {μ : List Addr} {H : Hp} : ∀ ns : List Int, VRs O μ H (ns.map D.int) (ns.map V.int)
  | [] => VRs.nil
  | n :: ns => VRs.cons (by simp only [VR]) (vrs_ints ns)
/-- the script as it stands -/
theorem script_rel {T : List (Addr × Str)} {H : Hp} {a : Addr} {ns : List Int} (hT : LamX.Tabs T H) (hS : Rd H a (.lst (ns.map V.int))) : ∃ (k : Bool) (O : Own), StR K T O [a] [] [.lst k (ns.map D.int)] [] H ∧ VRs O [a] H [.loc 0] [.ref a] := by
  have hv : ∀ O, VRs O [a] H (ns.map D.int) (ns.map V.int) := fun O => vrs_ints ns
  let O : Own := fun b => if b = a then some (.obj 0) else none
  have ho : O a = some (.obj 0) := if_pos rfl
  have hn : ∀ b t, O b = some t → b = a := fun b t e => by
    by_cases q : b = a
    · exact q
    · rw [show O b = none from if_neg q] at e; cases e
  have key : ∀ k, OR K O [a] H (.lst k (ns.map D.int)) a → StR K T O [a] [] [.lst k (ns.map D.int)] [] H ∧ VRs O [a] H [.loc 0] [.ref a] := fun k hr => by
    refine ⟨⟨fun i d e => by simp at e, rfl, rfl, fun i o e => ?_, fun b t e => ?_, hT, fun b i e => ?_⟩, ?_⟩
    · cases i with
      | zero =>
        simp at e
        subst e
        exact ⟨a, rfl, .inl ho, hr⟩
      | succ i => simp at e
    · rw [hn b t e]
      rcases hS with z | ⟨o, z⟩
      · exact ⟨_, z⟩
      · exact ⟨_, z⟩
    · rcases e with e | ⟨o, e⟩
      · have := hn b _ e
        rw [this, ho] at e
        cases e
        rw [this]; rfl
      · have := hn b _ e
        rw [this, ho] at e
        cases e
    · exact VRs.cons (by simp only [VR]; exact ⟨a, rfl, rfl⟩) VRs.nil
  rcases hS with z | ⟨o, z⟩
  · exact ⟨false, O, key false ⟨_, z, hv O⟩⟩
  · exact ⟨true, O, key true ⟨_, ⟨o, z⟩, hv O⟩⟩
/-- what the evaluator must say of the law -/
def LawSays (j : Pj) (fuel n : Nat) : Prop := ∀ (k : Bool) (ns : List Int), ns.length ≤ 63 → (∀ z ∈ ns, Builtin.Int.intBits z ≤ 1048576) → ∃ st', callN j.p fuel j.defs (n + 1) lawF [.loc 0] [.lst k (ns.map D.int)] = .ok (.d (.bl true)) st'
theorem law_walk {l : PySem.W.OpenLaw} {q : Program} {loose : List Str} {XP : (Str → Option Value) → Heap → Prop} {YP : World → Heap → Prop} {d : DefRec} {x : Str} {n : Nat} (hn : l.most = some 63) (hdf : d.params.defaults = []) (hdn : d.name = ("law" : Str)) (hr : RoomG (4 * (n + 1)) callerA)
    (F : ∀ (w : World) (h : Heap), YP w h → ∃ K : Frag, K.In h ∧ SaysM j h K) (ht : j.txtB = true) {r : Raw} (hrw : r ∈ j.raws) (hq : r.q = lawF) (hps : r.ps = [x]) (hdf2 : r.params.defaults = []) (hd : j.defs lawF = some (j.md r)) (claim : LawSays j fuel n) :
    PySem.W.WalkO q loose XP YP l.row.toRowW d [] (fun f vs => PySem.call f vs) := by
  refine Att.attach_callB hn hdf fun w s₀ s₁ mg mb fa o pm cd doc a vs ns Gr Y ho hdd hcd0 hmg hobj hints hlen hbits hg => ?_
  obtain ⟨K, KX, c⟩ := F w _ Y
  have G := Gr.T.g
  have ka : K.lookup a = none := by
    cases e : K.lookup a with
    | none => rfl
    | some oo =>
      have e2 := KX a oo e
      rw [hobj] at e2
      have := c.nl a oo e
      cases e2
      simp [isLst] at this
  obtain ⟨oc, od, osl, dV, kV, doc, pm, an, cdv, ct, lk, hcd, hds⟩ := raw_fn c hrw
  obtain ⟨h1, h2, h3, h4⟩ := txt_ok ht hrw
  have hfa : mg ("law" : Str) = some (.ref fa) := by rw [← hdn]; exact hmg
  have eq1 : fa = fAp j.p K r.q := by
    have e := (raw_gl c KX G hrw (by rw [hq])).1
    rw [hq] at e
    have e2 : mg ("law" : Str) = some (.ref (fAp j.p K lawF)) := e
    rw [hfa] at e2
    rw [hq]
    cases e2
    rfl
  subst eq1
  have hdv : dV = .none := by
    rw [hdf2] at hds
    cases dV with
    | none => rfl
    | ref t => simp [dflS] at hds
    | _ => simp [dflS] at hds
  refine law_run (cs := j.tf.map (cTp j.p K)) KX G Gr.T.b Gr.T.builtins Gr.T.nolimit hg (fun p hp => ?_) (fun p hp => ?_) (fun p hp => ?_) Gr.T.bmain hobj hints (Nat.le_trans hlen (by decide)) ka fun base H KB GB TB hT hS env => ?_
  · obtain ⟨q, hq, rfl⟩ := List.mem_map.mp hp
    exact c.empty q hq
  · obtain ⟨q, hq, rfl⟩ := List.mem_map.mp hp
    exact c.out q hq
  · obtain ⟨q, hq, rfl⟩ := List.mem_map.mp hp
    exact PySem.W.codeHd_of_K KX (c.hd q hq)
  · have F := fn_bodyF (g := j.g fuel (j.T K)) (P := l.prog) (w := w) (mg := mg) (base := base) (n := n) (q := lawF) (name := r.name) (qual := r.qual) (params := r.params) (body := r.body) (scope := r.scope) (N := r.N) (ps := r.ps) (lev c KX G ht TB n) hd rfl rfl lk hcd h2 (lam_at c ht TB hrw lk hcd) fun X W e1 e2 e3 e4 e5 eq ok tk hp hf => (snd_stmts 80).ss (cn_ok c KX G hrw e4 eq h2 ok hf) tk hp h4
    obtain ⟨k, O, R, rv⟩ := script_rel (K := K) (T := j.T K) (fun p hp => by
      obtain ⟨q, hq, rfl⟩ := List.mem_map.mp hp
      exact .nil (hT _ (List.mem_map.mpr ⟨q, hq, rfl⟩))) hS
    obtain ⟨st', e⟩ := claim k ns hlen hbits
    refine F.go callerA [] s₁ H ⟨[.ref a], []⟩ [.ref a] [.ref a] _ _ ⟨by show 1 = r.ps.length; rw [hps]; rfl, O, _, _, _, R, rv, ?_⟩ hr (.cons rfl .nil) env (raw_binds ht hrw (.inl hdv) (by rw [hps]; rfl))
    show PostC K _ O _ H (callN j.p fuel j.defs (n + 1) lawF [.loc 0] [.lst k (ns.map D.int)]) _ _
    rw [e]
    intro v H' ⟨O', μ', _, _, g3⟩
    exact g3
end
end Mn
end

section
set_option Elab.async false
set_option linter.all false
set_option maxRecDepth 100000
set_option maxHeartbeats 0
open PySem L2 Mn
namespace K73
abbrev P : Program := PySem.Challenge.pw_bothvanish_k73_whole_lines_about_standin
def cls : List Str := ["Web", "Survey"]
def off : List Fn := []
def raws : List Raw := (rawsOf P).filter fun r => (match r.q.2 with | none => true | some _ => cls.contains r.q.1) && !off.contains r.q
def con : List (Str × D) := P.main.body.filterMap fun
  | .Assign [.Name x _] (.Constant (.int i) _ _) _ => some (x, .int i)
  | .Assign [.Name x _] (.Constant (.str s) _ _) _ => if x == ("__name__" : Str) then none else some (x, .str s)
  | _ => none
def fre : List Str := ["len", "int", "str", "repr", "abs", "divmod", "max", "min", "tuple", "list", "sorted", "all", "any", "range", "enumerate", "isinstance", "bool"]
def flds : List (Str × Str) := [("Web", "count"), ("Web", "ways"), ("Web", "told"), ("Web", "has_ring"), ("Survey", "web"), ("Survey", "known"), ("Survey", "waiting")]
def J : Pj := ⟨P, raws, con, cls, [], flds, fre, true, [(Str.ofString "standings_of", none), (Str.ofString "_law_rows", none)]⟩
def bindsN : Stmt → Option Str
  | .FunctionDef n _ _ _ _ _ _ _ _ _ => some n
  | .ClassDef n _ _ _ _ _ _ _ _ _ _ => some n
  | .Assign [.Name x _] _ _ => some x
  | _ => none
def names : List Str := ((P.main.body.filterMap bindsN).eraseDups).filter fun x => !(x == ("law" : Str) || x == ("__name__" : Str))
def li : Nat := 53
theorem txt : J.txtB = true := by kernel_rfl
end K73
end

section
set_option Elab.async false
set_option linter.all false
set_option maxRecDepth 100000
set_option maxHeartbeats 0
open PySem PySem.W PySem.Calls PyProof.Rows Mn
namespace K73
abbrev R : OpenRow := OpenLaw.row PySem.Challenge.rw_bothvanish_k73_whole_lines_about_standin
def ob (s : SharedT) : AlM := obsM 5 J (HandSHeadRun.getT s)
theorem run (w : World) : HandSHeadRun.RunEq R (view R.prog [li]) (hookM 5 J) ob 12000 names w := by
  intro os
  kernel_rfl
end K73
end

section
set_option Elab.async false
set_option linter.all false
set_option maxRecDepth 100000
set_option maxHeartbeats 1000000
/-! Plain: how calls and loops are computed. -/
namespace Mn
open PySem
/-! ### ends of calls -/
theorem okPre_refl : ∀ (k : Nat) (st : Store), okPre k st st = true
  | _, [] => rfl
  | k, o :: st => by simp [okPre, okPre_refl k st]
theorem fresh_len {st st' : Store} {r r' : RV} (hl : st'.length = st.length) (h : r.fresh st.length st' = some r') : r' = r := by
  unfold RV.fresh at h
  split at h
  · split at h <;> cases h; rfl
  · split at h <;> cases h; rfl
  · rename_i j
    split at h
    · cases h; rfl
    · rename_i hj
      have : st'[j]? = none := List.getElem?_eq_none (by omega)
      rw [this] at h
      cases h
  · split at h <;> cases h; rfl
theorem trim_len {st st' : Store} {r : RV} (hl : st'.length = st.length) : trim st st' r = .ok r st' := by
  unfold trim
  split
  · split
    · rename_i r' h
      rw [fresh_len hl h, ← hl, List.take_length]
    · rfl
  · rfl
theorem trim_same {st : Store} {r : RV} : trim st st r = .ok r st := trim_len rfl
theorem endS_rt {st st' : Store} {r : RV} (hl : st'.length = st.length) : endS st (.rt r st') = .ok r st' := trim_len hl
theorem endS_nx {st st' : Store} {env : Env} (hl : st'.length = st.length) : endS st (.nx env st') = .ok (.d .non) st' := trim_len hl
section
variable {p : PTab} {fuel n : Nat} {F : Fn → Option MDef}
theorem call_go {q : Fn} {d : MDef} {vs : List D} {st : Store} (h : F q = some d) (hl : vs.length = d.np) :
    callN p fuel F (n + 1) q vs st = endS st (evSs p (callN p fuel F n) fuel d.body (vs.map some ++ List.replicate (d.n - d.np) none) st) := by
  simp only [callN, h, hl, if_true]
end
/-! ### loops -/
theorem lc_pure {f : D → Store → Res (Option D)} {h : D → Option D} {st : Store} : ∀ {ds acc : List D}, (∀ d ∈ ds, f d st = .ok (h d) st) → lcLoop f ds acc st = .ok (.fl (acc ++ ds.filterMap h)) st
  | [], acc, _ => by simp [lcLoop]
  | d :: ds, acc, k => by
    have k1 := k d (List.mem_cons_self ..)
    have k2 : ∀ acc, lcLoop f ds acc st = .ok (.fl (acc ++ ds.filterMap h)) st := fun acc => lc_pure (fun x hx => k x (List.mem_cons_of_mem _ hx))
    simp only [lcLoop, k1, Res.bind]
    cases e : h d with
    | none => simp only [List.filterMap_cons, e]; exact k2 acc
    | some x => simp only [List.filterMap_cons, e]; rw [k2 (acc ++ [x])]; simp
/-! ### the simplifier's rules -/
section
variable {α β : Type} {a : α} {st st' : Store} {env : Env}
@[simp] theorem Res.bind_okP {k : α → Store → Res β} : (Res.ok a st).bind k = k a st := rfl
@[simp] theorem Res.bind_exc {e : Ex} {k : α → Store → Res β} : (Res.exc e st : Res α).bind k = .exc e st := rfl
@[simp] theorem Res.bind_bad {k : α → Store → Res β} : (Res.bad : Res α).bind k = .bad := rfl
@[simp] theorem froz_d {x : D} : (Res.ok (.d x) st : Res RV).froz = .ok x st := rfl
@[simp] theorem froz_fl {xs : List D} : (Res.ok (.fl xs) st : Res RV).froz = .ok (.lst xs) st := rfl
@[simp] theorem froz_fd {t : Bool} {xs : List (D × D)} : (Res.ok (.fd t xs) st : Res RV).froz = .ok (.dct t xs) st := rfl
@[simp] theorem froz_bad : (Res.bad : Res RV).froz = .bad := rfl
@[simp] theorem froz_exc {e : Ex} : (Res.exc e st : Res RV).froz = .exc e st := rfl
@[simp] theorem kept_d {x : D} : (Res.ok (.d x) st : Res RV).kept = .ok x st := rfl
@[simp] theorem kept_fl {xs : List D} : (Res.ok (.fl xs) st : Res RV).kept = .ok (.loc st.length) (st ++ [.lst false xs]) := rfl
@[simp] theorem kept_fd {t : Bool} {xs : List (D × D)} : (Res.ok (.fd t xs) st : Res RV).kept = .ok (.loc st.length) (st ++ [.dct t false xs]) := rfl
@[simp] theorem kept_bad : (Res.bad : Res RV).kept = .bad := rfl
@[simp] theorem kept_exc {e : Ex} : (Res.exc e st : Res RV).kept = .exc e st := rfl
@[simp] theorem bool_ok {b : Bool} : (Res.ok (.bl b) st : Res D).bool = .ok b st := rfl
@[simp] theorem bool_bad : (Res.bad : Res D).bool = .bad := rfl
@[simp] theorem bool_exc {e : Ex} : (Res.exc e st : Res D).bool = .exc e st := rfl
@[simp] theorem calm_okP : (Res.ok a st).calm = .ok a st := rfl
@[simp] theorem calm_bad : (Res.bad : Res α).calm = .bad := rfl
@[simp] theorem ofOpt_some : Res.ofOpt (some a) st = .ok a st := rfl
@[simp] theorem ofOpt_none : (Res.ofOpt none st : Res α) = .bad := rfl
@[simp] theorem toS_ok {k : α → Store → RS} : (Res.ok a st).toS env k = k a st := rfl
@[simp] theorem toS_exc {e : Ex} {k : α → Store → RS} : (Res.exc e st : Res α).toS env k = .exc e env st := rfl
@[simp] theorem toS_bad {k : α → Store → RS} : (Res.bad : Res α).toS env k = .bad := rfl
@[simp] theorem seq_nx {k : Env → Store → RS} : (RS.nx env st).seq k = k env st := rfl
@[simp] theorem seq_rt {r : RV} {k : Env → Store → RS} : (RS.rt r st).seq k = .rt r st := rfl
@[simp] theorem seq_bk {k : Env → Store → RS} : (RS.bk env st).seq k = .bk env st := rfl
@[simp] theorem seq_ct {k : Env → Store → RS} : (RS.ct env st).seq k = .ct env st := rfl
@[simp] theorem seq_exc {e : Ex} {k : Env → Store → RS} : (RS.exc e env st).seq k = .exc e env st := rfl
@[simp] theorem seq_bad {k : Env → Store → RS} : RS.bad.seq k = .bad := rfl
@[simp] theorem unl_none {r : RS} : RS.unl none r = r := by cases r <;> rfl
@[simp] theorem unlock_none : unlock st none = st := rfl
@[simp] theorem nxOpt_some : nxOpt env (some st) = .nx env st := rfl
@[simp] theorem part_nil : (Res.ok [] st : Res (List D)).part = .ok none st := rfl
@[simp] theorem part_one {i : Int} : (Res.ok [.int i] st : Res (List D)).part = .ok (some i) st := rfl
@[simp] theorem endS_same {r : RV} : endS st (.rt r st) = .ok r st := endS_rt rfl
@[simp] theorem endS_nx_same : endS st (.nx env st) = .ok (.d .non) st := endS_nx rfl
@[simp] theorem endS_bad : endS st .bad = .bad := rfl
@[simp] theorem bind_ite {c : Prop} [Decidable c] {x y : Res α} {k : α → Store → Res β} : (if c then x else y).bind k = if c then x.bind k else y.bind k := by split <;> rfl
@[simp] theorem froz_ite {c : Prop} [Decidable c] {x y : Res RV} : (if c then x else y).froz = if c then x.froz else y.froz := by split <;> rfl
@[simp] theorem bool_ite {c : Prop} [Decidable c] {x y : Res D} : (if c then x else y).bool = if c then x.bool else y.bool := by split <;> rfl
@[simp] theorem calm_ite {c : Prop} [Decidable c] {x y : Res α} : (if c then x else y).calm = if c then x.calm else y.calm := by split <;> rfl
@[simp] theorem seq_ite {c : Prop} [Decidable c] {x y : RS} {k : Env → Store → RS} : (if c then x else y).seq k = if c then x.seq k else y.seq k := by split <;> rfl
@[simp] theorem toS_ite {c : Prop} [Decidable c] {x y : Res α} {k : α → Store → RS} : (if c then x else y).toS env k = if c then x.toS env k else y.toS env k := by split <;> rfl
@[simp] theorem endS_ite {c : Prop} [Decidable c] {x y : RS} : endS st (if c then x else y) = if c then endS st x else endS st y := by split <;> rfl
end
/-! ### names -/
theorem toNat_inj {a b : Char} (h : a.toNat = b.toNat) : a = b := Char.ext (UInt32.toNat_inj.mp h)
theorem map_inj' {α β : Type} {f : α → β} (hf : ∀ a b, f a = f b → a = b) : ∀ {l m : List α}, l.map f = m.map f → l = m
  | [], [], _ => rfl
  | [], _ :: _, h => by cases h
  | _ :: _, [], h => by cases h
  | a :: l, b :: m, h => by
    simp only [List.map_cons, List.cons.injEq] at h
    rw [hf a b h.1, map_inj' hf h.2]
@[simp] theorem ofS_inj {a b : String} : (Str.ofString a = Str.ofString b) ↔ a = b := by
  constructor
  · intro h
    rw [Str.ofString_eq_toList, Str.ofString_eq_toList] at h
    simp only [Str.mk.injEq] at h
    have h2 := congrArg Array.toList h
    simp only [List.toList_toArray] at h2
    exact String.toList_inj.mp (map_inj' (fun _ _ => toNat_inj) h2)
  · intro h; rw [h]
@[simp] theorem ofS_beq {a b : String} : (Str.ofString a == Str.ofString b) = (a == b) := by
  rw [Bool.eq_iff_iff, beq_iff_eq, beq_iff_eq, ofS_inj]
/-! ### data of ints -/
def tI (s : List Int) : D := .tup (s.map .int)
def lI (s : List Int) : D := .lst (s.map .int)
@[simp] theorem intsOf_ints : ∀ s : List Int, intsOf (s.map D.int) = some s
  | [] => rfl
  | i :: s => by simp [intsOf, intsOf_ints s]
@[simp] theorem pds_ints0 : ∀ s : List Int, pds (s.map D.int) = some (s.map PyData.int)
  | [] => rfl
  | i :: s => by simp [pds, pd, pds_ints0 s]
@[simp] theorem seqOf_tI {st : Store} {s : List Int} : seqOf st (tI s) = some (s.map .int) := rfl
@[simp] theorem seqOf_tup {st : Store} {s : List D} : seqOf st (.tup s) = some s := rfl
@[simp] theorem seqOf_lst {st : Store} {s : List D} : seqOf st (.lst s) = some s := rfl
end Mn
end

section
set_option Elab.async false
set_option linter.all false
set_option maxRecDepth 100000
set_option maxHeartbeats 1000000
/-! Plain: equality of simple data. -/
namespace Mn
open PySem
mutual
/-- data without truth values, dicts and places, so deep -/
def D.sim : Nat → D → Bool
  | _, .non => true
  | _, .int _ => true
  | _, .str s => PyData.strOk s
  | k + 1, .tup xs => D.sims k xs
  | k + 1, .lst xs => D.sims k xs
  | _, _ => false
def D.sims : Nat → List D → Bool
  | _, [] => true
  | k, x :: xs => D.sim k x && D.sims k xs
end
mutual
def D.toP : D → PyData
  | .non => .none
  | .int i => .int i
  | .str s => .str s
  | .tup xs => .tuple (D.toPs xs)
  | .lst xs => .list (D.toPs xs)
  | _ => .none
def D.toPs : List D → List PyData
  | [] => []
  | x :: xs => D.toP x :: D.toPs xs
end
mutual
theorem sim_pd : ∀ {k : Nat} {d : D}, D.sim k d = true → pd d = some d.toP ∧ d.toP.canLay0 = true ∧ d.toP.depth ≤ k
  | k, .non, _ => ⟨rfl, by simp [D.toP, PyData.canLay0], by simp [D.toP, PyData.depth]⟩
  | k, .int _, _ => ⟨rfl, by simp [D.toP, PyData.canLay0], by simp [D.toP, PyData.depth]⟩
  | k, .str s, h => ⟨rfl, by simpa [D.toP, PyData.canLay0, D.sim] using h, by simp [D.toP, PyData.depth]⟩
  | 0, .tup xs, h => by simp [D.sim] at h
  | 0, .lst xs, h => by simp [D.sim] at h
  | k + 1, .tup xs, h => by
    simp only [D.sim] at h
    obtain ⟨h1, h2, h3⟩ := sims_pd h
    refine ⟨by simp [pd, h1, D.toP], by simpa [D.toP, PyData.canLay0] using h2, by simp [D.toP, PyData.depth]; omega⟩
  | k + 1, .lst xs, h => by
    simp only [D.sim] at h
    obtain ⟨h1, h2, h3⟩ := sims_pd h
    refine ⟨by simp [pd, h1, D.toP], by simpa [D.toP, PyData.canLay0] using h2, by simp [D.toP, PyData.depth]; omega⟩
  | k, .bl _, h => by cases k <;> simp [D.sim] at h
  | k, .dct _ _, h => by cases k <;> simp [D.sim] at h
  | k, .loc _, h => by cases k <;> simp [D.sim] at h
theorem sims_pd : ∀ {k : Nat} {xs : List D}, D.sims k xs = true → pds xs = some (D.toPs xs) ∧ PyData.canLayAll0 (D.toPs xs) = true ∧ PyData.depthAll (D.toPs xs) ≤ k
  | k, [], _ => ⟨rfl, by simp [D.toPs, PyData.canLayAll0], by simp [D.toPs, PyData.depthAll]⟩
  | k, x :: xs, h => by
    simp only [D.sims, Bool.and_eq_true] at h
    obtain ⟨h1, h2, h3⟩ := sim_pd h.1
    obtain ⟨h4, h5, h6⟩ := sims_pd h.2
    refine ⟨by simp [pds, h1, h4, D.toPs], by simp [D.toPs, PyData.canLayAll0, h2, h5], by simp [D.toPs, PyData.depthAll]; omega⟩
end
theorem toPs_map : ∀ xs : List D, D.toPs xs = xs.map D.toP
  | [] => rfl
  | x :: xs => by simp [D.toPs, toPs_map xs]
mutual
theorem eqv_sim : ∀ {k j : Nat} {a b : D}, D.sim k a = true → D.sim j b = true → PyData.eqv a.toP b.toP = decide (a = b)
  | k, j, .non, b, _, hb => by cases b <;> simp_all [D.toP, PyData.eqv] <;> (cases j <;> simp [D.sim] at hb)
  | k, j, .int i, b, _, hb => by
    cases b <;> simp_all [D.toP, PyData.eqv] <;> first | (cases j <;> simp [D.sim] at hb; done) | (by_cases e : i = ‹Int› <;> simp [e])
  | k, j, .str s, b, _, hb => by
    cases b <;> simp_all [D.toP, PyData.eqv] <;> first | (cases j <;> simp [D.sim] at hb; done) | (by_cases e : s = ‹Str› <;> simp [e])
  | 0, j, .tup xs, b, ha, _ => by simp [D.sim] at ha
  | 0, j, .lst xs, b, ha, _ => by simp [D.sim] at ha
  | k + 1, j, .tup xs, b, ha, hb => by
    simp only [D.sim] at ha
    cases b with
    | tup ys =>
      cases j with
      | zero => simp [D.sim] at hb
      | succ j =>
        simp only [D.sim] at hb
        simp only [D.toP, PyData.eqv, eqvs_sim ha hb, D.tup.injEq]
    | bl _ => cases j <;> simp [D.sim] at hb
    | dct _ _ => cases j <;> simp [D.sim] at hb
    | loc _ => cases j <;> simp [D.sim] at hb
    | _ => simp [D.toP, PyData.eqv]
  | k + 1, j, .lst xs, b, ha, hb => by
    simp only [D.sim] at ha
    cases b with
    | lst ys =>
      cases j with
      | zero => simp [D.sim] at hb
      | succ j =>
        simp only [D.sim] at hb
        simp only [D.toP, PyData.eqv, eqvs_sim ha hb, D.lst.injEq]
    | bl _ => cases j <;> simp [D.sim] at hb
    | dct _ _ => cases j <;> simp [D.sim] at hb
    | loc _ => cases j <;> simp [D.sim] at hb
    | _ => simp [D.toP, PyData.eqv]
  | k, j, .bl _, b, ha, _ => by cases k <;> simp [D.sim] at ha
  | k, j, .dct _ _, b, ha, _ => by cases k <;> simp [D.sim] at ha
  | k, j, .loc _, b, ha, _ => by cases k <;> simp [D.sim] at ha
theorem eqvs_sim : ∀ {k j : Nat} {a b : List D}, D.sims k a = true → D.sims j b = true → PyData.eqvAll (D.toPs a) (D.toPs b) = decide (a = b)
  | k, j, [], [], _, _ => by simp [D.toPs, PyData.eqvAll]
  | k, j, [], y :: ys, _, _ => by simp [D.toPs, PyData.eqvAll]
  | k, j, x :: xs, [], _, _ => by simp [D.toPs, PyData.eqvAll]
  | k, j, x :: xs, y :: ys, ha, hb => by
    simp only [D.sims, Bool.and_eq_true] at ha hb
    simp only [D.toPs, PyData.eqvAll, eqv_sim ha.1 hb.1, eqvs_sim ha.2 hb.2, List.cons.injEq]
    by_cases e : x = y <;> by_cases e2 : xs = ys <;> simp [e, e2]
end
theorem sims_mem : ∀ {k : Nat} {xs : List D}, D.sims k xs = true → ∀ x ∈ xs, D.sim k x = true
  | k, [], _, x, hx => by cases hx
  | k, y :: ys, h, x, hx => by
    simp only [D.sims, Bool.and_eq_true] at h
    rcases List.mem_cons.mp hx with rfl | hx
    · exact h.1
    · exact sims_mem h.2 x hx
theorem sims_of : ∀ {k : Nat} {xs : List D}, (∀ x ∈ xs, D.sim k x = true) → D.sims k xs = true
  | k, [], _ => by simp [D.sims]
  | k, y :: ys, h => by simp [D.sims, h y (List.mem_cons_self ..), sims_of fun x hx => h x (List.mem_cons_of_mem _ hx)]
theorem sim_shaped {k : Nat} {d : D} (hk : k ≤ 64) (h : D.sim k d = true) : SeqAt.shaped d.toP = true := by
  obtain ⟨_, h2, h3⟩ := sim_pd h
  simp [SeqAt.shaped, h2]
  omega
theorem pdS_sim {st : Store} {k : Nat} {d : D} (h : D.sim k d = true) : pdS st d = some d.toP := by
  have := (sim_pd h).1
  cases d with
  | loc j => cases k <;> simp [D.sim] at h
  | _ => exact this
theorem eqD_sim {st : Store} {k j : Nat} {a b : D} (hk : k ≤ 64) (hj : j ≤ 64) (ha : D.sim k a = true) (hb : D.sim j b = true) : eqD st a b = some (decide (a = b)) := by
  unfold eqD
  rw [pdS_sim ha, pdS_sim hb]
  simp only [sim_shaped hk ha, sim_shaped hj hb, and_self, if_true, eqv_sim ha hb]
theorem eq_sim {st : Store} {a b : D} (ha : D.sim 60 a = true) (hb : D.sim 60 b = true) : cmpD st .eq a b = some (decide (a = b)) := eqD_sim (by omega) (by omega) ha hb
theorem ne_sim {st : Store} {a b : D} (ha : D.sim 60 a = true) (hb : D.sim 60 b = true) : cmpD st .ne a b = some (decide (a ≠ b)) := by
  show (eqD st a b).map not = _
  rw [eqD_sim (by omega) (by omega) ha hb]
  by_cases e : a = b <;> simp [e]
theorem inn_sim {st : Store} {x y : D} {ys : List D} (hx : D.sim 60 x = true) (hy : seqOf st y = some ys) (hys : D.sims 60 ys = true) : cmpD st .inn x y = some (decide (x ∈ ys)) := by
  show inD st x y = _
  have hy2 : ∀ s, y ≠ .str s := fun s e => by rw [e] at hy; cases hy
  have main : (match seqOf st y with
    | some ys => match pdS st x, pds ys with
      | some p, some qs => if SeqAt.shaped p = true ∧ SeqAt.shaped (.list qs) = true then some (qs.any fun z => PyData.eqv z p) else none
      | _, _ => none
    | none => (dgetD st y x).map fun o => o.isSome) = some (decide (x ∈ ys)) := by
    obtain ⟨h1, h2, h3⟩ := sims_pd hys
    have hs : SeqAt.shaped (.list (D.toPs ys)) = true := by
      simp [SeqAt.shaped, PyData.canLay0, PyData.depth, h2]
      omega
    simp only [hy, pdS_sim hx, h1]
    rw [if_pos ⟨sim_shaped (by omega) hx, hs⟩]
    congr 1
    rw [toPs_map, List.any_map]
    rw [Bool.eq_iff_iff, List.any_eq_true, decide_eq_true_iff]
    constructor
    · rintro ⟨z, hz, e⟩
      have : PyData.eqv z.toP x.toP = true := e
      rw [eqv_sim (sims_mem hys z hz) hx, decide_eq_true_iff] at this
      rw [← this]; exact hz
    · intro hx2
      exact ⟨x, hx2, by show PyData.eqv x.toP x.toP = true; rw [eqv_sim hx hx]; simp⟩
  unfold inD
  split
  · rename_i z s
    exact absurd rfl (hy2 s)
  · exact main
theorem nin_sim {st : Store} {x y : D} {ys : List D} (hx : D.sim 60 x = true) (hy : seqOf st y = some ys) (hys : D.sims 60 ys = true) : cmpD st .nin x y = some (decide (x ∉ ys)) := by
  show (inD st x y).map not = _
  rw [show inD st x y = _ from inn_sim hx hy hys]
  by_cases e : x ∈ ys <;> simp [e]
theorem sim_int {k : Nat} {i : Int} : D.sim k (.int i) = true := by cases k <;> simp [D.sim]
theorem sims_ints {k : Nat} (s : List Int) : D.sims k (s.map D.int) = true := sims_of fun x hx => by
  obtain ⟨i, _, rfl⟩ := List.mem_map.mp hx
  exact sim_int
theorem sim_tI {k : Nat} (s : List Int) : D.sim (k + 1) (tI s) = true := by simp [tI, D.sim, sims_ints]
theorem int_mem {i : Int} {s : List Int} : D.int i ∈ s.map D.int ↔ i ∈ s := by simp
@[simp] theorem eq_int {st : Store} {i j : Int} : cmpD st .eq (.int i) (.int j) = some (decide (i = j)) := by rw [eq_sim sim_int sim_int]; simp
@[simp] theorem ne_int {st : Store} {i j : Int} : cmpD st .ne (.int i) (.int j) = some (decide (i ≠ j)) := by rw [ne_sim sim_int sim_int]; simp
@[simp] theorem lt_int {st : Store} {i j : Int} : cmpD st .lt (.int i) (.int j) = some (decide (i < j)) := rfl
@[simp] theorem le_int {st : Store} {i j : Int} : cmpD st .le (.int i) (.int j) = some (decide (i ≤ j)) := rfl
@[simp] theorem gt_int {st : Store} {i j : Int} : cmpD st .gt (.int i) (.int j) = some (decide (j < i)) := rfl
@[simp] theorem ge_int {st : Store} {i j : Int} : cmpD st .ge (.int i) (.int j) = some (decide (j ≤ i)) := rfl
@[simp] theorem inn_tI {st : Store} {i : Int} {s : List Int} : cmpD st .inn (.int i) (tI s) = some (decide (i ∈ s)) := by rw [inn_sim sim_int seqOf_tI (sims_ints s)]; simp
@[simp] theorem nin_tI {st : Store} {i : Int} {s : List Int} : cmpD st .nin (.int i) (tI s) = some (decide (i ∉ s)) := by rw [nin_sim sim_int seqOf_tI (sims_ints s)]; simp
@[simp] theorem still_tI {st st' : Store} {s : List Int} : stillL st (tI s) st' = true := rfl
@[simp] theorem still_tup {st st' : Store} {s : List D} : stillL st (.tup s) st' = true := rfl
@[simp] theorem still_lst {st st' : Store} {s : List D} : stillL st (.lst s) st' = true := rfl
@[simp] theorem still_loc {st st' : Store} {j : Nat} : stillL st (.loc j) st' = decide (st'[j]? = st[j]?) := rfl
end Mn
end

section
set_option Elab.async false
set_option linter.all false
set_option maxRecDepth 100000
set_option maxHeartbeats 1000000
/-! Plain: the built-in functions on plain data. -/
namespace Mn
open PySem
def sortI (s : List Int) : List Int := s.mergeSort (fun a b => decide (a ≤ b))
theorem zip_map_self {α β : Type} (f : α → β) : ∀ l : List α, l.zip (l.map f) = l.map fun a => (a, f a)
  | [] => rfl
  | a :: l => by simp [zip_map_self f l]
theorem alikeB_ints (s : List Int) : alikeB (s.map PyData.int) = true := by
  simp [alikeB, PySem.W.alike]
theorem sortableB_ints (s : List Int) : sortableB (s.map PyData.int) = true := by
  simp [sortableB, flatB]
theorem map_sort {α β : Type} (f : α → β) (le : α → α → Bool) (le2 : β → β → Bool) (h : ∀ a b, le a b = le2 (f a) (f b)) (l : List α) : (l.mergeSort le).map f = (l.map f).mergeSort le2 := List.map_mergeSort (fun a _ b _ => h a b)
theorem sortD_ints {s : List Int} (h : s.length ≤ lim) : sortD (s.map D.int) = some ((sortI s).map D.int) := by
  unfold sortD
  rw [pds_ints0, Option.bind_some, if_pos]
  · rw [show (s.map D.int).zip (s.map PyData.int) = s.map (fun i => (D.int i, PyData.int i)) by
      rw [show s.map PyData.int = (s.map D.int).map D.toP by rw [List.map_map]; rfl, zip_map_self, List.map_map]; rfl]
    rw [← map_sort (fun i => (D.int i, PyData.int i)) (fun a b => decide (a ≤ b)) (PySem.W.dataLe false fun q => q.2) (fun a b => ?_) s, List.map_map]
    · rfl
    · have := congrFun (congrFun (PySem.W.dataLe_int (fun i : Int => i)) a) b
      exact this.symm
  · rw [alikeB_ints, sortableB_ints]
    simp [h]
    intro i _
    simp [PyData.depth]
section
variable {p : PTab} {C : Calls} {st : Store}
theorem bif_d {f : Bif} {ds : List D} (h : spcAt st ds = none) : bifR p C f ds st = Res.ofOpt (bifD st f ds) st := by unfold bifR; rw [h]
@[simp] theorem bif_tup_lst {xs : List D} : bifR p C .tuple [.lst xs] st = .ok (.d (.tup xs)) st := rfl
@[simp] theorem bif_tup_tup {xs : List D} : bifR p C .tuple [.tup xs] st = .ok (.d (.tup xs)) st := rfl
@[simp] theorem bif_lst_tup {xs : List D} : bifR p C .list [.tup xs] st = .ok (.fl xs) st := rfl
@[simp] theorem bif_len_tup {xs : List D} : bifR p C .len [.tup xs] st = .ok (.d (.int xs.length)) st := rfl
@[simp] theorem bif_len_lst {xs : List D} : bifR p C .len [.lst xs] st = .ok (.d (.int xs.length)) st := rfl
@[simp] theorem bif_len_tI {s : List Int} : bifR p C .len [tI s] st = .ok (.d (.int s.length)) st := by simp [tI]
@[simp] theorem bif_int_int {i : Int} : bifR p C .int [.int i] st = .ok (.d (.int i)) st := rfl
@[simp] theorem bif_abs {i : Int} : bifR p C .abs [.int i] st = .ok (.d (.int (if i < 0 then -i else i))) st := rfl
theorem bif_len_loc {j : Nat} {b : Bool} {xs : List D} (h : st[j]? = some (.lst b xs)) : bifR p C .len [.loc j] st = .ok (.d (.int xs.length)) st := by
  simp [bifR, spcAt, h, bifD, lenD, seqOf]
theorem bif_tup_loc {j : Nat} {b : Bool} {xs : List D} (h : st[j]? = some (.lst b xs)) : bifR p C .tuple [.loc j] st = .ok (.d (.tup xs)) st := by
  simp [bifR, spcAt, h, bifD, tupD, seqOf]
theorem bif_lst_loc {j : Nat} {b : Bool} {xs : List D} (h : st[j]? = some (.lst b xs)) : bifR p C .list [.loc j] st = .ok (.fl xs) st := by
  simp [bifR, spcAt, h, bifD, lstD, seqOf]
theorem bif_sort_ints {s : List Int} (h : s.length ≤ lim) : bifR p C .sorted [.lst (s.map D.int)] st = .ok (.fl ((sortI s).map D.int)) st := by
  simp [bifR, spcAt, bifD, srtD, isL, sortD_ints h]
theorem all_isBl : ∀ bs : List Bool, (bs.map D.bl).all isBl = true
  | [] => rfl
  | b :: bs => by simp only [List.map_cons, List.all_cons, all_isBl bs]; rfl
theorem all_bl : ∀ bs : List Bool, (bs.map D.bl).all (fun x => decide (x = .bl true)) = bs.all id
  | [] => rfl
  | b :: bs => by simp only [List.map_cons, List.all_cons, all_bl bs]; cases b <;> simp
theorem any_bl : ∀ bs : List Bool, (bs.map D.bl).any (fun x => decide (x = .bl true)) = bs.any id
  | [] => rfl
  | b :: bs => by simp only [List.map_cons, List.any_cons, any_bl bs]; cases b <;> simp
@[simp] theorem bif_all {bs : List Bool} : bifR p C .all [.lst (bs.map D.bl)] st = .ok (.d (.bl (bs.all id))) st := by
  simp only [bifR, spcAt, bifD, allD, isL, if_true, seqOf, Option.bind_some, all_isBl, all_bl, ofOpt_some]
@[simp] theorem bif_any {bs : List Bool} : bifR p C .any [.lst (bs.map D.bl)] st = .ok (.d (.bl (bs.any id))) st := by
  simp only [bifR, spcAt, bifD, anyD, isL, if_true, seqOf, Option.bind_some, all_isBl, any_bl, ofOpt_some]
/-- the text of an instance -/
theorem bif_ins {f : Bif} {j : Nat} {c m : Str} {fs : List (Str × D)} (h : st[j]? = some (.ins c fs)) (hm : spcOf f = some m) (hp : p.isM c m = true) : bifR p C f [.loc j] st = (C (c, some m) [.loc j] st).bind fun v st => if spcOk f v then .ok v st else .bad := by
  simp [bifR, spcAt, h, hm, hp]
end
end Mn
end

section
set_option Elab.async false
set_option linter.all false
set_option maxRecDepth 100000
set_option maxHeartbeats 1000000
/-! The program's defs, as the translator gives them (printed by a program). -/
namespace Mn
open PySem
/-- is_between: [value, low, high] -/
def m_is_between : MDef := ⟨3, 3, 
  (.cons (.ret (.andv (.isi (.var 0) (.inl "int")) (.andv (.notv (.isi (.var 0) (.inl "bool"))) (.chn .le .le (.var 1) (.var 0) (.var 2))))) .nil)⟩
/-- check_count: [value, high] -/
def m_check_count : MDef := ⟨2, 2, 
  (.cons (.ifs (.not (.val (.call "is_between" (.cons true (.var 0) (.cons true (.cst (.int (1))) (.cons true (.var 1) .nil)))))) 
  (.cons .bad .nil) .nil) .nil)⟩
/-- is_way: [value, count, place] -/
def m_is_way : MDef := ⟨3, 2, 
  (.cons (.ifs (.or (.not (.val (.isi (.var 0) (.inl "tuple")))) (.val (.cmp .ne (.bif .len (.cons false (.var 0) .nil)) (.cst (.int (2)))))) 
  (.cons (.ret (.cst (.bl false))) .nil) .nil) 
  (.cons (.ret (.andv (.bif .all (.cons false (.lc (.call "is_between" (.cons true (.var 2) (.cons true (.cst (.int (0))) (.cons true (.bin .sub (.var 1) (.cst (.int (1)))) .nil)))) (.name 2) (.val (.var 0)) .tt) .nil)) (.cmp .ne (.ix (.var 0) (.cst (.int (0)))) (.ix (.var 0) (.cst (.int (1))))))) .nil))⟩
/-- wrong_way: [ways, count, index, way] -/
def m_wrong_way_l1 : Mn.S := .frs (.tup [2, 3]) (.enu (.var 0)) 
  (.cons (.ifs (.or (.not (.val (.call "is_way" (.cons true (.var 3) (.cons true (.var 1) .nil))))) (.and (.val (.cmp .gt (.var 2) (.cst (.int (0))))) (.val (.cmp .le (.var 3) (.ix (.var 0) (.bin .sub (.var 2) (.cst (.int (1))))))))) 
  (.cons (.ret (.var 2)) .nil) .nil) .nil)
def m_wrong_way : MDef := ⟨4, 2, 
  (.cons m_wrong_way_l1 
  (.cons (.ret (.cst .non)) .nil))⟩
/-- check_ways: [value, count, index] -/
def m_check_ways : MDef := ⟨3, 2, 
  (.cons (.ifs (.not (.val (.isi (.var 0) (.inl "tuple")))) 
  (.cons .bad .nil) .nil) 
  (.cons (.asg 2 true (.call "wrong_way" (.cons true (.var 0) (.cons true (.var 1) .nil)))) 
  (.cons (.ifs (.val (.cmp .ntN (.var 2) (.cst .non))) 
  (.cons .bad .nil) .nil) .nil)))⟩
/-- goals_of: [ways, place, start, goal] -/
def m_goals_of : MDef := ⟨4, 2, 
  (.cons (.ret (.bif .tuple (.cons false (.lc (.var 3) (.tup [2, 3]) (.val (.var 0)) (.val (.cmp .eq (.var 2) (.var 1)))) .nil))) .nil)⟩
/-- does_lead: [ways, start, goal, seen, fresh, place, further] -/
def m_does_lead_l1 : Mn.S := .frs (.name 6) (.val (.call "goals_of" (.cons true (.var 0) (.cons true (.var 5) .nil)))) 
  (.cons (.ifs (.val (.cmp .nin (.var 6) (.var 3))) 
  (.cons (.ex (.bmt .append (.var 3) (.cons true (.var 6) .nil))) 
  (.cons (.ex (.bmt .append (.var 4) (.cons true (.var 6) .nil))) .nil)) .nil) .nil)
def m_does_lead_l2 : Mn.S := .whl (.val (.cmp .gt (.bif .len (.cons false (.var 4) .nil)) (.cst (.int (0))))) 
  (.cons (.asg 5 true (.bmt .pop (.var 4) .nil)) 
  (.cons m_does_lead_l1 .nil))
def m_does_lead : MDef := ⟨7, 3, 
  (.cons (.asgs [3, 4] (.cons true (.lst (.cons false (.var 1) .nil)) (.cons true (.lst (.cons false (.var 1) .nil)) .nil))) 
  (.cons m_does_lead_l2 
  (.cons (.ret (.cmp .inn (.var 2) (.var 3))) .nil)))⟩
/-- Web.__init__: [self, count, ways, start, goal] -/
def m_Web___init__ : MDef := ⟨5, 3, 
  (.cons (.ex (.call "check_count" (.cons true (.var 1) (.cons true (.glo "MOST_PLACES") .nil)))) 
  (.cons (.ex (.call "check_ways" (.cons true (.var 2) (.cons true (.var 1) .nil)))) 
  (.cons (.fset (.var 0) "count" (.var 1)) 
  (.cons (.fset (.var 0) "ways" (.var 2)) 
  (.cons (.fset (.var 0) "told" (.tup (.cons false (.var 1) (.cons false (.var 2) .nil)))) 
  (.cons (.fset (.var 0) "has_ring" (.bif .any (.cons false (.lc (.call "does_lead" (.cons true (.var 2) (.cons true (.var 4) (.cons true (.var 3) .nil)))) (.tup [3, 4]) (.val (.var 2)) .tt) .nil))) .nil))))))⟩
/-- Web.goals: [self, place] -/
def m_Web_goals : MDef := ⟨2, 2, 
  (.cons (.ex (.call "check_place" (.cons true (.var 1) (.cons true (.var 0) .nil)))) 
  (.cons (.ret (.call "goals_of" (.cons true (.fld (.var 0) "ways") (.cons true (.var 1) .nil)))) .nil))⟩
/-- Web.__len__: [self] -/
def m_Web___len__ : MDef := ⟨1, 1, 
  (.cons (.ret (.bif .len (.cons false (.fld (.var 0) "ways") .nil))) .nil)⟩
/-- Web.__eq__: [self, other] -/
def m_Web___eq__ : MDef := ⟨2, 2, 
  (.cons (.ret (.andv (.isi (.var 1) (.inr "Web")) (.cmp .eq (.fld (.var 0) "told") (.fld (.var 1) "told")))) .nil)⟩
/-- Web.__str__: [self, way] -/
def m_Web___str__ : MDef := ⟨2, 1, 
  (.cons (.ret (.bmt .join (.cst (.str " ")) (.cons true (.bin .add (.lst (.cons false (.fst (.cons false (.fld (.var 0) "count") (.cons false (.cst (.str ":")) .nil))) .nil)) (.lc (.call "way_text" (.cons true (.var 1) .nil)) (.name 1) (.val (.fld (.var 0) "ways")) .tt)) .nil))) .nil)⟩
/-- Web.__repr__: [self] -/
def m_Web___repr__ : MDef := ⟨1, 1, 
  (.cons (.ret (.fst (.cons false (.cst (.str "Web(")) (.cons false (.fld (.var 0) "count") (.cons false (.cst (.str " places, ")) (.cons false (.bif .len (.cons false (.fld (.var 0) "ways") .nil)) (.cons false (.cst (.str " ways)")) .nil))))))) .nil)⟩
/-- way_text: [way] -/
def m_way_text : MDef := ⟨1, 1, 
  (.cons (.ret (.fst (.cons false (.ix (.var 0) (.cst (.int (0)))) (.cons false (.cst (.str ">")) (.cons false (.ix (.var 0) (.cst (.int (1)))) .nil))))) .nil)⟩
/-- check_web: [value] -/
def m_check_web : MDef := ⟨1, 1, 
  (.cons (.ifs (.not (.val (.isi (.var 0) (.inr "Web")))) 
  (.cons .bad .nil) .nil) .nil)⟩
/-- check_place: [value, web] -/
def m_check_place : MDef := ⟨2, 2, 
  (.cons (.ifs (.not (.val (.call "is_between" (.cons true (.var 0) (.cons true (.cst (.int (0))) (.cons true (.bin .sub (.fld (.var 1) "count") (.cst (.int (1)))) .nil)))))) 
  (.cons .bad .nil) .nil) .nil)⟩
/-- toggled: [standing, place, other] -/
def m_toggled : MDef := ⟨3, 2, 
  (.cons (.ifs (.val (.cmp .inn (.var 1) (.var 0))) 
  (.cons (.ret (.bif .tuple (.cons false (.lc (.var 2) (.name 2) (.val (.var 0)) (.val (.cmp .ne (.var 2) (.var 1)))) .nil))) .nil) .nil) 
  (.cons (.ret (.bif .tuple (.cons false (.bif .sorted (.cons false (.star (.var 0) (.cons false (.var 1) .nil)) .nil)) .nil))) .nil))⟩
/-- played: [standing, way] -/
def m_played : MDef := ⟨2, 2, 
  (.cons (.ret (.call "toggled" (.cons true (.call "toggled" (.cons true (.var 0) (.cons true (.ix (.var 1) (.cst (.int (0)))) .nil))) (.cons true (.ix (.var 1) (.cst (.int (1)))) .nil)))) .nil)⟩
/-- ways_from: [web, standing, way] -/
def m_ways_from : MDef := ⟨3, 2, 
  (.cons (.ret (.bif .tuple (.cons false (.lc (.var 2) (.name 2) (.val (.fld (.var 0) "ways")) (.val (.cmp .inn (.ix (.var 2) (.cst (.int (0)))) (.var 1)))) .nil))) .nil)⟩
/-- is_playable: [web, standing, way, part] -/
def m_is_playable : MDef := ⟨4, 3, 
  (.cons (.ifs (.or (.not (.val (.isi (.var 2) (.inl "tuple")))) (.not (.val (.bif .all (.cons false (.lc (.andv (.isi (.var 3) (.inl "int")) (.notv (.isi (.var 3) (.inl "bool")))) (.name 3) (.val (.var 2)) .tt) .nil))))) 
  (.cons (.ret (.cst (.bl false))) .nil) .nil) 
  (.cons (.ret (.cmp .inn (.var 2) (.call "ways_from" (.cons true (.var 0) (.cons true (.var 1) .nil))))) .nil))⟩
/-- check_way: [web, standing, way] -/
def m_check_way : MDef := ⟨3, 3, 
  (.cons (.ifs (.not (.val (.call "is_playable" (.cons true (.var 0) (.cons true (.var 1) (.cons true (.var 2) .nil)))))) 
  (.cons .bad .nil) .nil) .nil)⟩
/-- standings_of: [count, found, place, standing] -/
def m_standings_of_l1 : Mn.S := .frs (.name 2) (.rng (.var 0)) 
  (.cons (.aug 1 .add (.lc (.bin .add (.var 3) (.tup (.cons false (.var 2) .nil))) (.name 3) (.val (.var 1)) .tt)) .nil)
def m_standings_of : MDef := ⟨4, 1, 
  (.cons (.asg 1 true (.lst (.cons false (.tup .nil) .nil))) 
  (.cons m_standings_of_l1 
  (.cons (.ret (.sortL (.var 1))) .nil)))⟩
/-- followers_of: [web, standing, way] -/
def m_followers_of : MDef := ⟨3, 2, 
  (.cons (.ret (.lc (.call "played" (.cons true (.var 1) (.cons true (.var 2) .nil))) (.name 2) (.val (.call "ways_from" (.cons true (.var 0) (.cons true (.var 1) .nil)))) .tt)) .nil)⟩
/-- Survey.__init__: [self, web, standing, number] -/
def m_Survey___init___l1 : Mn.S := .frs (.name 2) (.val (.call "standings_of" (.cons true (.fld (.var 1) "count") .nil))) 
  (.cons (.iset (.fld (.var 0) "waiting") (.var 2) true (.call "followers_of" (.cons true (.var 1) (.cons true (.var 2) .nil)))) .nil)
def m_Survey___init___l2 : Mn.S := .whl (.val (.meth (.var 0) "settle" (.cons true (.var 3) .nil))) 
  (.cons (.ex (.meth (.var 0) "settle" (.cons true (.bin .add (.var 3) (.cst (.int (1)))) .nil))) 
  (.cons (.aug 3 .add (.cst (.int (2)))) .nil))
def m_Survey___init__ : MDef := ⟨4, 2, 
  (.cons (.fset (.var 0) "web" (.var 1)) 
  (.cons (.fset (.var 0) "known" (.dct true)) 
  (.cons (.fset (.var 0) "waiting" (.dct true)) 
  (.cons m_Survey___init___l1 
  (.cons (.asg 3 true (.cst (.int (0)))) 
  (.cons m_Survey___init___l2 .nil))))))⟩
/-- Survey.settle: [self, number, standing, found, others] -/
def m_Survey_settle_l1 : Mn.S := .frs (.name 2) (.val (.var 3)) 
  (.cons (.iset (.fld (.var 0) "known") (.var 2) true (.var 1)) 
  (.cons (.del (.fld (.var 0) "waiting") (.var 2)) .nil))
def m_Survey_settle : MDef := ⟨5, 2, 
  (.cons (.asg 3 true (.lc (.var 2) (.tup [2, 4]) (.items (.fld (.var 0) "waiting")) (.val (.meth (.var 0) "is_settled" (.cons true (.var 4) (.cons true (.var 1) .nil)))))) 
  (.cons m_Survey_settle_l1 
  (.cons (.ret (.cmp .gt (.bif .len (.cons false (.var 3) .nil)) (.cst (.int (0))))) .nil)))⟩
/-- Survey.is_settled: [self, others, number, other] -/
def m_Survey_is_settled : MDef := ⟨4, 3, 
  (.cons (.ifs (.val (.cmp .eq (.bin .mod (.var 2) (.cst (.int (2)))) (.cst (.int (1))))) 
  (.cons (.ret (.bif .any (.cons false (.lc (.cmp .eq (.bmt .get (.fld (.var 0) "known") (.cons true (.var 3) .nil)) (.bin .sub (.var 2) (.cst (.int (1))))) (.name 3) (.val (.var 1)) .tt) .nil))) .nil) .nil) 
  (.cons (.ret (.bif .all (.cons false (.lc (.andv (.cmp .inn (.var 3) (.fld (.var 0) "known")) (.cmp .eq (.bin .mod (.ix (.fld (.var 0) "known") (.var 3)) (.cst (.int (2)))) (.cst (.int (1))))) (.name 3) (.val (.var 1)) .tt) .nil))) .nil))⟩
/-- Survey.word: [self, standing] -/
def m_Survey_word : MDef := ⟨2, 2, 
  (.cons (.ifs (.val (.cmp .nin (.var 1) (.fld (.var 0) "known"))) 
  (.cons (.ret (.glo "DRAWN")) .nil) .nil) 
  (.cons (.ret (.ife (.val (.cmp .eq (.bin .mod (.ix (.fld (.var 0) "known") (.var 1)) (.cst (.int (2)))) (.cst (.int (0))))) (.glo "LOST") (.glo "WON"))) .nil))⟩
/-- Survey.lost: [self, standing] -/
def m_Survey_lost : MDef := ⟨2, 1, 
  (.cons (.ret (.lc (.var 1) (.name 1) (.val (.call "standings_of" (.cons true (.fld (.fld (.var 0) "web") "count") .nil))) (.val (.cmp .eq (.meth (.var 0) "word" (.cons true (.var 1) .nil)) (.glo "LOST"))))) .nil)⟩
/-- Survey.best: [self, standing] -/
def m_Survey_best : MDef := ⟨2, 2, 
  (.cons .bad .nil)⟩
/-- is_deed: [value] -/
def m_is_deed : MDef := ⟨1, 1, 
  (.cons (.ifs (.or (.not (.val (.isi (.var 0) (.inl "tuple")))) (.val (.cmp .ne (.bif .len (.cons false (.var 0) .nil)) (.cst (.int (2)))))) 
  (.cons (.ret (.cst (.bl false))) .nil) .nil) 
  (.cons (.ret (.andv (.isi (.ix (.var 0) (.cst (.int (0)))) (.inl "str")) (.cmp .inn (.ix (.var 0) (.cst (.int (0)))) (.tup (.cons false (.cst (.str "put")) (.cons false (.cst (.str "move")) .nil)))))) .nil))⟩
/-- Game.__init__: [self, web] -/
def m_Game___init__ : MDef := ⟨2, 2, 
  (.cons (.ex (.call "check_web" (.cons true (.var 1) .nil))) 
  (.cons (.fset (.var 0) "web" (.var 1)) 
  (.cons (.fset (.var 0) "survey" (.new "Survey" (.cons true (.var 1) .nil))) 
  (.cons (.fset (.var 0) "standing" (.tup .nil)) 
  (.cons (.fset (.var 0) "past" (.tup .nil)) 
  (.cons (.fset (.var 0) "busy" (.cst (.bl false))) .nil))))))⟩
/-- Game.outcome: [self] -/
def m_Game_outcome : MDef := ⟨1, 1, 
  (.cons (.ret (.meth (.fld (.var 0) "survey") "word" (.cons true (.fld (.var 0) "standing") .nil))) .nil)⟩
/-- Game.check_free: [self] -/
def m_Game_check_free : MDef := ⟨1, 1, 
  (.cons (.ifs (.val (.fld (.var 0) "busy")) 
  (.cons .bad .nil) .nil) .nil)⟩
/-- Game.become: [self, standing] -/
def m_Game_become : MDef := ⟨2, 2, 
  (.cons (.ifs (.val (.cmp .eq (.bif .len (.cons false (.fld (.var 0) "past") .nil)) (.glo "MOST_DEEDS"))) 
  (.cons .bad .nil) .nil) 
  (.cons (.fset (.var 0) "past" (.bin .add (.fld (.var 0) "past") (.tup (.cons false (.fld (.var 0) "standing") .nil)))) 
  (.cons (.fset (.var 0) "standing" (.var 1)) .nil)))⟩
/-- Game.do_put: [self, place] -/
def m_Game_do_put : MDef := ⟨2, 2, 
  (.cons (.ex (.call "check_place" (.cons true (.var 1) (.cons true (.fld (.var 0) "web") .nil)))) 
  (.cons (.ex (.meth (.var 0) "become" (.cons true (.call "toggled" (.cons true (.fld (.var 0) "standing") (.cons true (.var 1) .nil))) .nil))) .nil))⟩
/-- Game.do_move: [self, way] -/
def m_Game_do_move : MDef := ⟨2, 2, 
  (.cons (.ex (.call "check_way" (.cons true (.fld (.var 0) "web") (.cons true (.fld (.var 0) "standing") (.cons true (.var 1) .nil))))) 
  (.cons (.ex (.meth (.var 0) "become" (.cons true (.call "played" (.cons true (.fld (.var 0) "standing") (.cons true (.var 1) .nil))) .nil))) .nil))⟩
/-- Game.put: [self, place] -/
def m_Game_put : MDef := ⟨2, 2, 
  (.cons (.ex (.meth (.var 0) "check_free" .nil)) 
  (.cons (.ex (.meth (.var 0) "do_put" (.cons true (.var 1) .nil))) 
  (.cons (.ret (.bif .len (.cons false (.var 0) .nil))) .nil)))⟩
/-- Game.move: [self, way] -/
def m_Game_move : MDef := ⟨2, 2, 
  (.cons (.ex (.meth (.var 0) "check_free" .nil)) 
  (.cons (.ex (.meth (.var 0) "do_move" (.cons true (.var 1) .nil))) 
  (.cons (.ret (.fld (.var 0) "outcome")) .nil)))⟩
/-- Game.undo: [self] -/
def m_Game_undo : MDef := ⟨1, 1, 
  (.cons .bad .nil)⟩
/-- Game.__len__: [self] -/
def m_Game___len__ : MDef := ⟨1, 1, 
  (.cons (.ret (.bif .len (.cons false (.fld (.var 0) "standing") .nil))) .nil)⟩
/-- Game.__repr__: [self] -/
def m_Game___repr__ : MDef := ⟨1, 1, 
  (.cons (.ret (.fst (.cons false (.cst (.str "Game(")) (.cons false (.fld (.fld (.var 0) "web") "count") (.cons false (.cst (.str " places, ")) (.cons false (.bif .len (.cons false (.fld (.var 0) "standing") .nil)) (.cons false (.cst (.str " tokens)")) .nil))))))) .nil)⟩
end Mn
end

section
set_option Elab.async false
set_option linter.all false
set_option maxRecDepth 100000
set_option maxHeartbeats 1000000
/-! Plain: the defs about ways and standings. -/
namespace Mn
open PySem
abbrev Way := Int × Int
def wD (w : Way) : D := .tup [.int w.1, .int w.2]
def wsD (ws : List Way) : D := .tup (ws.map wD)
def toggle (s : List Int) (p : Int) : List Int := if p ∈ s then s.filter (fun x => decide (x ≠ p)) else sortI (s ++ [p])
def play (s : List Int) (w : Way) : List Int := toggle (toggle s w.1) w.2
def from_ (ws : List Way) (s : List Int) : List Way := ws.filter fun w => decide (w.1 ∈ s)
/-- a comprehension over ints -/
theorem lc_ints {f : D → Store → Res (Option D)} {h : Int → Option D} {st : Store} {s : List Int} {acc : List D} (k : ∀ i ∈ s, f (.int i) st = .ok (h i) st) : lcLoop f (s.map D.int) acc st = .ok (.fl (acc ++ s.filterMap h)) st := by
  rw [lc_pure (h := fun d => match d with | .int i => h i | _ => none) (fun d hd => by
    obtain ⟨i, hi, rfl⟩ := List.mem_map.mp hd
    exact k i hi)]
  rw [List.filterMap_map]; rfl
/-- a comprehension over ways -/
theorem lc_ways {f : D → Store → Res (Option D)} {h : Way → Option D} {st : Store} {s : List Way} {acc : List D} (k : ∀ w ∈ s, f (wD w) st = .ok (h w) st) : lcLoop f (s.map wD) acc st = .ok (.fl (acc ++ s.filterMap h)) st := by
  rw [lc_pure (h := fun d => match d with | .tup [.int a, .int b] => h (a, b) | _ => none) (fun d hd => by
    obtain ⟨w, hw, rfl⟩ := List.mem_map.mp hd
    exact k w hw)]
  rw [List.filterMap_map]; rfl
theorem fm_if {α β : Type} (q : α → Bool) (g : α → β) : ∀ l : List α, l.filterMap (fun a => if q a = true then some (g a) else none) = (l.filter q).map g
  | [] => rfl
  | a :: l => by
    rw [List.filterMap_cons, List.filter_cons]
    cases e : q a <;> simp [fm_if q g l]
theorem fm_map {α β : Type} (g : α → β) : ∀ l : List α, l.filterMap (fun a => some (g a)) = l.map g
  | [] => rfl
  | a :: l => by simp [fm_map g l]
@[simp] theorem ix_w0 {st : Store} {w : Way} : ixD st (wD w) (.int 0) = some (.int w.1) := rfl
@[simp] theorem ix_w1 {st : Store} {w : Way} : ixD st (wD w) (.int 1) = some (.int w.2) := rfl
@[simp] theorem seqOf_wsD {st : Store} {ws : List Way} : seqOf st (wsD ws) = some (ws.map wD) := rfl
@[simp] theorem seqOf_wD {st : Store} {w : Way} : seqOf st (wD w) = some [.int w.1, .int w.2] := rfl
@[simp] theorem still_wsD {st st' : Store} {ws : List Way} : stillL st (wsD ws) st' = true := rfl
@[simp] theorem still_wD {st st' : Store} {w : Way} : stillL st (wD w) st' = true := rfl
theorem sim_wD {k : Nat} (w : Way) : D.sim (k + 1) (wD w) = true := by simp [wD, D.sim, D.sims, sim_int]
theorem sims_ways {k : Nat} (ws : List Way) : D.sims (k + 1) (ws.map wD) = true := sims_of fun x hx => by
  obtain ⟨i, _, rfl⟩ := List.mem_map.mp hx
  exact sim_wD i
theorem wD_inj {a b : Way} : wD a = wD b ↔ a = b := by
  obtain ⟨a1, a2⟩ := a
  obtain ⟨b1, b2⟩ := b
  simp [wD]
@[simp] theorem inn_ways {st : Store} {w : Way} {ws : List Way} : cmpD st .inn (wD w) (wsD ws) = some (decide (w ∈ ws)) := by
  rw [inn_sim (sim_wD w) seqOf_wsD (sims_ways ws)]
  simp [wD_inj]
section
variable {p : PTab} {fuel n : Nat} {F : Fn → Option MDef} {st : Store}
@[simp] theorem isi_int {i : Int} : isiD p st (.int i) (.inl "int") = some true := by show L2.kitB "int" "int" = _; decide
@[simp] theorem isi_intb {i : Int} : isiD p st (.int i) (.inl "bool") = some false := by show L2.kitB "int" "bool" = _; decide
@[simp] theorem isi_tup {xs : List D} : isiD p st (.tup xs) (.inl "tuple") = some true := by show L2.kitB "tuple" "tuple" = _; decide
@[simp] theorem isi_wD {w : Way} : isiD p st (wD w) (.inl "tuple") = some true := isi_tup
@[simp] theorem isi_wsD {w : List Way} : isiD p st (wsD w) (.inl "tuple") = some true := isi_tup
@[simp] theorem isi_tI {w : List Int} : isiD p st (tI w) (.inl "tuple") = some true := isi_tup
theorem c_toggled (h : F ("toggled", none) = some m_toggled) (s : List Int) (x : Int) (st : Store) (hs : s.length < 1000) : callN p fuel F (n + 1) ("toggled", none) [tI s, .int x] st = .ok (.d (tI (toggle s x))) st := by
  rw [call_go h rfl]
  have hl : s.length ≤ lim := by unfold lim; omega
  have hl2 : s.length + 1 ≤ lim := by unfold lim; omega
  simp [m_toggled, evSs, evS, evE, evEs, evT, evI, bindTg, wipeE, tgs, hl, hl2]
  by_cases hx : x ∈ s
  · simp only [hx, if_true]
    rw [lc_ints (h := fun i => if decide (i ≠ x) = true then some (.int i) else none) (fun i _ => by by_cases e : i = x <;> simp [e]), fm_if]
    simp [toggle, hx, tI]
  · simp only [hx, if_false]
    simp only [toggle, hx]
    rw [show s.map D.int ++ [D.int x] = (s ++ [x]).map D.int by simp, bif_sort_ints (by simp; omega)]
    simp [tI]
theorem sortI_len (s : List Int) : (sortI s).length = s.length := List.length_mergeSort ..
theorem toggle_len (s : List Int) (x : Int) : (toggle s x).length ≤ s.length + 1 := by
  unfold toggle
  split
  · have := List.length_filter_le (fun y => decide (y ≠ x)) s; omega
  · rw [sortI_len]; simp
theorem c_played (h : F ("toggled", none) = some m_toggled) (h2 : F ("played", none) = some m_played) (s : List Int) (w : Way) (st : Store) (hs : s.length < 900) : callN p fuel F (n + 2) ("played", none) [tI s, wD w] st = .ok (.d (tI (play s w))) st := by
  rw [call_go h2 rfl]
  have h1 := c_toggled (p := p) (fuel := fuel) (n := n) h s w.1 st (by omega)
  have h3 := c_toggled (p := p) (fuel := fuel) (n := n) h (toggle s w.1) w.2 st (by have := toggle_len s w.1; omega)
  simp [m_played, evSs, evS, evE, evEs, h1, h3, play]
theorem c_is_between (h : F ("is_between", none) = some m_is_between) (v lo hi : Int) (st : Store) : callN p fuel F (n + 1) ("is_between", none) [.int v, .int lo, .int hi] st = .ok (.d (.bl (decide (lo ≤ v ∧ v ≤ hi)))) st := by
  rw [call_go h rfl]
  simp [m_is_between, evSs, evS, evE, evEs]
  by_cases e : lo ≤ v <;> simp [e]
theorem c_check_count (h : F ("is_between", none) = some m_is_between) (h2 : F ("check_count", none) = some m_check_count) (v hi : Int) (st : Store) (hv : 1 ≤ v ∧ v ≤ hi) : callN p fuel F (n + 2) ("check_count", none) [.int v, .int hi] st = .ok (.d .non) st := by
  rw [call_go h2 rfl]
  simp [m_check_count, evSs, evS, evE, evEs, evT, c_is_between h, hv]
/-- a pair of different places -/
def wayOk (c : Int) (w : Way) : Prop := (0 ≤ w.1 ∧ w.1 ≤ c - 1) ∧ (0 ≤ w.2 ∧ w.2 ≤ c - 1) ∧ w.1 ≠ w.2
theorem c_is_way (h : F ("is_between", none) = some m_is_between) (h2 : F ("is_way", none) = some m_is_way) (w : Way) (c : Int) (st : Store) (hw : wayOk c w) : callN p fuel F (n + 2) ("is_way", none) [wD w, .int c] st = .ok (.d (.bl true)) st := by
  rw [call_go h2 rfl]
  obtain ⟨a, b⟩ := w
  have hb : bifR p (callN p fuel F (n + 1)) .len [wD (a, b)] st = .ok (.d (.int 2)) st := rfl
  obtain ⟨h3, h4, h5⟩ := hw
  simp at h3 h4 h5
  simp [m_is_way, evSs, evS, evE, evEs, evT, evI, bindTg, wipeE, tgs, hb, binD, binI, c_is_between h]
  rw [show [D.int a, D.int b] = [a, b].map D.int from rfl, lc_ints (h := fun _ => some (.bl true)) (fun i hi => by
    simp at hi
    rw [c_is_between h]
    rcases hi with e | e <;> subst e
    · simp [h3]
    · simp [h4])]
  rw [if_pos (by unfold lim; decide), fm_map]
  have ha : bifR p (callN p fuel F (n + 1)) .all [.lst [.bl true, .bl true]] st = .ok (.d (.bl true)) st := bif_all (bs := [true, true])
  simp [h5, ha]
theorem leT_pair (a b c d : Int) : leT [a, b] [c, d] = decide (a < c ∨ (a = c ∧ b ≤ d)) := by
  unfold leT
  simp [Ob.lexAt]
  by_cases h : a = c
  · simp [h]
    by_cases h2 : b = d
    · simp [h2]
    · simp [h2]
  · simp [h]
    omega
@[simp] theorem le_ways {u v : Way} : cmpD st .le (wD u) (wD v) = some (decide (u.1 < v.1 ∨ (u.1 = v.1 ∧ u.2 ≤ v.2))) := by
  show leD (wD u) (wD v) = _
  have h : ∀ w : Way, intsOf [D.int w.1, D.int w.2] = some [w.1, w.2] := fun w => rfl
  simp only [wD, leD, h, leT_pair]
def wayLt (u v : Way) : Prop := u.1 < v.1 ∨ (u.1 = v.1 ∧ u.2 < v.2)
theorem enum_map {α : Type} (g : α → D) : ∀ (l : List α) (i : Nat), enumD i (l.map g) = (l.zipIdx i).map fun q => .tup [.int q.2, g q.1]
  | [], _ => rfl
  | a :: l, i => by simp [enumD, enum_map g l (i + 1)]
/-- a loop over the images of a list, its state a function of the turns -/
theorem fr_fold {α σ : Type} {f : D → Env → Store → RS} {g : α → D} {mk : σ → Env} {step : σ → α → σ} {st : Store} : ∀ {l : List α} {s : σ}, (∀ a ∈ l, ∀ s, f (g a) (mk s) st = .nx (mk (step s a)) st) → frLoop f (l.map g) (mk s) st = .nx (mk (l.foldl step s)) st
  | [], s, _ => rfl
  | a :: l, s, k => by
    simp only [List.map_cons, frLoop, k a (List.mem_cons_self ..) s, List.foldl_cons]
    exact fr_fold fun b hb s => k b (List.mem_cons_of_mem _ hb) s
@[simp] theorem turn_nx {src : Src} {env : Env} {st : Store} : turnR src (.nx env st) = if src.still st = true then .nx env st else .bad := rfl
@[simp] theorem turn_ct {src : Src} {env : Env} {st : Store} : turnR src (.ct env st) = if src.still st = true then .ct env st else .bad := rfl
theorem atI_nat {α : Type} {xs : List α} {i : Nat} {x : α} (h : xs[i]? = some x) : L2.atI xs (i : Int) = some x := by
  have hl := (List.getElem?_eq_some_iff.mp h).1
  unfold L2.atI L2.ixN
  rw [if_pos (by omega), if_pos (by omega)]
  simpa using h
theorem ix_seq {st : Store} {a : D} {xs : List D} {i : Nat} {x : D} (ha : seqOf st a = some xs) (h : xs[i]? = some x) : ixD st a (.int (i : Int)) = some x := by
  unfold ixD
  split
  · cases ha
  · rename_i h2
    rw [ha]
    exact atI_nat h
theorem ix_seqI {st : Store} {a : D} {xs : List D} {i : Int} {x : D} (ha : seqOf st a = some xs) (h0 : 0 ≤ i) (h : xs[i.toNat]? = some x) : ixD st a (.int i) = some x := by
  have := ix_seq (st := st) (a := a) ha h
  rw [Int.toNat_of_nonneg h0] at this
  exact this
theorem asc_prev {ws : List Way} (asc : ws.Pairwise wayLt) {i : Nat} {u v : Way} (hu : ws[i]? = some u) (hv : ws[i + 1]? = some v) : wayLt u v := by
  obtain ⟨h1, e1⟩ := List.getElem?_eq_some_iff.mp hu
  obtain ⟨h2, e2⟩ := List.getElem?_eq_some_iff.mp hv
  have := List.pairwise_iff_getElem.mp asc i (i + 1) h1 h2 (by omega)
  rw [e1, e2] at this
  exact this
theorem l_wrong_way (h : F ("is_between", none) = some m_is_between) (h2 : F ("is_way", none) = some m_is_way) (ws : List Way) (c : Int) (st : Store) (hw : ∀ w ∈ ws, wayOk c w) (asc : ws.Pairwise wayLt) (hl : ws.length < 1000) (a b : Option D) :
    ∃ a b, evS p (callN p fuel F (n + 2)) fuel m_wrong_way_l1 [some (wsD ws), some (.int c), none, none] st = .nx [some (wsD ws), some (.int c), a, b] st := by
  simp [m_wrong_way_l1, evSs, evS, evE, evEs, evT, evI]
  rw [enum_map]
  refine ⟨_, _, fr_fold (mk := fun s : Option D × Option D => [some (wsD ws), some (.int c), s.1, s.2]) (step := fun _ q => (some (.int q.2), some (wD q.1))) (s := (none, none)) fun q hq s => ?_⟩
  obtain ⟨w, i⟩ := q
  have hi : ws[i]? = some w := by
    have := List.mem_zipIdx_iff_getElem?.mp hq
    simpa using this
  have hm : w ∈ ws := List.mem_of_getElem? hi
  simp [bindTg, setAll, c_is_way h h2 w c st (hw w hm), binD, binI]
  cases i with
  | zero => simp
  | succ i =>
    have hlen := (List.getElem?_eq_some_iff.mp hi).1
    have hu : ws[i]? = some ws[i] := List.getElem?_eq_getElem (by omega)
    have hix : ixD st (wsD ws) (.int (((i + 1 : Nat) : Int) - 1)) = some (wD ws[i]) := by
      rw [show ((i + 1 : Nat) : Int) - 1 = (i : Int) by omega]
      exact ix_seq (x := wD ws[i]) seqOf_wsD (by rw [List.getElem?_map, hu]; rfl)
    have hlt := asc_prev asc hu hi
    have hn : ¬ (w.1 < ws[i].1 ∨ (w.1 = ws[i].1 ∧ w.2 ≤ ws[i].2)) := by
      unfold wayLt at hlt
      omega
    have hle : cmpD st .le (wD w) (wD ws[i]) = some false := by rw [le_ways, decide_eq_false hn]
    rw [hix]
    simp [hle, -le_ways]
theorem c_wrong_way (h : F ("is_between", none) = some m_is_between) (h2 : F ("is_way", none) = some m_is_way) (h3 : F ("wrong_way", none) = some m_wrong_way) (ws : List Way) (c : Int) (st : Store) (hw : ∀ w ∈ ws, wayOk c w) (asc : ws.Pairwise wayLt) (hl : ws.length < 1000) :
    callN p fuel F (n + 3) ("wrong_way", none) [wsD ws, .int c] st = .ok (.d .non) st := by
  rw [call_go h3 rfl]
  obtain ⟨a, b, e⟩ := l_wrong_way (p := p) (fuel := fuel) (n := n) h h2 ws c st hw asc hl none none
  simp [m_wrong_way, evSs, e]
  simp [evSs, evS, evE]
end
end Mn
end

section
set_option Elab.async false
set_option linter.all false
set_option maxRecDepth 100000
set_option maxHeartbeats 2000000
/-! Plain: webs are made. -/
namespace Mn
open PySem
/-! ### stores -/
theorem okPre_app (k : Nat) : ∀ (st ext : Store), okPre k st (st ++ ext) = true
  | [], _ => rfl
  | o :: st, ext => by simp [okPre, okPre_app k st ext]
/-- what came anew is forgotten -/
theorem trim_app {st ext : Store} {d : D} (h : ∀ j, d ≠ .loc j) (hb : D.bnd st.length d = true) : trim st (st ++ ext) (.d d) = .ok (.d d) st := by
  unfold trim
  rw [if_pos (okPre_app _ _ _)]
  have : (RV.d d).fresh st.length (st ++ ext) = some (.d d) := by
    unfold RV.fresh
    split
    · rename_i e; cases e
    · rename_i e; cases e
    · rename_i j e; cases e; exact absurd rfl (h j)
    · rename_i x _ e
      cases e
      simp [hb]
  rw [this]
  simp
theorem set_at {st : Store} {j : Nat} {o u : AO} (h : st[j]? = some u) : (st.set j o)[j]? = some o := by
  have := (List.getElem?_eq_some_iff.mp h).1
  simp [List.getElem?_set, this]
section
variable {b : Store} {x y u v : AO}
@[simp] theorem two_0 : (b ++ [x, y])[b.length]? = some x := by simp
@[simp] theorem two_1 : (b ++ [x, y])[b.length + 1]? = some y := by simp
@[simp] theorem two_s0 : (b ++ [x, y]).set b.length u = b ++ [u, y] := by simp [List.set_append]
@[simp] theorem two_s1 : (b ++ [x, y]).set (b.length + 1) u = b ++ [x, u] := by simp [List.set_append]
end
/-- a loop that changes the store, its state a function of the turns -/
theorem fr_foldS {α σ : Type} {f : D → Env → Store → RS} {g : α → D} {mk : σ → Env} {sk : σ → Store} {step : σ → α → σ} : ∀ {l : List α} {s : σ}, (∀ a ∈ l, ∀ s, f (g a) (mk s) (sk s) = .nx (mk (step s a)) (sk (step s a))) → frLoop f (l.map g) (mk s) (sk s) = .nx (mk (l.foldl step s)) (sk (l.foldl step s))
  | [], s, _ => rfl
  | a :: l, s, k => by
    simp only [List.map_cons, frLoop, k a (List.mem_cons_self ..) s, List.foldl_cons]
    exact fr_foldS fun b hb s => k b (List.mem_cons_of_mem _ hb) s
/-- with an invariant -/
theorem fr_inv {α σ : Type} {f : D → Env → Store → RS} {g : α → D} {mk : σ → Env} {sk : σ → Store} {step : σ → α → σ} (I : σ → Prop) : ∀ {l : List α} {s : σ}, I s → (∀ a ∈ l, ∀ s, I s → f (g a) (mk s) (sk s) = .nx (mk (step s a)) (sk (step s a)) ∧ I (step s a)) → frLoop f (l.map g) (mk s) (sk s) = .nx (mk (l.foldl step s)) (sk (l.foldl step s)) ∧ I (l.foldl step s)
  | [], s, i, _ => ⟨rfl, i⟩
  | a :: l, s, i, k => by
    obtain ⟨h1, h2⟩ := k a (List.mem_cons_self ..) s i
    simp only [List.map_cons, frLoop, h1, List.foldl_cons]
    exact fr_inv I h2 fun b hb s => k b (List.mem_cons_of_mem _ hb) s
/-- a while loop by a measure -/
theorem wh_inv {σ : Type} {c : Env → Store → Res Bool} {bd : Env → Store → RS} {mk : σ → Env} {sk : σ → Store} (I : σ → Prop) (m : σ → Nat) (go : σ → Bool) (step : σ → σ)
    (hc : ∀ s, I s → c (mk s) (sk s) = .ok (go s) (sk s)) (hb : ∀ s, I s → go s = true → bd (mk s) (sk s) = .nx (mk (step s)) (sk (step s)) ∧ I (step s) ∧ m (step s) < m s) :
    ∀ (k fuel : Nat) (s : σ), I s → m s ≤ k → k < fuel → ∃ s', whLoop c bd fuel (mk s) (sk s) = .nx (mk s') (sk s') ∧ I s' ∧ go s' = false
  | k, 0, s, _, _, h => by omega
  | k, fuel + 1, s, i, hm, hk => by
    simp only [whLoop, hc s i]
    cases e : go s with
    | false => exact ⟨s, rfl, i, e⟩
    | true =>
      obtain ⟨h1, h2, h3⟩ := hb s i e
      simp only [h1]
      exact wh_inv I m go step hc hb (k - 1) fuel (step s) h2 (by omega) (by omega)
/-! ### a search -/
def goals (ws : List Way) (x : Int) : List Int := (ws.filter fun w => decide (w.1 = x)).map (·.2)
def seekStep (s : List Int × List Int) (g : Int) : List Int × List Int := if g ∈ s.1 then s else (s.1 ++ [g], s.2 ++ [g])
/-- places not yet seen -/
def unseen (N : Nat) (s : List Int) : Nat := ((List.range N).filter fun (i : Nat) => !decide ((i : Int) ∈ s)).length
theorem filter_lt {α : Type} {q r : α → Bool} (hqr : ∀ a, q a = true → r a = true) : ∀ {l : List α} {x : α}, x ∈ l → r x = true → q x = false → (l.filter q).length < (l.filter r).length
  | [], _, h, _, _ => by cases h
  | a :: l, x, h, h1, h2 => by
    have le : (l.filter q).length ≤ (l.filter r).length := by
      clear h
      induction l with
      | nil => simp
      | cons b l ih =>
        cases e : q b with
        | true => simp [List.filter_cons, e, hqr b e]; exact ih
        | false =>
          cases e2 : r b with
          | true => simp [List.filter_cons, e, e2]; omega
          | false => simp [List.filter_cons, e, e2]; exact ih
    rcases List.mem_cons.mp h with rfl | h
    · simp [List.filter_cons, h1, h2]; omega
    · have := filter_lt hqr h h1 h2
      cases e : q a with
      | true => simp [List.filter_cons, e, hqr a e]; exact this
      | false =>
        cases e2 : r a with
        | true => simp [List.filter_cons, e, e2]; omega
        | false => simp [List.filter_cons, e, e2]; exact this
theorem unseen_lt {N : Nat} {s : List Int} {g : Int} (h0 : 0 ≤ g) (h1 : g < N) (h : g ∉ s) : unseen N (s ++ [g]) < unseen N s := by
  refine filter_lt (x := g.toNat) (fun a ha => ?_) (by rw [List.mem_range]; omega) ?_ ?_
  · simp at ha ⊢
    exact ha.1
  · simp; rw [Int.max_eq_left h0]; exact h
  · simp; intro _; exact Int.max_eq_left h0
theorem seek_fold {N : Nat} : ∀ (gs : List Int) (s : List Int × List Int), (∀ g ∈ gs, 0 ≤ g ∧ g < N) → (gs.foldl seekStep s).2.length + 2 * unseen N (gs.foldl seekStep s).1 ≤ s.2.length + 2 * unseen N s.1
  | [], s, _ => Nat.le_refl _
  | g :: gs, s, h => by
    rw [List.foldl_cons]
    refine Nat.le_trans (seek_fold gs (seekStep s g) fun x hx => h x (List.mem_cons_of_mem _ hx)) ?_
    unfold seekStep
    split
    · exact Nat.le_refl _
    · rename_i hg
      obtain ⟨h0, h1⟩ := h g (List.mem_cons_self ..)
      have := unseen_lt h0 h1 hg
      simp
      omega
theorem pop_length (s : List Int) (h : s ≠ []) : s.dropLast.length + 1 = s.length := by
  cases s with
  | nil => exact absurd rfl h
  | cons a s => simp
section
variable {p : PTab} {fuel n : Nat} {F : Fn → Option MDef}
theorem c_goals_of (h : F ("goals_of", none) = some m_goals_of) (ws : List Way) (x : Int) (st : Store) (hl : ws.length < 1000) : callN p fuel F (n + 1) ("goals_of", none) [wsD ws, .int x] st = .ok (.d (tI (goals ws x))) st := by
  rw [call_go h rfl]
  have hl : ws.length ≤ lim := by unfold lim; omega
  simp [m_goals_of, evSs, evS, evE, evEs, evT, evI, tgs, hl]
  rw [lc_ways (h := fun w => if decide (w.1 = x) = true then some (.int w.2) else none) (fun w _ => by
    simp [bindTg, wD, wipeE, setAll]
    by_cases e : w.1 = x <;> simp [e]), fm_if (fun w : Way => decide (w.1 = x)) (fun w => D.int w.2)]
  simp [goals, tI]
/-- the state of a search -/
abbrev Sk := (List Int × List Int) × (Option D × Option D)
def skE (ws : List Way) (a g : Int) (L : Nat) (s : Sk) : Env := [some (wsD ws), some (.int a), some (.int g), some (.loc L), some (.loc (L + 1)), s.2.1, s.2.2]
def skS (b : Store) (s : Sk) : Store := b ++ [.lst false (s.1.1.map D.int), .lst false (s.1.2.map D.int)]
theorem skS_len (b : Store) (s : Sk) : (skS b s).length = b.length + 2 := by simp [skS]
def SkI (N : Nat) (s : List Int × List Int) : Prop := s.2.length ≤ s.1.length ∧ s.1.length + unseen N s.1 ≤ N + 1
theorem SkI.step {N : Nat} {s : List Int × List Int} {g : Int} (i : SkI N s) (h0 : 0 ≤ g) (h1 : g < N) : SkI N (seekStep s g) := by
  unfold seekStep
  split
  · exact i
  · rename_i hg
    have := unseen_lt h0 h1 hg
    obtain ⟨i1, i2⟩ := i
    exact ⟨by simp; omega, by simp; omega⟩
def pstep (s : (List Int × List Int) × Option D) (g : Int) : (List Int × List Int) × Option D := (seekStep s.1 g, some (.int g))
theorem l_seek (h : F ("goals_of", none) = some m_goals_of) (ws : List Way) (a g x : Int) (b : Store) (hl : ws.length < 1000) {N : Nat} (hN : N < 1000) (hr : ∀ w ∈ ws, 0 ≤ w.2 ∧ w.2 < (N : Int)) (s : List Int × List Int) (hI : SkI N s) (fu : Option D) (r : (List Int × List Int) × Option D) (hrr : r = (goals ws x).foldl pstep (s, fu)) :
    evS p (callN p fuel F (n + 1)) fuel m_does_lead_l1 (skE ws a g b.length (s, some (.int x), fu)) (skS b (s, some (.int x), fu)) = .nx (skE ws a g b.length (r.1, some (.int x), r.2)) (skS b (r.1, some (.int x), r.2)) ∧ SkI N r.1 := by
  have hg : ∀ y ∈ goals ws x, 0 ≤ y ∧ y < (N : Int) := fun y hy => by
    obtain ⟨w, hw, rfl⟩ := List.mem_map.mp hy
    exact hr w (List.mem_filter.mp hw).1
  simp [m_does_lead_l1, evSs, evS, evE, evEs, evT, evI, skE, c_goals_of h ws x _ hl]
  subst hrr
  refine fr_inv (g := D.int) (mk := fun s : (List Int × List Int) × Option D => skE ws a g b.length (s.1, some (.int x), s.2)) (sk := fun s => skS b (s.1, some (.int x), s.2)) (step := pstep) (fun s => SkI N s.1) (l := goals ws x) (s := (s, fu)) hI fun y hy s i => ?_
  obtain ⟨⟨seen, fresh⟩, u⟩ := s
  obtain ⟨i1, i2⟩ := id i
  simp only at i1 i2
  have hlen : seen.length < lim := by unfold lim; omega
  have hlen2 : fresh.length < lim := by unfold lim; omega
  refine ⟨?_, i.step (hg y hy).1 (hg y hy).2⟩
  have h0 : (skS b ((seen, fresh), some (.int x), u))[b.length]? = some (.lst false (seen.map D.int)) := by simp [skS]
  have hn : cmpD (skS b ((seen, fresh), some (.int x), u)) .nin (.int y) (.loc b.length) = some (decide (y ∉ seen)) := by
    rw [nin_sim sim_int (ys := seen.map D.int) (by simp [seqOf, h0]) (sims_ints _)]
    simp
  simp [bindTg, skE, evSs, evS, evE, evEs, evT, hn]
  by_cases e : y ∈ seen
  · simp [e, pstep, seekStep]; rfl
  · simp [e, pstep, seekStep, tyB, isL, seqOf, h0, bmtD, appD, skS, hlen, hlen2]
theorem pfold1 : ∀ (l : List Int) (s : List Int × List Int) (u : Option D), (l.foldl pstep (s, u)).1 = l.foldl seekStep s
  | [], _, _ => rfl
  | y :: l, s, u => pfold1 l _ _
def wstep (ws : List Way) (s : Sk) : Sk := match s.1.2.getLast? with
  | some x => let r := (goals ws x).foldl pstep ((s.1.1, s.1.2.dropLast), s.2.2); (r.1, some (.int x), r.2)
  | none => s
theorem l_seeks (h : F ("goals_of", none) = some m_goals_of) (ws : List Way) (a g : Int) (b : Store) (hl : ws.length < 1000) {N : Nat} (hN : N < 100) (hr : ∀ w ∈ ws, 0 ≤ w.2 ∧ w.2 < (N : Int)) (hfu : 1000 ≤ fuel) (s : Sk) (hI : SkI N s.1) :
    ∃ s' : Sk, evS p (callN p fuel F (n + 1)) fuel m_does_lead_l2 (skE ws a g b.length s) (skS b s) = .nx (skE ws a g b.length s') (skS b s') ∧ SkI N s'.1 ∧ decide (0 < s'.1.2.length) = false := by
  simp only [m_does_lead_l2, evS]
  refine wh_inv (mk := skE ws a g b.length) (sk := skS b) (fun s : Sk => SkI N s.1) (fun s => s.1.2.length + 2 * unseen N s.1.1) (fun s => decide (0 < s.1.2.length)) (wstep ws) (fun s i => ?_) (fun s i e => ?_) 500 fuel s hI (by
    obtain ⟨i1, i2⟩ := hI
    show s.1.2.length + 2 * unseen N s.1.1 ≤ 500
    omega) (by omega)
  · obtain ⟨⟨seen, fresh⟩, pl, fu⟩ := s
    have h1 : (skS b ((seen, fresh), pl, fu))[b.length + 1]? = some (.lst false (fresh.map D.int)) := by simp [skS]
    simp [evT, evE, evEs, skE, bif_len_loc h1]
  · obtain ⟨⟨seen, fresh⟩, pl, fu⟩ := s
    have hne : fresh ≠ [] := fun z => by simp [z] at e
    obtain ⟨x, hx⟩ : ∃ x, fresh.getLast? = some x := by
      rw [List.getLast?_eq_some_getLast hne]; exact ⟨_, rfl⟩
    have h1 : (skS b ((seen, fresh), pl, fu))[b.length + 1]? = some (.lst false (fresh.map D.int)) := by simp [skS]
    have hp : SkI N (seen, fresh.dropLast) := by
      obtain ⟨i1, i2⟩ := i
      simp only at i1 i2
      exact ⟨by simp; omega, i2⟩
    have hl1 := l_seek (p := p) (fuel := fuel) (n := n) h ws a g x b hl (by omega) hr (seen, fresh.dropLast) hp fu _ rfl
    have hlast : fresh[fresh.length - 1]? = some x := by rw [← hx, List.getLast?_eq_getElem?]
    have hws : wstep ws ((seen, fresh), pl, fu) = (((goals ws x).foldl pstep ((seen, fresh.dropLast), fu)).1, some (.int x), ((goals ws x).foldl pstep ((seen, fresh.dropLast), fu)).2) := by
      simp [wstep, hx]
    rw [hws]
    refine ⟨?_, hl1.2, ?_⟩
    · have hpop : evS p (callN p fuel F (n + 1)) fuel (.asg 5 true (.bmt .pop (.var 4) .nil)) (skE ws a g b.length ((seen, fresh), pl, fu)) (skS b ((seen, fresh), pl, fu)) = .nx (skE ws a g b.length ((seen, fresh.dropLast), some (.int x), fu)) (skS b ((seen, fresh.dropLast), some (.int x), fu)) := by
        simp [evS, evE, evEs, skE, tyB, isL, seqOf, h1, bmtD, popD, hlast, skS, List.map_dropLast]
      simp only [evSs, hpop, seq_nx, hl1.1]
    · have h5 := seek_fold (N := N) (goals ws x) (seen, fresh.dropLast) fun y hy => by
        obtain ⟨w, hw, rfl⟩ := List.mem_map.mp hy
        exact hr w (List.mem_filter.mp hw).1
      have h6 := pop_length fresh hne
      simp only [pfold1]
      simp only at h5
      omega
theorem unseen_le (N : Nat) (s : List Int) : unseen N s ≤ N := by
  have := List.length_filter_le (fun (i : Nat) => !decide ((i : Int) ∈ s)) (List.range N)
  rw [List.length_range] at this
  exact this
theorem c_does_lead (h : F ("goals_of", none) = some m_goals_of) (h2 : F ("does_lead", none) = some m_does_lead) (ws : List Way) (a g : Int) (st : Store) (hl : ws.length < 1000) {N : Nat} (hN : N < 100) (hr : ∀ w ∈ ws, 0 ≤ w.2 ∧ w.2 < (N : Int)) (hfu : 1000 ≤ fuel) :
    ∃ bb, callN p fuel F (n + 2) ("does_lead", none) [wsD ws, .int a, .int g] st = .ok (.d (.bl bb)) st := by
  rw [call_go h2 rfl]
  obtain ⟨s', e, _, _⟩ := l_seeks (p := p) (fuel := fuel) (n := n) h ws a g st hl hN hr hfu (([a], [a]), none, none) ⟨by simp, by have := unseen_le N [a]; simp; omega⟩
  refine ⟨decide (g ∈ s'.1.1), ?_⟩
  simp only [m_does_lead, evSs, evS, evEs, evE, List.map_cons, List.map_nil, List.cons_append, List.nil_append]
  simp [setAll]
  rw [show (st ++ [AO.lst false [D.int a], AO.lst false [D.int a]] : Store) = skS st (([a], [a]), none, none) by simp [skS]]
  rw [show ([some (wsD ws), some (D.int a), some (D.int g), some (D.loc st.length), some (D.loc (st.length + 1)), none, none] : Env) = skE ws a g st.length (([a], [a]), none, none) from rfl, e]
  obtain ⟨⟨seen, fresh⟩, pl, fu⟩ := s'
  have h0 : (skS st ((seen, fresh), pl, fu))[st.length]? = some (.lst false (seen.map D.int)) := by simp [skS]
  have hn : cmpD (skS st ((seen, fresh), pl, fu)) .inn (.int g) (.loc st.length) = some (decide (g ∈ seen)) := by
    rw [inn_sim sim_int (ys := seen.map D.int) (by simp [seqOf, h0]) (sims_ints _)]
    simp
  simp [skE, hn]
  exact trim_app (fun j => by simp) rfl
end
end Mn
end

section
set_option Elab.async false
set_option linter.all false
set_option maxRecDepth 100000
set_option maxHeartbeats 2000000
/-! Plain: webs are made, standings, moves. -/
namespace Mn
open PySem
section
variable {b : Store} {x u : AO}
@[simp] theorem one_0 : (b ++ [x])[b.length]? = some x := by simp
@[simp] theorem one_s0 : (b ++ [x]).set b.length u = b ++ [u] := by simp [List.set_append]
end
/-- the program's defs about webs -/
structure HasW (p : PTab) (F : Fn → Option MDef) : Prop where
  is_between : F ("is_between", none) = some m_is_between
  check_count : F ("check_count", none) = some m_check_count
  is_way : F ("is_way", none) = some m_is_way
  wrong_way : F ("wrong_way", none) = some m_wrong_way
  check_ways : F ("check_ways", none) = some m_check_ways
  goals_of : F ("goals_of", none) = some m_goals_of
  does_lead : F ("does_lead", none) = some m_does_lead
  init : F ("Web", some "__init__") = some m_Web___init__
  check_web : F ("check_web", none) = some m_check_web
  check_place : F ("check_place", none) = some m_check_place
  toggled : F ("toggled", none) = some m_toggled
  played : F ("played", none) = some m_played
  ways_from : F ("ways_from", none) = some m_ways_from
  most : p.con.lookup (Str.ofString "MOST_PLACES") = some (D.int 8)
  f1 : p.isF "Web" "count" = true
  f2 : p.isF "Web" "ways" = true
  f3 : p.isF "Web" "told" = true
  f4 : p.isF "Web" "has_ring" = true
  p1 : p.prop "Web" "count" = false
  p2 : p.prop "Web" "ways" = false
  cls : Str.ofString "Web" ∈ p.cls
  sub : p.sub "Web" "Web" = true
/-- a web as it stands -/
def webO (c : Int) (ws : List Way) (r : Bool) : AO := .ins "Web" [("count", .int c), ("ways", wsD ws), ("told", .tup [.int c, wsD ws]), ("has_ring", .bl r)]
/-- such a web is allowed -/
structure WebOk (c : Int) (ws : List Way) : Prop where
  c1 : 1 ≤ c
  c8 : c ≤ 8
  ok : ∀ w ∈ ws, wayOk c w
  asc : ws.Pairwise wayLt
  len : ws.length < 1000
section
variable {p : PTab} {fuel n : Nat} {F : Fn → Option MDef} {c : Int} {ws : List Way}
theorem c_check_ways (W : HasW p F) (o : WebOk c ws) (st : Store) : callN p fuel F (n + 4) ("check_ways", none) [wsD ws, .int c] st = .ok (.d .non) st := by
  rw [call_go W.check_ways rfl]
  simp [m_check_ways, evSs, evS, evE, evEs, evT, c_wrong_way W.is_between W.is_way W.wrong_way ws c st o.ok o.asc o.len, cmpD]
theorem c_web_init (W : HasW p F) (o : WebOk c ws) (b : Store) (hfu : 1000 ≤ fuel) : ∃ r, callN p fuel F (n + 5) ("Web", some "__init__") [.loc b.length, .int c, wsD ws] (b ++ [.ins "Web" []]) = .ok (.d .non) (b ++ [webO c ws r]) := by
  have hr : ∀ w ∈ ws, 0 ≤ w.2 ∧ w.2 < ((8 : Nat) : Int) := fun w hw => by
    have h1 := (o.ok w hw).2.1
    have h2 := o.c8
    omega
  have hB : ∀ q : Way × Store, ∃ bb, callN p fuel F (n + 4) ("does_lead", none) [wsD ws, .int q.1.2, .int q.1.1] q.2 = .ok (.d (.bl bb)) q.2 := fun q => c_does_lead W.goals_of W.does_lead ws _ _ _ o.len (N := 8) (by omega) hr hfu
  obtain ⟨B, hB⟩ := Classical.axiomOfChoice hB
  have hb := o.c8
  have hlim : ws.length ≤ lim := by have := o.len; unfold lim; omega
  refine ⟨(ws.map fun w => B (w, b ++ [.ins "Web" [("count", .int c), ("ways", wsD ws), ("told", .tup [.int c, wsD ws])]])).any id, ?_⟩
  rw [call_go W.init rfl]
  simp [m_Web___init__, evSs, evS, evE, evEs, evT, evI, W.most, c_check_count W.is_between W.check_count, o.c1, hb, c_check_ways W o, fsetD, W.f1, W.f2, W.f3, W.f4, setF, hlim]
  rw [lc_ways (h := fun w => some (.bl (B (w, b ++ [.ins "Web" [("count", .int c), ("ways", wsD ws), ("told", .tup [.int c, wsD ws])]])))) (fun w _ => by
    have := hB (w, b ++ [.ins "Web" [("count", .int c), ("ways", wsD ws), ("told", .tup [.int c, wsD ws])]])
    simp only at this
    simp [tgs, wipeE, bindTg, wD, setAll, this]), fm_map]
  rw [show [] ++ ws.map (fun w => D.bl (B (w, b ++ [.ins "Web" [("count", .int c), ("ways", wsD ws), ("told", .tup [.int c, wsD ws])]]))) = (ws.map fun w => B (w, b ++ [.ins "Web" [("count", .int c), ("ways", wsD ws), ("told", .tup [.int c, wsD ws])]])).map D.bl by simp]
  simp only [Res.bind_okP, froz_fl, bif_any]
  simp [setF, W.f4, webO]
  exact endS_nx (by simp)
/-- a web's attributes -/
def WebAt (st : Store) (w : Nat) (c : Int) (ws : List Way) : Prop := ∃ r, st[w]? = some (webO c ws r)
theorem c_ways_from (W : HasW p F) {st : Store} {w : Nat} (h : WebAt st w c ws) (o : WebOk c ws) (s : List Int) : callN p fuel F (n + 1) ("ways_from", none) [.loc w, tI s] st = .ok (.d (wsD (from_ ws s))) st := by
  obtain ⟨r, h⟩ := h
  rw [call_go W.ways_from rfl]
  have hl : ws.length ≤ lim := by have := o.len; unfold lim; omega
  simp [m_ways_from, evSs, evS, evE, evEs, evT, evI, tgs, wipeE, h, webO, W.p2, W.f2, List.lookup, hl]
  rw [lc_ways (h := fun w => if decide (w.1 ∈ s) = true then some (wD w) else none) (fun v _ => by
    simp [bindTg]
    by_cases e : v.1 ∈ s <;> simp [e]), fm_if (fun w : Way => decide (w.1 ∈ s)) wD]
  simp [from_, wsD]
theorem c_check_web (W : HasW p F) {st : Store} {w : Nat} (h : WebAt st w c ws) : callN p fuel F (n + 1) ("check_web", none) [.loc w] st = .ok (.d .non) st := by
  obtain ⟨r, h⟩ := h
  rw [call_go W.check_web rfl]
  simp [m_check_web, evSs, evS, evE, evEs, evT, isiD, h, webO, W.cls, W.sub]
theorem c_check_place (W : HasW p F) {st : Store} {w : Nat} (h : WebAt st w c ws) {x : Int} (hx : 0 ≤ x ∧ x ≤ c - 1) : callN p fuel F (n + 2) ("check_place", none) [.int x, .loc w] st = .ok (.d .non) st := by
  obtain ⟨r, h⟩ := h
  rw [call_go W.check_place rfl]
  simp [m_check_place, evSs, evS, evE, evEs, evT, h, webO, W.p1, W.f1, List.lookup, binD, binI, c_is_between W.is_between, hx]
/-- the standings that a move leads to -/
def foll (ws : List Way) (s : List Int) : List (List Int) := (from_ ws s).map (play s)
def lS (l : List (List Int)) : D := .lst (l.map tI)
theorem c_followers_of (W : HasW p F) (hf : F ("followers_of", none) = some m_followers_of) {st : Store} {w : Nat} (h : WebAt st w c ws) (o : WebOk c ws) (s : List Int) (hs : s.length < 900) : callN p fuel F (n + 3) ("followers_of", none) [.loc w, tI s] st = .ok (.fl ((foll ws s).map tI)) st := by
  rw [call_go hf rfl]
  have h1 := c_ways_from (p := p) (fuel := fuel) (n := n + 1) W h o s
  have hl : (from_ ws s).length ≤ lim := by
    have := o.len
    have h2 := List.length_filter_le (fun w : Way => decide (w.1 ∈ s)) ws
    unfold lim from_; omega
  simp [m_followers_of, evSs, evS, evE, evEs, evT, evI, tgs, wipeE, h1, hl]
  rw [lc_ways (h := fun v => some (tI (play s v))) (fun v _ => by
    simp [bindTg, c_played W.toggled W.played s v st hs]), fm_map]
  simp [foll, List.map_map, Function.comp_def]
end
end Mn
end

section
set_option Elab.async false
set_option linter.all false
set_option maxRecDepth 100000
set_option maxHeartbeats 2000000
/-! Plain: all standings. -/
namespace Mn
open PySem
/-- a loop over a range, its state a function of the turn -/
theorem fr_range' {f : D → Env → Store → RS} {mk : Nat → Env} {sk : Nat → Store} : ∀ (m k : Nat), (∀ i, k ≤ i → i < k + m → f (.int (0 + (i : Int))) (mk i) (sk i) = .nx (mk (i + 1)) (sk (i + 1))) → frLoop f ((List.range' k m).map fun (i : Nat) => D.int (0 + (i : Int))) (mk k) (sk k) = .nx (mk (k + m)) (sk (k + m))
  | 0, k, _ => rfl
  | m + 1, k, h => by
    rw [List.range'_succ, List.map_cons]
    simp only [frLoop, h k (Nat.le_refl _) (by omega)]
    have := fr_range' m (k + 1) fun i h1 h2 => h i (by omega) (by omega)
    rw [this]
    rw [show k + 1 + m = k + (m + 1) by omega]
theorem fr_range {f : D → Env → Store → RS} {mk : Nat → Env} {sk : Nat → Store} {n : Nat} (h : ∀ i, i < n → f (.int (i : Int)) (mk i) (sk i) = .nx (mk (i + 1)) (sk (i + 1))) : frLoop f (intRange 0 n) (mk 0) (sk 0) = .nx (mk n) (sk n) := by
  unfold intRange
  rw [List.range_eq_range']
  have := fr_range' (f := f) (mk := mk) (sk := sk) n 0 fun i _ h2 => by
    rw [show (0 : Int) + (i : Int) = (i : Int) by omega]
    exact h i (by omega)
  simpa using this
/-- a comprehension over the images of a list -/
theorem lc_map {α : Type} {g : α → D} {f : D → Store → Res (Option D)} {h : α → Option D} {st : Store} : ∀ {l : List α} {acc : List D}, (∀ a ∈ l, f (g a) st = .ok (h a) st) → lcLoop f (l.map g) acc st = .ok (.fl (acc ++ l.filterMap h)) st
  | [], acc, _ => by simp [lcLoop]
  | a :: l, acc, k => by
    have k1 := k a (List.mem_cons_self ..)
    have k2 : ∀ acc, lcLoop f (l.map g) acc st = .ok (.fl (acc ++ l.filterMap h)) st := fun acc => lc_map fun x hx => k x (List.mem_cons_of_mem _ hx)
    simp only [List.map_cons, lcLoop, k1, Res.bind]
    cases e : h a with
    | none => simp only [List.filterMap_cons, e]; exact k2 acc
    | some x => simp only [List.filterMap_cons, e]; rw [k2 (acc ++ [x])]; simp
def allS : Nat → List (List Int)
  | 0 => [[]]
  | k + 1 => allS k ++ (allS k).map fun s => s ++ [(k : Int)]
theorem allS_len : ∀ k, (allS k).length = 2 ^ k
  | 0 => rfl
  | k + 1 => by simp [allS, allS_len k, Nat.pow_succ]; omega
theorem allS_short : ∀ (k : Nat) (s : List Int), s ∈ allS k → s.length ≤ k
  | 0, s, h => by simp [allS] at h; simp [h]
  | k + 1, s, h => by
    simp only [allS, List.mem_append, List.mem_map] at h
    rcases h with h | ⟨t, h, rfl⟩
    · have := allS_short k s h; omega
    · have := allS_short k t h; simp; exact this
def keyI (s : List Int) : PyData := .tuple [.int s.length, .tuple (s.map .int)]
def rows (k : Nat) : List (List Int) := (allS k).mergeSort (PySem.W.dataLe false keyI)
theorem rows_perm (k : Nat) : (rows k).Perm (allS k) := List.mergeSort_perm ..
theorem rows_len (k : Nat) : (rows k).length = 2 ^ k := by rw [(rows_perm k).length_eq, allS_len]
theorem keyLen_tI (s : List Int) : keyLen (tI s) = some (keyI s) := by simp [keyLen, tI, keyI]
theorem keysLen_tI : ∀ l : List (List Int), keysLen (l.map tI) = some (l.map keyI)
  | [] => rfl
  | s :: l => by simp [keysLen, keyLen_tI, keysLen_tI l]
theorem sortLen_tI {l : List (List Int)} (h : l.length ≤ lim) : sortLen (l.map tI) = some ((l.mergeSort (PySem.W.dataLe false keyI)).map tI) := by
  unfold sortLen
  rw [keysLen_tI, Option.bind_some, if_pos (by simpa using h)]
  rw [show (l.map tI).zip (l.map keyI) = l.map fun s => (tI s, keyI s) from by
    clear h
    induction l with
    | nil => rfl
    | cons a l ih => simp [ih]]
  rw [← map_sort (fun s => (tI s, keyI s)) (PySem.W.dataLe false keyI) (PySem.W.dataLe false fun q => q.2) (fun a b => rfl) l, List.map_map]
  rfl
theorem trim_app_fl {st ext : Store} {xs : List D} (hb : D.bnds st.length xs = true) : trim st (st ++ ext) (.fl xs) = .ok (.fl xs) st := by
  unfold trim
  rw [if_pos (okPre_app _ _ _)]
  simp [RV.fresh, hb]
theorem bnd_tI {n : Nat} (s : List Int) : D.bnd n (tI s) = true := by
  simp only [tI, D.bnd]
  induction s with
  | nil => rfl
  | cons a s ih => simp [D.bnds, D.bnd, ih]
theorem bnds_tI {n : Nat} : ∀ l : List (List Int), D.bnds n (l.map tI) = true
  | [] => rfl
  | s :: l => by simp [D.bnds, bnd_tI, bnds_tI l]
section
variable {p : PTab} {fuel n : Nat} {F : Fn → Option MDef}
theorem c_standings_of (h : F ("standings_of", none) = some m_standings_of) (k : Nat) (hk : k ≤ 8) (b : Store) : callN p fuel F (n + 1) ("standings_of", none) [.int k] b = .ok (.fl ((rows k).map tI)) b := by
  have h256 : ∀ i, i ≤ 8 → (allS i).length ≤ 256 := fun i hi => by
    rw [allS_len]
    exact Nat.pow_le_pow_right (n := 2) (by omega) hi
  rw [call_go h rfl]
  have e : evS p (callN p fuel F n) fuel m_standings_of_l1 [some (.int k), some (.loc b.length), none, none] (b ++ [.lst false [.tup []]]) = .nx [some (.int k), some (.loc b.length), (if k = 0 then none else some (.int ((k : Int) - 1))), none] (b ++ [.lst false ((allS k).map tI)]) := by
    simp [m_standings_of_l1, evSs, evS, evE, evEs, evT, evI]
    rw [if_pos (by omega)]
    refine fr_range (mk := fun i => [some (.int k), some (.loc b.length), (if i = 0 then none else some (.int ((i : Int) - 1))), none]) (sk := fun i => b ++ [.lst false ((allS i).map tI)]) fun i hi => ?_
    have h1 := h256 i (by omega)
    have h2 := h256 (i + 1) (by omega)
    have hl : (allS i).length ≤ lim := by unfold lim; omega
    simp [bindTg, tgs, wipeE, seqOf, stillL, hl]
    rw [lc_map (h := fun s => some (tI (s ++ [(i : Int)]))) (fun s hs => by
      have hsl : s.length + 1 ≤ lim := by
        have := allS_short i s hs
        unfold lim; omega
      simp [tI, binD, hsl]), fm_map]
    have hl2 : (allS i).length + (allS i).length ≤ lim := by unfold lim; omega
    simp [augD, lstOf, hl2, allS]
  simp [m_standings_of, evSs, evS, evE, evEs, e]
  have hl : (allS k).length ≤ lim := by have := h256 k hk; unfold lim; omega
  simp [isL, seqOf, sortLen_tI hl]
  exact trim_app_fl (bnds_tI _)
end
end Mn
end

section
set_option Elab.async false
set_option linter.all false
set_option maxRecDepth 100000
set_option maxHeartbeats 2000000
/-! Plain: the survey of a web. -/
namespace Mn
open PySem
def settledAt (ws : List Way) (K : List Int → Option Nat) (t : Nat) (s : List Int) : Bool :=
  if t % 2 = 1 then (foll ws s).any fun f => decide (K f = some (t - 1)) else (foll ws s).all fun f => match K f with
    | some m => decide (m % 2 = 1)
    | none => false
/-- the steps known behind so many rounds -/
def Kf (c : Nat) (ws : List Way) : Nat → List Int → Option Nat
  | 0, _ => none
  | t + 1, s => match Kf c ws t s with
    | some m => some m
    | none => if s ∈ rows c ∧ settledAt ws (Kf c ws t) t s = true then some t else none
def svO (L w : Nat) : AO := .ins "Survey" [("web", .loc w), ("known", .loc (L + 1)), ("waiting", .loc (L + 2))]
def knD (kn : List (List Int × Nat)) : List (D × D) := kn.map fun q => (tI q.1, .int q.2)
def wtD (L : Nat) (wt : List (List Int × Nat)) : List (D × D) := wt.map fun q => (tI q.1, .loc (L + 3 + q.2))
def flO (ws : List Way) (s : List Int) : AO := .lst false ((foll ws s).map tI)
theorem tI_inj {s t : List Int} : tI s = tI t ↔ s = t := by
  simp only [tI, D.tup.injEq]
  exact ⟨fun h => map_inj' (fun a b h => by cases h; rfl) h, fun h => by rw [h]⟩
theorem look_map {α : Type} {g : α → D} : ∀ {l : List (List Int × α)} {s : List Int}, look (l.map fun q => (tI q.1, g q.2)) (tI s) = (l.lookup s).map g
  | [], _ => rfl
  | (t, a) :: l, s => by
    simp only [List.map_cons, look, tI_inj, List.lookup_cons]
    by_cases e : t = s
    · simp [e]
    · have : (s == t) = false := by simp; exact fun z => e z.symm
      simp only [e, this, if_false]
      exact look_map
theorem keysK_ints : ∀ s : List Int, (keysK (s.map D.int)).isSome = true
  | [] => rfl
  | i :: s => by
    have := keysK_ints s
    cases e : keysK (s.map D.int) with
    | none => rw [e] at this; cases this
    | some k => simp [keysK, keyK, e]
@[simp] theorem isKey_tI {s : List Int} : isKey true (tI s) = true := by simp [isKey, tI, keyT, keysK_ints]
theorem dget_tI {st : Store} {j : Nat} {lk : Bool} {kvs : List (D × D)} {s : List Int} (h : st[j]? = some (.dct true lk kvs)) : dgetD st (.loc j) (tI s) = some (look kvs (tI s)) := by
  simp [dgetD, dkOf, dctOf, h]
theorem inn_dct {st : Store} {j : Nat} {lk : Bool} {kvs : List (D × D)} {s : List Int} (h : st[j]? = some (.dct true lk kvs)) : cmpD st .inn (tI s) (.loc j) = some (look kvs (tI s)).isSome := by
  show inD st (tI s) (.loc j) = _
  unfold inD tI
  simp only [seqOf, h]
  rw [show D.tup (s.map D.int) = tI s from rfl, dget_tI h]
  rfl
theorem nin_dct {st : Store} {j : Nat} {lk : Bool} {kvs : List (D × D)} {s : List Int} (h : st[j]? = some (.dct true lk kvs)) : cmpD st .nin (tI s) (.loc j) = some (!(look kvs (tI s)).isSome) := by
  show (inD st (tI s) (.loc j)).map not = _
  rw [show inD st (tI s) (.loc j) = _ from inn_dct h]
  rfl
theorem ix_dct {st : Store} {j : Nat} {lk : Bool} {kvs : List (D × D)} {s : List Int} (h : st[j]? = some (.dct true lk kvs)) : ixD st (.loc j) (tI s) = look kvs (tI s) := by
  unfold ixD
  split
  · rename_i e; cases e
  · simp only [seqOf, h]
    rw [dget_tI h]
    rfl
/-- the program's defs about surveys -/
structure HasS (p : PTab) (F : Fn → Option MDef) : Prop extends HasW p F where
  standings_of : F ("standings_of", none) = some m_standings_of
  followers_of : F ("followers_of", none) = some m_followers_of
  sinit : F ("Survey", some "__init__") = some m_Survey___init__
  settle : F ("Survey", some "settle") = some m_Survey_settle
  is_settled : F ("Survey", some "is_settled") = some m_Survey_is_settled
  word : F ("Survey", some "word") = some m_Survey_word
  sf1 : p.isF "Survey" "web" = true
  sf2 : p.isF "Survey" "known" = true
  sf3 : p.isF "Survey" "waiting" = true
  sp1 : p.prop "Survey" "web" = false
  sp2 : p.prop "Survey" "known" = false
  sp3 : p.prop "Survey" "waiting" = false
  sm1 : p.isM "Survey" "settle" = true
  sm2 : p.isM "Survey" "is_settled" = true
  sm3 : p.isM "Survey" "word" = true
  lost : p.con.lookup (Str.ofString "LOST") = some (D.str "lost")
  won : p.con.lookup (Str.ofString "WON") = some (D.str "won")
  drawn : p.con.lookup (Str.ofString "DRAWN") = some (D.str "drawn")
section
variable {p : PTab} {fuel n : Nat} {F : Fn → Option MDef} {c : Nat} {ws : List Way}
theorem c_is_settled (S : HasS p F) {st : Store} {L w j : Nat} {lk : Bool} {kvs : List (D × D)} {K : List Int → Option Nat} {s : List Int} {t : Nat} (h0 : st[L]? = some (svO L w)) (h1 : st[L + 1]? = some (.dct true lk kvs)) (hK : ∀ f, look kvs (tI f) = (K f).map fun m : Nat => D.int m)
    (hj : st[j]? = some (flO ws s)) (hl : (foll ws s).length < 1000) : callN p fuel F (n + 1) ("Survey", some "is_settled") [.loc L, .loc j, .int t] st = .ok (.d (.bl (settledAt ws K t s))) st := by
  rw [call_go S.is_settled rfl]
  have hlm : (foll ws s).length ≤ lim := by unfold lim; omega
  have hseq : seqOf st (.loc j) = some ((foll ws s).map tI) := by simp [seqOf, hj, flO]
  simp [m_Survey_is_settled, evSs, evS, evE, evEs, evT, evI, binD, binI, hseq, hlm, tgs, wipeE]
  by_cases ht : (t : Int) % 2 = 1
  · have ht2 : t % 2 = 1 := by omega
    simp only [ht, if_true]
    rw [lc_map (h := fun f => some (.bl (decide (K f = some (t - 1))))) (fun f _ => by
      have e : cmpD st .eq ((look kvs (tI f)).getD .non) (.int ((t : Int) - 1)) = some (decide (K f = some (t - 1))) := by
        rw [hK f]
        cases K f with
        | none => rw [eq_sim (by rfl) sim_int]; simp
        | some m =>
          simp
          omega
      simp [bindTg, h0, svO, S.sp2, S.sf2, List.lookup, tyB, dkOf, dctOf, h1, bmtD, getD, dget_tI h1, e]), fm_map]
    simp only [List.nil_append]
    rw [show (foll ws s).map (fun f => D.bl (decide (K f = some (t - 1)))) = ((foll ws s).map fun f => decide (K f = some (t - 1))).map D.bl by simp]
    simp only [Res.bind_okP, froz_fl, bif_any]
    simp [settledAt, ht2]
  · have ht2 : ¬ t % 2 = 1 := by omega
    simp only [ht, if_false]
    rw [lc_map (h := fun f => some (.bl (match K f with | some m => decide (m % 2 = 1) | none => false))) (fun f _ => by
      simp only [bindTg, List.set, h0, svO, S.sp2, S.sf2, List.lookup]
      cases e : K f with
      | none => simp [h0, svO, S.sp2, S.sf2, List.lookup, inn_dct h1, hK f, e]
      | some m =>
        simp [h0, svO, S.sp2, S.sf2, List.lookup, inn_dct h1, ix_dct h1, hK f, e]
        omega), fm_map]
    simp only [List.nil_append]
    rw [show (foll ws s).map (fun f => D.bl (match K f with | some m => decide (m % 2 = 1) | none => false)) = ((foll ws s).map fun f => (match K f with | some m => decide (m % 2 = 1) | none => false)).map D.bl by simp]
    simp only [Res.bind_okP, froz_fl, bif_all]
    simp [settledAt, ht2]
/-- the outcome -/
def wordK (K : List Int → Option Nat) (s : List Int) : String := match K s with
  | none => "drawn"
  | some m => if m % 2 = 0 then "lost" else "won"
theorem c_word (S : HasS p F) {st : Store} {L w : Nat} {lk : Bool} {kvs : List (D × D)} {K : List Int → Option Nat} (h0 : st[L]? = some (svO L w)) (h1 : st[L + 1]? = some (.dct true lk kvs)) (s : List Int) (hK : look kvs (tI s) = (K s).map fun m : Nat => D.int m) :
    callN p fuel F (n + 1) ("Survey", some "word") [.loc L, tI s] st = .ok (.d (.str (Str.ofString (wordK K s)))) st := by
  rw [call_go S.word rfl]
  simp only [m_Survey_word, evSs, evS, evE, evEs, evT, List.map_cons, List.map_nil, List.cons_append, List.nil_append]
  cases e : K s with
  | none => simp [h0, svO, S.sp2, S.sf2, List.lookup, nin_dct h1, hK, e, S.drawn, wordK]
  | some m =>
    simp [h0, svO, S.sp2, S.sf2, List.lookup, nin_dct h1, ix_dct h1, hK, e, S.lost, S.won, wordK, binD, binI]
    by_cases hm : m % 2 = 0
    · have : (m : Int) % 2 = 0 := by omega
      simp [hm, this]
    · have : ¬ (m : Int) % 2 = 0 := by omega
      simp [hm, this]
end
/-- a loop with an invariant over what is left -/
theorem fr_rem {α σ : Type} {f : D → Env → Store → RS} {g : α → D} {mk : σ → Env} {sk : σ → Store} {step : σ → α → σ} (I : List α → σ → Prop) : ∀ {l : List α} {s : σ}, I l s → (∀ a l s, I (a :: l) s → f (g a) (mk s) (sk s) = .nx (mk (step s a)) (sk (step s a)) ∧ I l (step s a)) → frLoop f (l.map g) (mk s) (sk s) = .nx (mk (l.foldl step s)) (sk (l.foldl step s)) ∧ I [] (l.foldl step s)
  | [], s, i, _ => ⟨rfl, i⟩
  | a :: l, s, i, k => by
    obtain ⟨h1, h2⟩ := k a l s i
    simp only [List.map_cons, frLoop, h1, List.foldl_cons]
    exact fr_rem I h2 k
theorem look_none {α : Type} {g : α → D} {l : List (List Int × α)} {s : List Int} (h : s ∉ l.map (·.1)) : look (l.map fun q => (tI q.1, g q.2)) (tI s) = none := by
  rw [look_map]
  have : l.lookup s = none := by
    rw [List.lookup_eq_none_iff]
    intro q hq
    simp
    intro e
    exact h (List.mem_map.mpr ⟨q, hq, e.symm⟩)
  rw [this]; rfl
theorem look_some {α : Type} {g : α → D} {l : List (List Int × α)} {s : List Int} (h : s ∈ l.map (·.1)) : (look (l.map fun q => (tI q.1, g q.2)) (tI s)).isSome = true := by
  rw [look_map]
  cases e : l.lookup s with
  | some a => rfl
  | none =>
    rw [List.lookup_eq_none_iff] at e
    obtain ⟨q, hq, hs⟩ := List.mem_map.mp h
    have := e q hq
    simp [hs] at this
theorem putD_new {kn : List (List Int × Nat)} {s : List Int} {t : Nat} (h : s ∉ kn.map (·.1)) : putD (knD kn) (tI s) (.int t) = knD (kn ++ [(s, t)]) := by
  unfold putD knD
  rw [look_none (g := fun m : Nat => D.int m) h]
  simp
theorem delD_wt {L : Nat} {wt : List (List Int × Nat)} {s : List Int} : delD (wtD L wt) (tI s) = wtD L (wt.filter fun q => decide (q.1 ≠ s)) := by
  unfold delD wtD
  rw [List.filter_map]
  congr 1
  apply List.filter_congr
  intro q _
  simp [tI_inj]
/-- the store with both dicts changed -/
def st2 (st : Store) (L : Nat) (kn wt : List (List Int × Nat)) : Store := (st.set (L + 1) (.dct true false (knD kn))).set (L + 2) (.dct true false (wtD L wt))
section
variable {st : Store} {L : Nat} {kn wt : List (List Int × Nat)} {ext : Store}
theorem st2_len : (st2 st L kn wt).length = st.length := by simp [st2]
theorem st2_1 (h : L + 2 < st.length) : (st2 st L kn wt)[L + 1]? = some (.dct true false (knD kn)) := by
  unfold st2
  rw [List.getElem?_set_ne (by omega), List.getElem?_set_self (by omega)]
theorem st2_2 (h : L + 2 < st.length) : (st2 st L kn wt)[L + 2]? = some (.dct true false (wtD L wt)) := by
  unfold st2
  rw [List.getElem?_set_self (by simp; omega)]
theorem st2_ne {i : Nat} (h1 : i ≠ L + 1) (h2 : i ≠ L + 2) : (st2 st L kn wt)[i]? = st[i]? := by
  unfold st2
  rw [List.getElem?_set_ne (by omega), List.getElem?_set_ne (by omega)]
theorem st2_st2 {kn' wt' : List (List Int × Nat)} : st2 (st2 st L kn wt) L kn' wt' = st2 st L kn' wt' := by
  unfold st2
  apply List.ext_getElem?
  intro i
  simp only [List.getElem?_set, List.length_set]
  by_cases h2 : L + 2 = i <;> by_cases h1 : L + 1 = i <;> simp [h1, h2]
theorem st2_kn {kn' : List (List Int × Nat)} : (st2 st L kn wt).set (L + 1) (.dct true false (knD kn')) = st2 st L kn' wt := by
  unfold st2
  rw [List.set_comm _ _ (by omega), List.set_set]
theorem st2_wt {wt' : List (List Int × Nat)} : (st2 st L kn wt).set (L + 2) (.dct true false (wtD L wt')) = st2 st L kn wt' := by
  unfold st2
  rw [List.set_set]
theorem set_get {st : Store} {i : Nat} {o : AO} (h : st[i]? = some o) : st.set i o = st := by
  apply List.ext_getElem?
  intro k
  rw [List.getElem?_set]
  by_cases q : i = k
  · subst q
    have := (List.getElem?_eq_some_iff.mp h).1
    rw [if_pos rfl, if_pos this, h]
  · rw [if_neg q]
theorem st2_same (h1 : st[L + 1]? = some (.dct true false (knD kn))) (h2 : st[L + 2]? = some (.dct true false (wtD L wt))) : st2 st L kn wt = st := by
  unfold st2
  rw [set_get h1, set_get h2]
end
section
variable {p : PTab} {fuel n : Nat} {F : Fn → Option MDef} {c : Nat} {ws : List Way}
/-- the settled ones move over -/
def mv (t : Nat) (q : (List (List Int × Nat) × List (List Int × Nat)) × Option D) (s : List Int) : (List (List Int × Nat) × List (List Int × Nat)) × Option D := ((q.1.1 ++ [(s, t)], q.1.2.filter fun r => decide (r.1 ≠ s)), some (tI s))
def MvI (l : List (List Int)) (q : (List (List Int × Nat) × List (List Int × Nat)) × Option D) : Prop := l.Nodup ∧ (∀ s ∈ l, s ∈ q.1.2.map (·.1) ∧ s ∉ q.1.1.map (·.1)) ∧ q.1.1.length + l.length < 10000
theorem l_settle (S : HasS p F) {st : Store} {L w : Nat} {t : Nat} (h0 : st[L]? = some (svO L w)) (hlen : L + 2 < st.length) (fnd : List (List Int)) (q0 : (List (List Int × Nat) × List (List Int × Nat)) × Option D) (hI : MvI fnd q0) :
    evS p (callN p fuel F n) fuel m_Survey_settle_l1 [some (.loc L), some (.int t), q0.2, some (.loc st.length), none] (st2 st L q0.1.1 q0.1.2 ++ [.lst false (fnd.map tI)]) =
      .nx [some (.loc L), some (.int t), (fnd.foldl (mv t) q0).2, some (.loc st.length), none] (st2 st L (fnd.foldl (mv t) q0).1.1 (fnd.foldl (mv t) q0).1.2 ++ [.lst false (fnd.map tI)]) := by
  have hseq : ∀ kn wt, seqOf (st2 st L kn wt ++ [.lst false (fnd.map tI)]) (.loc st.length) = some (fnd.map tI) := fun kn wt => by
    have : st.length = (st2 st L kn wt).length := st2_len.symm
    simp only [seqOf]
    rw [this]
    simp
  have hat : ∀ kn wt, (st2 st L kn wt ++ [AO.lst false (fnd.map tI)])[st.length]? = some (.lst false (fnd.map tI)) := fun kn wt => by
    have : st.length = (st2 st L kn wt).length := st2_len.symm
    rw [this]
    simp
  simp only [m_Survey_settle_l1, evS, evI, evE, List.getElem?_cons_zero, List.getElem?_cons_succ, froz_d, Res.bind_okP, hseq, toS_ok]
  simp only [still_loc, decide_true, if_true, unl_none]
  refine (fr_rem (g := tI) (mk := fun q : (List (List Int × Nat) × List (List Int × Nat)) × Option D => [some (.loc L), some (.int t), q.2, some (.loc st.length), none]) (sk := fun q => st2 st L q.1.1 q.1.2 ++ [.lst false (fnd.map tI)]) (step := mv t) MvI (l := fnd) (s := q0) hI fun s l q i => ?_).1
  obtain ⟨⟨kn, wt⟩, sl⟩ := q
  obtain ⟨i1, i2, i3⟩ := i
  obtain ⟨j1, j2⟩ := i2 s (List.mem_cons_self ..)
  simp only at j1 j2 i3
  have i1' := List.nodup_cons.mp i1
  have k1 : ∀ kn wt, (st2 st L kn wt ++ [AO.lst false (fnd.map tI)])[L]? = some (svO L w) := fun kn wt => by
    rw [List.getElem?_append_left (by rw [st2_len]; omega), st2_ne (by omega) (by omega), h0]
  have k2 : ∀ kn wt, (st2 st L kn wt ++ [AO.lst false (fnd.map tI)])[L + 1]? = some (.dct true false (knD kn)) := fun kn wt => by
    rw [List.getElem?_append_left (by rw [st2_len]; omega), st2_1 hlen]
  have k3 : ∀ kn wt, (st2 st L kn wt ++ [AO.lst false (fnd.map tI)])[L + 2]? = some (.dct true false (wtD L wt)) := fun kn wt => by
    rw [List.getElem?_append_left (by rw [st2_len]; omega), st2_2 hlen]
  have e1 : ∀ kn wt kn', (st2 st L kn wt ++ [AO.lst false (fnd.map tI)]).set (L + 1) (.dct true false (knD kn')) = st2 st L kn' wt ++ [AO.lst false (fnd.map tI)] := fun kn wt kn' => by
    rw [List.set_append_left _ _ (by rw [st2_len]; omega), st2_kn]
  have e2 : ∀ kn wt wt', (st2 st L kn wt ++ [AO.lst false (fnd.map tI)]).set (L + 2) (.dct true false (wtD L wt')) = st2 st L kn wt' ++ [AO.lst false (fnd.map tI)] := fun kn wt wt' => by
    rw [List.set_append_left _ _ (by rw [st2_len]; omega), st2_wt]
  have hkl : (knD kn).length < lim := by
    unfold knD lim
    simp
    simp at i3
    omega
  constructor
  · have hp := putD_new (t := t) j2
    have hd := delD_wt (L := L) (wt := wt) (s := s)
    have hls : (look (wtD L wt) (tI s)).isSome = true := look_some (g := fun m : Nat => D.loc (L + 3 + m)) j1
    simp [bindTg, evSs, evS, evE, k1, svO, S.sp2, S.sf2, S.sp3, S.sf3, List.lookup, isetD, k2, hkl, hp, e1, delAt, k3, hls, hd, e2, mv, hat]
  · refine ⟨i1'.2, fun x hx => ?_, by simp [mv]; simp at i3; omega⟩
    obtain ⟨m1, m2⟩ := i2 x (List.mem_cons_of_mem _ hx)
    have hne : x ≠ s := fun e => i1'.1 (e ▸ hx)
    simp only [mv]
    constructor
    · obtain ⟨r, hr, er⟩ := List.mem_map.mp m1
      exact List.mem_map.mpr ⟨r, List.mem_filter.mpr ⟨hr, by rw [er]; simp [hne]⟩, er⟩
    · simp only [List.map_append, List.map_cons, List.map_nil, List.mem_append, List.mem_singleton, not_or]
      exact ⟨m2, hne⟩
theorem unlock_lock {st : Store} {j : Nat} {t : Bool} {kvs : List (D × D)} (h : st[j]? = some (.dct t false kvs)) : unlock (st.set j (.dct t true kvs)) (some j) = st := by
  have hl := (List.getElem?_eq_some_iff.mp h).1
  have e : (st.set j (.dct t true kvs))[j]? = some (.dct t true kvs) := by rw [List.getElem?_set_self hl]
  simp only [unlock, e, List.set_set]
  exact set_get h
theorem okPre_iff {k : Nat} : ∀ {st st' : Store}, st.length ≤ st'.length → (∀ (j : Nat) (o o' : AO), st[j]? = some o → st'[j]? = some o' → o = o' ∨ o'.bnd k = true) → okPre k st st' = true
  | [], _, _, _ => rfl
  | o :: st, [], h, _ => by simp at h
  | o :: st, o' :: st', h, hh => by
    simp only [okPre, Bool.and_eq_true, Bool.or_eq_true, decide_eq_true_eq]
    exact ⟨hh 0 o o' rfl rfl, okPre_iff (by simpa using h) fun j a b h1 h2 => hh (j + 1) a b (by simpa using h1) (by simpa using h2)⟩
theorem bndp_kn {k : Nat} : ∀ kn : List (List Int × Nat), D.bndp k (knD kn) = true
  | [] => rfl
  | q :: kn => by
    have := bndp_kn (k := k) kn
    simp only [knD, List.map_cons, D.bndp, D.bnd, Bool.true_and]
    exact this
theorem bndp_wt {k L : Nat} : ∀ wt : List (List Int × Nat), (∀ q ∈ wt, L + 3 + q.2 < k) → D.bndp k (wtD L wt) = true
  | [], _ => rfl
  | q :: wt, h => by
    have := bndp_wt (k := k) (L := L) wt fun x hx => h x (List.mem_cons_of_mem _ hx)
    simp only [wtD, List.map_cons, D.bndp, D.bnd, Bool.and_eq_true, Nat.blt_eq]
    exact ⟨h q (List.mem_cons_self ..), this⟩
theorem trim_st2 {st ext : Store} {L : Nat} {kn wt : List (List Int × Nat)} {bb : Bool} (hlen : L + 2 < st.length) (hw : ∀ q ∈ wt, L + 3 + q.2 < st.length) : trim st (st2 st L kn wt ++ ext) (.d (.bl bb)) = .ok (.d (.bl bb)) (st2 st L kn wt) := by
  unfold trim
  rw [if_pos (okPre_iff (by simp [st2_len]) fun j o o' h1 h2 => ?_)]
  · have : (RV.d (.bl bb)).fresh st.length (st2 st L kn wt ++ ext) = some (.d (.bl bb)) := rfl
    rw [this]
    have : (st2 st L kn wt ++ ext).take st.length = st2 st L kn wt := by
      rw [show st.length = (st2 st L kn wt).length from st2_len.symm, List.take_left]
    dsimp only
    rw [this]
  · have hj := (List.getElem?_eq_some_iff.mp h1).1
    rw [List.getElem?_append_left (by rw [st2_len]; exact hj)] at h2
    by_cases e2 : j = L + 2
    · subst e2
      rw [st2_2 hlen] at h2
      cases h2
      exact .inr (bndp_wt wt hw)
    · by_cases e1 : j = L + 1
      · subst e1
        rw [st2_1 hlen] at h2
        cases h2
        exact .inr (bndp_kn kn)
      · rw [st2_ne e1 e2, h1] at h2
        cases h2
        exact .inl rfl
/-- the settled ones -/
def lkS (kn : List (List Int × Nat)) (s : List Int) : Option Nat := List.lookup s kn
def fndOf (ws : List Way) (kn wt : List (List Int × Nat)) (t : Nat) : List (List Int) := (wt.filter fun q => settledAt ws (lkS kn) t q.1).map (·.1)
structure SvAt (st : Store) (L w : Nat) (ws : List Way) (kn wt : List (List Int × Nat)) : Prop where
  sv : st[L]? = some (svO L w)
  kn_ : st[L + 1]? = some (.dct true false (knD kn))
  wt_ : st[L + 2]? = some (.dct true false (wtD L wt))
  fl : ∀ q ∈ wt, st[L + 3 + q.2]? = some (flO ws q.1)
theorem foll_len (ws : List Way) (s : List Int) : (foll ws s).length ≤ ws.length := by
  unfold foll from_
  rw [List.length_map]
  exact List.length_filter_le ..
theorem mv_sub (t : Nat) : ∀ (l : List (List Int)) (q : (List (List Int × Nat) × List (List Int × Nat)) × Option D), ∀ r ∈ (l.foldl (mv t) q).1.2, r ∈ q.1.2
  | [], _, r, h => h
  | s :: l, q, r, h => by
    have := mv_sub t l (mv t q s) r h
    exact (List.mem_filter.mp this).1
theorem c_settle (S : HasS p F) {st : Store} {L w : Nat} {t : Nat} {kn wt : List (List Int × Nat)} (V : SvAt st L w ws kn wt) (hws : ws.length < 1000) (hnd : (wt.map (·.1)).Nodup) (hdj : ∀ s ∈ wt.map (·.1), s ∉ kn.map (·.1)) (hsz : kn.length + wt.length < 10000) :
    callN p fuel F (n + 2) ("Survey", some "settle") [.loc L, .int t] st = .ok (.d (.bl (decide (0 < (fndOf ws kn wt t).length)))) (st2 st L (((fndOf ws kn wt t).foldl (mv t) ((kn, wt), none)).1.1) (((fndOf ws kn wt t).foldl (mv t) ((kn, wt), none)).1.2)) := by
  have hlen : L + 2 < st.length := (List.getElem?_eq_some_iff.mp V.wt_).1
  have hkn : st[L + 1]? = _ := V.kn_
  have hwt : st[L + 2]? = _ := V.wt_
  rw [call_go S.settle rfl]
  have hlim : wt.length ≤ lim := by unfold lim; omega
  have hit : (wtD L wt).map (fun q => D.tup [q.1, q.2]) = wt.map fun q => D.tup [tI q.1, .loc (L + 3 + q.2)] := by unfold wtD; rw [List.map_map]; rfl
  have hf : fndOf ws kn wt t = (wt.filter fun q => settledAt ws (lkS kn) t q.1).map (·.1) := rfl
  have hmv : MvI (fndOf ws kn wt t) ((kn, wt), none) := by
    refine ⟨hnd.sublist ((List.filter_sublist (l := wt)).map _), fun s hs => ?_, ?_⟩
    · obtain ⟨q, hq, rfl⟩ := List.mem_map.mp hs
      have : q.1 ∈ wt.map (·.1) := List.mem_map.mpr ⟨q, (List.mem_filter.mp hq).1, rfl⟩
      exact ⟨this, hdj _ this⟩
    · have := List.length_filter_le (fun q : List Int × Nat => settledAt ws (lkS kn) t q.1) wt
      simp only [fndOf, List.length_map]
      omega
  have hl := l_settle (p := p) (fuel := fuel) (n := n + 1) S V.sv hlen (fndOf ws kn wt t) ((kn, wt), none) hmv (t := t)
  rw [st2_same hkn hwt] at hl
  have hsub := mv_sub t (fndOf ws kn wt t) ((kn, wt), none)
  generalize (fndOf ws kn wt t).foldl (mv t) ((kn, wt), none) = r at hl hsub ⊢
  have hlock : ∀ j, j ≠ L + 2 → (st.set (L + 2) (.dct true true (wtD L wt)))[j]? = st[j]? := fun j hj => by rw [List.getElem?_set_ne (by omega)]
  simp [m_Survey_settle, evSs, evS, evE, evEs, evT, evI, V.sv, svO, S.sp3, S.sf3, List.lookup, lockD, hwt, hit, hlim]
  have hK : ∀ f, look (knD kn) (tI f) = (lkS kn f).map fun m : Nat => D.int m := fun f => look_map (g := fun m : Nat => D.int m) (l := kn)
  have hst : ∀ q ∈ wt, callN p fuel F (n + 1) ("Survey", some "is_settled") [.loc L, .loc (L + 3 + q.2), .int t] (st.set (L + 2) (.dct true true (wtD L wt))) = .ok (.d (.bl (settledAt ws (lkS kn) t q.1))) (st.set (L + 2) (.dct true true (wtD L wt))) := fun q hq =>
    c_is_settled S (by rw [hlock _ (by omega)]; exact V.sv) (by rw [hlock _ (by omega)]; exact hkn) hK (by rw [hlock _ (by omega)]; exact V.fl q hq) (by have := foll_len ws q.1; omega)
  have hsv : (st.set (L + 2) (AO.dct true true (wtD L wt)))[L]? = some (svO L w) := by rw [hlock _ (by omega)]; exact V.sv
  rw [lc_map (h := fun q => if settledAt ws (lkS kn) t q.1 = true then some (tI q.1) else none) (fun q hq => by
    have h1 := hst q hq
    simp only [bindTg, wipeE, tgs, setAll, List.set, List.length_cons, List.length_nil, if_true, List.getElem?_cons_zero, List.getElem?_cons_succ, froz_d, Res.bind_okP, hsv, svO, List.lookup]
    simp [S.sm2, h1]
    split <;> rfl), fm_if (fun q : List Int × Nat => settledAt ws (lkS kn) t q.1) (fun q => tI q.1)]
  rw [show [] ++ (wt.filter fun q => settledAt ws (lkS kn) t q.1).map (fun q => tI q.1) = (fndOf ws kn wt t).map tI by simp [fndOf]]
  simp only [Res.bind_okP, unlock_lock hwt, kept_fl, toS_ok, seq_nx, List.set, hl]
  have hlast : (st2 st L r.1.1 r.1.2 ++ [AO.lst false ((fndOf ws kn wt t).map tI)])[st.length]? = some (.lst false ((fndOf ws kn wt t).map tI)) := by
    rw [show st.length = (st2 st L r.1.1 r.1.2).length from st2_len.symm]
    simp
  simp [bif_len_loc hlast]
  exact trim_st2 hlen fun q hq => (List.getElem?_eq_some_iff.mp (V.fl q (hsub q hq))).1
end
end Mn
end

section
set_option Elab.async false
set_option linter.all false
set_option maxRecDepth 100000
set_option maxHeartbeats 2000000
/-! Plain: the survey of a web, made. -/
namespace Mn
open PySem
theorem mv_fold (t : Nat) : ∀ (l : List (List Int)) (q : (List (List Int × Nat) × List (List Int × Nat)) × Option D), (l.foldl (mv t) q).1 = (q.1.1 ++ l.map (fun s => (s, t)), q.1.2.filter fun r => !decide (r.1 ∈ l))
  | [], q => by
    obtain ⟨⟨a, b⟩, c⟩ := q
    simp
    exact (List.filter_eq_self.mpr fun _ _ => rfl).symm
  | s :: l, q => by
    rw [List.foldl_cons, mv_fold t l]
    simp only [mv, List.map_cons, List.append_assoc, List.cons_append, List.nil_append, List.filter_filter]
    congr 1
    apply List.filter_congr
    intro r _
    by_cases h1 : r.1 = s <;> by_cases h2 : r.1 ∈ l <;> simp [h1, h2]
theorem allS_lt : ∀ (k : Nat) (s : List Int), s ∈ allS k → ∀ x ∈ s, 0 ≤ x ∧ x < (k : Int)
  | 0, s, h, x, hx => by simp [allS] at h; rw [h] at hx; cases hx
  | k + 1, s, h, x, hx => by
    simp only [allS, List.mem_append, List.mem_map] at h
    rcases h with h | ⟨t, h, rfl⟩
    · have := allS_lt k s h x hx; omega
    · rcases List.mem_append.mp hx with hx | hx
      · have := allS_lt k t h x hx; omega
      · simp at hx; omega
theorem allS_nodup : ∀ k, (allS k).Nodup
  | 0 => by simp [allS]
  | k + 1 => by
    rw [allS, List.nodup_append]
    refine ⟨allS_nodup k, ?_, fun a ha b hb => ?_⟩
    · unfold List.Nodup
      rw [List.pairwise_map]
      exact (allS_nodup k).imp fun h e => h (List.append_cancel_right e)
    · obtain ⟨t, ht, rfl⟩ := List.mem_map.mp hb
      intro e
      subst e
      have := (allS_lt k _ ha (k : Int) (by simp)).2
      omega
theorem rows_nodup (k : Nat) : (rows k).Nodup := (rows_perm k).nodup_iff.mpr (allS_nodup k)
theorem mem_rows {k : Nat} {s : List Int} : s ∈ rows k ↔ s ∈ allS k := (rows_perm k).mem_iff
theorem rows_short {k : Nat} {s : List Int} (h : s ∈ rows k) : s.length ≤ k := allS_short k s (mem_rows.mp h)
structure SInv (c : Nat) (ws : List Way) (t : Nat) (kn wt : List (List Int × Nat)) : Prop where
  kn_ : ∀ s, lkS kn s = Kf c ws t s
  wt_ : wt = (rows c).zipIdx.filter fun q => (Kf c ws t q.1).isNone
  len : kn.length + wt.length = (rows c).length
section
variable {c t : Nat} {ws : List Way} {kn wt : List (List Int × Nat)}
theorem zip_mem {l : List (List Int)} {q : List Int × Nat} (h : q ∈ l.zipIdx) : q.1 ∈ l := by
  have := List.mem_zipIdx_iff_getElem?.mp h
  exact List.mem_of_getElem? this
theorem SInv.mem (i : SInv c ws t kn wt) {q : List Int × Nat} : q ∈ wt ↔ q ∈ (rows c).zipIdx ∧ Kf c ws t q.1 = none := by
  rw [i.wt_, List.mem_filter, Option.isNone_iff_eq_none]
theorem SInv.nd (i : SInv c ws t kn wt) : (wt.map (·.1)).Nodup := by
  rw [i.wt_]
  refine List.Nodup.sublist (List.Sublist.map _ List.filter_sublist) ?_
  have : (rows c).zipIdx.map (·.1) = rows c := by simp
  rw [this]
  exact rows_nodup c
theorem SInv.dj (i : SInv c ws t kn wt) : ∀ s ∈ wt.map (·.1), s ∉ kn.map (·.1) := fun s hs hk => by
  obtain ⟨q, hq, rfl⟩ := List.mem_map.mp hs
  have h1 := (i.mem.mp hq).2
  rw [← i.kn_] at h1
  have h2 : List.lookup q.1 kn = none := h1
  rw [List.lookup_eq_none_iff] at h2
  obtain ⟨r, hr, e⟩ := List.mem_map.mp hk
  have := h2 r hr
  simp [e] at this
theorem SInv.lkf (i : SInv c ws t kn wt) : lkS kn = Kf c ws t := funext i.kn_
theorem mem_fnd (i : SInv c ws t kn wt) {s : List Int} : s ∈ fndOf ws kn wt t ↔ s ∈ rows c ∧ Kf c ws t s = none ∧ settledAt ws (Kf c ws t) t s = true := by
  unfold fndOf
  rw [i.lkf]
  constructor
  · intro h
    obtain ⟨q, hq, rfl⟩ := List.mem_map.mp h
    obtain ⟨h1, h2⟩ := List.mem_filter.mp hq
    exact ⟨zip_mem (i.mem.mp h1).1, (i.mem.mp h1).2, h2⟩
  · rintro ⟨h1, h2, h3⟩
    obtain ⟨j, hj⟩ := List.mem_iff_getElem?.mp h1
    exact List.mem_map.mpr ⟨(s, j), List.mem_filter.mpr ⟨i.mem.mpr ⟨List.mem_zipIdx_iff_getElem?.mpr hj, h2⟩, h3⟩, rfl⟩
theorem lookup_const {s : List Int} {t : Nat} : ∀ l : List (List Int), List.lookup s (l.map fun x => (x, t)) = if s ∈ l then some t else none
  | [] => rfl
  | x :: l => by
    rw [List.map_cons, List.lookup_cons]
    by_cases e : s = x
    · subst e; simp
    · have : (s == x) = false := by simpa using e
      rw [this]
      simp only [lookup_const l, List.mem_cons, e, false_or]
theorem lookup_app {s : List Int} : ∀ a b : List (List Int × Nat), List.lookup s (a ++ b) = (match List.lookup s a with | some m => some m | none => List.lookup s b)
  | [], b => rfl
  | (x, m) :: a, b => by
    rw [List.cons_append, List.lookup_cons, List.lookup_cons]
    by_cases e : s = x
    · subst e; simp
    · have : (s == x) = false := by simpa using e
      rw [this]
      exact lookup_app a b
theorem len_part {α : Type} (q : α → Bool) : ∀ l : List α, (l.filter q).length + (l.filter fun a => !q a).length = l.length
  | [] => rfl
  | a :: l => by
    have := len_part q l
    cases e : q a <;> simp [List.filter_cons, e] <;> omega
theorem wt_left (i : SInv c ws t kn wt) : (wt.filter fun r => !decide (r.1 ∈ fndOf ws kn wt t)) = wt.filter fun q => !settledAt ws (lkS kn) t q.1 := by
  apply List.filter_congr
  intro q hq
  rw [i.lkf]
  have h := i.mem.mp hq
  by_cases e : settledAt ws (Kf c ws t) t q.1 = true
  · have : q.1 ∈ fndOf ws kn wt t := (mem_fnd i).mpr ⟨zip_mem h.1, h.2, e⟩
    simp [this, e]
  · have : q.1 ∉ fndOf ws kn wt t := fun z => e ((mem_fnd i).mp z).2.2
    simp [this, e]
/-- a round -/
theorem SInv.step (i : SInv c ws t kn wt) : SInv c ws (t + 1) (((fndOf ws kn wt t).foldl (mv t) ((kn, wt), none)).1.1) (((fndOf ws kn wt t).foldl (mv t) ((kn, wt), none)).1.2) := by
  rw [mv_fold]
  dsimp only
  refine ⟨fun s => ?_, ?_, ?_⟩
  · show List.lookup s (kn ++ (fndOf ws kn wt t).map fun s => (s, t)) = _
    rw [lookup_app, lookup_const, show List.lookup s kn = Kf c ws t s from i.kn_ s]
    simp only [Kf]
    cases e : Kf c ws t s with
    | some m => rfl
    | none =>
      by_cases h : s ∈ fndOf ws kn wt t
      · obtain ⟨h1, _, h3⟩ := (mem_fnd i).mp h
        simp [h, h1, h3]
      · have : ¬ (s ∈ rows c ∧ settledAt ws (Kf c ws t) t s = true) := fun z => h ((mem_fnd i).mpr ⟨z.1, e, z.2⟩)
        simp [h, this]
  · rw [wt_left i, i.lkf]
    conv => lhs; rw [i.wt_]
    rw [List.filter_filter]
    apply List.filter_congr
    intro q hq
    have hr := zip_mem hq
    simp only [Kf]
    cases e : Kf c ws t q.1 with
    | some m => simp
    | none =>
      by_cases h : settledAt ws (Kf c ws t) t q.1 = true
      · simp [h, hr]
      · simp [h]
  · rw [wt_left i]
    have := len_part (fun q : List Int × Nat => settledAt ws (lkS kn) t q.1) wt
    have h2 := i.len
    simp only [List.length_append, List.length_map, fndOf]
    omega
end
end Mn
end

section
set_option Elab.async false
set_option linter.all false
set_option maxRecDepth 100000
set_option maxHeartbeats 2000000
/-! Plain: the survey of a web, made (the loops). -/
namespace Mn
open PySem
theorem okPre_at {k : Nat} : ∀ {st st' : Store}, okPre k st st' = true → ∀ (j : Nat) (o o' : AO), st[j]? = some o → st'[j]? = some o' → o = o' ∨ o'.bnd k = true
  | [], _, _, j, o, o', h, _ => by simp at h
  | _ :: _, [], h, _, _, _, _, _ => by simp [okPre] at h
  | x :: st, y :: st', h, j, o, o', h1, h2 => by
    simp only [okPre, Bool.and_eq_true, Bool.or_eq_true, decide_eq_true_eq] at h
    cases j with
    | zero =>
      simp only [List.getElem?_cons_zero, Option.some.injEq] at h1 h2
      subst h1 h2
      exact h.1
    | succ j => exact okPre_at h.2 j o o' (by simpa using h1) (by simpa using h2)
/-- something old leads to what is new: nothing is forgotten -/
theorem trim_keep {st st' : Store} {r : RV} {j : Nat} {o o' : AO} (h1 : st[j]? = some o) (h2 : st'[j]? = some o') (hne : o ≠ o') (hb : o'.bnd st.length = false) : trim st st' r = .ok r st' := by
  unfold trim
  rw [if_neg]
  intro h
  rcases okPre_at h j o o' h1 h2 with e | e
  · exact hne e
  · rw [hb] at e; cases e
section
variable {p : PTab} {fuel n : Nat} {F : Fn → Option MDef} {c : Nat} {ws : List Way}
theorem sv_at {st : Store} {L w : Nat} {kn wt : List (List Int × Nat)} (hlen : L + 2 < st.length) (h0 : st[L]? = some (svO L w)) (hfl : ∀ q ∈ (rows c).zipIdx, st[L + 3 + q.2]? = some (flO ws q.1)) (hw : ∀ q ∈ wt, q ∈ (rows c).zipIdx) : SvAt (st2 st L kn wt) L w ws kn wt :=
  ⟨by rw [st2_ne (by omega) (by omega)]; exact h0, st2_1 hlen, st2_2 hlen, fun q hq => by rw [st2_ne (by omega) (by omega)]; exact hfl q (hw q hq)⟩
/-- the end of a survey: nothing more is settled -/
def Done (c : Nat) (ws : List Way) (t : Nat) : Prop := ∀ s ∈ rows c, Kf c ws t s = none → settledAt ws (Kf c ws t) t s = false
theorem l_rounds (S : HasS p F) (hws : ws.length < 1000) (hc : c ≤ 8) {st : Store} {L w : Nat} (hlen : L + 2 < st.length) (h0 : st[L]? = some (svO L w)) (hfl : ∀ q ∈ (rows c).zipIdx, st[L + 3 + q.2]? = some (flO ws q.1)) :
    ∀ (fl : Nat) (m : Nat) (kn wt : List (List Int × Nat)) (sl : Option D), wt.length < fl → SInv c ws (2 * m) kn wt →
      ∃ m' kn' wt', whLoop (fun env st => evT p (callN p fuel F (n + 2)) (.val (.meth (.var 0) "settle" (.cons true (.var 3) .nil))) env st) (fun env st => evSs p (callN p fuel F (n + 2)) fuel (.cons (.ex (.meth (.var 0) "settle" (.cons true (.bin .add (.var 3) (.cst (.int (1)))) .nil)))
  (.cons (.aug 3 .add (.cst (.int (2)))) .nil)) env st) fl [some (.loc L), some (.loc w), sl, some (.int (2 * m : Nat))] (st2 st L kn wt) = .nx [some (.loc L), some (.loc w), sl, some (.int (2 * m' : Nat))] (st2 st L kn' wt') ∧ SInv c ws (2 * m') kn' wt' ∧ Done c ws (2 * m')
  | 0, _, _, _, _, h, _ => by omega
  | fl + 1, m, kn, wt, sl, hfu, i => by
    have hr : (rows c).length ≤ 256 := by rw [rows_len]; exact Nat.pow_le_pow_right (n := 2) (by omega) hc
    have call : ∀ (t : Nat) (kn wt : List (List Int × Nat)), SInv c ws t kn wt → callN p fuel F (n + 2) ("Survey", some "settle") [.loc L, .int t] (st2 st L kn wt) = .ok (.d (.bl (decide (0 < (fndOf ws kn wt t).length)))) (st2 st L (((fndOf ws kn wt t).foldl (mv t) ((kn, wt), none)).1.1) (((fndOf ws kn wt t).foldl (mv t) ((kn, wt), none)).1.2)) := fun t kn wt i => by
      have := c_settle (p := p) (fuel := fuel) (n := n) S (t := t) (sv_at (c := c) (kn := kn) (wt := wt) hlen h0 hfl fun q hq => (i.mem.mp hq).1) hws i.nd i.dj (by have := i.len; omega)
      rw [st2_st2] at this
      exact this
    have hsv : ∀ kn wt, (st2 st L kn wt)[L]? = some (svO L w) := fun kn wt => by rw [st2_ne (by omega) (by omega)]; exact h0
    have e1 : evT p (callN p fuel F (n + 2)) (.val (.meth (.var 0) "settle" (.cons true (.var 3) .nil))) [some (.loc L), some (.loc w), sl, some (.int (2 * m : Nat))] (st2 st L kn wt) = .ok (decide (0 < (fndOf ws kn wt (2 * m)).length)) (st2 st L (((fndOf ws kn wt (2 * m)).foldl (mv (2 * m)) ((kn, wt), none)).1.1) (((fndOf ws kn wt (2 * m)).foldl (mv (2 * m)) ((kn, wt), none)).1.2)) := by
      have := call (2 * m) kn wt i
      simp only [evT, evE, evEs, List.getElem?_cons_zero, List.getElem?_cons_succ, froz_d, Res.bind_okP, hsv, svO, List.lookup]
      simp [S.sm1] at this ⊢
      rw [this]
      rfl
    have i1 := i.step
    simp only [whLoop, e1]
    by_cases hf : fndOf ws kn wt (2 * m) = []
    · simp only [hf, List.length_nil, List.foldl_nil, Nat.lt_irrefl, decide_false]
      refine ⟨m, kn, wt, rfl, i, fun s hs hk => ?_⟩
      cases e : settledAt ws (Kf c ws (2 * m)) (2 * m) s with
      | false => rfl
      | true =>
        have := (mem_fnd i).mpr ⟨hs, hk, e⟩
        rw [hf] at this
        cases this
    · have hpos : 0 < (fndOf ws kn wt (2 * m)).length := List.length_pos_iff.mpr hf
      simp only [hpos, decide_true]
      have hless : (((fndOf ws kn wt (2 * m)).foldl (mv (2 * m)) ((kn, wt), none)).1.2).length < wt.length := by
        have h1 := i.len
        have h2 := i1.len
        rw [mv_fold] at h2 ⊢
        simp only [List.length_append, List.length_map] at h2 ⊢
        omega
      generalize (((fndOf ws kn wt (2 * m)).foldl (mv (2 * m)) ((kn, wt), none)).1.1) = kn1 at i1 hless ⊢
      generalize (((fndOf ws kn wt (2 * m)).foldl (mv (2 * m)) ((kn, wt), none)).1.2) = wt1 at i1 hless ⊢
      have h2 := call (2 * m + 1) kn1 wt1 i1
      have i2 := i1.step
      have hless2 : (((fndOf ws kn1 wt1 (2 * m + 1)).foldl (mv (2 * m + 1)) ((kn1, wt1), none)).1.2).length ≤ wt1.length := by
        have h1 := i1.len
        have h2 := i2.len
        rw [mv_fold] at h2 ⊢
        simp only [List.length_append, List.length_map] at h2 ⊢
        omega
      generalize (((fndOf ws kn1 wt1 (2 * m + 1)).foldl (mv (2 * m + 1)) ((kn1, wt1), none)).1.1) = kn2 at i2 hless2 h2 ⊢
      generalize (((fndOf ws kn1 wt1 (2 * m + 1)).foldl (mv (2 * m + 1)) ((kn1, wt1), none)).1.2) = wt2 at i2 hless2 h2 ⊢
      obtain ⟨m', kn', wt', g1, g2, g3⟩ := l_rounds S hws hc hlen h0 hfl fl (m + 1) kn2 wt2 sl (by omega) i2
      have e2 : evSs p (callN p fuel F (n + 2)) fuel (.cons (.ex (.meth (.var 0) "settle" (.cons true (.bin .add (.var 3) (.cst (.int (1)))) .nil)))
  (.cons (.aug 3 .add (.cst (.int (2)))) .nil)) [some (.loc L), some (.loc w), sl, some (.int (2 * m : Nat))] (st2 st L kn1 wt1) = .nx [some (.loc L), some (.loc w), sl, some (.int (2 * (m + 1) : Nat))] (st2 st L kn2 wt2) := by
        have e3 : ((2 * m : Nat) : Int) + 1 = ((2 * m + 1 : Nat) : Int) := by omega
        have e4 : ((2 * m : Nat) : Int) + 2 = ((2 * (m + 1) : Nat) : Int) := by omega
        simp only [evSs, evS, evE, evEs, List.getElem?_cons_zero, List.getElem?_cons_succ, froz_d, Res.bind_okP, hsv, svO, List.lookup, binD, binI, Option.map_some, ofOpt_some, kept_d, e3]
        simp [S.sm1] at h2 ⊢
        rw [h2]
        simp [augD]
        omega
      rw [e2]
      exact ⟨m', kn', wt', g1, g2, g3⟩
/-- what stands while the followers are laid -/
def skI (b : Store) (w c : Nat) (ws : List Way) (i : Nat) : Store := b ++ ([svO b.length w, .dct true false [], .dct true false (wtD b.length ((rows c).zipIdx.take i))] ++ ((rows c).take i).map (flO ws))
theorem off_get {b x : Store} {i : Nat} : (b ++ x)[b.length + i]? = x[i]? := by rw [List.getElem?_append_right (by omega)]; congr 1; omega
theorem off_set {b x : Store} {i : Nat} {o : AO} : (b ++ x).set (b.length + i) o = b ++ x.set i o := by rw [List.set_append_right _ _ (by omega)]; congr 2; omega
theorem skI_0 {b : Store} {w i : Nat} : (skI b w c ws i)[b.length]? = some (svO b.length w) := by
  unfold skI
  have := off_get (b := b) (x := [svO b.length w, .dct true false [], .dct true false (wtD b.length ((rows c).zipIdx.take i))] ++ ((rows c).take i).map (flO ws)) (i := 0)
  rw [Nat.add_zero] at this
  rw [this]
  rfl
theorem skI_2 {b : Store} {w i : Nat} : (skI b w c ws i)[b.length + 2]? = some (.dct true false (wtD b.length ((rows c).zipIdx.take i))) := by
  unfold skI
  rw [off_get]
  rfl
theorem skI_len {b : Store} {w i : Nat} (hi : i ≤ (rows c).length) : (skI b w c ws i).length = b.length + 3 + i := by
  unfold skI
  simp
  omega
def cntS (q : Nat × Option D) (s : List Int) : Nat × Option D := (q.1 + 1, some (tI s))
theorem cnt_fold : ∀ (l : List (List Int)) (q : Nat × Option D), (l.foldl cntS q).1 = q.1 + l.length
  | [], _ => rfl
  | s :: l, q => by rw [List.foldl_cons, cnt_fold l]; simp [cntS]; omega
theorem l_laid (S : HasS p F) (o : WebOk c ws) (hc : c ≤ 8) {b : Store} {w : Nat} (hw : WebAt b w c ws) :
    ∃ sl, evS p (callN p fuel F (n + 3)) fuel m_Survey___init___l1 [some (.loc b.length), some (.loc w), none, none] (skI b w c ws 0) = .nx [some (.loc b.length), some (.loc w), sl, none] (skI b w c ws (rows c).length) := by
  have hr : (rows c).length ≤ 256 := by rw [rows_len]; exact Nat.pow_le_pow_right (n := 2) (by omega) hc
  have hwl : w < b.length := by
    obtain ⟨r, hw⟩ := hw
    exact (List.getElem?_eq_some_iff.mp hw).1
  have hwi : ∀ i, WebAt (skI b w c ws i) w c ws := fun i => by
    obtain ⟨r, hw⟩ := hw
    exact ⟨r, by unfold skI; rw [List.getElem?_append_left hwl]; exact hw⟩
  obtain ⟨r, hw0⟩ := hwi 0
  have hso := c_standings_of (p := p) (fuel := fuel) (n := n + 2) S.standings_of c hc (skI b w c ws 0)
  simp [m_Survey___init___l1, evSs, evS, evE, evEs, evT, evI, hw0, webO, S.p1, S.f1, List.lookup, hso]
  refine ⟨((rows c).foldl cntS (0, none)).2, ?_⟩
  have hfin : ((rows c).foldl cntS (0, none)).1 = (rows c).length := by rw [cnt_fold]; simp
  rw [← hfin]
  refine (fr_rem (g := tI) (mk := fun q : Nat × Option D => [some (.loc b.length), some (.loc w), q.2, none]) (sk := fun q => skI b w c ws q.1) (step := cntS) (fun l q => l = (rows c).drop q.1 ∧ q.1 + l.length = (rows c).length) (l := rows c) (s := (0, none)) ⟨rfl, by simp⟩ fun s l q i => ?_).1
  · obtain ⟨i, sl⟩ := q
    obtain ⟨i1, i2⟩ := i
    simp only at i1 i2
    have hi : (rows c)[i]? = some s := by
      have := congrArg (fun l => l[0]?) i1
      simpa using this.symm
    have hil : i < (rows c).length := (List.getElem?_eq_some_iff.mp hi).1
    have hmem : s ∈ rows c := List.mem_of_getElem? hi
    have hsl : s.length < 900 := by have := rows_short hmem; omega
    have hfo := c_followers_of (p := p) (fuel := fuel) (n := n) S.toHasW S.followers_of (hwi i) o s hsl
    refine ⟨?_, ?_, ?_⟩
    · have hti : (rows c).zipIdx.take (i + 1) = (rows c).zipIdx.take i ++ [(s, i)] := by
        rw [List.take_add_one]
        have : (rows c).zipIdx[i]? = some (s, i) := by simp [List.getElem?_zipIdx, hi]
        rw [this]
        rfl
      have hri : (rows c).take (i + 1) = (rows c).take i ++ [s] := by
        rw [List.take_add_one, hi]; rfl
      have hnew : s ∉ ((rows c).zipIdx.take i).map (·.1) := by
        have : (rows c).zipIdx.map (·.1) = rows c := by simp
        rw [List.map_take, this]
        intro z
        obtain ⟨j, hj⟩ := List.mem_iff_getElem?.mp z
        rw [List.getElem?_take] at hj
        split at hj
        · rename_i hji
          obtain ⟨a1, a2⟩ := List.getElem?_eq_some_iff.mp hj
          obtain ⟨b1, b2⟩ := List.getElem?_eq_some_iff.mp hi
          exact List.pairwise_iff_getElem.mp (rows_nodup c) j i a1 b1 hji (by rw [a2, b2])
        · cases hj
      have hput : putD (wtD b.length ((rows c).zipIdx.take i)) (tI s) (.loc (b.length + 3 + i)) = wtD b.length ((rows c).zipIdx.take (i + 1)) := by
        unfold putD
        rw [show look (wtD b.length ((rows c).zipIdx.take i)) (tI s) = none from look_none (g := fun m : Nat => D.loc (b.length + 3 + m)) hnew, hti]
        simp [wtD]
      have e0 : (skI b w c ws i ++ [flO ws s])[b.length]? = some (svO b.length w) := by
        rw [List.getElem?_append_left (by rw [skI_len (by omega)]; omega)]; exact skI_0
      have e2 : (skI b w c ws i ++ [flO ws s])[b.length + 2]? = some (.dct true false (wtD b.length ((rows c).zipIdx.take i))) := by
        rw [List.getElem?_append_left (by rw [skI_len (by omega)]; omega)]; exact skI_2
      have e3 : (skI b w c ws i ++ [flO ws s]).set (b.length + 2) (.dct true false (wtD b.length ((rows c).zipIdx.take (i + 1)))) = skI b w c ws (i + 1) := by
        unfold skI
        rw [List.append_assoc, off_set, hri]
        simp
      have hkl : (wtD b.length ((rows c).zipIdx.take i)).length < lim := by
        unfold wtD lim
        simp
        omega
      have hfo2 : (Res.ok (RV.fl ((foll ws s).map tI)) (skI b w c ws i) : Res RV).kept = .ok (.loc (b.length + 3 + i)) (skI b w c ws i ++ [flO ws s]) := by
        rw [kept_fl, skI_len (by omega)]; rfl
      simp only [bindTg, List.set, evSs, evS, evE, evEs, List.getElem?_cons_zero, List.getElem?_cons_succ, froz_d, kept_d, Res.bind_okP, if_true, hfo, hfo2, toS_ok, e0, svO, List.lookup]
      simp [S.sp3, S.sf3, isetD, e2, hkl, hput, e3, cntS]
    · have := congrArg List.tail i1
      simpa [cntS] using this
    · simp [cntS] at i2 ⊢
      omega
theorem Kf0 (s : List Int) : Kf c ws 0 s = none := rfl
/-- the survey of a web is made -/
theorem c_survey_init (S : HasS p F) (o : WebOk c ws) (hc : c ≤ 8) {b : Store} {w : Nat} (hw : WebAt b w c ws) (hfu : 1000 ≤ fuel) :
    ∃ st' kn wt m, callN p fuel F (n + 4) ("Survey", some "__init__") [.loc b.length, .loc w] (b ++ [.ins "Survey" []]) = .ok (.d .non) st' ∧ (∀ i, i < b.length → st'[i]? = b[i]?) ∧ SvAt st' b.length w ws kn wt ∧ SInv c ws (2 * m) kn wt ∧ Done c ws (2 * m) ∧ b.length + 2 < st'.length := by
  have hr : (rows c).length ≤ 256 := by rw [rows_len]; exact Nat.pow_le_pow_right (n := 2) (by omega) hc
  obtain ⟨sl, e1⟩ := l_laid (p := p) (fuel := fuel) (n := n) S o hc hw
  have hlenS : (skI b w c ws (rows c).length).length = b.length + 3 + (rows c).length := skI_len (Nat.le_refl _)
  have h0 : (skI b w c ws (rows c).length)[b.length]? = some (svO b.length w) := skI_0
  have hfl : ∀ q ∈ (rows c).zipIdx, (skI b w c ws (rows c).length)[b.length + 3 + q.2]? = some (flO ws q.1) := fun q hq => by
    have hq2 := List.mem_zipIdx_iff_getElem?.mp hq
    unfold skI
    rw [show b.length + 3 + q.2 = b.length + (3 + q.2) by omega, off_get, List.getElem?_append_right (by simp), List.take_length]
    simp [hq2]
  have hst2 : st2 (skI b w c ws (rows c).length) b.length [] ((rows c).zipIdx) = skI b w c ws (rows c).length := by
    have ht : (rows c).zipIdx.take (rows c).length = (rows c).zipIdx := List.take_of_length_le (by simp)
    refine st2_same ?_ ?_
    · unfold skI; rw [off_get]; rfl
    · have := skI_2 (b := b) (w := w) (c := c) (ws := ws) (i := (rows c).length)
      rw [ht] at this
      exact this
  have i0 : SInv c ws (2 * 0) [] ((rows c).zipIdx) := ⟨fun s => rfl, (List.filter_eq_self.mpr fun q _ => rfl).symm, by simp⟩
  obtain ⟨m, kn, wt, g1, g2, g3⟩ := l_rounds (p := p) (fuel := fuel) (n := n + 1) S o.len hc (st := skI b w c ws (rows c).length) (w := w) (by omega) h0 hfl fuel 0 [] ((rows c).zipIdx) sl (by simp; omega) i0
  rw [hst2] at g1
  have e2 : ∀ a, evS p (callN p fuel F (n + 3)) fuel m_Survey___init___l2 [some (.loc b.length), some (.loc w), a, some (.int 0)] (skI b w c ws (rows c).length) = whLoop (fun env st => evT p (callN p fuel F (n + 3)) (.val (.meth (.var 0) "settle" (.cons true (.var 3) .nil))) env st) (fun env st => evSs p (callN p fuel F (n + 3)) fuel (.cons (.ex (.meth (.var 0) "settle" (.cons true (.bin .add (.var 3) (.cst (.int (1)))) .nil)))
  (.cons (.aug 3 .add (.cst (.int (2)))) .nil)) env st) fuel [some (.loc b.length), some (.loc w), a, some (.int 0)] (skI b w c ws (rows c).length) := fun a => by simp only [m_Survey___init___l2, evS]
  refine ⟨st2 (skI b w c ws (rows c).length) b.length kn wt, kn, wt, m, ?_, fun i hi => ?_, sv_at (c := c) (by omega) h0 hfl fun q hq => (g2.mem.mp hq).1, g2, g3, by rw [st2_len]; omega⟩
  · rw [call_go S.sinit rfl]
    have hsk0 : skI b w c ws 0 = b ++ [svO b.length w, .dct true false [], .dct true false []] := by simp [skI, wtD]
    rw [hsk0] at e1
    simp only [m_Survey___init__, evSs, List.map_cons, List.map_nil, List.cons_append, List.nil_append]
    have e3 : ∀ k : Env → Store → RS, ((evS p (callN p fuel F (n + 3)) fuel (.fset (.var 0) "web" (.var 1)) [some (.loc b.length), some (.loc w), none, none] (b ++ [.ins "Survey" []])).seq fun env st => (evS p (callN p fuel F (n + 3)) fuel (.fset (.var 0) "known" (.dct true)) env st).seq fun env st => (evS p (callN p fuel F (n + 3)) fuel (.fset (.var 0) "waiting" (.dct true)) env st).seq k) = k [some (.loc b.length), some (.loc w), none, none] (b ++ [svO b.length w, .dct true false [], .dct true false []]) := fun k => by
      simp [evS, evE, fsetD, S.sf1, S.sf2, S.sf3, setF, svO, List.set_append]
    have e4 : ∀ k : Env → Store → RS, ((evS p (callN p fuel F (n + 3)) fuel (.asg 3 true (.cst (.int (0)))) [some (.loc b.length), some (.loc w), sl, none] (skI b w c ws (rows c).length)).seq k) = k [some (.loc b.length), some (.loc w), sl, some (.int 0)] (skI b w c ws (rows c).length) := fun k => by
      simp [evS, evE]
    refine (congrArg (endS _) (e3 _)).trans ?_
    rw [e1, seq_nx, e4, e2]
    rw [show (D.int 0) = D.int ((2 * 0 : Nat) : Int) from rfl, g1, seq_nx]
    have hkeep : (st2 (skI b w c ws (rows c).length) b.length kn wt)[b.length]? = some (svO b.length w) := by
      rw [st2_ne (by omega) (by omega)]; exact h0
    exact trim_keep (j := b.length) (o := .ins "Survey" []) (o' := svO b.length w) (by simp) hkeep (by simp [svO]) (by simp [svO, AO.bnd, bndf, D.bnd])
  · rw [st2_ne (by omega) (by omega)]
    unfold skI
    rw [List.getElem?_append_left hi]
end
end Mn
end

section
set_option Elab.async false
set_option linter.all false
set_option maxRecDepth 100000
set_option maxHeartbeats 2000000
/-! Plain: games. -/
namespace Mn
open PySem
section
variable {c : Nat} {ws : List Way}
theorem Kf_lt : ∀ (t : Nat) (s : List Int) (m : Nat), Kf c ws t s = some m → m < t
  | 0, _, _, h => by simp [Kf] at h
  | t + 1, s, m, h => by
    simp only [Kf] at h
    cases e : Kf c ws t s with
    | some k => rw [e] at h; cases h; have := Kf_lt t s m e; omega
    | none =>
      rw [e] at h
      simp only at h
      split at h
      · cases h; omega
      · cases h
theorem Kf_rows : ∀ (t : Nat) (s : List Int), s ∉ rows c → Kf c ws t s = none
  | 0, _, _ => rfl
  | t + 1, s, h => by simp [Kf, Kf_rows t s h, h]
theorem Kf_succ {t : Nat} (h : ∀ s ∈ rows c, Kf c ws t s = none → settledAt ws (Kf c ws t) t s = false) : Kf c ws (t + 1) = Kf c ws t := by
  funext s
  simp only [Kf]
  cases e : Kf c ws t s with
  | some m => rfl
  | none =>
    simp only
    rw [if_neg]
    rintro ⟨h1, h2⟩
    rw [h s h1 e] at h2
    cases h2
theorem Done.next {m : Nat} (h : Done c ws (2 * m)) : Kf c ws (2 * m + 2) = Kf c ws (2 * m) ∧ Done c ws (2 * (m + 1)) := by
  have h1 : Kf c ws (2 * m + 1) = Kf c ws (2 * m) := Kf_succ h
  have h2 : Kf c ws (2 * m + 1 + 1) = Kf c ws (2 * m + 1) := Kf_succ fun s _ _ => by
    unfold settledAt
    rw [if_pos (by omega), List.any_eq_false]
    intro f _
    simp
    intro e
    rw [h1] at e
    have := Kf_lt _ _ _ e
    omega
  have h3 : Kf c ws (2 * m + 2) = Kf c ws (2 * m) := h2.trans h1
  refine ⟨h3, fun s hs hk => ?_⟩
  rw [show 2 * (m + 1) = 2 * m + 2 by omega, h3] at hk ⊢
  have := h s hs hk
  unfold settledAt at this ⊢
  rw [if_neg (by omega)] at this ⊢
  exact this
theorem Done.more {m : Nat} (h : Done c ws (2 * m)) : ∀ j, Kf c ws (2 * (m + j)) = Kf c ws (2 * m) ∧ Done c ws (2 * (m + j))
  | 0 => ⟨rfl, h⟩
  | j + 1 => by
    obtain ⟨h1, h2⟩ := Done.more h j
    obtain ⟨h3, h4⟩ := h2.next
    rw [show 2 * (m + j) + 2 = 2 * (m + (j + 1)) by omega] at h3
    exact ⟨h3.trans h1, h4⟩
theorem Done.same {m k : Nat} (h : Done c ws (2 * m)) (h2 : Done c ws (2 * k)) : Kf c ws (2 * m) = Kf c ws (2 * k) := by
  by_cases hle : m ≤ k
  · have := (h.more (k - m)).1
    rw [show m + (k - m) = k by omega] at this
    exact this.symm
  · have := (h2.more (m - k)).1
    rw [show k + (m - k) = m by omega] at this
    exact this
end
/-- a game as it stands -/
def gmO (w sv : Nat) (s : List Int) (past : List (List Int)) : AO := .ins "Game" [("web", .loc w), ("survey", .loc sv), ("standing", tI s), ("past", .tup (past.map tI)), ("busy", .bl false)]
/-- the program's defs about games -/
structure HasG (p : PTab) (F : Fn → Option MDef) : Prop extends HasS p F where
  ginit : F ("Game", some "__init__") = some m_Game___init__
  outcome : F ("Game", some "outcome") = some m_Game_outcome
  check_free : F ("Game", some "check_free") = some m_Game_check_free
  become : F ("Game", some "become") = some m_Game_become
  do_put : F ("Game", some "do_put") = some m_Game_do_put
  do_move : F ("Game", some "do_move") = some m_Game_do_move
  put : F ("Game", some "put") = some m_Game_put
  move : F ("Game", some "move") = some m_Game_move
  glen : F ("Game", some "__len__") = some m_Game___len__
  grepr : F ("Game", some "__repr__") = some m_Game___repr__
  is_playable : F ("is_playable", none) = some m_is_playable
  check_way : F ("check_way", none) = some m_check_way
  deeds : p.con.lookup (Str.ofString "MOST_DEEDS") = some (D.int 60)
  gf1 : p.isF "Game" "web" = true
  gf2 : p.isF "Game" "survey" = true
  gf3 : p.isF "Game" "standing" = true
  gf4 : p.isF "Game" "past" = true
  gf5 : p.isF "Game" "busy" = true
  gp1 : p.prop "Game" "web" = false
  gp2 : p.prop "Game" "survey" = false
  gp3 : p.prop "Game" "standing" = false
  gp4 : p.prop "Game" "past" = false
  gp5 : p.prop "Game" "busy" = false
  gpo : p.prop "Game" "outcome" = true
  gm1 : p.isM "Game" "check_free" = true
  gm2 : p.isM "Game" "become" = true
  gm3 : p.isM "Game" "do_put" = true
  gm4 : p.isM "Game" "do_move" = true
  gm5 : p.isM "Game" "put" = true
  gm6 : p.isM "Game" "move" = true
  gm7 : p.isM "Game" "__len__" = true
  gm8 : p.isM "Game" "__repr__" = true
/-- all that a game leans on -/
structure GmAt (st : Store) (lo g w sv : Nat) (c : Nat) (ws : List Way) (kn wt : List (List Int × Nat)) : Prop where
  web_ : WebAt st w c ws
  ok : WebOk c ws
  c8 : c ≤ 8
  sva : SvAt st sv w ws kn wt
  inv : ∃ m, SInv c ws (2 * m) kn wt ∧ Done c ws (2 * m)
  lw : lo ≤ w
  wg : w < g
  gs : g < sv
theorem GmAt.keep {st st' : Store} {lo g w sv c : Nat} {ws : List Way} {kn wt : List (List Int × Nat)} (h : GmAt st lo g w sv c ws kn wt) (e : ∀ i o, lo ≤ i → i ≠ g → st[i]? = some o → st'[i]? = some o) : GmAt st' lo g w sv c ws kn wt := by
  have h1 := h.lw
  have h2 := h.wg
  have h3 := h.gs
  refine ⟨?_, h.ok, h.c8, ⟨?_, ?_, ?_, fun q hq => ?_⟩, h.inv, h.lw, h.wg, h.gs⟩
  · obtain ⟨r, z⟩ := h.web_
    exact ⟨r, e w _ h1 (by omega) z⟩
  · exact e _ _ (by omega) (by omega) h.sva.sv
  · exact e _ _ (by omega) (by omega) h.sva.kn_
  · exact e _ _ (by omega) (by omega) h.sva.wt_
  · exact e _ _ (by omega) (by omega) (h.sva.fl q hq)
section
variable {p : PTab} {fuel n : Nat} {F : Fn → Option MDef} {c : Nat} {ws : List Way}
theorem c_game_init (G : HasG p F) (o : WebOk c ws) (hc : c ≤ 8) {b : Store} {w : Nat} (hw : WebAt b w c ws) (hfu : 1000 ≤ fuel) :
    ∃ st' kn wt, callN p fuel F (n + 5) ("Game", some "__init__") [.loc b.length, .loc w] (b ++ [.ins "Game" []]) = .ok (.d .non) st' ∧ (∀ i, i < b.length → st'[i]? = b[i]?) ∧ st'[b.length]? = some (gmO w (b.length + 1) [] []) ∧ GmAt st' w b.length w (b.length + 1) c ws kn wt := by
  have hwl : w < b.length := by
    obtain ⟨r, z⟩ := hw
    exact (List.getElem?_eq_some_iff.mp z).1
  have hw2 : ∀ x, WebAt (b ++ [x]) w c ws := fun x => by
    obtain ⟨r, z⟩ := hw
    exact ⟨r, by rw [List.getElem?_append_left hwl]; exact z⟩
  obtain ⟨st', kn, wt, m, e1, e2, e3, e4, e5, e6⟩ := c_survey_init (p := p) (fuel := fuel) (n := n) G.toHasS o hc (hw2 (.ins "Game" [("web", .loc w)])) hfu
  have hlen : (b ++ [AO.ins "Game" [("web", .loc w)]]).length = b.length + 1 := by simp
  rw [hlen] at e1 e2 e3 e6
  have hg : st'[b.length]? = some (.ins "Game" [("web", .loc w)]) := by rw [e2 _ (by omega)]; simp
  have hgl : b.length < st'.length := by omega
  have hcw := c_check_web (p := p) (fuel := fuel) (n := n + 3) G.toHasW (hw2 (.ins "Game" []))
  refine ⟨st'.set b.length (gmO w (b.length + 1) [] []), kn, wt, ?_, fun i hi => ?_, by simp [List.getElem?_set, hgl], ?_⟩
  · rw [call_go G.ginit rfl]
    simp [m_Game___init__, evSs, evS, evE, evEs, hcw, fsetD, G.gf1, setF]
    rw [List.append_assoc] at e1
    simp only [List.cons_append, List.nil_append] at e1
    rw [e1]
    have hset : ∀ x, (st'.set b.length x)[b.length]? = some x := fun x => List.getElem?_set_self hgl
    simp [hg, G.gf2, G.gf3, G.gf4, G.gf5, setF, hset]
    have k1 : (b ++ [AO.ins "Game" []])[b.length]? = some (.ins "Game" []) := by simp
    have k2 : (st'.set b.length (gmO w (b.length + 1) [] []))[b.length]? = some (gmO w (b.length + 1) [] []) := List.getElem?_set_self hgl
    have k3 : (gmO w (b.length + 1) [] []).bnd (b ++ [AO.ins "Game" []]).length = false := by simp [gmO, AO.bnd, bndf, D.bnd]
    have k4 := trim_keep (r := .d .non) k1 k2 (by simp [gmO]) k3
    simp only [gmO, tI, List.map_nil] at k4 ⊢
    exact k4
  · rw [List.getElem?_set_ne (by omega), e2 _ (by omega), List.getElem?_append_left hi]
  · refine GmAt.keep (st := st') ⟨?_, o, hc, e3, ⟨m, e4, e5⟩, Nat.le_refl _, hwl, by omega⟩ fun i o _ hi z => by rw [List.getElem?_set_ne (by omega)]; exact z
    obtain ⟨r, z⟩ := hw
    exact ⟨r, by rw [e2 _ (by omega), List.getElem?_append_left hwl]; exact z⟩
/-- what a game's survey tells -/
theorem GmAt.word (G : HasG p F) {st : Store} {lo g w sv : Nat} {kn wt : List (List Int × Nat)} (h : GmAt st lo g w sv c ws kn wt) (s : List Int) : callN p fuel F (n + 1) ("Survey", some "word") [.loc sv, tI s] st = .ok (.d (.str (Str.ofString (wordK (lkS kn) s)))) st :=
  c_word G.toHasS h.sva.sv h.sva.kn_ s (look_map (g := fun m : Nat => D.int m) (l := kn))
theorem c_outcome (G : HasG p F) {st : Store} {lo g w sv : Nat} {kn wt : List (List Int × Nat)} {s : List Int} {past : List (List Int)} (h : GmAt st lo g w sv c ws kn wt) (hg : st[g]? = some (gmO w sv s past)) :
    callN p fuel F (n + 2) ("Game", some "outcome") [.loc g] st = .ok (.d (.str (Str.ofString (wordK (lkS kn) s)))) st := by
  rw [call_go G.outcome rfl]
  have h1 := h.word (p := p) (fuel := fuel) (n := n) G s
  have h2 := h.sva.sv
  simp [m_Game_outcome, evSs, evS, evE, evEs, hg, gmO, G.gp2, G.gf2, G.gp3, G.gf3, List.lookup, h2, svO, G.sm3, h1]
theorem e_outcome (G : HasG p F) {st : Store} {lo g w sv : Nat} {kn wt : List (List Int × Nat)} {s : List Int} {past : List (List Int)} (h : GmAt st lo g w sv c ws kn wt) (hg : st[g]? = some (gmO w sv s past)) {env : Env} {i : Nat} (hi : env[i]? = some (some (.loc g))) :
    evE p (callN p fuel F (n + 2)) (.fld (.var i) "outcome") env st = .ok (.d (.str (Str.ofString (wordK (lkS kn) s)))) st := by
  have h1 := c_outcome (p := p) (fuel := fuel) (n := n) G h hg
  simp only [evE, hi, froz_d, Res.bind_okP, hg, gmO, G.gpo, if_true]
  simp only [gmO] at hg
  rw [h1]
  rfl
theorem c_check_free (G : HasG p F) {st : Store} {g w sv : Nat} {s : List Int} {past : List (List Int)} (hg : st[g]? = some (gmO w sv s past)) : callN p fuel F (n + 1) ("Game", some "check_free") [.loc g] st = .ok (.d .non) st := by
  rw [call_go G.check_free rfl]
  simp [m_Game_check_free, evSs, evS, evE, evT, hg, gmO, G.gp5, G.gf5, List.lookup]
theorem c_become (G : HasG p F) {st : Store} {g w sv : Nat} {s s' : List Int} {past : List (List Int)} (hg : st[g]? = some (gmO w sv s past)) (hp : past.length < 60) : callN p fuel F (n + 1) ("Game", some "become") [.loc g, tI s'] st = .ok (.d .non) (st.set g (gmO w sv s' (past ++ [s]))) := by
  rw [call_go G.become rfl]
  have hgl := (List.getElem?_eq_some_iff.mp hg).1
  have hne : ¬ ((past.length : Int) = 60) := by omega
  have hl : past.length + 1 ≤ lim := by unfold lim; omega
  have hset : ∀ x, (st.set g x)[g]? = some x := fun x => List.getElem?_set_self hgl
  simp [m_Game_become, evSs, evS, evE, evEs, evT, hg, gmO, G.gp4, G.gf4, G.gp3, G.gf3, List.lookup, G.deeds, hne, binD, hl, fsetD, setF, hset]
  exact endS_nx (by simp)
theorem c_do_put (G : HasG p F) {st : Store} {lo g w sv : Nat} {kn wt : List (List Int × Nat)} {s : List Int} {past : List (List Int)} (h : GmAt st lo g w sv c ws kn wt) (hg : st[g]? = some (gmO w sv s past)) (hp : past.length < 60) (hs : s.length < 900) {x : Int} (hx : 0 ≤ x ∧ x ≤ c - 1) :
    callN p fuel F (n + 3) ("Game", some "do_put") [.loc g, .int x] st = .ok (.d .non) (st.set g (gmO w sv (toggle s x) (past ++ [s]))) := by
  rw [call_go G.do_put rfl]
  have h1 := c_check_place (p := p) (fuel := fuel) (n := n) G.toHasW h.web_ hx
  have h2 := c_toggled (p := p) (fuel := fuel) (n := n + 1) G.toggled s x st (by omega)
  have h3 := c_become (p := p) (fuel := fuel) (n := n + 1) G hg (s' := toggle s x) hp
  simp [m_Game_do_put, evSs, evS, evE, evEs, hg, gmO, G.gp1, G.gf1, G.gp3, G.gf3, G.gm2, List.lookup, h1, h2]
  simp only [gmO] at h3
  rw [h3]
  simp
  exact endS_nx (by simp)
theorem c_glen (G : HasG p F) {st : Store} {g w sv : Nat} {s : List Int} {past : List (List Int)} (hg : st[g]? = some (gmO w sv s past)) : callN p fuel F (n + 1) ("Game", some "__len__") [.loc g] st = .ok (.d (.int s.length)) st := by
  rw [call_go G.glen rfl]
  simp [m_Game___len__, evSs, evS, evE, evEs, hg, gmO, G.gp3, G.gf3, List.lookup]
theorem bif_glen (G : HasG p F) {st : Store} {g w sv : Nat} {s : List Int} {past : List (List Int)} (hg : st[g]? = some (gmO w sv s past)) (hs : s.length < 900) : bifR p (callN p fuel F (n + 1)) .len [.loc g] st = .ok (.d (.int s.length)) st := by
  rw [bif_ins (c := "Game") (m := "__len__") hg rfl G.gm7, c_glen G hg]
  have h1 : (0 : Int) ≤ (s.length : Int) ∧ (s.length : Int) < 1000000 := ⟨by omega, by omega⟩
  have h2 : spcOk .len (.d (.int (s.length : Int))) = true := by
    unfold spcOk
    exact decide_eq_true h1
  rw [Res.bind_okP, if_pos h2]
theorem c_put (G : HasG p F) {st : Store} {lo g w sv : Nat} {kn wt : List (List Int × Nat)} {s : List Int} {past : List (List Int)} (h : GmAt st lo g w sv c ws kn wt) (hg : st[g]? = some (gmO w sv s past)) (hp : past.length < 60) (hs : s.length < 800) {x : Int} (hx : 0 ≤ x ∧ x ≤ c - 1) :
    callN p fuel F (n + 4) ("Game", some "put") [.loc g, .int x] st = .ok (.d (.int (toggle s x).length)) (st.set g (gmO w sv (toggle s x) (past ++ [s]))) := by
  rw [call_go G.put rfl]
  have hgl := (List.getElem?_eq_some_iff.mp hg).1
  have h1 := c_check_free (p := p) (fuel := fuel) (n := n + 2) G hg
  have h2 := c_do_put (p := p) (fuel := fuel) (n := n) G h hg hp (by omega) hx
  have hg2 : (st.set g (gmO w sv (toggle s x) (past ++ [s])))[g]? = some (gmO w sv (toggle s x) (past ++ [s])) := by rw [List.getElem?_set_self hgl]
  have h3 := bif_glen (p := p) (fuel := fuel) (n := n + 2) G hg2 (by have := toggle_len s x; omega)
  clear hg2
  generalize gmO w sv (toggle s x) (past ++ [s]) = o2 at h2 h3 ⊢
  simp [m_Game_put, evSs, evS, evE, evEs, hg, gmO, List.lookup, G.gm1, G.gm3, h1, h2, h3]
  exact endS_rt (by simp)
theorem c_check_way (G : HasG p F) {st : Store} {lo g w sv : Nat} {kn wt : List (List Int × Nat)} {s : List Int} (h : GmAt st lo g w sv c ws kn wt) {v : Way} (hv : v ∈ from_ ws s) : callN p fuel F (n + 3) ("check_way", none) [.loc w, tI s, wD v] st = .ok (.d .non) st := by
  have h1 : callN p fuel F (n + 2) ("is_playable", none) [.loc w, tI s, wD v] st = .ok (.d (.bl true)) st := by
    rw [call_go G.is_playable rfl]
    have h2 := c_ways_from (p := p) (fuel := fuel) (n := n) G.toHasW h.web_ h.ok s
    obtain ⟨a, b⟩ := v
    have ha : bifR p (callN p fuel F (n + 1)) .all [.lst [.bl true, .bl true]] st = .ok (.d (.bl true)) st := bif_all (bs := [true, true])
    simp [m_is_playable, evSs, evS, evE, evEs, evT, evI, tgs, wipeE, bindTg]
    rw [if_pos (by unfold lim; decide)]
    rw [show [D.int a, D.int b] = [a, b].map D.int from rfl, lc_ints (h := fun _ => some (.bl true)) (fun i hi => by simp), fm_map]
    rw [show [] ++ [a, b].map (fun _ => D.bl true) = [D.bl true, D.bl true] from rfl]
    simp [ha, h2, hv]
  rw [call_go G.check_way rfl]
  simp [m_check_way, evSs, evS, evE, evEs, evT, h1]
theorem c_move (G : HasG p F) {st : Store} {lo g w sv : Nat} {kn wt : List (List Int × Nat)} {s : List Int} {past : List (List Int)} (h : GmAt st lo g w sv c ws kn wt) (hg : st[g]? = some (gmO w sv s past)) (hp : past.length < 60) (hs : s.length < 800) {v : Way} (hv : v ∈ from_ ws s) :
    callN p fuel F (n + 5) ("Game", some "move") [.loc g, wD v] st = .ok (.d (.str (Str.ofString (wordK (lkS kn) (play s v))))) (st.set g (gmO w sv (play s v) (past ++ [s]))) := by
  have hgl := (List.getElem?_eq_some_iff.mp hg).1
  have h1 := c_check_free (p := p) (fuel := fuel) (n := n + 3) G hg
  have hg2 : (st.set g (gmO w sv (play s v) (past ++ [s])))[g]? = some (gmO w sv (play s v) (past ++ [s])) := by rw [List.getElem?_set_self hgl]
  have hk : GmAt (st.set g (gmO w sv (play s v) (past ++ [s]))) lo g w sv c ws kn wt := h.keep fun i o _ hi z => by rw [List.getElem?_set_ne (by omega)]; exact z
  have h2 : callN p fuel F (n + 4) ("Game", some "do_move") [.loc g, wD v] st = .ok (.d .non) (st.set g (gmO w sv (play s v) (past ++ [s]))) := by
    rw [call_go G.do_move rfl]
    have h3 := c_check_way (p := p) (fuel := fuel) (n := n) G h hv
    have h4 := c_played (p := p) (fuel := fuel) (n := n + 1) G.toggled G.played s v st (by omega)
    have h5 := c_become (p := p) (fuel := fuel) (n := n + 2) G hg (s' := play s v) hp
    simp only [m_Game_do_move, evSs, evS, evE, evEs, List.map_cons, List.map_nil, List.cons_append, List.nil_append, List.getElem?_cons_zero, List.getElem?_cons_succ, froz_d, Res.bind_okP]
    simp only [gmO] at hg h3 h4 h5 ⊢
    simp [hg, G.gp1, G.gf1, G.gp3, G.gf3, G.gm2, List.lookup, h3, h4, h5]
    exact endS_nx (by simp)
  have h6 := e_outcome (p := p) (fuel := fuel) (n := n + 2) G hk hg2 (env := [some (.loc g), some (wD v)]) (i := 0) rfl
  rw [call_go G.move rfl]
  clear hg2 hk
  generalize gmO w sv (play s v) (past ++ [s]) = o2 at h2 h6 ⊢
  have h7 : evS p (callN p fuel F (n + 4)) fuel (.ret (.fld (.var 0) "outcome")) [some (.loc g), some (wD v)] (st.set g o2) = .rt (.d (.str (Str.ofString (wordK (lkS kn) (play s v))))) (st.set g o2) := by
    simp only [evS, h6, toS_ok]
  have h8 : evS p (callN p fuel F (n + 4)) fuel (.ex (.meth (.var 0) "check_free" .nil)) [some (.loc g), some (wD v)] st = .nx [some (.loc g), some (wD v)] st := by
    simp [evS, evE, evEs, hg, gmO, List.lookup, G.gm1, h1]
  have h9 : evS p (callN p fuel F (n + 4)) fuel (.ex (.meth (.var 0) "do_move" (.cons true (.var 1) .nil))) [some (.loc g), some (wD v)] st = .nx [some (.loc g), some (wD v)] (st.set g o2) := by
    simp [evS, evE, evEs, hg, gmO, List.lookup, G.gm4, h2]
  simp only [m_Game_move, evSs, List.map_cons, List.map_nil, List.cons_append, List.nil_append, Nat.sub_self, List.replicate_zero, h7, h8, h9, seq_nx, seq_rt]
  exact endS_rt (by simp)
theorem str_len_app (a b : Str) : (a ++ b).length = a.length + b.length := by
  show (a.cps ++ b.cps).size = _
  rw [Array.size_append]
  rfl
theorem str_empty_app (a : Str) : Str.empty ++ a = a := by
  show (⟨Str.empty.cps ++ a.cps⟩ : Str) = a
  rw [show Str.empty.cps = #[] from rfl, Array.empty_append]
theorem evF_cons {C : Calls} {h : Bool} {e : E} {r : Es} {acc a : Str} {env : Env} {st : Store} {x : D} (h1 : (evE p C e env st).froz = .ok x st) (h2 : fmtD x = some a) (h3 : acc.length + a.length ≤ lim) : evF p C (.cons h e r) acc env st = evF p C r (acc ++ a) env st := by
  simp only [evF, h1, Res.bind_okP, h2, h3, if_true]
theorem small_len {k : Nat} (h : k < 10) : (Str.ofString (toString ((k : Nat) : Int))).length ≤ 10 := by
  have : ∀ k : Fin 10, (Str.ofString (toString ((k.val : Nat) : Int))).length ≤ 10 := by decide +kernel
  exact this ⟨k, h⟩
theorem fmt_small {k : Nat} (h : k < 10) : fmtD (.int (k : Int)) = some (Str.ofString (toString (k : Int))) := by
  simp only [fmtD]
  rw [if_pos]
  rw [Int.natAbs_natCast]
  exact Nat.lt_of_lt_of_le h (Nat.le_trans (by decide : 10 ≤ 2 ^ 4) (Nat.pow_le_pow_right (by decide) (by decide)))
theorem fmt_str {a : Str} (h : a.length ≤ 1000) : fmtD (.str a) = some a := by
  simp only [fmtD]
  rw [if_pos]
  unfold lim; omega
/-- the text of a game -/
def gmText (c : Nat) (s : List Int) : Str := Str.ofString "Game(" ++ Str.ofString (toString (c : Int)) ++ Str.ofString " places, " ++ Str.ofString (toString (s.length : Int)) ++ Str.ofString " tokens)"
theorem c_grepr (G : HasG p F) {st : Store} {lo g w sv : Nat} {kn wt : List (List Int × Nat)} {s : List Int} {past : List (List Int)} (h : GmAt st lo g w sv c ws kn wt) (hg : st[g]? = some (gmO w sv s past)) (hs : s.length < 10) :
    callN p fuel F (n + 1) ("Game", some "__repr__") [.loc g] st = .ok (.d (.str (gmText c s))) st := by
  rw [call_go G.grepr rfl]
  obtain ⟨r, hw⟩ := h.web_
  have h1 := small_len (k := c) (by have := h.c8; omega)
  have h2 := small_len (k := s.length) hs
  have f1 := fmt_small (k := c) (by have := h.c8; omega)
  have f2 := fmt_small (k := s.length) hs
  have l1 : (Str.ofString "Game(").length = 5 := by decide +kernel
  have l2 : (Str.ofString " places, ").length = 9 := by decide +kernel
  have l3 : (Str.ofString " tokens)").length = 8 := by decide +kernel
  have g1 := fmt_str (a := Str.ofString "Game(") (by omega)
  have g2 := fmt_str (a := Str.ofString " places, ") (by omega)
  have g3 := fmt_str (a := Str.ofString " tokens)") (by omega)
  have e : evF p (callN p fuel F n) (.cons false (.cst (.str "Game(")) (.cons false (.fld (.fld (.var 0) "web") "count") (.cons false (.cst (.str " places, ")) (.cons false (.bif .len (.cons false (.fld (.var 0) "standing") .nil)) (.cons false (.cst (.str " tokens)")) .nil))))) Str.empty [some (.loc g)] st = .ok (gmText c s) st := by
    refine (evF_cons (x := .str "Game(") rfl g1 (by rw [l1]; decide)).trans ?_
    refine (evF_cons (x := .int c) (by simp [evE, hg, gmO, List.lookup, G.gp1, G.gf1, hw, webO, G.p1, G.f1]) f1 (by rw [str_empty_app, l1]; unfold lim; omega)).trans ?_
    refine (evF_cons (x := .str " places, ") rfl g2 (by rw [str_empty_app, str_len_app, l1, l2]; unfold lim; omega)).trans ?_
    refine (evF_cons (x := .int s.length) (by simp [evE, evEs, hg, gmO, List.lookup, G.gp3, G.gf3]) f2 (by rw [str_empty_app, str_len_app, str_len_app, l1, l2]; unfold lim; omega)).trans ?_
    refine (evF_cons (x := .str " tokens)") rfl g3 (by rw [str_empty_app, str_len_app, str_len_app, str_len_app, l1, l2, l3]; unfold lim; omega)).trans ?_
    rw [str_empty_app]
    rfl
  simp only [m_Game___repr__, evSs, evS, evE, List.map_cons, List.map_nil, List.cons_append, List.nil_append, Nat.sub_self, List.replicate_zero, e, Res.bind_okP, toS_ok, seq_rt, endS_same]
end
end Mn
end

section
set_option Elab.async false
set_option linter.all false
set_option maxRecDepth 100000
set_option maxHeartbeats 1000000
/-! The law's defs, as the translator gives them (printed by a program). -/
namespace Mn.L84
open PySem
/-- _law_chest: [_law_script, _law_slot, _law_cell, _law_mixed, _law_at, _law_each] -/
def m__law_chest_l1 : Mn.S := .frs (.tup [4, 5]) (.enu (.sl (.var 0) .nil (.cons false (.cst (.int (5))) .nil))) 
  (.cons (.asg 3 true (.bin .mod (.bif .int (.cons false (.bin .add (.bin .mul (.var 3) (.bin .add (.cst (.int (26003))) (.bin .mul (.cst (.int (14))) (.var 4)))) (.bin .mul (.cst (.int (3))) (.var 5))) .nil)) (.cst (.int (2147483353))))) .nil)
def m__law_chest : MDef := ⟨6, 2, 
  (.cons (.asgs [2, 3] (.cons true (.ife (.val (.cmp .lt (.var 1) (.bif .len (.cons false (.var 0) .nil)))) (.ix (.var 0) (.var 1)) (.cst (.int (0)))) (.cons true (.bin .add (.cst (.int (7001))) (.bin .mul (.cst (.int (90017))) (.var 1))) .nil))) 
  (.cons m__law_chest_l1 
  (.cons (.ret (.lst (.cons false (.ife (.or (.val (.cmp .lt (.var 2) (.cst (.int (0))))) (.val (.cmp .ge (.var 2) (.bin .pow (.cst (.int (10))) (.cst (.int (18))))))) (.bif .abs (.cons false (.var 2) .nil)) (.cst (.int (0)))) (.cons false (.bin .mod (.bif .int (.cons false (.bin .add (.var 3) (.bin .mul (.cst (.int (75011))) (.var 2))) .nil)) (.cst (.int (2147483353)))) (.cons false (.cst (.int (0))) .nil))))) .nil)))⟩
/-- _law_scoop: [_law_chest_here, _law_many, _law_got, _law_base] -/
def m__law_scoop : MDef := ⟨4, 2, 
  (.cons (.ifs (.val (.cmp .gt (.ix (.var 0) (.cst (.int (0)))) (.cst (.int (0))))) 
  (.cons (.unpS (.var 0) (.cst (.int (0))) 2 (.bif .divmod (.cons false (.ix (.var 0) (.cst (.int (0)))) (.cons false (.var 1) .nil)))) 
  (.cons (.ret (.var 2)) .nil)) .nil) 
  (.cons (.iset (.var 0) (.cst (.int (2))) true (.bin .add (.ix (.var 0) (.cst (.int (2)))) (.cst (.int (1))))) 
  (.cons (.asg 3 true (.bin .mod (.bif .int (.cons false (.bin .add (.ix (.var 0) (.cst (.int (1)))) (.bin .mul (.cst (.int (49999))) (.ix (.var 0) (.cst (.int (2)))))) .nil)) (.cst (.int (2147483353))))) 
  (.cons (.iset (.var 0) (.cst (.int (1))) true (.bin .mod (.bif .int (.cons false (.bin .add (.bin .add (.bin .mul (.var 3) (.bin .add (.bin .mod (.bif .int (.cons false (.var 3) .nil)) (.cst (.int (27011)))) (.cst (.int (52027))))) (.bin .mul (.cst (.int (37))) (.ix (.var 0) (.cst (.int (2)))))) (.cst (.int (9)))) .nil)) (.cst (.int (2147483353))))) 
  (.cons (.ret (.bin .mod (.bin .fdiv (.bif .int (.cons false (.ix (.var 0) (.cst (.int (1)))) .nil)) (.cst (.int (173)))) (.var 1))) .nil)))))⟩
/-- _law_some: [_law_chest_here, _law_menu] -/
def m__law_some : MDef := ⟨2, 2, 
  (.cons (.ret (.ix (.var 1) (.call "_law_scoop" (.cons true (.var 0) (.cons true (.bif .len (.cons false (.var 1) .nil)) .nil))))) .nil)⟩
/-- _law_great: [_law_way, _law_many, _law_found, _law_start, _law_goal] -/
def m__law_great_l1 : Mn.S := .frs (.name 4) (.rng (.var 1)) 
  (.cons (.ifs (.or (.and (.val (.cmp .eq (.var 0) (.cst (.int (0))))) (.val (.cmp .lt (.var 4) (.var 3)))) (.and (.val (.cmp .eq (.var 0) (.cst (.int (1))))) (.val (.cmp .eq (.var 4) (.bin .mod (.bif .int (.cons false (.bin .add (.var 3) (.cst (.int (1)))) .nil)) (.var 1)))))) 
  (.cons (.ex (.bmt .append (.var 2) (.cons true (.tup (.cons false (.var 3) (.cons false (.var 4) .nil))) .nil))) .nil) .nil) 
  (.cons (.ifs (.and (.val (.cmp .eq (.var 0) (.cst (.int (2))))) (.val (.cmp .eq (.bif .abs (.cons false (.bin .sub (.var 4) (.var 3)) .nil)) (.cst (.int (1)))))) 
  (.cons (.ex (.bmt .append (.var 2) (.cons true (.tup (.cons false (.var 3) (.cons false (.var 4) .nil))) .nil))) .nil) .nil) .nil))
def m__law_great_l2 : Mn.S := .frs (.name 3) (.rng (.var 1)) 
  (.cons m__law_great_l1 .nil)
def m__law_great : MDef := ⟨5, 2, 
  (.cons (.asg 2 true (.lst .nil)) 
  (.cons m__law_great_l2 
  (.cons (.ret (.bif .tuple (.cons false (.var 2) .nil))) .nil)))⟩
/-- _law_total: [_law_row, _law_total_here, _law_spot] -/
def m__law_total_l1 : Mn.S := .frs (.name 2) (.val (.var 0)) 
  (.cons (.asg 1 true (.bin .xor (.var 1) (.var 2))) .nil)
def m__law_total : MDef := ⟨3, 1, 
  (.cons (.asg 1 true (.cst (.int (0)))) 
  (.cons m__law_total_l1 
  (.cons (.ret (.var 1)) .nil)))⟩
/-- _law_known_right: [_law_way, _law_held, _law_many, _law_row, _law_word, _law_near] -/
def m__law_known_right : MDef := ⟨6, 3, 
  (.cons (.asgs [3, 4] (.cons true (.fld (.var 1) "standing") (.cons true (.fld (.var 1) "outcome") .nil))) 
  (.cons (.ifs (.val (.cmp .eq (.var 0) (.cst (.int (0))))) 
  (.cons (.ret (.cmp .eq (.var 4) (.ife (.val (.cmp .eq (.call "_law_total" (.cons true (.var 3) .nil)) (.cst (.int (0))))) (.cst (.str "lost")) (.cst (.str "won"))))) .nil) .nil) 
  (.cons (.ifs (.val (.cmp .eq (.var 3) (.tup .nil))) 
  (.cons (.ret (.cmp .eq (.var 4) (.cst (.str "lost")))) .nil) .nil) 
  (.cons (.asg 5 true (.andv (.cmp .eq (.bif .len (.cons false (.var 3) .nil)) (.cst (.int (2)))) (.cmp .inn (.bin .sub (.ix (.var 3) (.cst (.int (1)))) (.ix (.var 3) (.cst (.int (0))))) (.ife (.val (.cmp .eq (.var 0) (.cst (.int (1))))) (.lst (.cons false (.cst (.int (1))) (.cons false (.bin .sub (.var 2) (.cst (.int (1)))) .nil))) (.lst (.cons false (.cst (.int (1))) .nil)))))) 
  (.cons (.ret (.cmp .eq (.var 4) (.ife (.val (.var 5)) (.cst (.str "won")) (.cst (.str "drawn"))))) .nil)))))⟩
/-- _law_right: [_law_chest_here, _law_way, _law_many, _law_lanes, _law_held, _law_count, _law_turn, _law_free, _law_spot, _law_line, _law_start, _law_step] -/
def m__law_right_l1 : Mn.S := .frs (.name 6) (.rng (.cst (.int (10)))) 
  (.cons (.asg 7 true (.lc (.var 11) (.name 11) (.val (.var 3)) (.val (.cmp .inn (.ix (.var 11) (.cst (.int (0)))) (.fld (.var 4) "standing"))))) 
  (.cons (.ifs (.and (.val (.cmp .ne (.var 7) (.lst .nil))) (.val (.cmp .eq (.call "_law_scoop" (.cons true (.var 0) (.cons true (.cst (.int (2))) .nil))) (.cst (.int (0)))))) 
  (.cons (.ifs (.val (.cmp .ne (.meth (.var 4) "move" (.cons true (.call "_law_some" (.cons true (.var 0) (.cons true (.var 7) .nil))) .nil)) (.fld (.var 4) "outcome"))) 
  (.cons (.ret (.cst (.bl false))) .nil) .nil) .nil) 
  (.cons (.asg 8 true (.call "_law_scoop" (.cons true (.var 0) (.cons true (.var 2) .nil)))) 
  (.cons (.asg 5 true (.meth (.var 4) "put" (.cons true (.var 8) .nil))) 
  (.cons (.ifs (.val (.cmp .ne (.var 5) (.bif .len (.cons false (.fld (.var 4) "standing") .nil)))) 
  (.cons (.ret (.cst (.bl false))) .nil) .nil) .nil)))) 
  (.cons (.ifs (.not (.val (.call "_law_known_right" (.cons true (.var 1) (.cons true (.var 4) (.cons true (.var 2) .nil)))))) 
  (.cons (.ret (.cst (.bl false))) .nil) .nil) 
  (.cons (.asg 9 true (.bin .add (.bin .add (.bin .add (.bin .add (.cst (.str "Game(")) (.bif .str (.cons false (.var 2) .nil))) (.cst (.str " places, "))) (.bif .str (.cons false (.bif .len (.cons false (.fld (.var 4) "standing") .nil)) .nil))) (.cst (.str " tokens)")))) 
  (.cons (.ifs (.val (.cmp .ne (.bif .repr (.cons false (.var 4) .nil)) (.var 9))) 
  (.cons (.ret (.cst (.bl false))) .nil) .nil) .nil)))))
def m__law_right_l2 : Mn.S := .frs (.name 8) (.val (.fld (.var 4) "standing")) 
  (.cons (.ex (.meth (.var 4) "put" (.cons true (.var 8) .nil))) .nil)
def m__law_right : MDef := ⟨12, 1, 
  (.cons (.asgs [1, 2] (.cons true (.call "_law_scoop" (.cons true (.var 0) (.cons true (.cst (.int (3))) .nil))) (.cons true (.bin .add (.cst (.int (6))) (.call "_law_scoop" (.cons true (.var 0) (.cons true (.cst (.int (2))) .nil)))) .nil))) 
  (.cons (.asg 3 true (.call "_law_great" (.cons true (.var 1) (.cons true (.var 2) .nil)))) 
  (.cons (.asgs [4, 5] (.cons true (.new "Game" (.cons true (.new "Web" (.cons true (.var 2) (.cons true (.var 3) .nil))) .nil)) (.cons true (.cst (.int (0))) .nil))) 
  (.cons m__law_right_l1 
  (.cons (.ifs (.val (.cmp .ne (.fld (.var 4) "standing") (.tup .nil))) 
  (.cons m__law_right_l2 .nil) .nil) 
  (.cons (.asg 10 true (.call "_law_scoop" (.cons true (.var 0) (.cons true (.bin .sub (.var 2) (.cst (.int (1)))) .nil)))) 
  (.cons (.ret (.cmp .eq (.lst (.cons false (.meth (.var 4) "put" (.cons true (.var 10) .nil)) (.cons false (.meth (.var 4) "put" (.cons true (.bin .add (.var 10) (.cst (.int (1)))) .nil)) (.cons false (.fld (.var 4) "outcome") .nil)))) (.lst (.cons false (.cst (.int (1))) (.cons false (.cst (.int (2))) (.cons false (.cst (.str "won")) .nil)))))) .nil)))))))⟩
/-- law: [_law_script, _law_slot] -/
def m_law : MDef := ⟨2, 1, 
  (.cons (.ret (.bif .all (.cons false (.lc (.call "_law_right" (.cons true (.call "_law_chest" (.cons true (.var 0) (.cons true (.var 1) .nil))) .nil)) (.name 1) (.rng (.cst (.int (2)))) .tt) .nil))) .nil)⟩
end Mn.L84
end

section
set_option Elab.async false
set_option linter.all false
set_option maxRecDepth 100000
set_option maxHeartbeats 2000000
/-! Plain: what the law draws. -/
namespace Mn.L84
open PySem
structure HasD (F : Fn → Option MDef) : Prop where
  chest : F ("_law_chest", none) = some m__law_chest
  scoop : F ("_law_scoop", none) = some m__law_scoop
  some_ : F ("_law_some", none) = some m__law_some
theorem set_lst {st : Store} {j : Nat} {xs : List D} (h : st[j]? = some (.lst false xs)) {k : Int} {m : Nat} {v : D} (hk : L2.ixN xs.length k = some m) : isetD st (.loc j) (.int k) v = some (st.set j (.lst false (xs.set m v))) := by
  simp [isetD, h, hk]
section
variable {p : PTab} {fuel n : Nat} {F : Fn → Option MDef}
theorem c_scoop (H : HasD F) {st : Store} {j : Nat} {a b c : Int} (h : st[j]? = some (.lst false [.int a, .int b, .int c])) {many : Int} (h0 : 0 < many) (h1 : many < 1073741824) :
    ∃ r a' b' c', 0 ≤ r ∧ r < many ∧ callN p fuel F (n + 1) ("_law_scoop", none) [.loc j, .int many] st = .ok (.d (.int r)) (st.set j (.lst false [.int a', .int b', .int c'])) := by
  have hjl := (List.getElem?_eq_some_iff.mp h).1
  have i0 : ixD st (.loc j) (.int 0) = some (.int a) := ix_seq (i := 0) (xs := [.int a, .int b, .int c]) (by simp [seqOf, h]) rfl
  have i2 : ixD st (.loc j) (.int 2) = some (.int c) := ix_seq (i := 2) (xs := [.int a, .int b, .int c]) (by simp [seqOf, h]) rfl
  by_cases ha : 0 < a
  · refine ⟨a % many, a / many, b, c, Int.emod_nonneg _ (by omega), Int.emod_lt_of_pos _ h0, ?_⟩
    rw [call_go H.scoop rfl]
    have hs := set_lst h (k := 0) (m := 0) (v := .int (a / many)) rfl
    have hd : bifR p (callN p fuel F n) .divmod [.int a, .int many] st = .ok (.d (.tup [.int (a / many), .int (a % many)])) st := by
      simp [bifR, spcAt, bifD, dmD, h0, h1]
    simp [m__law_scoop, evSs, evS, evE, evEs, evT, i0, ha, hd, hs]
    exact endS_rt (by simp)
  · have g2 : ∀ x y z : Int, (st.set j (.lst false [.int x, .int y, .int z]))[j]? = some (.lst false [.int x, .int y, .int z]) := fun x y z => List.getElem?_set_self hjl
    have k1 : ∀ x y z : Int, ixD (st.set j (.lst false [.int x, .int y, .int z])) (.loc j) (.int 1) = some (.int y) := fun x y z => ix_seq (i := 1) (xs := [.int x, .int y, .int z]) (by simp [seqOf, g2]) rfl
    have k2 : ∀ x y z : Int, ixD (st.set j (.lst false [.int x, .int y, .int z])) (.loc j) (.int 2) = some (.int z) := fun x y z => ix_seq (i := 2) (xs := [.int x, .int y, .int z]) (by simp [seqOf, g2]) rfl
    have s2 := set_lst h (k := 2) (m := 2) (v := .int (c + 1)) rfl
    have s1 : ∀ x y z v : Int, isetD (st.set j (.lst false [.int x, .int y, .int z])) (.loc j) (.int 1) (.int v) = some (st.set j (.lst false [.int x, .int v, .int z])) := fun x y z v => by
      rw [set_lst (g2 x y z) (k := 1) (m := 1) rfl, List.set_set]; rfl
    let base := (b + 49999 * (c + 1)) % 2147483353
    let nb := (base * (base % 27011 + 52027) + 37 * (c + 1) + 9) % 2147483353
    have hb0 : 0 ≤ base := Int.emod_nonneg _ (by decide)
    have hb1 : base < 2147483353 := Int.emod_lt_of_pos _ (by decide)
    refine ⟨nb / 173 % many, a, nb, c + 1, Int.emod_nonneg _ (by omega), Int.emod_lt_of_pos _ h0, ?_⟩
    rw [call_go H.scoop rfl]
    have m1 : ∀ x : Int, binI .mul 49999 x = some (.int (49999 * x)) := fun x => by
      simp only [binI]; rw [if_pos]; left; decide
    have m2 : ∀ x : Int, binI .mul 37 x = some (.int (37 * x)) := fun x => by
      simp only [binI]; rw [if_pos]; left; decide
    have m3 : ∀ x : Int, binI .mul base x = some (.int (base * x)) := fun x => by
      simp only [binI]; rw [if_pos]; left
      omega
    have ad : ∀ x y : Int, binI .add x y = some (.int (x + y)) := fun _ _ => rfl
    have md : ∀ x : Int, ∀ y : Int, 0 < y → binI .mod x y = some (.int (x % y)) := fun x y hy => by simp [binI, hy]
    have fd : ∀ x : Int, binI .fdiv x 173 = some (.int (x / 173)) := fun x => by simp [binI]
    simp only [List.set] at s2
    have e1 : (b + 49999 * (c + 1)) % 2147483353 = base := rfl
    simp [m__law_scoop, evSs, evS, evE, evEs, evT, i0, ha, i2, binD, ad, s2, k1, k2, m1, m2, md, e1, m3, s1, fd, h0]
    exact endS_rt (by simp)
theorem c_some (H : HasD F) {st : Store} {j m : Nat} {a b c : Int} (h : st[j]? = some (.lst false [.int a, .int b, .int c])) {lk : Bool} {xs : List D} (hm : st[m]? = some (.lst lk xs)) (hne : m ≠ j) (h0 : 0 < xs.length) (h1 : xs.length < 1000000) :
    ∃ x a' b' c', x ∈ xs ∧ (callN p fuel F (n + 2) ("_law_some", none) [.loc j, .loc m] st = Res.ok (.d x) (st.set j (.lst false [.int a', .int b', .int c']))) := by
  obtain ⟨r, a', b', c', r0, r1, e⟩ := c_scoop (p := p) (fuel := fuel) (n := n) H h (many := xs.length) (by omega) (by omega)
  have hr : r.toNat < xs.length := by omega
  have hm2 : (st.set j (.lst false [.int a', .int b', .int c']))[m]? = some (.lst lk xs) := by rw [List.getElem?_set_ne (by omega)]; exact hm
  have hix : ixD (st.set j (.lst false [.int a', .int b', .int c'])) (.loc m) (.int r) = some xs[r.toNat] := ix_seqI (xs := xs) (by simp [seqOf, hm2]) r0 (List.getElem?_eq_getElem hr)
  refine ⟨xs[r.toNat], a', b', c', List.getElem_mem hr, ?_⟩
  rw [call_go H.some_ rfl]
  have hl := bif_len_loc (p := p) (C := callN p fuel F (n + 1)) hm
  simp only [m__law_some, evSs, evS, evE, evEs, List.map_cons, List.map_nil, List.cons_append, List.nil_append, List.getElem?_cons_zero, List.getElem?_cons_succ, froz_d, kept_d, Res.bind_okP, if_true, Bool.false_eq_true, if_false, hl, e, hix, Option.map_some, ofOpt_some, toS_ok, seq_rt]
  exact endS_rt (by simp)
theorem cut_ints {s : List Int} {lo hi : Option Int} : ∃ s' : List Int, cutD (s.map D.int) lo hi = s'.map D.int ∧ s'.length ≤ s.length := by
  refine ⟨(s.drop (HT.sIx s.length 0 lo)).take (HT.sIx s.length s.length hi - HT.sIx s.length 0 lo), ?_, ?_⟩
  · simp [cutD, List.map_drop, List.map_take]
  · simp
    omega
theorem c_chest (H : HasD F) {st : Store} {k : Bool} {ns : List Int} (h : st[0]? = some (.lst k (ns.map D.int))) (hl : ns.length ≤ 63) (slot : Nat) (hs : slot < 100) :
    ∃ a b, callN p fuel F (n + 1) ("_law_chest", none) [.loc 0, .int slot] st = .ok (.fl [.int a, .int b, .int 0]) st := by
  have hseq : seqOf st (.loc 0) = some (ns.map D.int) := by simp [seqOf, h]
  let cell : Int := if h : slot < ns.length then ns[slot] else 0
  have ad : ∀ x y : Int, binI .add x y = some (.int (x + y)) := fun _ _ => rfl
  have m90 : ∀ x : Int, binI .mul 90017 x = some (.int (90017 * x)) := fun x => by simp only [binI]; rw [if_pos]; left; decide
  have m14 : ∀ x : Int, binI .mul 14 x = some (.int (14 * x)) := fun x => by simp only [binI]; rw [if_pos]; left; decide
  have m3 : ∀ x : Int, binI .mul 3 x = some (.int (3 * x)) := fun x => by simp only [binI]; rw [if_pos]; left; decide
  have m75 : ∀ x : Int, binI .mul 75011 x = some (.int (75011 * x)) := fun x => by simp only [binI]; rw [if_pos]; left; decide
  have md : ∀ x : Int, binI .mod x 2147483353 = some (.int (x % 2147483353)) := fun x => by simp [binI]
  have pw : binI .pow 10 18 = some (.int 1000000000000000000) := by decide +kernel
  obtain ⟨five, hf, hfl⟩ := cut_ints (s := ns) (lo := none) (hi := some 5)
  have hsl : slD st (.loc 0) none (some 5) = some (.fl (five.map D.int)) := by simp [slD, hseq, hf]
  let step : Int × Option D × Option D → Int × Nat → Int × Option D × Option D := fun q a => ((q.1 * (26003 + 14 * (a.2 : Int)) + 3 * a.1) % 2147483353, some (.int a.2), some (.int a.1))
  have hloop : ∀ m0 : Int, 0 ≤ m0 → m0 < 21474833530 → evS p (callN p fuel F n) fuel m__law_chest_l1 [some (.loc 0), some (.int slot), some (.int cell), some (.int m0), none, none] st =
      .nx [some (.loc 0), some (.int slot), some (.int cell), some (.int (five.zipIdx.foldl step (m0, none, none)).1), (five.zipIdx.foldl step (m0, none, none)).2.1, (five.zipIdx.foldl step (m0, none, none)).2.2] st := fun m0 h0 h1 => by
    simp [m__law_chest_l1, evSs, evS, evE, evEs, evT, evI, hsl]
    rw [enum_map]
    refine (fr_inv (g := fun q : Int × Nat => D.tup [.int q.2, .int q.1]) (mk := fun q : Int × Option D × Option D => [some (.loc 0), some (.int slot), some (.int cell), some (.int q.1), q.2.1, q.2.2]) (sk := fun _ => st) (step := step) (fun q => 0 ≤ q.1 ∧ q.1 < 21474833530) (l := five.zipIdx) (s := (m0, none, none)) ⟨h0, h1⟩ fun a _ q i => ?_).1
    obtain ⟨m, x, y⟩ := q
    obtain ⟨e, at_⟩ := a
    obtain ⟨i0, i1⟩ := i
    simp only at i0 i1
    have mm : ∀ z : Int, binI .mul m z = some (.int (m * z)) := fun z => by simp only [binI]; rw [if_pos]; left; omega
    refine ⟨?_, Int.emod_nonneg _ (by decide), Int.lt_trans (Int.emod_lt_of_pos _ (by decide)) (by decide)⟩
    simp [bindTg, setAll, binD, ad, m14, m3, mm, md, step]
  have hm0 : (7001 + 90017 * (slot : Int)) < 21474833530 := by omega
  have hl0 := hloop (7001 + 90017 * (slot : Int)) (by omega) hm0
  generalize five.zipIdx.foldl step (7001 + 90017 * (slot : Int), none, none) = r at hl0
  refine ⟨if cell < 0 ∨ 1000000000000000000 ≤ cell then (if cell < 0 then -cell else cell) else 0, (r.1 + 75011 * cell) % 2147483353, ?_⟩
  rw [call_go H.chest rfl]
  have e1 : ∀ C, (evE p C (.ife (.val (.cmp .lt (.var 1) (.bif .len (.cons false (.var 0) .nil)))) (.ix (.var 0) (.var 1)) (.cst (.int (0)))) [some (.loc 0), some (.int slot), none, none, none, none] st) = .ok (.d (.int cell)) st := fun C => by
    have hbl := bif_len_loc (p := p) (C := C) h
    simp [evE, evEs, evT, hbl]
    by_cases hc : slot < ns.length
    · have hix : ixD st (.loc 0) (.int slot) = some (.int ns[slot]) := ix_seq (xs := ns.map D.int) hseq (by simp [hc])
      simp [hc, hix, cell]
    · simp [hc, cell]
  have e2 : ∀ C, evS p C fuel (.asgs [2, 3] (.cons true (.ife (.val (.cmp .lt (.var 1) (.bif .len (.cons false (.var 0) .nil)))) (.ix (.var 0) (.var 1)) (.cst (.int (0)))) (.cons true (.bin .add (.cst (.int (7001))) (.bin .mul (.cst (.int (90017))) (.var 1))) .nil))) [some (.loc 0), some (.int slot), none, none, none, none] st = .nx [some (.loc 0), some (.int slot), some (.int cell), some (.int (7001 + 90017 * (slot : Int))), none, none] st := fun C => by
    simp only [evS, evEs, e1, if_true, kept_d, Res.bind_okP]
    simp [evE, binD, ad, m90, setAll]
  simp only [m__law_chest, evSs, List.map_cons, List.map_nil, List.cons_append, List.nil_append, List.replicate, e2, seq_nx, hl0]
  simp [evS, evE, evEs, evT, binD, ad, m75, md, pw]
  by_cases c1 : cell < 0
  · simp [c1]
  · by_cases c2 : 1000000000000000000 ≤ cell
    · simp [c1, c2]
    · simp [c1, c2]
end
end Mn.L84
end

section
set_option Elab.async false
set_option linter.all false
set_option maxRecDepth 100000
set_option maxHeartbeats 1000000
/-! The program's defs about standings and lines, as the translator gives them (printed by a program). -/
namespace Mn
open PySem
/-- wrong_place: [standing, count, index, place] -/
def m_wrong_place_l1 : Mn.S := .frs (.tup [2, 3]) (.enu (.var 0)) 
  (.cons (.ifs (.or (.not (.val (.call "is_between" (.cons true (.var 3) (.cons true (.cst (.int (0))) (.cons true (.bin .sub (.var 1) (.cst (.int (1)))) .nil)))))) (.and (.val (.cmp .gt (.var 2) (.cst (.int (0))))) (.val (.cmp .le (.var 3) (.ix (.var 0) (.bin .sub (.var 2) (.cst (.int (1))))))))) 
  (.cons (.ret (.var 2)) .nil) .nil) .nil)
def m_wrong_place : MDef := ⟨4, 2, 
  (.cons m_wrong_place_l1 
  (.cons (.ret (.cst .non)) .nil))⟩
/-- check_standing: [value, count, index] -/
def m_check_standing : MDef := ⟨3, 2, 
  (.cons (.ifs (.not (.val (.isi (.var 0) (.inl "tuple")))) 
  (.cons .bad .nil) .nil) 
  (.cons (.asg 2 true (.call "wrong_place" (.cons true (.var 0) (.cons true (.var 1) .nil)))) 
  (.cons (.ifs (.val (.cmp .ntN (.var 2) (.cst .non))) 
  (.cons .bad .nil) .nil) .nil)))⟩
/-- check_asked: [web, standing] -/
def m_check_asked : MDef := ⟨2, 2, 
  (.cons (.ex (.call "check_web" (.cons true (.var 0) .nil))) 
  (.cons (.ex (.call "check_standing" (.cons true (.var 1) (.cons true (.fld (.var 0) "count") .nil)))) .nil))⟩
/-- standing_text: [standing, place] -/
def m_standing_text : MDef := ⟨2, 1, 
  (.cons (.ret (.ife (.val (.cmp .ne (.var 0) (.tup .nil))) (.bmt .join (.cst (.str " ")) (.cons true (.lc (.bif .str (.cons false (.var 1) .nil)) (.name 1) (.val (.var 0)) .tt) .nil)) (.cst (.str "-")))) .nil)⟩
/-- ways_text: [ways, way] -/
def m_ways_text : MDef := ⟨2, 1, 
  (.cons (.ret (.bmt .join (.cst (.str " ")) (.cons true (.lc (.call "way_text" (.cons true (.var 1) .nil)) (.name 1) (.val (.var 0)) .tt) .nil))) .nil)⟩
/-- line_of: [survey, standing, word, best, text] -/
def m_line_of : MDef := ⟨5, 2, 
  (.cons (.asgs [2, 3] (.cons true (.meth (.var 0) "word" (.cons true (.var 1) .nil)) (.cons true (.meth (.var 0) "best" (.cons true (.var 1) .nil)) .nil))) 
  (.cons (.asg 4 true (.fst (.cons false (.call "standing_text" (.cons true (.var 1) .nil)) (.cons false (.cst (.str ": ")) (.cons false (.var 2) .nil))))) 
  (.cons (.ifs (.val (.cmp .ne (.var 2) (.glo "DRAWN"))) 
  (.cons (.asg 4 true (.fst (.cons false (.var 4) (.cons false (.cst (.str " in ")) (.cons false (.ix (.fld (.var 0) "known") (.var 1)) .nil))))) .nil) .nil) 
  (.cons (.ret (.ife (.val (.cmp .ne (.var 3) (.tup .nil))) (.fst (.cons false (.var 4) (.cons false (.cst (.str " by ")) (.cons false (.call "ways_text" (.cons true (.var 3) .nil)) .nil)))) (.var 4))) .nil))))⟩
/-- play_line: [web, standing] -/
def m_play_line : MDef := ⟨2, 2, 
  (.cons (.ex (.call "check_asked" (.cons true (.var 0) (.cons true (.var 1) .nil)))) 
  (.cons (.ret (.call "line_of" (.cons true (.new "Survey" (.cons true (.var 0) .nil)) (.cons true (.var 1) .nil)))) .nil))⟩
/-- Survey.best: [self, standing, word, ways, way] -/
def m_Survey_best2 : MDef := ⟨5, 2, 
  (.cons (.asgs [2, 3] (.cons true (.meth (.var 0) "word" (.cons true (.var 1) .nil)) (.cons true (.call "ways_from" (.cons true (.fld (.var 0) "web") (.cons true (.var 1) .nil))) .nil))) 
  (.cons (.ifs (.val (.cmp .eq (.var 2) (.glo "DRAWN"))) 
  (.cons (.ret (.bif .tuple (.cons false (.lc (.var 4) (.name 4) (.val (.var 3)) (.val (.cmp .eq (.meth (.var 0) "word" (.cons true (.call "played" (.cons true (.var 1) (.cons true (.var 4) .nil))) .nil)) (.glo "DRAWN")))) .nil))) .nil) .nil) 
  (.cons (.ifs (.val (.cmp .eq (.var 2) (.glo "WON"))) 
  (.cons (.ret (.bif .tuple (.cons false (.lc (.var 4) (.name 4) (.val (.var 3)) (.val (.cmp .eq (.bmt .get (.fld (.var 0) "known") (.cons true (.call "played" (.cons true (.var 1) (.cons true (.var 4) .nil))) .nil)) (.bin .sub (.ix (.fld (.var 0) "known") (.var 1)) (.cst (.int (1))))))) .nil))) .nil) .nil) 
  (.cons (.ret (.bif .tuple (.cons false (.lc (.var 4) (.name 4) (.val (.var 3)) (.val (.cmp .eq (.ix (.fld (.var 0) "known") (.call "played" (.cons true (.var 1) (.cons true (.var 4) .nil)))) (.bin .sub (.ix (.fld (.var 0) "known") (.var 1)) (.cst (.int (1))))))) .nil))) .nil))))⟩
end Mn
end

section
set_option Elab.async false
set_option linter.all false
set_option maxRecDepth 100000
set_option maxHeartbeats 1000000
/-! Defs that many laws share, as the translator gives them (printed by a program). -/
namespace Mn.LS
open PySem
/-- _law_drawn_ways: [_law_chest_here, _law_many, _law_found, _law_mode, _law_start, _law_goal] -/
def m__law_drawn_ways_l1 : Mn.S := .frs (.name 5) (.rng (.var 1)) 
  (.cons (.ifs (.and (.val (.cmp .ne (.var 4) (.var 5))) (.and (.or (.val (.cmp .lt (.var 3) (.cst (.int (3))))) (.val (.cmp .lt (.var 5) (.var 4)))) (.val (.cmp .eq (.call "_law_scoop" (.cons true (.var 0) (.cons true (.ix (.lst (.cons false (.cst (.int (4))) (.cons false (.cst (.int (2))) (.cons false (.cst (.int (3))) (.cons false (.cst (.int (2))) .nil))))) (.var 3)) .nil))) (.cst (.int (0))))))) 
  (.cons (.ex (.bmt .append (.var 2) (.cons true (.tup (.cons false (.var 4) (.cons false (.var 5) .nil))) .nil))) .nil) .nil) .nil)
def m__law_drawn_ways_l2 : Mn.S := .frs (.name 4) (.rng (.var 1)) 
  (.cons m__law_drawn_ways_l1 .nil)
def m__law_drawn_ways : MDef := ⟨6, 2, 
  (.cons (.asgs [2, 3] (.cons true (.lst .nil) (.cons true (.call "_law_scoop" (.cons true (.var 0) (.cons true (.cst (.int (4))) .nil))) .nil))) 
  (.cons m__law_drawn_ways_l2 
  (.cons (.ret (.bif .tuple (.cons false (.var 2) .nil))) .nil)))⟩
/-- _law_toggled: [_law_row, _law_spot, _law_each] -/
def m__law_toggled : MDef := ⟨3, 2, 
  (.cons (.ret (.ife (.val (.cmp .inn (.var 1) (.var 0))) (.bif .tuple (.cons false (.lc (.var 2) (.name 2) (.val (.var 0)) (.val (.cmp .ne (.var 2) (.var 1)))) .nil)) (.bif .tuple (.cons false (.bif .sorted (.cons false (.bin .add (.var 0) (.tup (.cons false (.var 1) .nil))) .nil)) .nil)))) .nil)⟩
/-- _law_led: [_law_row, _law_step] -/
def m__law_led : MDef := ⟨2, 2, 
  (.cons (.ret (.call "_law_toggled" (.cons true (.call "_law_toggled" (.cons true (.var 0) (.cons true (.ix (.var 1) (.cst (.int (0)))) .nil))) (.cons true (.ix (.var 1) (.cst (.int (1)))) .nil)))) .nil)⟩
/-- _law_rows: [_law_many, _law_found, _law_spot, _law_row] -/
def m__law_rows_l1 : Mn.S := .frs (.name 2) (.rng (.var 0)) 
  (.cons (.asg 1 true (.bin .add (.var 1) (.lc (.bin .add (.var 3) (.tup (.cons false (.var 2) .nil))) (.name 3) (.val (.var 1)) .tt))) .nil)
def m__law_rows : MDef := ⟨4, 1, 
  (.cons (.asg 1 true (.lst (.cons false (.tup .nil) .nil))) 
  (.cons m__law_rows_l1 
  (.cons (.ret (.sortL (.var 1))) .nil)))⟩
/-- _law_survey: [_law_many, _law_lanes, _law_behind, _law_found, _law_row, _law_turn, _law_fresh, _law_told, _law_even, _law_step, _law_later, _law_number] -/
def m__law_survey_l1 : Mn.S := .frs (.name 4) (.val (.call "_law_rows" (.cons true (.var 0) .nil))) 
  (.cons (.iset (.var 2) (.var 4) true (.lc (.call "_law_led" (.cons true (.var 4) (.cons true (.var 9) .nil))) (.name 9) (.val (.var 1)) (.val (.cmp .inn (.ix (.var 9) (.cst (.int (0)))) (.var 4))))) .nil)
def m__law_survey_l2 : Mn.S := .frs (.name 4) (.val (.var 2)) 
  (.cons (.ifs (.val (.cmp .nin (.var 4) (.var 3))) 
  (.cons (.asg 7 true (.lc (.bmt .get (.var 3) (.cons true (.var 10) (.cons true (.neg (.cst (.int (2)))) .nil))) (.name 10) (.val (.ix (.var 2) (.var 4))) .tt)) 
  (.cons (.asg 8 true (.lc (.var 11) (.name 11) (.val (.var 7)) (.val (.cmp .eq (.bin .mod (.var 11) (.cst (.int (2)))) (.cst (.int (0))))))) 
  (.cons (.ifs (.or (.and (.val (.cmp .eq (.bin .mod (.var 5) (.cst (.int (2)))) (.cst (.int (1))))) (.val (.cmp .inn (.bin .sub (.var 5) (.cst (.int (1)))) (.var 7)))) (.and (.val (.cmp .eq (.bin .mod (.var 5) (.cst (.int (2)))) (.cst (.int (0))))) (.val (.cmp .eq (.var 8) (.lst .nil))))) 
  (.cons (.ex (.bmt .append (.var 6) (.cons true (.var 4) .nil))) .nil) .nil) .nil))) .nil) .nil)
def m__law_survey_l3 : Mn.S := .frs (.name 4) (.val (.var 6)) 
  (.cons (.iset (.var 3) (.var 4) true (.var 5)) .nil)
def m__law_survey_l4 : Mn.S := .frs (.name 5) (.rng (.cst (.int (66)))) 
  (.cons (.asg 6 true (.lst .nil)) 
  (.cons m__law_survey_l2 
  (.cons m__law_survey_l3 .nil)))
def m__law_survey : MDef := ⟨12, 2, 
  (.cons (.asgs [2, 3] (.cons true (.dct true) (.cons true (.dct true) .nil))) 
  (.cons m__law_survey_l1 
  (.cons m__law_survey_l4 
  (.cons (.ret (.var 3)) .nil))))⟩
/-- _law_end_word: [_law_ends, _law_row] -/
def m__law_end_word : MDef := ⟨2, 2, 
  (.cons (.ret (.ife (.val (.cmp .inn (.var 1) (.var 0))) (.ix (.lst (.cons false (.cst (.str "lost")) (.cons false (.cst (.str "won")) .nil))) (.bin .mod (.ix (.var 0) (.var 1)) (.cst (.int (2))))) (.cst (.str "drawn")))) .nil)⟩
/-- _law_row_text: [_law_row, _law_spot] -/
def m__law_row_text : MDef := ⟨2, 1, 
  (.cons (.ret (.ife (.val (.cmp .eq (.var 0) (.tup .nil))) (.cst (.str "-")) (.bmt .join (.cst (.str " ")) (.cons true (.lc (.bif .str (.cons false (.var 1) .nil)) (.name 1) (.val (.var 0)) .tt) .nil)))) .nil)⟩
/-- _law_best_steps: [_law_lanes, _law_ends, _law_row, _law_free, _law_due, _law_step] -/
def m__law_best_steps : MDef := ⟨6, 3, 
  (.cons (.asg 3 true (.lc (.var 5) (.name 5) (.val (.var 0)) (.val (.cmp .inn (.ix (.var 5) (.cst (.int (0)))) (.var 2))))) 
  (.cons (.asg 4 true (.ife (.val (.cmp .inn (.var 2) (.var 1))) (.bin .sub (.ix (.var 1) (.var 2)) (.cst (.int (1)))) (.neg (.cst (.int (1)))))) 
  (.cons (.ret (.lc (.var 5) (.name 5) (.val (.var 3)) (.val (.cmp .eq (.bmt .get (.var 1) (.cons true (.call "_law_led" (.cons true (.var 2) (.cons true (.var 5) .nil))) (.cons true (.neg (.cst (.int (1)))) .nil))) (.var 4))))) .nil)))⟩
/-- _law_line_about: [_law_lanes, _law_ends, _law_row, _law_line, _law_best, _law_start, _law_goal] -/
def m__law_line_about : MDef := ⟨7, 3, 
  (.cons (.asg 3 true (.bin .add (.bin .add (.call "_law_row_text" (.cons true (.var 2) .nil)) (.cst (.str ": "))) (.call "_law_end_word" (.cons true (.var 1) (.cons true (.var 2) .nil))))) 
  (.cons (.asg 3 true (.ife (.val (.cmp .inn (.var 2) (.var 1))) (.bin .add (.bin .add (.var 3) (.cst (.str " in "))) (.bif .str (.cons false (.ix (.var 1) (.var 2)) .nil))) (.var 3))) 
  (.cons (.asg 4 true (.lc (.bin .add (.bin .add (.bif .str (.cons false (.var 5) .nil)) (.cst (.str ">"))) (.bif .str (.cons false (.var 6) .nil))) (.tup [5, 6]) (.val (.call "_law_best_steps" (.cons true (.var 0) (.cons true (.var 1) (.cons true (.var 2) .nil))))) .tt)) 
  (.cons (.ret (.ife (.val (.cmp .ne (.var 4) (.lst .nil))) (.bmt .join (.cst (.str " ")) (.cons true (.bin .add (.lst (.cons false (.var 3) (.cons false (.cst (.str "by")) .nil))) (.var 4)) .nil)) (.var 3))) .nil))))⟩
end Mn.LS
end

section
set_option Elab.async false
set_option linter.all false
set_option maxRecDepth 100000
set_option maxHeartbeats 1000000
/-! The law k73's own defs, as the translator gives them (printed by a program). -/
namespace Mn.L73
open PySem
/-- _law_right: [_law_chest_here, _law_many, _law_lanes, _law_ends, _law_made, _law_rows_here, _law_some_here, _law_row, _law_due, _law_turn] -/
def m__law_right_l1 : Mn.S := .frs (.name 7) (.val (.var 6)) 
  (.cons (.asg 8 true (.call "_law_line_about" (.cons true (.var 2) (.cons true (.var 3) (.cons true (.var 7) .nil))))) 
  (.cons (.ifs (.val (.cmp .ne (.bif .repr (.cons false (.lst (.cons false (.call "play_line" (.cons true (.var 4) (.cons true (.var 7) .nil))) (.cons false (.callK "play_line" ["web", "standing"] ["standing", "web"] (.cons true (.var 7) (.cons true (.var 4) .nil))) .nil))) .nil)) (.bif .repr (.cons false (.lst (.cons false (.var 8) (.cons false (.var 8) .nil))) .nil)))) 
  (.cons (.ret (.cst (.bl false))) .nil) .nil) .nil))
def m__law_right : MDef := ⟨10, 1, 
  (.cons (.asg 1 true (.bin .add (.cst (.int (1))) (.call "_law_scoop" (.cons true (.var 0) (.cons true (.cst (.int (5))) .nil))))) 
  (.cons (.asg 2 true (.call "_law_drawn_ways" (.cons true (.var 0) (.cons true (.var 1) .nil)))) 
  (.cons (.asgs [3, 4] (.cons true (.call "_law_survey" (.cons true (.var 1) (.cons true (.var 2) .nil))) (.cons true (.new "Web" (.cons true (.var 1) (.cons true (.var 2) .nil))) .nil))) 
  (.cons (.asg 5 true (.call "_law_rows" (.cons true (.var 1) .nil))) 
  (.cons (.asg 6 true (.ife (.val (.cmp .lt (.var 1) (.cst (.int (5))))) (.var 5) (.lc (.call "_law_some" (.cons true (.var 0) (.cons true (.var 5) .nil))) (.name 9) (.rng (.cst (.int (8)))) .tt))) 
  (.cons m__law_right_l1 
  (.cons (.ret (.cst (.bl true))) .nil)))))))⟩
/-- law: [_law_script, _law_slot] -/
def m_law : MDef := ⟨2, 1, 
  (.cons (.ret (.bif .all (.cons false (.lc (.call "_law_right" (.cons true (.call "_law_chest" (.cons true (.var 0) (.cons true (.var 1) .nil))) .nil)) (.name 1) (.rng (.bif .max (.cons false (.cst (.int (2))) (.cons false (.bif .min (.cons false (.bif .len (.cons false (.var 0) .nil)) (.cons false (.cst (.int (4))) .nil))) .nil)))) .tt) .nil))) .nil)⟩
end Mn.L73
end

section
set_option Elab.async false
set_option linter.all false
set_option maxRecDepth 100000
set_option maxHeartbeats 2000000
/-! Plain: what the laws' own helpers compute: toggled, led, rows. -/
namespace Mn.LS
open PySem
structure HasH (F : Fn → Option MDef) : Prop extends L84.HasD F where
  drawn_ways : F ("_law_drawn_ways", none) = some m__law_drawn_ways
  toggled : F ("_law_toggled", none) = some m__law_toggled
  led : F ("_law_led", none) = some m__law_led
  rows : F ("_law_rows", none) = some m__law_rows
section
variable {p : PTab} {fuel n : Nat} {F : Fn → Option MDef}
theorem bif_sort_tup {s : List Int} {C : Calls} {st : Store} (h : s.length ≤ lim) : bifR p C .sorted [tI s] st = .ok (.fl ((sortI s).map D.int)) st := by
  rw [bif_d rfl]
  simp [bifD, srtD, isTu, seqOf_tI, sortD_ints h, tI]
theorem c_ltoggled (H : HasH F) (s : List Int) (x : Int) (st : Store) (hs : s.length < 900) : callN p fuel F (n + 1) ("_law_toggled", none) [tI s, .int x] st = .ok (.d (tI (toggle s x))) st := by
  rw [call_go H.toggled rfl]
  have hl : s.length ≤ lim := by unfold lim; omega
  have hl2 : s.length + 1 ≤ lim := by unfold lim; omega
  by_cases hx : x ∈ s
  · simp [m__law_toggled, evSs, evS, evE, evEs, evT, evI, tgs, wipeE, hx, hl]
    rw [lc_ints (h := fun i => if decide (i ≠ x) = true then some (.int i) else none) (fun i _ => by
      simp [bindTg]
      by_cases e : i = x <;> simp [e]), fm_if (fun i : Int => decide (i ≠ x)) D.int]
    simp [toggle, hx, tI]
  · have hb : binD st .add (tI s) (.tup [.int x]) = some (.d (tI (s ++ [x]))) := by simp [binD, tI, hl2]
    have hsrt := bif_sort_tup (p := p) (C := callN p fuel F n) (st := st) (s := s ++ [x]) (by simp; exact hl2)
    simp [m__law_toggled, evSs, evS, evE, evEs, evT, evI, tgs, wipeE, hx, hb, hsrt]
    simp [toggle, hx, tI]
theorem c_led (H : HasH F) (s : List Int) (w : Way) (st : Store) (hs : s.length < 800) : callN p fuel F (n + 2) ("_law_led", none) [tI s, wD w] st = .ok (.d (tI (play s w))) st := by
  rw [call_go H.led rfl]
  have h1 := c_ltoggled (p := p) (fuel := fuel) (n := n) H s w.1 st (by omega)
  have h2 := c_ltoggled (p := p) (fuel := fuel) (n := n) H (toggle s w.1) w.2 st (by have := toggle_len s w.1; omega)
  simp [m__law_led, evSs, evS, evE, evEs, h1, h2, play]
end
end Mn.LS
end

section
set_option Elab.async false
set_option linter.all false
set_option maxRecDepth 100000
set_option maxHeartbeats 2000000
/-! Plain: the law's webs, and what is known of them. -/
namespace Mn.L84
open PySem
/-- a loop over a range, its state told by a relation -/
theorem fr_relR' {f : D → Env → Store → RS} (I : Nat → Env → Store → Prop) : ∀ (m k : Nat) {env : Env} {st : Store}, I k env st → (∀ i, k ≤ i → i < k + m → ∀ env st, I i env st → ∃ env' st', f (.int (0 + (i : Int))) env st = .nx env' st' ∧ I (i + 1) env' st') → ∃ env' st', frLoop f ((List.range' k m).map fun (i : Nat) => D.int (0 + (i : Int))) env st = .nx env' st' ∧ I (k + m) env' st'
  | 0, k, env, st, i, _ => ⟨env, st, rfl, i⟩
  | m + 1, k, env, st, i, h => by
    obtain ⟨e1, s1, h1, i1⟩ := h k (Nat.le_refl _) (by omega) env st i
    obtain ⟨e2, s2, h2, i2⟩ := fr_relR' I m (k + 1) i1 fun j h1 h2 => h j (by omega) (by omega)
    refine ⟨e2, s2, ?_, by rw [show k + (m + 1) = k + 1 + m by omega]; exact i2⟩
    rw [List.range'_succ, List.map_cons]
    simp only [frLoop, h1]
    exact h2
theorem fr_relR {f : D → Env → Store → RS} (I : Nat → Env → Store → Prop) {n : Nat} {env : Env} {st : Store} (i0 : I 0 env st) (h : ∀ i, i < n → ∀ env st, I i env st → ∃ env' st', f (.int (i : Int)) env st = .nx env' st' ∧ I (i + 1) env' st') : ∃ env' st', frLoop f (intRange 0 n) env st = .nx env' st' ∧ I n env' st' := by
  unfold intRange
  rw [List.range_eq_range']
  have := fr_relR' (f := f) I n 0 i0 fun i _ h2 env st ii => by
    rw [show (0 : Int) + (i : Int) = (i : Int) by omega]
    exact h i (by omega) env st ii
  simpa using this
structure HasL (F : Fn → Option MDef) : Prop extends HasD F where
  great : F ("_law_great", none) = some m__law_great
  total : F ("_law_total", none) = some m__law_total
  known : F ("_law_known_right", none) = some m__law_known_right
  right : F ("_law_right", none) = some m__law_right
  law : F ("law", none) = some m_law
def c1 (way many start goal : Int) : Bool := (decide (way = 0) && decide (goal < start)) || (decide (way = 1) && decide (goal = (start + 1) % many))
def c2 (way start goal : Int) : Bool := decide (way = 2) && decide ((if goal - start < 0 then -(goal - start) else goal - start) = 1)
def gstep (way many start : Int) (ws : List Way) (goal : Nat) : List Way :=
  let w1 := if c1 way many start goal = true then ws ++ [(start, (goal : Int))] else ws
  if c2 way start goal = true then w1 ++ [(start, (goal : Int))] else w1
def ginner (way many start : Int) (ws : List Way) (k : Nat) : List Way := (List.range k).foldl (gstep way many start) ws
def gouter (way many : Int) (m k : Nat) : List Way := (List.range k).foldl (fun ws (start : Nat) => ginner way many (start : Int) ws m) []
def great (way : Int) (m : Nat) : List Way := gouter way m m m
theorem gstep_len (way many start : Int) (ws : List Way) (goal : Nat) : (gstep way many start ws goal).length ≤ ws.length + 2 := by
  unfold gstep
  simp only
  split <;> split <;> simp <;> omega
theorem ginner_succ (way many start : Int) (ws : List Way) (k : Nat) : ginner way many start ws (k + 1) = gstep way many start (ginner way many start ws k) k := by
  simp [ginner, List.range_succ, List.foldl_append]
theorem ginner_len (way many start : Int) (ws : List Way) : ∀ k, (ginner way many start ws k).length ≤ ws.length + 2 * k
  | 0 => by simp [ginner]
  | k + 1 => by
    rw [ginner_succ]
    have := gstep_len way many start (ginner way many start ws k) k
    have := ginner_len way many start ws k
    omega
theorem gouter_succ (way many : Int) (m k : Nat) : gouter way many m (k + 1) = ginner way many (k : Int) (gouter way many m k) m := by
  simp [gouter, List.range_succ, List.foldl_append]
theorem gouter_len (way many : Int) (m : Nat) : ∀ k, (gouter way many m k).length ≤ 2 * m * k
  | 0 => by simp [gouter]
  | k + 1 => by
    rw [gouter_succ]
    have := ginner_len way many k (gouter way many m k) m
    have := gouter_len way many m k
    rw [Nat.mul_succ]
    omega
section
variable {p : PTab} {fuel n : Nat} {F : Fn → Option MDef}
def gS (b : Store) (ws : List Way) : Store := b ++ [.lst false (ws.map wD)]
theorem gS_at {b : Store} {ws : List Way} : (gS b ws)[b.length]? = some (.lst false (ws.map wD)) := by simp [gS]
theorem gS_set {b : Store} {ws : List Way} {v : List D} : (gS b ws).set b.length (.lst false v) = b ++ [.lst false v] := by simp [gS, List.set_append]
theorem ev_ifs {C : Calls} {t : Mn.T} {x y : Ss} {env : Env} {st : Store} : evS p C fuel (.ifs t x y) env st = (evT p C t env st).toS env fun v st => if v then evSs p C fuel x env st else evSs p C fuel y env st := by simp only [evS]
theorem app_way {C : Calls} {b : Store} {ws : List Way} {way many start goal : Int} (hl : ws.length < 10000) : evS p C fuel (.ex (.bmt .append (.var 2) (.cons true (.tup (.cons false (.var 3) (.cons false (.var 4) .nil))) .nil))) [some (.int way), some (.int many), some (.loc b.length), some (.int start), some (.int goal)] (gS b ws) = .nx [some (.int way), some (.int many), some (.loc b.length), some (.int start), some (.int goal)] (gS b (ws ++ [(start, goal)])) := by
  have hlm : ws.length < lim := by unfold lim; omega
  simp [evS, evE, evEs, tyB, isL, seqOf, gS_at, bmtD, appD, hlm, gS_set]
  simp [gS, wD]
theorem l_great1 {b : Store} {way start : Int} {m : Nat} (hm : m ≤ 8) {ws : List Way} (hl : ws.length < 1000) (x : Option D) :
    ∃ y, evS p (callN p fuel F n) fuel m__law_great_l1 [some (.int way), some (.int m), some (.loc b.length), some (.int start), x] (gS b ws) = .nx [some (.int way), some (.int m), some (.loc b.length), some (.int start), y] (gS b (ginner way m start ws m)) := by
  refine ⟨if m = 0 then x else some (.int ((m : Int) - 1)), ?_⟩
  simp only [m__law_great_l1, evS, evI, evE, List.getElem?_cons_zero, List.getElem?_cons_succ, froz_d, Res.bind_okP]
  rw [if_pos (by omega), toS_ok]
  simp only [if_true, unl_none, Int.toNat_natCast]
  refine fr_range (mk := fun i => [some (.int way), some (.int m), some (.loc b.length), some (.int start), if i = 0 then x else some (.int ((i : Int) - 1))]) (sk := fun i => gS b (ginner way m start ws i)) fun i hi => ?_
  have hlen := ginner_len way m start ws i
  rw [ginner_succ]
  have hmp : 0 < (m : Int) := by omega
  simp only [bindTg, List.set]
  have t1 : evT p (callN p fuel F n) (.or (.and (.val (.cmp .eq (.var 0) (.cst (.int (0))))) (.val (.cmp .lt (.var 4) (.var 3)))) (.and (.val (.cmp .eq (.var 0) (.cst (.int (1))))) (.val (.cmp .eq (.var 4) (.bin .mod (.bif .int (.cons false (.bin .add (.var 3) (.cst (.int (1)))) .nil)) (.var 1)))))) [some (.int way), some (.int m), some (.loc b.length), some (.int start), some (.int i)] (gS b (ginner way m start ws i)) = .ok (c1 way m start i) (gS b (ginner way m start ws i)) := by
    have hm0 : 0 < m := by omega
    simp [evT, evE, evEs, binD, binI, hm0, c1]
    by_cases w0 : way = 0
    · by_cases w1 : (i : Int) < start
      · simp [w0, w1]
      · simp [w0, w1]
    · by_cases w1 : way = 1
      · simp [w0, w1]
      · simp [w0, w1]
  have t2 : ∀ wz : List Way, evT p (callN p fuel F n) (.and (.val (.cmp .eq (.var 0) (.cst (.int (2))))) (.val (.cmp .eq (.bif .abs (.cons false (.bin .sub (.var 4) (.var 3)) .nil)) (.cst (.int (1)))))) [some (.int way), some (.int m), some (.loc b.length), some (.int start), some (.int i)] (gS b wz) = .ok (c2 way start i) (gS b wz) := fun wz => by
    simp [evT, evE, evEs, binD, binI, c2]
    by_cases w0 : way = 2
    · simp [w0]
    · simp [w0]
  have a1 := app_way (p := p) (fuel := fuel) (C := callN p fuel F n) (b := b) (ws := ginner way m start ws i) (way := way) (many := m) (start := start) (goal := i) (by omega)
  have a2 := app_way (p := p) (fuel := fuel) (C := callN p fuel F n) (b := b) (ws := ginner way m start ws i ++ [(start, (i : Int))]) (way := way) (many := m) (start := start) (goal := i) (by simp; omega)
  unfold gstep
  simp only [evSs, ev_ifs, t1, toS_ok]
  cases e1 : c1 way m start i <;> cases e2 : c2 way start i <;> simp [ev_ifs, evSs, t2, a1, a2, e2]
theorem l_great2 {b : Store} {way : Int} {m : Nat} (hm : m ≤ 8) : ∃ env' st', evS p (callN p fuel F n) fuel m__law_great_l2 [some (.int way), some (.int m), some (.loc b.length), none, none] (gS b []) = .nx env' st' ∧ (∃ x y, env' = [some (.int way), some (.int m), some (.loc b.length), x, y]) ∧ st' = gS b (great way m) := by
  simp only [m__law_great_l2, evS, evI, evE, List.getElem?_cons_zero, List.getElem?_cons_succ, froz_d, Res.bind_okP]
  rw [if_pos (by omega), toS_ok]
  simp only [if_true, unl_none, Int.toNat_natCast]
  refine fr_relR (fun i (env : Env) (st : Store) => (∃ x y, env = [some (.int way), some (.int m), some (.loc b.length), x, y]) ∧ st = gS b (gouter way m m i)) (n := m) ⟨⟨_, _, rfl⟩, rfl⟩ fun i hi env st ii => ?_
  obtain ⟨⟨x, y, rfl⟩, rfl⟩ := ii
  have hlen := gouter_len way m m i
  have hmm : m * i ≤ 8 * 8 := Nat.mul_le_mul hm (by omega)
  have hl : (gouter way m m i).length < 1000 := by
    rw [Nat.mul_assoc] at hlen
    omega
  obtain ⟨z, e⟩ := l_great1 (p := p) (fuel := fuel) (n := n) (F := F) (b := b) (way := way) (start := (i : Int)) hm hl y
  refine ⟨_, _, ?_, ⟨some (.int i), z, rfl⟩, rfl⟩
  rw [gouter_succ]
  simp only [bindTg, List.set, evSs, e, seq_nx, turn_nx, if_true]
theorem bnd_wsD {k : Nat} (ws : List Way) : D.bnd k (wsD ws) = true := by
  simp only [wsD, D.bnd]
  induction ws with
  | nil => rfl
  | cons a ws ih => simp [D.bnds, wD, D.bnd, ih]
theorem c_great (H : HasL F) {way : Int} {m : Nat} (hm : m ≤ 8) (b : Store) : callN p fuel F (n + 1) ("_law_great", none) [.int way, .int m] b = .ok (.d (wsD (great way m))) b := by
  rw [call_go H.great rfl]
  obtain ⟨env', st', e, ⟨x, y, rfl⟩, rfl⟩ := l_great2 (p := p) (fuel := fuel) (n := n) (F := F) (b := b) (way := way) hm
  have e0 : evS p (callN p fuel F n) fuel (.asg 2 true (.lst .nil)) [some (.int way), some (.int m), none, none, none] b = .nx [some (.int way), some (.int m), some (.loc b.length), none, none] (gS b []) := by
    simp [evS, evE, evEs, gS]
  have e2 : evS p (callN p fuel F n) fuel (.ret (.bif .tuple (.cons false (.var 2) .nil))) [some (.int way), some (.int m), some (.loc b.length), x, y] (gS b (great way m)) = .rt (.d (wsD (great way m))) (gS b (great way m)) := by
    simp [evS, evE, evEs, bif_tup_loc gS_at, wsD]
  simp only [m__law_great, evSs, List.map_cons, List.map_nil, List.cons_append, List.nil_append, List.replicate, e0, e, e2, seq_nx, seq_rt]
  exact trim_app (fun j => by simp [wsD]) (bnd_wsD _)
/-- the sum without carry -/
def total (s : List Int) : Int := s.foldl (fun t x => Builtin.bitXor t x) 0
theorem c_total (H : HasL F) (s : List Int) (st : Store) : callN p fuel F (n + 1) ("_law_total", none) [tI s] st = .ok (.d (.int (total s))) st := by
  rw [call_go H.total rfl]
  have e : evS p (callN p fuel F n) fuel m__law_total_l1 [some (tI s), some (.int 0), none] st = .nx [some (tI s), some (.int (s.foldl (fun (q : Int × Option D) x => (Builtin.bitXor q.1 x, some (.int x))) (0, none)).1), (s.foldl (fun (q : Int × Option D) x => (Builtin.bitXor q.1 x, some (D.int x))) (0, none)).2] st := by
    simp [m__law_total_l1, evSs, evS, evE, evEs, evT, evI]
    refine fr_fold (g := D.int) (mk := fun q : Int × Option D => [some (tI s), some (.int q.1), q.2]) (step := fun (q : Int × Option D) x => (Builtin.bitXor q.1 x, some (.int x))) (l := s) (s := (0, none)) fun x _ q => ?_
    simp [bindTg, binD, binI]
  have ef : ∀ (l : List Int) (q : Int × Option D), (l.foldl (fun (q : Int × Option D) x => (Builtin.bitXor q.1 x, some (D.int x))) q).1 = l.foldl (fun t x => Builtin.bitXor t x) q.1 := fun l => by
    induction l with
    | nil => intro q; rfl
    | cons a l ih => intro q; exact ih _
  rw [ef] at e
  simp only [m__law_total, evSs, List.map_cons, List.map_nil, List.cons_append, List.nil_append, List.replicate]
  rw [show evS p (callN p fuel F n) fuel (.asg 1 true (.cst (.int (0)))) [some (tI s), none, none] st = .nx [some (tI s), some (.int 0), none] st by simp [evS, evE]]
  simp only [seq_nx, e]
  simp [evS, evE, total]
/-- what is known of the outcomes -/
def expect (way : Int) (m : Nat) (s : List Int) : String :=
  if way = 0 then (if total s = 0 then "lost" else "won")
  else if s = [] then "lost"
  else match s with
    | [a, b] => if way = 1 then (if b - a = 1 ∨ b - a = (m : Int) - 1 then "won" else "drawn") else (if b - a = 1 then "won" else "drawn")
    | _ => "drawn"
theorem wordK_is (K : List Int → Option Nat) (s : List Int) : wordK K s = "lost" ∨ wordK K s = "won" ∨ wordK K s = "drawn" := by
  unfold wordK
  cases K s with
  | none => simp
  | some m => by_cases h : m % 2 = 0 <;> simp [h]
theorem sim_lost : D.sim 60 (.str (Str.ofString "lost")) = true := by decide +kernel
theorem sim_won : D.sim 60 (.str (Str.ofString "won")) = true := by decide +kernel
theorem sim_drawn : D.sim 60 (.str (Str.ofString "drawn")) = true := by decide +kernel
theorem sim_word (K : List Int → Option Nat) (s : List Int) : D.sim 60 (.str (Str.ofString (wordK K s))) = true := by
  rcases wordK_is K s with h | h | h <;> rw [h]
  · exact sim_lost
  · exact sim_won
  · exact sim_drawn
theorem eq_word {st : Store} {K : List Int → Option Nat} {s : List Int} {x : String} (hx : D.sim 60 (.str (Str.ofString x)) = true) : cmpD st .eq (.str (Str.ofString (wordK K s))) (.str (Str.ofString x)) = some (decide (wordK K s = x)) := by
  rw [eq_sim (sim_word K s) hx]
  simp
def near (way : Int) (m : Nat) (s : List Int) : Bool := match s with
  | [a, b] => if way = 1 then decide (b - a = 1 ∨ b - a = (m : Int) - 1) else decide (b - a = 1)
  | _ => false
theorem near_eq {C : Calls} {g : Nat} {c : Nat} {w : D} {st : Store} {way : Int} {s : List Int} : evS p C fuel (.asg 5 true (.andv (.cmp .eq (.bif .len (.cons false (.var 3) .nil)) (.cst (.int (2)))) (.cmp .inn (.bin .sub (.ix (.var 3) (.cst (.int (1)))) (.ix (.var 3) (.cst (.int (0))))) (.ife (.val (.cmp .eq (.var 0) (.cst (.int (1))))) (.lst (.cons false (.cst (.int (1))) (.cons false (.bin .sub (.var 2) (.cst (.int (1)))) .nil))) (.lst (.cons false (.cst (.int (1))) .nil)))))) [some (.int way), some (.loc g), some (.int c), some (tI s), some w, none] st = .nx [some (.int way), some (.loc g), some (.int c), some (tI s), some w, some (.bl (near way c s))] st := by
  match s with
  | [] => simp [evS, evE, evEs, evT, near]
  | [a] => simp [evS, evE, evEs, evT, near]
  | [a, b] =>
    have i1 : ixD st (tI [a, b]) (.int 1) = some (.int b) := ix_seq (i := 1) (xs := [.int a, .int b]) rfl rfl
    have i0 : ixD st (tI [a, b]) (.int 0) = some (.int a) := ix_seq (i := 0) (xs := [.int a, .int b]) rfl rfl
    have q1 : cmpD st .inn (.int (b - a)) (.lst [.int 1]) = some (decide (b - a = 1)) := by
      rw [inn_sim sim_int (ys := [1].map D.int) rfl (sims_ints _), ]; simp
    have q2 : cmpD st .inn (.int (b - a)) (.lst [.int 1, .int ((c : Int) - 1)]) = some (decide (b - a = 1 ∨ b - a = (c : Int) - 1)) := by
      rw [inn_sim sim_int (ys := [1, (c : Int) - 1].map D.int) rfl (sims_ints _), ]; simp
    by_cases w1 : way = 1
    · simp [evS, evE, evEs, evT, i1, i0, binD, binI, near, w1, q2]
    · simp [evS, evE, evEs, evT, i1, i0, binD, binI, near, w1, q1]
  | a :: b :: c' :: r =>
    have : ¬ ((r.length : Int) + 1 + 1 + 1 = 2) := by omega
    simp [evS, evE, evEs, evT, near, this]
theorem c_known (H : HasL F) (G : HasG p F) {st : Store} {lo g w sv c : Nat} {ws : List Way} {kn wt : List (List Int × Nat)} {s : List Int} {past : List (List Int)} (h : GmAt st lo g w sv c ws kn wt) (hg : st[g]? = some (gmO w sv s past)) (way : Int) (hs : s.length < 100) :
    callN p fuel F (n + 3) ("_law_known_right", none) [.int way, .loc g, .int c] st = .ok (.d (.bl (decide (wordK (lkS kn) s = expect way c s)))) st := by
  rw [call_go H.known rfl]
  have h1 := e_outcome (p := p) (fuel := fuel) (n := n) G h hg (env := [some (.int way), some (.loc g), some (.int c), none, none, none]) (i := 1) rfl
  have h2 := c_total (p := p) (fuel := fuel) (n := n + 1) H s st
  have hs0 : evE p (callN p fuel F (n + 2)) (.fld (.var 1) "standing") [some (.int way), some (.loc g), some (.int c), none, none, none] st = .ok (.d (tI s)) st := by
    simp [evE, hg, gmO, List.lookup, G.gp3, G.gf3]
  have e0 : evS p (callN p fuel F (n + 2)) fuel (.asgs [3, 4] (.cons true (.fld (.var 1) "standing") (.cons true (.fld (.var 1) "outcome") .nil))) [some (.int way), some (.loc g), some (.int c), none, none, none] st = .nx [some (.int way), some (.loc g), some (.int c), some (tI s), some (.str (Str.ofString (wordK (lkS kn) s))), none] st := by
    simp only [evS, evEs, hs0, h1, if_true, kept_d, Res.bind_okP, toS_ok]
    simp [setAll]
  have hE := @eq_word st (lkS kn) s
  have heq : cmpD st .eq (tI s) (.tup []) = some (decide (s = [])) := by
    rw [eq_sim (sim_tI s) rfl]
    cases s <;> simp [tI]
  simp only [m__law_known_right, evSs, List.map_cons, List.map_nil, List.cons_append, List.nil_append, List.replicate, e0, seq_nx]
  by_cases w0 : way = 0
  · by_cases t0 : total s = 0
    · simp [evS, evT, evE, evEs, evSs, w0, h2, t0, hE sim_lost, expect]
    · simp [evS, evT, evE, evEs, evSs, w0, h2, t0, hE sim_won, expect]
  · by_cases s0 : s = []
    · subst s0
      have hE0 := hE sim_lost
      simp [evS, evT, evE, evEs, evSs, w0, heq, hE0, expect]
    · have hne := near_eq (p := p) (C := callN p fuel F (n + 2)) (fuel := fuel) (g := g) (c := c) (w := .str (Str.ofString (wordK (lkS kn) s))) (st := st) (way := way) (s := s)
      have hEw := hE sim_won
      have hEd := hE sim_drawn
      have hx : expect way c s = if near way c s = true then "won" else "drawn" := by
        unfold expect
        rw [if_neg w0, if_neg s0]
        match s, s0 with
        | [a], _ => simp [near]
        | [a, b], _ => by_cases w1 : way = 1 <;> simp [near, w1]
        | a :: b :: c' :: r, _ => simp [near]
      rw [hx]
      have t0 : evT p (callN p fuel F (n + 2)) (.val (.cmp .eq (.var 0) (.cst (.int 0)))) [some (.int way), some (.loc g), some (.int c), some (tI s), some (.str (Str.ofString (wordK (lkS kn) s))), none] st = .ok false st := by simp [evT, evE, w0]
      have t1 : evT p (callN p fuel F (n + 2)) (.val (.cmp .eq (.var 3) (.tup .nil))) [some (.int way), some (.loc g), some (.int c), some (tI s), some (.str (Str.ofString (wordK (lkS kn) s))), none] st = .ok false st := by simp [evT, evE, evEs, heq, s0]
      simp only [ev_ifs, t0, t1, toS_ok, Bool.false_eq_true, if_false, evSs, seq_nx, hne]
      cases near way c s <;> simp [evS, evE, evT, evEs, hEw, hEd]
end
end Mn.L84
end

section
set_option Elab.async false
set_option linter.all false
set_option maxRecDepth 100000
set_option maxHeartbeats 2000000
/-! Plain: the laws' own rows. -/
namespace Mn.LS
open PySem
section
variable {p : PTab} {fuel n : Nat} {F : Fn → Option MDef}
theorem add_loc {st : Store} {j : Nat} {lk : Bool} {xs ys : List D} (h : st[j]? = some (.lst lk xs)) (hl : xs.length + ys.length ≤ lim) : binD st .add (.loc j) (.lst ys) = some (.fl (xs ++ ys)) := by
  simp [binD, isL, seqOf, h, hl]
theorem l_lrows (k : Nat) (hk : k ≤ 8) (b : Store) : ∃ env' st', evS p (callN p fuel F n) fuel m__law_rows_l1 [some (.int k), some (.loc b.length), none, none] (b ++ [.lst false [.tup []]]) = .nx env' st' ∧
    ∃ (j : Nat) (x : Option D) (ext : Store), env' = [some (.int k), some (.loc j), x, none] ∧ st' = b ++ ext ∧ st'[j]? = some (.lst false ((allS k).map tI)) := by
  have h256 : ∀ i, i ≤ 8 → (allS i).length ≤ 256 := fun i hi => by
    rw [allS_len]
    exact Nat.pow_le_pow_right (n := 2) (by omega) hi
  simp only [m__law_rows_l1, evS, evI, evE, List.getElem?_cons_zero, froz_d, Res.bind_okP]
  rw [if_pos (by omega), toS_ok]
  simp only [if_true, unl_none, Int.toNat_natCast]
  refine L84.fr_relR (fun i (env : Env) (st : Store) => ∃ (j : Nat) (x : Option D) (ext : Store), env = [some (.int k), some (.loc j), x, none] ∧ st = b ++ ext ∧ st[j]? = some (.lst false ((allS i).map tI))) (n := k) ⟨b.length, none, [.lst false [.tup []]], rfl, rfl, by simp [allS, tI]⟩ fun i hi env st ii => ?_
  obtain ⟨j, x, ext, rfl, rfl, hj⟩ := ii
  have h1 := h256 i (by omega)
  have hl : (allS i).length ≤ lim := by unfold lim; omega
  have hl2 : (allS i).length + (allS i).length ≤ lim := by unfold lim; omega
  have hsq : seqOf (b ++ ext) (.loc j) = some ((allS i).map tI) := by simp [seqOf, hj]
  refine ⟨[some (.int k), some (.loc (b ++ ext).length), some (.int i), none], b ++ (ext ++ [.lst false ((allS (i + 1)).map tI)]), ?_, (b ++ ext).length, _, ext ++ [.lst false ((allS (i + 1)).map tI)], rfl, rfl, by rw [← List.append_assoc]; simp⟩
  have e : evE p (callN p fuel F n) (.lc (.bin .add (.var 3) (.tup (.cons false (.var 2) .nil))) (.name 3) (.val (.var 1)) .tt) [some (.int k), some (.loc j), some (.int i), none] (b ++ ext) = .ok (.fl ((allS i).map fun s => tI (s ++ [(i : Int)]))) (b ++ ext) := by
    simp [evE, evI, evT, evEs, tgs, wipeE, bindTg, hsq, hl]
    rw [lc_map (h := fun s => some (tI (s ++ [(i : Int)]))) (fun s hs => by
      have hsl : s.length + 1 ≤ lim := by
        have := allS_short i s hs
        unfold lim; omega
      simp [tI, binD, hsl]), fm_map]
    rfl
  have e2 : binD (b ++ ext) .add (.loc j) (.lst ((allS i).map fun s => tI (s ++ [(i : Int)]))) = some (.fl ((allS (i + 1)).map tI)) := by
    rw [add_loc hj (by simpa using hl2)]
    simp [allS, Function.comp]
  simp only [bindTg, List.set, evSs, evS, if_true]
  rw [show evE p (callN p fuel F n) (.bin .add (.var 1) (.lc (.bin .add (.var 3) (.tup (.cons false (.var 2) .nil))) (.name 3) (.val (.var 1)) .tt)) [some (.int k), some (.loc j), some (.int i), none] (b ++ ext) = (evE p (callN p fuel F n) (.var 1) [some (.int k), some (.loc j), some (.int i), none] (b ++ ext)).froz.bind fun x st => (evE p (callN p fuel F n) (.lc (.bin .add (.var 3) (.tup (.cons false (.var 2) .nil))) (.name 3) (.val (.var 1)) .tt) [some (.int k), some (.loc j), some (.int i), none] st).froz.bind fun y st => Res.ofOpt (binD st .add x y) st by simp only [evE]]
  simp only [evE, List.getElem?_cons_zero, List.getElem?_cons_succ, froz_d, Res.bind_okP] at e ⊢
  rw [e]
  simp [e2]
theorem c_lrows (H : HasH F) (k : Nat) (hk : k ≤ 8) (b : Store) : callN p fuel F (n + 1) ("_law_rows", none) [.int k] b = .ok (.fl ((rows k).map tI)) b := by
  have h256 : (allS k).length ≤ 256 := by
    rw [allS_len]
    exact Nat.pow_le_pow_right (n := 2) (by omega) hk
  have hl : (allS k).length ≤ lim := by unfold lim; omega
  rw [call_go H.rows rfl]
  obtain ⟨env', st', e, j, x, ext, rfl, rfl, hj⟩ := l_lrows (p := p) (fuel := fuel) (n := n) (F := F) k hk b
  have hsq : seqOf (b ++ ext) (.loc j) = some ((allS k).map tI) := by simp [seqOf, hj]
  simp [m__law_rows, evSs, evS, evE, evEs, e]
  simp [isL, hsq, sortLen_tI hl]
  exact trim_app_fl (bnds_tI _)
end
end Mn.LS
end

section
set_option Elab.async false
set_option linter.all false
set_option maxRecDepth 100000
set_option maxHeartbeats 2000000
/-! Plain: standings are sets; a survey's last table checked by a certificate. -/
namespace Mn
open PySem
theorem allS_iff : ∀ {k : Nat} {s : List Int}, s ∈ allS k ↔ s.Pairwise (· < ·) ∧ ∀ x ∈ s, 0 ≤ x ∧ x < (k : Int)
  | 0, s => by
    simp only [allS, List.mem_singleton]
    constructor
    · rintro rfl; simp
    · rintro ⟨_, h⟩
      cases s with
      | nil => rfl
      | cons a r =>
        have := h a (List.mem_cons_self ..)
        omega
  | k + 1, s => by
    simp only [allS, List.mem_append, List.mem_map]
    constructor
    · rintro (h | ⟨s', h, rfl⟩)
      · obtain ⟨h1, h2⟩ := allS_iff.mp h
        exact ⟨h1, fun x hx => by have := h2 x hx; omega⟩
      · obtain ⟨h1, h2⟩ := allS_iff.mp h
        refine ⟨List.pairwise_append.mpr ⟨h1, List.pairwise_singleton .., fun x hx y hy => ?_⟩, fun x hx => ?_⟩
        · rw [List.mem_singleton.mp hy]; exact (h2 x hx).2
        · rcases List.mem_append.mp hx with hx | hx
          · have := h2 x hx; omega
          · have := List.mem_singleton.mp hx; omega
    · rintro ⟨h1, h2⟩
      by_cases hk : (k : Int) ∈ s
      · right
        rcases List.eq_nil_or_concat s with rfl | ⟨i, l, rfl⟩
        · cases hk
        · rw [List.concat_eq_append] at h1 h2 hk ⊢
          obtain ⟨g1, _, g3⟩ := List.pairwise_append.mp h1
          have hl := h2 l (by simp)
          have : l = (k : Int) := by
            rcases List.mem_append.mp hk with h | h
            · have := g3 _ h l (by simp); omega
            · exact (List.mem_singleton.mp h).symm
          subst this
          refine ⟨i, allS_iff.mpr ⟨g1, fun x hx => ⟨(h2 x (by simp [hx])).1, g3 x hx _ (by simp)⟩⟩, rfl⟩
      · left
        refine allS_iff.mpr ⟨h1, fun x hx => ?_⟩
        have := h2 x hx
        have : x ≠ (k : Int) := fun e => hk (e ▸ hx)
        omega
theorem mem_sortI {s : List Int} {x : Int} : x ∈ sortI s ↔ x ∈ s := (List.mergeSort_perm ..).mem_iff
theorem mem_toggle {s : List Int} {x i : Int} : i ∈ toggle s x ↔ if i = x then x ∉ s else i ∈ s := by
  unfold toggle
  by_cases h : x ∈ s
  · rw [if_pos h]
    by_cases e : i = x
    · simp [e, h]
    · simp [e]
  · rw [if_neg h, mem_sortI]
    by_cases e : i = x
    · simp [e, h]
    · simp [e]
theorem toggle_in {k : Nat} {s : List Int} {x : Int} (h : s ∈ rows k) (hx : 0 ≤ x ∧ x < (k : Int)) : toggle s x ∈ rows k := by
  rw [mem_rows] at h ⊢
  obtain ⟨h1, h2⟩ := allS_iff.mp h
  refine allS_iff.mpr ⟨?_, fun i hi => ?_⟩
  · unfold toggle
    split
    · exact h1.filter _
    · rename_i hn
      have p1 : (sortI (s ++ [x])).Pairwise (fun a b => a ≤ b) := by
        have := List.pairwise_mergeSort (le := fun a b : Int => decide (a ≤ b)) (fun a b c => by simp; omega) (fun a b => by simp; omega) (s ++ [x])
        exact this.imp fun h => by simpa using h
      have p2 : (sortI (s ++ [x])).Pairwise (fun a b => a ≠ b) := by
        refine (List.mergeSort_perm (s ++ [x]) _).nodup_iff.mpr ?_
        refine List.nodup_append.mpr ⟨h1.imp fun h => by omega, by simp, fun a ha b hb => ?_⟩
        rw [List.mem_singleton.mp hb]
        intro e; exact hn (e ▸ ha)
      exact (p1.and p2).imp fun ⟨a, b⟩ => by omega
  · rw [mem_toggle] at hi
    split at hi
    · rename_i e; rw [e]; exact hx
    · exact h2 i hi
/-- a standing as a number -/
def mask (s : List Int) : Nat := s.foldl (fun a x => a ||| 2 ^ x.toNat) 0
theorem mask_bit' : ∀ (s : List Int) (a i : Nat), (∀ x ∈ s, 0 ≤ x) → (s.foldl (fun a x => a ||| 2 ^ x.toNat) a).testBit i = (a.testBit i || decide ((i : Int) ∈ s))
  | [], a, i, _ => by simp
  | x :: s, a, i, h => by
    have hx := h x (List.mem_cons_self ..)
    rw [List.foldl_cons, mask_bit' s _ i fun y hy => h y (List.mem_cons_of_mem _ hy), Nat.testBit_or, Nat.testBit_two_pow]
    have : decide (x.toNat = i) = decide ((i : Int) = x) := by
      apply decide_eq_decide.mpr; omega
    rw [this, Bool.or_assoc]
    simp [List.mem_cons]
theorem mask_bit {s : List Int} {i : Nat} (h : ∀ x ∈ s, 0 ≤ x) : (mask s).testBit i = decide ((i : Int) ∈ s) := by
  unfold mask
  rw [mask_bit' s 0 i h]; simp
theorem rows_nn {k : Nat} {s : List Int} (h : s ∈ rows k) : ∀ x ∈ s, 0 ≤ x := fun x hx => ((allS_iff.mp (mem_rows.mp h)).2 x hx).1
theorem mask_toggle {k : Nat} {s : List Int} {x : Int} (h : s ∈ rows k) (hx : 0 ≤ x ∧ x < (k : Int)) : mask (toggle s x) = mask s ^^^ 2 ^ x.toNat := by
  apply Nat.eq_of_testBit_eq
  intro i
  rw [mask_bit (rows_nn (toggle_in h hx)), Nat.testBit_xor, mask_bit (rows_nn h), Nat.testBit_two_pow]
  have e1 : decide (x.toNat = i) = decide ((i : Int) = x) := by
    apply decide_eq_decide.mpr; omega
  rw [e1]
  simp only [mem_toggle]
  by_cases e : (i : Int) = x
  · by_cases e2 : x ∈ s <;> simp [e, e2]
  · simp [e]
theorem mask_lt {k : Nat} {s : List Int} (h : s ∈ rows k) : mask s < 2 ^ k := by
  apply Nat.lt_pow_two_of_testBit
  intro i hi
  rw [mask_bit (rows_nn h)]
  have := (allS_iff.mp (mem_rows.mp h)).2 (i : Int)
  simp
  intro hm
  have := this hm
  omega
theorem play_in {k : Nat} {s : List Int} {w : Way} (h : s ∈ rows k) (hw : wayOk k w) : play s w ∈ rows k := by
  obtain ⟨h1, h2, _⟩ := hw
  exact toggle_in (toggle_in h (by omega)) (by omega)
theorem mask_play {k : Nat} {s : List Int} {w : Way} (h : s ∈ rows k) (hw : wayOk k w) : mask (play s w) = mask s ^^^ 2 ^ w.1.toNat ^^^ 2 ^ w.2.toNat := by
  obtain ⟨h1, h2, _⟩ := hw
  unfold play
  rw [mask_toggle (toggle_in h (by omega)) (by omega), mask_toggle h (by omega)]
/-! ### a certificate -/
def okAt (r : Option Nat) (l : List (Option Nat)) : Bool := match r with
  | none => l.all (fun o => match o with | some u => decide (u % 2 = 1) | none => true) && l.any (fun o => o.isNone)
  | some t => if t % 2 = 1 then l.any (fun o => decide (o = some (t - 1))) && l.all (fun o => match o with | some u => decide (u % 2 = 1) || decide (t - 1 ≤ u) | none => true)
    else l.all (fun o => match o with | some u => decide (u % 2 = 1) && decide (u < t) | none => false) && (decide (t = 0) || l.any fun o => decide (o = some (t - 1)))
def below (t : Nat) (o : Option Nat) : Option Nat := match o with
  | some m => if m < t then some m else none
  | none => none
theorem okAt_set {ws : List Way} {s : List Int} {R : List Int → Option Nat} {t : Nat} (ok : okAt (R s) ((foll ws s).map R) = true) (hle : ∀ m, R s = some m → t ≤ m) : settledAt ws (fun f => below t (R f)) t s = decide (R s = some t) := by
  unfold settledAt
  generalize foll ws s = l at ok ⊢
  generalize R s = r at ok hle ⊢
  by_cases ht : t % 2 = 1
  · rw [if_pos ht]
    have e : (l.any fun f => decide (below t (R f) = some (t - 1))) = true ↔ ∃ f ∈ l, R f = some (t - 1) := by
      simp only [List.any_eq_true, decide_eq_true_eq]
      refine exists_congr fun f => and_congr_right fun _ => ?_
      unfold below
      cases R f with
      | none => simp
      | some m =>
        simp only
        by_cases h : m < t
        · rw [if_pos h]
        · rw [if_neg h]
          simp
          omega
    rw [Bool.eq_iff_iff, e, decide_eq_true_eq]
    cases r with
    | none =>
      simp only [okAt, Bool.and_eq_true, List.all_eq_true, List.mem_map, forall_exists_index, and_imp, forall_apply_eq_imp_iff₂] at ok
      constructor
      · rintro ⟨f, hf, e⟩
        have := ok.1 f hf
        rw [e] at this
        simp at this
        omega
      · intro h; cases h
    | some u =>
      have hu := hle u rfl
      simp only [okAt] at ok
      by_cases hu2 : u % 2 = 1
      · rw [if_pos hu2] at ok
        simp only [Bool.and_eq_true, List.all_eq_true, List.any_eq_true, List.mem_map, forall_exists_index, and_imp, forall_apply_eq_imp_iff₂, decide_eq_true_eq] at ok
        obtain ⟨⟨_, ⟨f0, hf0, rfl⟩, h0⟩, h1⟩ := ok
        constructor
        · rintro ⟨f, hf, e⟩
          have := h1 f hf
          rw [e] at this
          simp at this
          congr 1
          omega
        · intro h; cases h
          exact ⟨f0, hf0, h0⟩
      · rw [if_neg hu2] at ok
        simp only [Bool.and_eq_true, List.all_eq_true, List.mem_map, forall_exists_index, and_imp, forall_apply_eq_imp_iff₂] at ok
        constructor
        · rintro ⟨f, hf, e⟩
          have := ok.1 f hf
          rw [e] at this
          simp at this
          omega
        · intro h; cases h
          omega
  · rw [if_neg ht]
    have e : (l.all fun f => match below t (R f) with | some m => decide (m % 2 = 1) | none => false) = true ↔ ∀ f ∈ l, ∃ m, R f = some m ∧ m < t ∧ m % 2 = 1 := by
      simp only [List.all_eq_true]
      refine forall_congr' fun f => imp_congr_right fun _ => ?_
      unfold below
      cases R f with
      | none => simp
      | some m =>
        by_cases h : m < t
        · simp [h]
        · simp [h]
    show (l.all fun f => match below t (R f) with | some m => decide (m % 2 = 1) | none => false) = decide (r = some t)
    rw [Bool.eq_iff_iff, e, decide_eq_true_eq]
    cases r with
    | none =>
      simp only [okAt, Bool.and_eq_true, List.any_eq_true, List.mem_map] at ok
      obtain ⟨_, _, ⟨f, hf, rfl⟩, h⟩ := ok
      constructor
      · intro k
        obtain ⟨m, e, _⟩ := k f hf
        rw [e] at h; simp at h
      · intro h; cases h
    | some u =>
      have hu := hle u rfl
      simp only [okAt] at ok
      by_cases hu2 : u % 2 = 1
      · rw [if_pos hu2] at ok
        simp only [Bool.and_eq_true, List.any_eq_true, List.mem_map, decide_eq_true_eq] at ok
        obtain ⟨⟨_, ⟨f0, hf0, rfl⟩, h0⟩, _⟩ := ok
        constructor
        · intro k
          obtain ⟨m, e, h1, h2⟩ := k f0 hf0
          rw [e] at h0
          cases h0
          omega
        · intro h; cases h
          omega
      · rw [if_neg hu2] at ok
        simp only [Bool.and_eq_true, Bool.or_eq_true, List.all_eq_true, List.any_eq_true, List.mem_map, forall_exists_index, and_imp, forall_apply_eq_imp_iff₂, decide_eq_true_eq] at ok
        obtain ⟨h1, h2⟩ := ok
        constructor
        · intro k
          rcases h2 with h2 | ⟨_, ⟨f0, hf0, rfl⟩, h0⟩
          · congr 1; omega
          · obtain ⟨m, e, g1, g2⟩ := k f0 hf0
            rw [e] at h0
            cases h0
            congr 1; omega
        · intro h; cases h
          intro f hf
          have := h1 f hf
          cases e : R f with
          | none => rw [e] at this; simp at this
          | some m =>
            rw [e] at this
            simp at this
            exact ⟨m, rfl, this.2, this.1⟩
section
variable {c : Nat} {ws : List Way} {R : List Int → Option Nat}
theorem Kf_is (ok : ∀ s ∈ rows c, okAt (R s) ((foll ws s).map R) = true) (cl : ∀ s ∈ rows c, ∀ f ∈ foll ws s, f ∈ rows c) : ∀ (t : Nat) (s : List Int), s ∈ rows c → Kf c ws t s = below t (R s)
  | 0, s, hs => by
    unfold below
    cases R s <;> simp [Kf]
  | t + 1, s, hs => by
    have ih := Kf_is ok cl t
    have hset : settledAt ws (Kf c ws t) t s = settledAt ws (fun f => below t (R f)) t s := by
      unfold settledAt
      have : ∀ f ∈ foll ws s, Kf c ws t f = below t (R f) := fun f hf => ih f (cl s hs f hf)
      split
      · rw [Bool.eq_iff_iff]
        simp only [List.any_eq_true]
        exact exists_congr fun f => and_congr_right fun hf => by rw [this f hf]
      · rw [Bool.eq_iff_iff]
        simp only [List.all_eq_true]
        exact forall_congr' fun f => imp_congr_right fun hf => by rw [this f hf]
    simp only [Kf]
    rw [ih s hs]
    by_cases hb : ∃ m, R s = some m ∧ m < t
    · obtain ⟨m, e, hm⟩ := hb
      simp [e, below, hm, Nat.lt_succ_of_lt hm]
    · have hle : ∀ m, R s = some m → t ≤ m := fun m e => Nat.le_of_not_lt fun h => hb ⟨m, e, h⟩
      have hset2 := okAt_set (ok s hs) hle
      rw [hset, hset2]
      cases e : R s with
      | none => simp [below]
      | some m =>
        have h1 := hle m e
        have h2 : ¬ m < t := by omega
        simp only [below, h2, if_false, hs, true_and]
        by_cases h3 : m = t
        · simp [h3]
        · have : ¬ m < t + 1 := by omega
          simp [h3, this]
theorem Done_is (ok : ∀ s ∈ rows c, okAt (R s) ((foll ws s).map R) = true) (cl : ∀ s ∈ rows c, ∀ f ∈ foll ws s, f ∈ rows c) {t : Nat} (hb : ∀ s ∈ rows c, ∀ m, R s = some m → m < t) : Done c ws t ∧ ∀ s ∈ rows c, Kf c ws t s = R s := by
  have k : ∀ s ∈ rows c, Kf c ws t s = R s := fun s hs => by
    rw [Kf_is ok cl t s hs]
    unfold below
    cases e : R s with
    | none => rfl
    | some m => simp [hb s hs m e]
  refine ⟨fun s hs hn => ?_, k⟩
  have hR : R s = none := (k s hs).symm.trans hn
  have := okAt_set (t := t) (ok s hs) (fun m e => by rw [hR] at e; cases e)
  have e2 : settledAt ws (Kf c ws t) t s = settledAt ws (fun f => below t (R f)) t s := by
    unfold settledAt
    have : ∀ f ∈ foll ws s, Kf c ws t f = below t (R f) := fun f hf => Kf_is ok cl t f (cl s hs f hf)
    split
    · rw [Bool.eq_iff_iff]
      simp only [List.any_eq_true]
      exact exists_congr fun f => and_congr_right fun hf => by rw [this f hf]
    · rw [Bool.eq_iff_iff]
      simp only [List.all_eq_true]
      exact forall_congr' fun f => imp_congr_right fun hf => by rw [this f hf]
  rw [e2, this, hR]
  simp
end
/-- the table in a number -/
def tabR (T μ : Nat) : Option Nat := match (T >>> (8 * μ)) % 256 with
  | 0 => none
  | v + 1 => some v
def tabOk (T c : Nat) (ws : List Way) : Bool := (List.range (2 ^ c)).all fun μ => okAt (tabR T μ) ((ws.filter fun w => μ.testBit w.1.toNat).map fun w => tabR T (μ ^^^ 2 ^ w.1.toNat ^^^ 2 ^ w.2.toNat))
theorem tab_ok {T c : Nat} {ws : List Way} (hw : ∀ w ∈ ws, wayOk c w) (h : tabOk T c ws = true) : ∀ s ∈ rows c, okAt (tabR T (mask s)) ((foll ws s).map fun f => tabR T (mask f)) = true := fun s hs => by
  have := List.all_eq_true.mp h (mask s) (List.mem_range.mpr (mask_lt hs))
  rw [show ((foll ws s).map fun f => tabR T (mask f)) = ((ws.filter fun w => (mask s).testBit w.1.toNat).map fun w => tabR T (mask s ^^^ 2 ^ w.1.toNat ^^^ 2 ^ w.2.toNat)) from ?_]
  · exact this
  · unfold foll from_
    rw [List.map_map]
    have e : (ws.filter fun w => decide (w.1 ∈ s)) = ws.filter fun w => (mask s).testBit w.1.toNat := by
      apply List.filter_congr
      intro w hwm
      rw [mask_bit (rows_nn hs)]
      have := (hw w hwm).1
      rw [Int.toNat_of_nonneg this.1]
    rw [e]
    apply List.map_congr_left
    intro w hwm
    simp only [Function.comp]
    rw [mask_play hs (hw w (List.mem_filter.mp hwm).1)]
theorem foll_in {c : Nat} {ws : List Way} (hw : ∀ w ∈ ws, wayOk c w) : ∀ s ∈ rows c, ∀ f ∈ foll ws s, f ∈ rows c := fun s hs f hf => by
  obtain ⟨w, hm, rfl⟩ := List.mem_map.mp hf
  exact play_in hs (hw w (List.mem_filter.mp hm).1)
end Mn
end

section
set_option Elab.async false
set_option linter.all false
set_option maxRecDepth 100000
set_option maxHeartbeats 2000000
/-! Plain: k84's six tables. -/
namespace Mn.L84
open PySem
def tab06 : Nat := 0x4040707060606060606060605050202040404040404020204040202020202020404040404040202040402020202020203030202020202020202020202020101
def tab07 : Nat := 0x8080808060608080606080806060606040408080a0a09090909080806060202040408080909080808080707060602020404040404040202040402020202020204040707060606060606060605050202040404040404020204040202020202020404040404040202040402020202020203030202020202020202020202020101
def tab16 : Nat := 0x2000000000000000000000000000002000000000000000002000000000000000000000002000000000002000002000001
def tab17 : Nat := 0x2000000000000000000000000000000000000000000000000000000000000020000000000000000000000000000000002000000000000000000000000000000000000000000000002000000000000000000000002000000000002000002000001
def tab26 : Nat := 0x2000000000000000000000000000000000000000000000002000000000000000000000002000000000002000002000001
def tab27 : Nat := 0x2000000000000000000000000000000000000000000000000000000000000000000000000000000000000000000000002000000000000000000000000000000000000000000000002000000000000000000000002000000000002000002000001
def codeK (o : Option Nat) : Nat := match o with
  | none => 2
  | some m => if m % 2 = 0 then 0 else 1
def codeE (way : Int) (m : Nat) (s : List Int) : Nat :=
  if way = 0 then (if total s = 0 then 0 else 1)
  else if s = [] then 0 else if near way m s = true then 1 else 2
def codeS (n : Nat) : String := match n with
  | 0 => "lost"
  | 1 => "won"
  | _ => "drawn"
theorem word_code (K : List Int → Option Nat) (s : List Int) : wordK K s = codeS (codeK (K s)) := by
  unfold wordK codeK
  cases K s with
  | none => rfl
  | some m => by_cases h : m % 2 = 0 <;> simp [h, codeS]
theorem expect_code (way : Int) (m : Nat) (s : List Int) : expect way m s = codeS (codeE way m s) := by
  unfold expect codeE
  by_cases w0 : way = 0
  · by_cases h : total s = 0 <;> simp [w0, h, codeS]
  · by_cases s0 : s = []
    · simp [w0, s0, codeS]
    · rw [if_neg w0, if_neg w0, if_neg s0, if_neg s0]
      match s, s0 with
      | [a], _ => simp [near, codeS]
      | [a, b], _ =>
        by_cases w1 : way = 1
        · by_cases h : b - a = 1 ∨ b - a = (m : Int) - 1 <;> simp [near, w1, h, codeS]
        · by_cases h : b - a = 1 <;> simp [near, w1, h, codeS]
      | a :: b :: c' :: r, _ => simp [near, codeS]
def wayOkB (c : Int) (w : Way) : Bool := decide (0 ≤ w.1) && decide (w.1 ≤ c - 1) && decide (0 ≤ w.2) && decide (w.2 ≤ c - 1) && decide (w.1 ≠ w.2)
def wayLtB (u v : Way) : Bool := decide (u.1 < v.1) || (decide (u.1 = v.1) && decide (u.2 < v.2))
def ascB : List Way → Bool
  | [] => true
  | w :: ws => ws.all (wayLtB w) && ascB ws
theorem ascB_ok : ∀ {ws : List Way}, ascB ws = true → ws.Pairwise wayLt
  | [], _ => .nil
  | w :: ws, h => by
    simp only [ascB, Bool.and_eq_true, List.all_eq_true] at h
    refine .cons (fun v hv => ?_) (ascB_ok h.2)
    have := h.1 v hv
    simpa [wayLtB, wayLt] using this
def goodB (T : Nat) (way : Int) (m : Nat) : Bool :=
  (great way m).all (wayOkB m) && ascB (great way m) && tabOk T m (great way m) && ((allS m).all fun s => match tabR T (mask s) with | some v => decide (v < 40) | none => true) && ((allS m).all fun s => decide (codeK (tabR T (mask s)) = codeE way m s))
theorem wayOkB_ok {c : Int} {w : Way} (h : wayOkB c w = true) : wayOk c w := by
  simp only [wayOkB, Bool.and_eq_true, decide_eq_true_eq] at h
  exact ⟨⟨h.1.1.1.1, h.1.1.1.2⟩, ⟨h.1.1.2, h.1.2⟩, h.2⟩
structure Good (way : Int) (m : Nat) : Prop where
  ok : WebOk m (great way m)
  done : Done m (great way m) (2 * 20)
  say : ∀ s ∈ rows m, wordK (Kf m (great way m) (2 * 20)) s = expect way m s
theorem good_of {T : Nat} {way : Int} {m : Nat} (h1 : 1 ≤ m) (h8 : m ≤ 8) (hl : (great way m).length < 1000) (h : goodB T way m = true) : Good way m := by
  simp only [goodB, Bool.and_eq_true, List.all_eq_true] at h
  obtain ⟨⟨⟨⟨a1, a2⟩, a3⟩, a4⟩, a5⟩ := h
  have hw : ∀ w ∈ great way m, wayOk m w := fun w hwm => wayOkB_ok (a1 w hwm)
  obtain ⟨d, k⟩ := Done_is (t := 2 * 20) (tab_ok hw a3) (foll_in hw) (fun s hs v e => by
    have := a4 s (mem_rows.mp hs)
    rw [e] at this
    have : v < 40 := by simpa using this
    omega)
  refine ⟨⟨by omega, by omega, hw, ascB_ok a2, hl⟩, d, fun s hs => ?_⟩
  rw [word_code, k s hs, expect_code]
  have := a5 s (mem_rows.mp hs)
  rw [decide_eq_true_eq] at this
  rw [this]
theorem good06 : Good 0 6 := good_of (T := tab06) (by decide) (by decide) (by decide +kernel) (by decide +kernel)
theorem good07 : Good 0 7 := good_of (T := tab07) (by decide) (by decide) (by decide +kernel) (by decide +kernel)
theorem good16 : Good 1 6 := good_of (T := tab16) (by decide) (by decide) (by decide +kernel) (by decide +kernel)
theorem good17 : Good 1 7 := good_of (T := tab17) (by decide) (by decide) (by decide +kernel) (by decide +kernel)
theorem good26 : Good 2 6 := good_of (T := tab26) (by decide) (by decide) (by decide +kernel) (by decide +kernel)
theorem good27 : Good 2 7 := good_of (T := tab27) (by decide) (by decide) (by decide +kernel) (by decide +kernel)
theorem good_all {way r : Int} (hw : 0 ≤ way ∧ way < 3) (hr : 0 ≤ r ∧ r < 2) : ∃ m : Nat, 6 + r = (m : Int) ∧ (m = 6 ∨ m = 7) ∧ Good way m := by
  have c1 : way = 0 ∨ way = 1 ∨ way = 2 := by omega
  have c2 : r = 0 ∨ r = 1 := by omega
  rcases c2 with rfl | rfl
  · refine ⟨6, rfl, Or.inl rfl, ?_⟩
    rcases c1 with rfl | rfl | rfl
    · exact good06
    · exact good16
    · exact good26
  · refine ⟨7, rfl, Or.inr rfl, ?_⟩
    rcases c1 with rfl | rfl | rfl
    · exact good07
    · exact good17
    · exact good27
end Mn.L84
end

section
set_option Elab.async false
set_option linter.all false
set_option maxRecDepth 100000
set_option maxHeartbeats 2000000
/-! Plain: the turns of a law's game. -/
namespace Mn.L84
open PySem
/-- a store in the middle of a law's game -/
structure SI (b0 : Store) (ch g w sv m : Nat) (ws : List Way) (kn wt : List (List Int × Nat)) (i : Nat) (s : List Int) (st : Store) : Prop where
  past : ∃ past : List (List Int), past.length ≤ i ∧ st[g]? = some (gmO w sv s past)
  gm : GmAt st w g w sv m ws kn wt
  chest : ∃ a b c : Int, st[ch]? = some (.lst false [.int a, .int b, .int c])
  inr : s ∈ rows m
  keep : ∀ j, j < ch → st[j]? = b0[j]?
  lt : ch < w
section
variable {b0 : Store} {ch g w sv m i : Nat} {ws : List Way} {kn wt : List (List Int × Nat)} {s : List Int} {st : Store}
theorem SI.len (h : SI b0 ch g w sv m ws kn wt i s st) : s.length ≤ 8 := by
  have := rows_short h.inr
  have := h.gm.c8
  omega
theorem SI.lts (h : SI b0 ch g w sv m ws kn wt i s st) : w < g ∧ g < sv ∧ g < st.length := by
  obtain ⟨past, _, hg⟩ := h.past
  exact ⟨h.gm.wg, h.gm.gs, (List.getElem?_eq_some_iff.mp hg).1⟩
theorem SI.app (h : SI b0 ch g w sv m ws kn wt i s st) (ext : Store) : SI b0 ch g w sv m ws kn wt i s (st ++ ext) := by
  have k : ∀ {j : Nat} {o : AO}, st[j]? = some o → (st ++ ext)[j]? = some o := fun {j o} e => by
    rw [List.getElem?_append_left (List.getElem?_eq_some_iff.mp e).1]; exact e
  obtain ⟨past, hp, hg⟩ := h.past
  obtain ⟨a, b, c, hc⟩ := h.chest
  obtain ⟨l1, l2, l3⟩ := h.lts
  have l4 := h.lt
  exact ⟨⟨past, hp, k hg⟩, h.gm.keep fun _ _ _ _ e => k e, ⟨a, b, c, k hc⟩, h.inr, fun j hj => by rw [List.getElem?_append_left (by omega)]; exact h.keep j hj, h.lt⟩
theorem SI.scoop (h : SI b0 ch g w sv m ws kn wt i s st) (a b c : Int) : SI b0 ch g w sv m ws kn wt i s (st.set ch (.lst false [.int a, .int b, .int c])) := by
  obtain ⟨past, hp, hg⟩ := h.past
  obtain ⟨l1, l2, l3⟩ := h.lts
  have l4 := h.lt
  refine ⟨⟨past, hp, by rw [List.getElem?_set_ne (by omega)]; exact hg⟩, h.gm.keep fun j _ hj _ e => by rw [List.getElem?_set_ne (by omega)]; exact e, ⟨a, b, c, List.getElem?_set_self (by omega)⟩, h.inr, fun j hj => by rw [List.getElem?_set_ne (by omega)]; exact h.keep j hj, h.lt⟩
theorem SI.game (h : SI b0 ch g w sv m ws kn wt i s st) {s' : List Int} {past : List (List Int)} (hp : past.length ≤ i) (h' : s' ∈ rows m) : SI b0 ch g w sv m ws kn wt (i + 1) s' (st.set g (gmO w sv s' (past ++ [s]))) := by
  obtain ⟨a, b, c, hc⟩ := h.chest
  obtain ⟨l1, l2, l3⟩ := h.lts
  have l4 := h.lt
  refine ⟨⟨past ++ [s], by simp; omega, List.getElem?_set_self l3⟩, h.gm.keep fun j _ _ hj e => by rw [List.getElem?_set_ne (by omega)]; exact e, ⟨a, b, c, by rw [List.getElem?_set_ne (by omega)]; exact hc⟩, h', fun j hj => by rw [List.getElem?_set_ne (by omega)]; exact h.keep j hj, h.lt⟩
theorem SI.more (h : SI b0 ch g w sv m ws kn wt i s st) {k : Nat} (hk : i ≤ k) : SI b0 ch g w sv m ws kn wt k s st := by
  obtain ⟨past, hp, hg⟩ := h.past
  exact ⟨⟨past, by omega, hg⟩, h.gm, h.chest, h.inr, h.keep, h.lt⟩
variable {p : PTab} {fuel n : Nat} {F : Fn → Option MDef}
theorem si_scoop (H : HasL F) (h : SI b0 ch g w sv m ws kn wt i s st) {many : Int} (h0 : 0 < many) (h1 : many < 1000) : ∃ r st', 0 ≤ r ∧ r < many ∧ callN p fuel F (n + 1) ("_law_scoop", none) [.loc ch, .int many] st = .ok (.d (.int r)) st' ∧ SI b0 ch g w sv m ws kn wt i s st' ∧ ∀ j, j ≠ ch → st'[j]? = st[j]? := by
  obtain ⟨a, b, c, hc⟩ := h.chest
  obtain ⟨r, a', b', c', r0, r1, e⟩ := c_scoop (p := p) (fuel := fuel) (n := n) H.toHasD hc h0 (by omega)
  exact ⟨r, _, r0, r1, e, h.scoop a' b' c', fun j hj => by rw [List.getElem?_set_ne (by omega)]⟩
theorem si_put (G : HasG p F) (h : SI b0 ch g w sv m ws kn wt i s st) (hi : i < 60) {x : Int} (hx : 0 ≤ x ∧ x < m) : ∃ st', callN p fuel F (n + 4) ("Game", some "put") [.loc g, .int x] st = .ok (.d (.int (toggle s x).length)) st' ∧ SI b0 ch g w sv m ws kn wt (i + 1) (toggle s x) st' := by
  obtain ⟨past, hp, hg⟩ := h.past
  have hl := h.len
  exact ⟨_, c_put (p := p) (fuel := fuel) (n := n) G h.gm hg (by omega) (by omega) (by omega), h.game hp (toggle_in h.inr hx)⟩
theorem si_move (G : HasG p F) (h : SI b0 ch g w sv m ws kn wt i s st) (hi : i < 60) {v : Way} (hv : v ∈ from_ ws s) : ∃ st', callN p fuel F (n + 5) ("Game", some "move") [.loc g, wD v] st = .ok (.d (.str (Str.ofString (wordK (lkS kn) (play s v))))) st' ∧ SI b0 ch g w sv m ws kn wt (i + 1) (play s v) st' := by
  obtain ⟨past, hp, hg⟩ := h.past
  have hl := h.len
  have hw := h.gm.ok.ok v (List.mem_filter.mp hv).1
  exact ⟨_, c_move (p := p) (fuel := fuel) (n := n) G h.gm hg (by omega) (by omega) hv, h.game hp (play_in h.inr hw)⟩
theorem si_outcome (G : HasG p F) (h : SI b0 ch g w sv m ws kn wt i s st) {env : Env} {k : Nat} (hk : env[k]? = some (some (.loc g))) : evE p (callN p fuel F (n + 2)) (.fld (.var k) "outcome") env st = .ok (.d (.str (Str.ofString (wordK (lkS kn) s)))) st := by
  obtain ⟨past, hp, hg⟩ := h.past
  exact e_outcome G h.gm hg hk
theorem si_standing (G : HasG p F) {C : Calls} (h : SI b0 ch g w sv m ws kn wt i s st) {env : Env} {k : Nat} (hk : env[k]? = some (some (.loc g))) : evE p C (.fld (.var k) "standing") env st = .ok (.d (tI s)) st := by
  obtain ⟨past, hp, hg⟩ := h.past
  simp only [evE, hk, froz_d, Res.bind_okP, hg, gmO, G.gp3, G.gf3]
  simp [List.lookup]
theorem si_known (H : HasL F) (G : HasG p F) {way : Int} (h : SI b0 ch g w sv m (great way m) kn wt i s st) (go : Good way m) : callN p fuel F (n + 3) ("_law_known_right", none) [.int way, .loc g, .int m] st = .ok (.d (.bl true)) st := by
  obtain ⟨past, hp, hg⟩ := h.past
  have hl := h.len
  rw [c_known H G h.gm hg way (by omega)]
  obtain ⟨k, hS, hD⟩ := h.gm.inv
  have e1 : wordK (lkS kn) s = wordK (Kf m (great way m) (2 * 20)) s := by
    unfold wordK
    rw [hS.kn_ s, hD.same go.done]
  rw [e1, go.say s h.inr]
  simp
theorem ne_loc {j : Nat} {lk : Bool} {xs ys : List D} (h : st[j]? = some (.lst lk xs)) : cmpD st .ne (.loc j) (.lst ys) = cmpD st .ne (.lst xs) (.lst ys) := by
  show (eqD st (.loc j) (.lst ys)).map not = (eqD st (.lst xs) (.lst ys)).map not
  unfold eqD
  have : pdS st (.loc j) = pdS st (.lst xs) := by
    simp only [pdS, h, pd]
  rw [this]
theorem si_meth (G : HasG p F) {C : Calls} (h : SI b0 ch g w sv m ws kn wt i s st) {env : Env} {k : Nat} (hk : env[k]? = some (some (.loc g))) {f : Str} (hf : p.isM "Game" f = true) (hn : ∀ a b c d e : D, (List.lookup f [(("web" : Str), a), ("survey", b), ("standing", c), ("past", d), ("busy", e)]).isNone = true) (es : Es) : evE p C (.meth (.var k) f es) env st = (evEs p C es env st).bind fun ds st => C ("Game", some f) (.loc g :: ds) st := by
  obtain ⟨past, hp, hg⟩ := h.past
  simp only [evE, hk, froz_d, Res.bind_okP, hg, gmO]
  rw [if_pos]
  exact ⟨hn _ _ _ _ _, hf⟩
/-- the line that the law builds -/
theorem line_eq {C : Calls} {env : Env} (hm : m < 10) (hs : s.length < 10) (h2 : env[2]? = some (some (.int m))) (h4 : evE p C (.fld (.var 4) "standing") env st = .ok (.d (tI s)) st) :
    evE p C (.bin .add (.bin .add (.bin .add (.bin .add (.cst (.str "Game(")) (.bif .str (.cons false (.var 2) .nil))) (.cst (.str " places, "))) (.bif .str (.cons false (.bif .len (.cons false (.fld (.var 4) "standing") .nil)) .nil))) (.cst (.str " tokens)"))) env st = .ok (.d (.str (gmText m s))) st := by
  have l1 : (Str.ofString "Game(").length = 5 := by decide +kernel
  have l2 : (Str.ofString " places, ").length = 9 := by decide +kernel
  have l3 : (Str.ofString " tokens)").length = 8 := by decide +kernel
  have k1 := small_len hm
  have k2 := small_len hs
  have f1 : ∀ k : Nat, k < 10 → bifR p C .str [.int k] st = .ok (.d (.str (Str.ofString (toString (k : Int))))) st := fun k hk => by
    rw [bif_d rfl]
    have hb : ((k : Nat) : Int).natAbs < 2 ^ 1900 := by
      rw [Int.natAbs_natCast]
      exact Nat.lt_of_lt_of_le hk (Nat.le_trans (by decide : 10 ≤ 2 ^ 4) (Nat.pow_le_pow_right (by decide) (by decide)))
    show Res.ofOpt (strD [.int k]) st = _
    rw [show strD [.int k] = some (.d (.str (Str.ofString (toString (k : Int))))) from if_pos hb]
    rfl
  have ap : ∀ x y : Str, x.length + y.length ≤ 100 → binD st .add (.str x) (.str y) = some (.d (.str (x ++ y))) := fun x y h => by
    simp only [binD]
    rw [if_pos ⟨trivial, by unfold lim; omega⟩]
  have f2 := f1 m hm
  have f3 := f1 s.length hs
  have a1 := ap (Str.ofString "Game(") (Str.ofString (toString (m : Int))) (by omega)
  have a2 := ap (Str.ofString "Game(" ++ Str.ofString (toString (m : Int))) (Str.ofString " places, ") (by rw [str_len_app]; omega)
  have a3 := ap (Str.ofString "Game(" ++ Str.ofString (toString (m : Int)) ++ Str.ofString " places, ") (Str.ofString (toString (s.length : Int))) (by rw [str_len_app, str_len_app]; omega)
  have a4 := ap (Str.ofString "Game(" ++ Str.ofString (toString (m : Int)) ++ Str.ofString " places, " ++ Str.ofString (toString (s.length : Int))) (Str.ofString " tokens)") (by rw [str_len_app, str_len_app, str_len_app]; omega)
  have e1 : evE p C (.bif .str (.cons false (.var 2) .nil)) env st = .ok (.d (.str (Str.ofString (toString (m : Int))))) st := by
    simp only [evE, evEs, h2, froz_d, Res.bind_okP, Bool.false_eq_true, if_false]
    exact f2
  have e3 : evE p C (.bif .len (.cons false (.fld (.var 4) "standing") .nil)) env st = .ok (.d (.int s.length)) st := by
    simp [evE, evEs] at h4 ⊢
    simp [h4]
  have e2 : evE p C (.bif .str (.cons false (.bif .len (.cons false (.fld (.var 4) "standing") .nil)) .nil)) env st = .ok (.d (.str (Str.ofString (toString (s.length : Int))))) st := by
    rw [show evE p C (.bif .str (.cons false (.bif .len (.cons false (.fld (.var 4) "standing") .nil)) .nil)) env st = (evEs p C (.cons false (.bif .len (.cons false (.fld (.var 4) "standing") .nil)) .nil) env st).bind fun ds st => bifR p C .str ds st by simp only [evE]]
    simp only [evEs, e3, froz_d, Res.bind_okP, Bool.false_eq_true, if_false]
    exact f3
  have eb : ∀ (a b : E) (x y : D) (z : RV), evE p C a env st = .ok (.d x) st → evE p C b env st = .ok (.d y) st → binD st .add x y = some z → evE p C (.bin .add a b) env st = .ok z st := fun a b x y z h1 h2 h3 => by
    simp only [evE, h1, h2, froz_d, Res.bind_okP, h3]
    rfl
  have ec : ∀ x : String, evE p C (.cst (.str (Str.ofString x))) env st = .ok (.d (.str (Str.ofString x))) st := fun x => by simp only [evE]
  have s1 := eb _ _ _ _ _ (ec "Game(") e1 a1
  have s2 := eb _ _ _ _ _ s1 (ec " places, ") a2
  have s3 := eb _ _ _ _ _ s2 e2 a3
  exact eb _ _ _ _ _ s3 (ec " tokens)") a4
end
end Mn.L84
end

section
set_option Elab.async false
set_option linter.all false
set_option maxRecDepth 100000
set_option maxHeartbeats 2000000
/-! Plain: one turn of a law's game. -/
namespace Mn.L84
open PySem
abbrev eR (ch : Nat) (way : Int) (m : Nat) (ws : List Way) (g : Nat) (x5 x6 x7 x8 x9 x10 x11 : Option D) : Env := [some (.loc ch), some (.int way), some (.int m), some (wsD ws), some (.loc g), x5, x6, x7, x8, x9, x10, x11]
section
variable {b0 : Store} {ch g w sv m i : Nat} {ws : List Way} {kn wt : List (List Int × Nat)} {s : List Int} {st : Store} {p : PTab} {fuel n : Nat} {F : Fn → Option MDef} {way : Int} {x5 x6 x7 x8 x9 x10 x11 : Option D}
theorem b1 (G : HasG p F) {C : Calls} (h : SI b0 ch g w sv m ws kn wt i s st) :
    evS p C fuel (.asg 7 true (.lc (.var 11) (.name 11) (.val (.var 3)) (.val (.cmp .inn (.ix (.var 11) (.cst (.int (0)))) (.fld (.var 4) "standing"))))) (eR ch way m ws g x5 x6 x7 x8 x9 x10 x11) st = .nx (eR ch way m ws g x5 x6 (some (.loc st.length)) x8 x9 x10 x11) (st ++ [.lst false ((from_ ws s).map wD)]) := by
  have hl : ws.length ≤ lim := by have := h.gm.ok.len; unfold lim; omega
  simp [evS, evE, evT, evI, tgs, wipeE, hl]
  rw [lc_ways (h := fun w => if decide (w.1 ∈ s) = true then some (wD w) else none) (fun v _ => by
    have hst := si_standing (p := p) G (C := C) h (env := [some (.loc ch), some (.int way), some (.int m), some (wsD ws), some (.loc g), x5, x6, x7, x8, x9, x10, some (wD v)]) (k := 4) rfl
    simp only [evE, List.getElem?_cons_succ, List.getElem?_cons_zero] at hst
    simp [bindTg]
    simp at hst
    simp [hst]
    by_cases e : v.1 ∈ s <;> simp [e]), fm_if (fun w : Way => decide (w.1 ∈ s)) wD]
  simp [from_]
section
variable {C : Calls} {env env1 : Env} {st1 st2 st3 : Store} {a b : E} {x y : D} {o : Cop} {bb : Bool} {es : Es} {ds : List D} {f : Str} {r : Res RV} {hh : Bool}
theorem r_var {k : Nat} (h : env[k]? = some (some x)) : evE p C (.var k) env st = .ok (.d x) st := by simp only [evE, h]
theorem r_cmp (h1 : evE p C a env st = .ok (.d x) st1) (h2 : evE p C b env st1 = .ok (.d y) st2) (h3 : cmpD st2 o x y = some bb) : evE p C (.cmp o a b) env st = .ok (.d (.bl bb)) st2 := by
  simp only [evE, h1, h2, froz_d, Res.bind_okP, h3]; rfl
theorem r_call (h1 : evEs p C es env st = .ok ds st1) (h2 : C (f, none) ds st1 = r) : evE p C (.call f es) env st = r := by simp only [evE, h1, Res.bind_okP, h2]
theorem es0 : evEs p C .nil env st = .ok [] st := by simp only [evEs]
theorem es_c (h1 : evE p C a env st = .ok (.d x) st1) (h2 : evEs p C es env st1 = .ok ds st2) : evEs p C (.cons hh a es) env st = .ok (x :: ds) st2 := by
  cases hh <;> simp [evEs, h1, h2]
theorem t_val (h : evE p C a env st = .ok (.d (.bl bb)) st1) : evT p C (.val a) env st = .ok bb st1 := by simp only [evT, h]; rfl
theorem t_not {t : Mn.T} (h : evT p C t env st = .ok bb st1) : evT p C (.not t) env st = .ok (!bb) st1 := by simp only [evT, h]; rfl
theorem t_andF {t u : Mn.T} (h : evT p C t env st = .ok false st1) : evT p C (.and t u) env st = .ok false st1 := by simp only [evT, h]; rfl
theorem t_andT {t u : Mn.T} (h : evT p C t env st = .ok true st1) : evT p C (.and t u) env st = evT p C u env st1 := by simp only [evT, h]; rfl
theorem s_ifT {t : Mn.T} {u v : Ss} (h : evT p C t env st = .ok true st1) : evS p C fuel (.ifs t u v) env st = evSs p C fuel u env st1 := by simp only [evS, h]; rfl
theorem s_ifF {t : Mn.T} {u v : Ss} (h : evT p C t env st = .ok false st1) : evS p C fuel (.ifs t u v) env st = evSs p C fuel v env st1 := by simp only [evS, h]; rfl
theorem s_asg {k : Nat} (h : evE p C a env st = .ok (.d x) st1) : evS p C fuel (.asg k hh a) env st = .nx (env.set k (some x)) st1 := by cases hh <;> simp [evS, h]
theorem ss_nx {t : Mn.S} {u : Ss} (h : evS p C fuel t env st = .nx env1 st1) : evSs p C fuel (.cons t u) env st = evSs p C fuel u env1 st1 := by simp only [evSs, h]; rfl
theorem ss_nl : evSs p C fuel .nil env st = .nx env st := by simp only [evSs]
theorem ss_one {t : Mn.S} : evSs p C fuel (.cons t .nil) env st = evS p C fuel t env st := by
  simp only [evSs]
  cases evS p C fuel t env st <;> rfl
theorem s_ex (h : evE p C a env st = .ok (.d x) st1) : evS p C fuel (.ex a) env st = .nx env st1 := by simp only [evS, h, froz_d, toS_ok]
theorem e_cst {x : Str} : evE p C (.cst (.str x)) env st = .ok (.d (.str x)) st := by simp only [evE]
theorem e_int {x : Int} : evE p C (.cst (.int x)) env st = .ok (.d (.int x)) st := by simp only [evE]
end
theorem sims_w (l : List Way) : D.sims 60 (l.map wD) = true := sims_ways l
/-- the move of a turn -/
theorem b2A (H : HasL F) (G : HasG p F) (h : SI b0 ch g w sv m ws kn wt i s st) (hi : i < 60) {L : Nat} (hL : st[L]? = some (.lst false ((from_ ws s).map wD))) (hne : L ≠ ch) (hf : from_ ws s ≠ []) (hlen : ws.length < 1000) :
    ∃ st' s', evSs p (callN p fuel F (n + 5)) fuel (.cons (.ifs (.val (.cmp .ne (.meth (.var 4) "move" (.cons true (.call "_law_some" (.cons true (.var 0) (.cons true (.var 7) .nil))) .nil)) (.fld (.var 4) "outcome"))) (.cons (.ret (.cst (.bl false))) .nil) .nil) .nil) (eR ch way m ws g x5 x6 (some (.loc L)) x8 x9 x10 x11) st = .nx (eR ch way m ws g x5 x6 (some (.loc L)) x8 x9 x10 x11) st' ∧ SI b0 ch g w sv m ws kn wt (i + 1) s' st' := by
  obtain ⟨a, b, c, hc⟩ := h.chest
  have hfl : ((from_ ws s).map wD).length < 1000 := by
    rw [List.length_map]
    exact Nat.lt_of_le_of_lt (List.length_filter_le ..) hlen
  obtain ⟨x, a', b', c', hx, e1⟩ := c_some (p := p) (fuel := fuel) (n := n + 3) H.toHasD hc hL hne (by rw [List.length_map]; exact List.length_pos_iff.mpr hf) (by omega)
  obtain ⟨v, hv, rfl⟩ := List.mem_map.mp hx
  have h2 := h.scoop a' b' c'
  obtain ⟨st3, e2, h3⟩ := si_move (p := p) (fuel := fuel) (n := n) G h2 hi hv
  refine ⟨st3, play s v, ?_, h3⟩
  have q1 : evE p (callN p fuel F (n + 5)) (.meth (.var 4) "move" (.cons true (.call "_law_some" (.cons true (.var 0) (.cons true (.var 7) .nil))) .nil)) (eR ch way m ws g x5 x6 (some (.loc L)) x8 x9 x10 x11) st = .ok (.d (.str (Str.ofString (wordK (lkS kn) (play s v))))) st3 := by
    rw [si_meth G h rfl G.gm6 (fun _ _ _ _ _ => rfl), es_c (r_call (es_c (r_var rfl) (es_c (r_var rfl) es0)) e1) es0, Res.bind_okP, e2]
  have q2 := si_outcome (p := p) (fuel := fuel) (n := n + 3) G h3 (env := eR ch way m ws g x5 x6 (some (.loc L)) x8 x9 x10 x11) (k := 4) rfl
  rw [ss_nx (s_ifF (t_val (r_cmp q1 q2 (by rw [ne_sim (sim_word ..) (sim_word ..)]; simp))) |>.trans ss_nl)]
  exact ss_nl
/-- the put of a turn -/
theorem b2B (H : HasL F) (G : HasG p F) (h : SI b0 ch g w sv m ws kn wt i s st) (hi : i < 60) :
    ∃ st' s' y5 y8, evSs p (callN p fuel F (n + 5)) fuel (.cons (.asg 8 true (.call "_law_scoop" (.cons true (.var 0) (.cons true (.var 2) .nil)))) (.cons (.asg 5 true (.meth (.var 4) "put" (.cons true (.var 8) .nil))) (.cons (.ifs (.val (.cmp .ne (.var 5) (.bif .len (.cons false (.fld (.var 4) "standing") .nil)))) (.cons (.ret (.cst (.bl false))) .nil) .nil) .nil))) (eR ch way m ws g x5 x6 x7 x8 x9 x10 x11) st = .nx (eR ch way m ws g y5 x6 x7 y8 x9 x10 x11) st' ∧ SI b0 ch g w sv m ws kn wt (i + 1) s' st' := by
  have hm := h.gm.ok.c1
  have h8 := h.gm.c8
  obtain ⟨r, st1, r0, r1, e1, h1, _⟩ := si_scoop (p := p) (fuel := fuel) (n := n + 4) H h (many := m) (by omega) (by omega)
  obtain ⟨st2, e2, h2⟩ := si_put (p := p) (fuel := fuel) (n := n + 1) G h1 hi ⟨r0, r1⟩
  refine ⟨st2, toggle s r, some (.int (toggle s r).length), some (.int r), ?_, h2⟩
  rw [ss_nx (s_asg (r_call (es_c (r_var rfl) (es_c (r_var rfl) es0)) e1))]
  have q1 : evE p (callN p fuel F (n + 5)) (.meth (.var 4) "put" (.cons true (.var 8) .nil)) (eR ch way m ws g x5 x6 x7 (some (.int r)) x9 x10 x11) st1 = .ok (.d (.int (toggle s r).length)) st2 := by
    rw [si_meth G h1 rfl G.gm5 (fun _ _ _ _ _ => rfl), es_c (r_var rfl) es0, Res.bind_okP, e2]
  have q1' : evS p (callN p fuel F (n + 5)) fuel (.asg 5 true (.meth (.var 4) "put" (.cons true (.var 8) .nil))) ((eR ch way m ws g x5 x6 x7 x8 x9 x10 x11).set 8 (some (.int r))) st1 = .nx (eR ch way m ws g (some (.int (toggle s r).length)) x6 x7 (some (.int r)) x9 x10 x11) st2 := s_asg q1
  rw [ss_nx q1']
  have q2 := si_standing (p := p) G (C := callN p fuel F (n + 5)) h2 (env := eR ch way m ws g (some (.int (toggle s r).length)) x6 x7 (some (.int r)) x9 x10 x11) (k := 4) rfl
  have q3 : evE p (callN p fuel F (n + 5)) (.bif .len (.cons false (.fld (.var 4) "standing") .nil)) (eR ch way m ws g (some (.int (toggle s r).length)) x6 x7 (some (.int r)) x9 x10 x11) st2 = .ok (.d (.int (toggle s r).length)) st2 := by
    rw [show evE p (callN p fuel F (n + 5)) (.bif .len (.cons false (.fld (.var 4) "standing") .nil)) (eR ch way m ws g (some (.int (toggle s r).length)) x6 x7 (some (.int r)) x9 x10 x11) st2 = (evEs p (callN p fuel F (n + 5)) (.cons false (.fld (.var 4) "standing") .nil) (eR ch way m ws g (some (.int (toggle s r).length)) x6 x7 (some (.int r)) x9 x10 x11) st2).bind fun ds st => bifR p (callN p fuel F (n + 5)) .len ds st by simp only [evE]]
    rw [es_c q2 es0, Res.bind_okP, bif_len_tI]
  rw [ss_nx ((s_ifF (t_val (r_cmp (r_var rfl) q3 (by rw [ne_int]; simp)))).trans ss_nl)]
  exact ss_nl
end
end Mn.L84
end

section
set_option Elab.async false
set_option linter.all false
set_option maxRecDepth 100000
set_option maxHeartbeats 2000000
/-! Plain: the webs that laws draw. -/
namespace Mn.LS
open PySem
/-- what is found so far: allowed ways, ascending, none behind this one -/
structure Dr (m : Nat) (ws : List Way) (start goal : Nat) : Prop where
  ok : ∀ w ∈ ws, wayOk m w
  asc : ws.Pairwise wayLt
  lt : ∀ w ∈ ws, w.1 < (start : Int) ∨ (w.1 = (start : Int) ∧ w.2 < (goal : Int))
  len : ws.length ≤ start * m + goal
theorem Dr.skip {m : Nat} {ws : List Way} {start goal : Nat} (h : Dr m ws start goal) : Dr m ws start (goal + 1) := ⟨h.ok, h.asc, fun w hw => by have := h.lt w hw; omega, by have := h.len; omega⟩
theorem Dr.next {m : Nat} {ws : List Way} {start : Nat} (h : Dr m ws start m) : Dr m ws (start + 1) 0 := by
  refine ⟨h.ok, h.asc, fun w hw => ?_, ?_⟩
  · have := h.lt w hw
    left
    omega
  · have := h.len
    rw [Nat.add_mul]
    omega
theorem Dr.add {m : Nat} {ws : List Way} {start goal : Nat} (h : Dr m ws start goal) (hs : start < m) (hg : goal < m) (hne : start ≠ goal) : Dr m (ws ++ [((start : Int), (goal : Int))]) start (goal + 1) := by
  refine ⟨fun w hw => ?_, ?_, fun w hw => ?_, by simp; have := h.len; omega⟩
  · rcases List.mem_append.mp hw with hw | hw
    · exact h.ok w hw
    · rw [List.mem_singleton.mp hw]
      exact ⟨⟨by simp, by simp; omega⟩, ⟨by simp, by simp; omega⟩, by simp; omega⟩
  · refine List.pairwise_append.mpr ⟨h.asc, List.pairwise_singleton .., fun u hu v hv => ?_⟩
    rw [List.mem_singleton.mp hv]
    have := h.lt u hu
    exact this
  · rcases List.mem_append.mp hw with hw | hw
    · have := h.lt w hw; omega
    · rw [List.mem_singleton.mp hw]
      right
      simp
      omega
section
variable {p : PTab} {fuel n : Nat} {F : Fn → Option MDef}
abbrev chest (a b c : Int) : AO := .lst false [.int a, .int b, .int c]
/-- the store while ways are drawn: the chest somewhere, the ways last -/
structure DI (b0 : Store) (ch m : Nat) (ws : List Way) (st : Store) : Prop where
  ways : st[b0.length]? = some (.lst false (ws.map wD))
  chest : ∃ a b c : Int, st[ch]? = some (chest a b c)
  len : st.length = b0.length + 1
  keep : ∀ j, j < b0.length → j ≠ ch → st[j]? = b0[j]?
  lt : ch < b0.length
theorem DI.scoop {b0 : Store} {ch m : Nat} {ws : List Way} {st : Store} (h : DI b0 ch m ws st) (a b c : Int) : DI b0 ch m ws (st.set ch (LS.chest a b c)) := by
  have := h.lt
  have := h.len
  exact ⟨by rw [List.getElem?_set_ne (by omega)]; exact h.ways, ⟨a, b, c, List.getElem?_set_self (by omega)⟩, by simpa using h.len, fun j h1 h2 => by rw [List.getElem?_set_ne (by omega)]; exact h.keep j h1 h2, h.lt⟩
theorem DI.add {b0 : Store} {ch m : Nat} {ws ws' : List Way} {st : Store} (h : DI b0 ch m ws st) : DI b0 ch m ws' (st.set b0.length (.lst false (ws'.map wD))) := by
  have := h.lt
  have := h.len
  obtain ⟨a, b, c, e⟩ := h.chest
  exact ⟨List.getElem?_set_self (by omega), ⟨a, b, c, by rw [List.getElem?_set_ne (by omega)]; exact e⟩, by simpa using h.len, fun j h1 h2 => by rw [List.getElem?_set_ne (by omega)]; exact h.keep j h1 h2, h.lt⟩
theorem di_scoop (H : L84.HasD F) {b0 : Store} {ch m : Nat} {ws : List Way} {st : Store} (h : DI b0 ch m ws st) {many : Int} (h0 : 0 < many) (h1 : many < 1000) : ∃ r st', 0 ≤ r ∧ r < many ∧ callN p fuel F (n + 1) ("_law_scoop", none) [.loc ch, .int many] st = .ok (.d (.int r)) st' ∧ DI b0 ch m ws st' := by
  obtain ⟨a, b, c, hc⟩ := h.chest
  obtain ⟨r, a', b', c', r0, r1, e⟩ := L84.c_scoop (p := p) (fuel := fuel) (n := n) H hc h0 (by omega)
  exact ⟨r, _, r0, r1, e, h.scoop a' b' c'⟩
theorem l_draw1 (H : HasH F) {b0 : Store} {ch m start : Nat} {mode : Int} (hmode : 0 ≤ mode ∧ mode < 4) (hm : m ≤ 8) (hs : start < m) {ws : List Way} {st : Store} (h : DI b0 ch m ws st) (d : Dr m ws start 0) (x : Option D) :
    ∃ env' st', evS p (callN p fuel F (n + 1)) fuel m__law_drawn_ways_l1 [some (.loc ch), some (.int m), some (.loc b0.length), some (.int mode), some (.int start), x] st = .nx env' st' ∧ ∃ ws' y, env' = [some (.loc ch), some (.int m), some (.loc b0.length), some (.int mode), some (.int start), y] ∧ DI b0 ch m ws' st' ∧ Dr m ws' start m := by
  simp only [m__law_drawn_ways_l1, evS, evI, evE, List.getElem?_cons_zero, List.getElem?_cons_succ, froz_d, Res.bind_okP]
  rw [if_pos (by omega), toS_ok]
  simp only [if_true, unl_none, Int.toNat_natCast]
  refine L84.fr_relR (fun i (env : Env) (st : Store) => ∃ ws' y, env = [some (.loc ch), some (.int m), some (.loc b0.length), some (.int mode), some (.int start), y] ∧ DI b0 ch m ws' st ∧ Dr m ws' start i) (n := m) ⟨ws, x, rfl, h, d⟩ fun i hi env st ii => ?_
  obtain ⟨ws', y, rfl, h1, d1⟩ := ii
  simp only [bindTg, List.set]
  obtain ⟨v, v0, v1, ev⟩ : ∃ v : Int, 0 < v ∧ v < 1000 ∧ ∀ st : Store, evE p (callN p fuel F (n + 1)) (.ix (.lst (.cons false (.cst (.int (4))) (.cons false (.cst (.int (2))) (.cons false (.cst (.int (3))) (.cons false (.cst (.int (2))) .nil))))) (.var 3)) [some (.loc ch), some (.int m), some (.loc b0.length), some (.int mode), some (.int start), some (.int i)] st = .ok (.d (.int v)) st := by
    have : mode = 0 ∨ mode = 1 ∨ mode = 2 ∨ mode = 3 := by omega
    rcases this with rfl | rfl | rfl | rfl
    · exact ⟨4, by omega, by omega, fun st => by simp [evE, evEs, ixD, seqOf, atD]; rfl⟩
    · exact ⟨2, by omega, by omega, fun st => by simp [evE, evEs, ixD, seqOf, atD]; rfl⟩
    · exact ⟨3, by omega, by omega, fun st => by simp [evE, evEs, ixD, seqOf, atD]; rfl⟩
    · exact ⟨2, by omega, by omega, fun st => by simp [evE, evEs, ixD, seqOf, atD]; rfl⟩
  have fin : ∀ {st : Store} {ws2 : List Way}, DI b0 ch m ws2 st → Dr m ws2 start (i + 1) → ∀ R, R = RS.nx [some (D.loc ch), some (.int m), some (.loc b0.length), some (.int mode), some (.int start), some (.int i)] st → ∃ env' st', turnR ⟨intRange 0 m, fun _ => true, none⟩ R = .nx env' st' ∧ ∃ ws' y, env' = [some (.loc ch), some (.int m), some (.loc b0.length), some (.int mode), some (.int start), y] ∧ DI b0 ch m ws' st' ∧ Dr m ws' start (i + 1) := fun {st ws2} a b R e => by
    subst e
    exact ⟨_, _, rfl, ws2, some (.int i), rfl, a, b⟩
  have q1 : evT p (callN p fuel F (n + 1)) (.val (.cmp .ne (.var 4) (.var 5))) [some (.loc ch), some (.int m), some (.loc b0.length), some (.int mode), some (.int start), some (.int i)] st = .ok (decide (start ≠ i)) st := by
    simp [evT, evE]
    omega
  have q2 : evT p (callN p fuel F (n + 1)) (.or (.val (.cmp .lt (.var 3) (.cst (.int (3))))) (.val (.cmp .lt (.var 5) (.var 4)))) [some (.loc ch), some (.int m), some (.loc b0.length), some (.int mode), some (.int start), some (.int i)] st = .ok (decide (mode < 3) || decide (i < start)) st := by
    simp [evT, evE]
    by_cases e : mode < 3 <;> simp [e]
  by_cases c1 : start ≠ i
  rotate_left
  · refine fin h1 d1.skip _ ?_
    rw [L84.ss_one, L84.s_ifF (st1 := st) (L84.t_andF (st1 := st) (q1.trans (by simp [c1])))]
    exact L84.ss_nl
  by_cases c2 : (decide (mode < 3) || decide (i < start)) = true
  rotate_left
  · refine fin h1 d1.skip _ ?_
    rw [L84.ss_one, L84.s_ifF (st1 := st) ((L84.t_andT (st1 := st) (q1.trans (by simp [c1]))).trans (L84.t_andF (st1 := st) (q2.trans (by simp only [Bool.not_eq_true] at c2; rw [c2]))))]
    exact L84.ss_nl
  obtain ⟨r, st1, r0, r1, e1, h2⟩ := di_scoop (p := p) (fuel := fuel) (n := n) H.toHasD h1 v0 v1
  have q3 : evT p (callN p fuel F (n + 1)) (.val (.cmp .eq (.call "_law_scoop" (.cons true (.var 0) (.cons true (.ix (.lst (.cons false (.cst (.int (4))) (.cons false (.cst (.int (2))) (.cons false (.cst (.int (3))) (.cons false (.cst (.int (2))) .nil))))) (.var 3)) .nil))) (.cst (.int (0))))) [some (.loc ch), some (.int m), some (.loc b0.length), some (.int mode), some (.int start), some (.int i)] st = .ok (decide (r = 0)) st1 :=
    L84.t_val (L84.r_cmp (L84.r_call (L84.es_c (L84.r_var rfl) (L84.es_c (ev st) L84.es0)) e1) L84.e_int eq_int)
  have q4 := (L84.t_andT (u := .and (.or (.val (.cmp .lt (.var 3) (.cst (.int (3))))) (.val (.cmp .lt (.var 5) (.var 4)))) (.val (.cmp .eq (.call "_law_scoop" (.cons true (.var 0) (.cons true (.ix (.lst (.cons false (.cst (.int (4))) (.cons false (.cst (.int (2))) (.cons false (.cst (.int (3))) (.cons false (.cst (.int (2))) .nil))))) (.var 3)) .nil))) (.cst (.int (0)))))) (st1 := st) (q1.trans (by simp [c1]))).trans ((L84.t_andT (st1 := st) (q2.trans (by rw [c2]))).trans q3)
  by_cases hr : r = 0
  · have hlen : ws'.length < lim := by
      have := d1.len
      have : start * m ≤ 8 * 8 := Nat.mul_le_mul (by omega) hm
      unfold lim
      omega
    refine fin h2.add (d1.add hs hi c1) _ ?_
    rw [L84.ss_one, L84.s_ifT (st1 := st1) (q4.trans (by simp [hr])), L84.ss_one]
    simp [evS, evE, evEs, tyB, isL, seqOf, h2.ways, bmtD, appD, hlen]
    simp [wD]
  · refine fin h2 d1.skip _ ?_
    rw [L84.ss_one, L84.s_ifF (st1 := st1) (q4.trans (by simp [hr]))]
    exact L84.ss_nl
end
end Mn.LS
end

section
set_option Elab.async false
set_option linter.all false
set_option maxRecDepth 100000
set_option maxHeartbeats 2000000
/-! Plain: the webs that laws draw, whole. -/
namespace Mn.LS
open PySem L84
theorem bnd_chest {k : Nat} {a b c : Int} : (LS.chest a b c).bnd k = true := by simp [LS.chest, AO.bnd, D.bnds, D.bnd]
/-- a def that leaves all as it was but for the chest -/
theorem trim_chest {b st' : Store} {ch : Nat} {x y z : Int} {d : D} (hl : b.length ≤ st'.length) (hc : st'[ch]? = some (LS.chest x y z)) (hlt : ch < b.length) (hk : ∀ j, j < b.length → j ≠ ch → st'[j]? = b[j]?) (hd : ∀ j, d ≠ .loc j) (hb : D.bnd b.length d = true) : trim b st' (.d d) = .ok (.d d) (b.set ch (LS.chest x y z)) := by
  have h1 : okPre b.length b st' = true := okPre_iff hl fun j o o' e e' => by
    by_cases hj : j = ch
    · subst hj
      rw [hc] at e'
      cases e'
      exact .inr bnd_chest
    · left
      rw [hk j (List.getElem?_eq_some_iff.mp e).1 hj, e] at e'
      exact Option.some.inj e'
  have h2 : (RV.d d).fresh b.length st' = some (.d d) := by
    unfold RV.fresh
    split
    · rename_i e; cases e
    · rename_i e; cases e
    · rename_i j e; cases e; exact absurd rfl (hd j)
    · rename_i e; cases e
      rw [if_pos hb]
  have h3 : st'.take b.length = b.set ch (LS.chest x y z) := by
    apply List.ext_getElem?
    intro j
    rw [List.getElem?_take]
    by_cases hj : j < b.length
    · rw [if_pos hj]
      by_cases e : j = ch
      · subst e
        rw [hc, List.getElem?_set_self hj]
      · rw [hk j hj e, List.getElem?_set_ne (by omega)]
    · rw [if_neg hj, List.getElem?_eq_none (by simp; omega)]
  unfold trim
  rw [if_pos h1, h2]
  simp only [h3]
section
variable {p : PTab} {fuel n : Nat} {F : Fn → Option MDef}
theorem l_draw2 (H : HasH F) {b0 : Store} {ch m : Nat} {mode : Int} (hmode : 0 ≤ mode ∧ mode < 4) (hm : m ≤ 8) {st : Store} (h : DI b0 ch m [] st) (x y : Option D) :
    ∃ env' st', evS p (callN p fuel F (n + 1)) fuel m__law_drawn_ways_l2 [some (.loc ch), some (.int m), some (.loc b0.length), some (.int mode), x, y] st = .nx env' st' ∧ ∃ ws' x' y', env' = [some (.loc ch), some (.int m), some (.loc b0.length), some (.int mode), x', y'] ∧ DI b0 ch m ws' st' ∧ Dr m ws' m 0 := by
  simp only [m__law_drawn_ways_l2, evS, evI, evE, List.getElem?_cons_zero, List.getElem?_cons_succ, froz_d, Res.bind_okP]
  rw [if_pos (by omega), toS_ok]
  simp only [if_true, unl_none, Int.toNat_natCast]
  refine L84.fr_relR (fun i (env : Env) (st : Store) => ∃ ws' x' y', env = [some (.loc ch), some (.int m), some (.loc b0.length), some (.int mode), x', y'] ∧ DI b0 ch m ws' st ∧ Dr m ws' i 0) (n := m) ⟨[], x, y, rfl, h, ⟨fun w hw => (by cases hw), List.Pairwise.nil, fun w hw => (by cases hw), Nat.zero_le _⟩⟩ fun i hi env st ii => ?_
  obtain ⟨ws', x', y', rfl, h1, d1⟩ := ii
  obtain ⟨env2, st2, e, ws2, y2, rfl, h2, d2⟩ := l_draw1 (p := p) (fuel := fuel) (n := n) H hmode hm hi h1 d1 y'
  refine ⟨_, st2, ?_, ws2, some (.int i), y2, rfl, h2, d2.next⟩
  simp only [bindTg, List.set]
  rw [ss_one, e]
  simp only [turn_nx, if_true]
theorem c_drawn (H : HasH F) {b0 : Store} {ch m : Nat} {a b c : Int} (hc : b0[ch]? = some (LS.chest a b c)) (h1 : 1 ≤ m) (hm : m ≤ 8) : ∃ ws x y z, WebOk m ws ∧ callN p fuel F (n + 2) ("_law_drawn_ways", none) [.loc ch, .int m] b0 = .ok (.d (wsD ws)) (b0.set ch (LS.chest x y z)) := by
  rw [call_go H.drawn_ways rfl]
  have hlt := (List.getElem?_eq_some_iff.mp hc).1
  have d0 : DI b0 ch m [] (b0 ++ [.lst false []]) := ⟨by simp, ⟨a, b, c, by rw [List.getElem?_append_left hlt]; exact hc⟩, by simp, fun j h1 h2 => by rw [List.getElem?_append_left h1], hlt⟩
  obtain ⟨mode, st1, r0, r1, e1, d1⟩ := di_scoop (p := p) (fuel := fuel) (n := n) H.toHasD d0 (many := 4) (by omega) (by omega)
  obtain ⟨env2, st2, e2, ws, x', y', rfl, d2, dr⟩ := l_draw2 (p := p) (fuel := fuel) (n := n) H ⟨r0, r1⟩ hm d1 none none
  obtain ⟨x, y, z, hc2⟩ := d2.chest
  have s1 : evS p (callN p fuel F (n + 1)) fuel (.asgs [2, 3] (.cons true (.lst .nil) (.cons true (.call "_law_scoop" (.cons true (.var 0) (.cons true (.cst (.int (4))) .nil))) .nil))) [some (.loc ch), some (.int m), none, none, none, none] b0 = .nx [some (.loc ch), some (.int m), some (.loc b0.length), some (.int mode), none, none] st1 := by
    have q1 := r_call (p := p) (f := "_law_scoop") (es_c (hh := true) (r_var (env := [some (.loc ch), some (.int m), none, none, none, none]) (k := 0) rfl) (es_c (hh := true) e_int es0)) e1
    have q2 := es_c (hh := true) q1 es0
    simp only [evS]
    rw [show evEs p (callN p fuel F (n + 1)) (.cons true (.lst .nil) (.cons true (.call "_law_scoop" (.cons true (.var 0) (.cons true (.cst (.int (4))) .nil))) .nil)) [some (.loc ch), some (.int m), none, none, none, none] b0 = (evE p (callN p fuel F (n + 1)) (.lst .nil) [some (.loc ch), some (.int m), none, none, none, none] b0).kept.bind fun x st => (evEs p (callN p fuel F (n + 1)) (.cons true (.call "_law_scoop" (.cons true (.var 0) (.cons true (.cst (.int (4))) .nil))) .nil) [some (.loc ch), some (.int m), none, none, none, none] st).bind fun xs st => .ok (x :: xs) st by simp only [evEs, if_true]]
    rw [show evE p (callN p fuel F (n + 1)) (.lst .nil) [some (.loc ch), some (.int m), none, none, none, none] b0 = .ok (.fl []) b0 by simp only [evE, evEs]; rfl, kept_fl, Res.bind_okP, q2]
    rfl
  have s3 : evS p (callN p fuel F (n + 1)) fuel (.ret (.bif .tuple (.cons false (.var 2) .nil))) [some (.loc ch), some (.int m), some (.loc b0.length), some (.int mode), x', y'] st2 = .rt (.d (wsD ws)) st2 := by
    simp [evS, evE, evEs, bif_tup_loc d2.ways, wsD]
  refine ⟨ws, x, y, z, ⟨by omega, by omega, dr.ok, dr.asc, ?_⟩, ?_⟩
  · have := dr.len
    have : m * m ≤ 8 * 8 := Nat.mul_le_mul hm hm
    omega
  · have body : evSs p (callN p fuel F (n + 1)) fuel m__law_drawn_ways.body (List.map some [D.loc ch, .int m] ++ List.replicate (m__law_drawn_ways.n - m__law_drawn_ways.np) none) b0 = .rt (.d (wsD ws)) st2 := by
      show evSs p (callN p fuel F (n + 1)) fuel (.cons _ (.cons _ (.cons _ .nil))) _ _ = _
      refine (ss_nx s1).trans ((ss_nx e2).trans ?_)
      rw [ss_one]
      exact s3
    rw [body]
    exact trim_chest (by have := d2.len; omega) hc2 hlt d2.keep (fun j => by simp [wsD]) (bnd_wsD _)
end
end Mn.LS
end

section
set_option Elab.async false
set_option linter.all false
set_option maxRecDepth 100000
set_option maxHeartbeats 2000000
/-! Plain: the laws' own survey: what is laid first. -/
namespace Mn.LS
open PySem L84
structure HasV (F : Fn → Option MDef) : Prop extends HasH F where
  survey : F ("_law_survey", none) = some m__law_survey
/-- the followers of all rows, as the law keeps them -/
def behD (L : Nat) (wt : List (List Int × Nat)) : List (D × D) := wt.map fun q => (tI q.1, .loc (L + 2 + q.2))
def bhI (b : Store) (c : Nat) (ws : List Way) (i : Nat) : Store := b ++ ([.dct true false (behD b.length ((rows c).zipIdx.take i)), .dct true false []] ++ ((rows c).take i).map (flO ws))
theorem bhI_0 {b : Store} {c : Nat} {ws : List Way} {i : Nat} : (bhI b c ws i)[b.length]? = some (.dct true false (behD b.length ((rows c).zipIdx.take i))) := by
  unfold bhI
  have := off_get (b := b) (x := [.dct true false (behD b.length ((rows c).zipIdx.take i)), .dct true false []] ++ ((rows c).take i).map (flO ws)) (i := 0)
  rw [Nat.add_zero] at this
  rw [this]
  rfl
theorem bhI_len {b : Store} {c : Nat} {ws : List Way} {i : Nat} (hi : i ≤ (rows c).length) : (bhI b c ws i).length = b.length + 2 + i := by
  unfold bhI
  simp
  omega
section
variable {p : PTab} {fuel n : Nat} {F : Fn → Option MDef} {c : Nat} {ws : List Way}
theorem rows_take {i : Nat} {s : List Int} (hi : (rows c)[i]? = some s) : (rows c).zipIdx.take (i + 1) = (rows c).zipIdx.take i ++ [(s, i)] ∧ (rows c).take (i + 1) = (rows c).take i ++ [s] ∧ s ∉ ((rows c).zipIdx.take i).map (·.1) := by
  refine ⟨?_, ?_, ?_⟩
  · rw [List.take_add_one]
    have : (rows c).zipIdx[i]? = some (s, i) := by simp [List.getElem?_zipIdx, hi]
    rw [this]
    rfl
  · rw [List.take_add_one, hi]; rfl
  · have : (rows c).zipIdx.map (·.1) = rows c := by simp
    rw [List.map_take, this]
    intro z
    obtain ⟨j, hj⟩ := List.mem_iff_getElem?.mp z
    rw [List.getElem?_take] at hj
    split at hj
    · rename_i hji
      obtain ⟨a1, a2⟩ := List.getElem?_eq_some_iff.mp hj
      obtain ⟨b1, b2⟩ := List.getElem?_eq_some_iff.mp hi
      exact List.pairwise_iff_getElem.mp (rows_nodup c) j i a1 b1 hji (by rw [a2, b2])
    · cases hj
/-- the followers of a row, as the law computes them -/
theorem e_foll (H : HasH F) (hl : ws.length < 1000) {s : List Int} (hs : s.length < 800) {env : Env} {st : Store} (h1 : env[1]? = some (some (wsD ws))) (h4 : env[4]? = some (some (tI s))) (h9 : 9 < env.length) :
    evE p (callN p fuel F (n + 2)) (.lc (.call "_law_led" (.cons true (.var 4) (.cons true (.var 9) .nil))) (.name 9) (.val (.var 1)) (.val (.cmp .inn (.ix (.var 9) (.cst (.int (0)))) (.var 4)))) env st = .ok (.fl ((foll ws s).map tI)) st := by
  have hlm : ws.length ≤ lim := by unfold lim; omega
  have g4 : ∀ x : Option D, ((env.set 9 none).set 9 x)[4]? = some (some (tI s)) := fun x => by
    rw [List.getElem?_set_ne (by omega), List.getElem?_set_ne (by omega)]; exact h4
  have g9 : ∀ x : Option D, ((env.set 9 none).set 9 x)[9]? = some x := fun x => List.getElem?_set_self (by simpa using h9)
  simp only [evE, evI, h1, froz_d, Res.bind_okP, seqOf_wsD, tgs, wipeE, bindTg]
  rw [if_pos ⟨rfl, by rw [List.length_map]; exact hlm⟩]
  rw [lc_ways (h := fun w => if decide (w.1 ∈ s) = true then some (tI (play s w)) else none) (fun v _ => by
    have hc := c_led (p := p) (fuel := fuel) (n := n) H s v st hs
    simp only [evT, evE, evEs, g4, g9, froz_d, kept_d, Res.bind_okP, ix_w0, Option.map_some, ofOpt_some, inn_tI, if_true, hc]
    by_cases e : v.1 ∈ s <;> simp [e, hc])]
  have : (ws.filterMap fun w => if decide (w.1 ∈ s) = true then some (tI (play s w)) else none) = (foll ws s).map tI := by
    rw [fm_if (fun w : Way => decide (w.1 ∈ s)) (fun w => tI (play s w))]
    simp [foll, from_]
  rw [this]
  simp
end
end Mn.LS
end

section
set_option Elab.async false
set_option linter.all false
set_option maxRecDepth 100000
set_option maxHeartbeats 2000000
/-! Plain: the laws' own survey: the followers are laid. -/
namespace Mn.LS
open PySem L84
section
variable {p : PTab} {fuel n : Nat} {F : Fn → Option MDef} {c : Nat} {ws : List Way}
theorem l_beh (H : HasH F) (hws : ws.length < 1000) (hc : c ≤ 8) (b : Store) :
    ∃ sl, evS p (callN p fuel F (n + 2)) fuel m__law_survey_l1 [some (.int c), some (wsD ws), some (.loc b.length), some (.loc (b.length + 1)), none, none, none, none, none, none, none, none] (bhI b c ws 0) = .nx [some (.int c), some (wsD ws), some (.loc b.length), some (.loc (b.length + 1)), sl, none, none, none, none, none, none, none] (bhI b c ws (rows c).length) := by
  have hr : (rows c).length ≤ 256 := by rw [rows_len]; exact Nat.pow_le_pow_right (n := 2) (by omega) hc
  have hso := c_lrows (p := p) (fuel := fuel) (n := n + 1) H c hc (bhI b c ws 0)
  have q0 := r_call (p := p) (f := "_law_rows") (es_c (hh := true) (r_var (env := [some (.int c), some (wsD ws), some (.loc b.length), some (.loc (b.length + 1)), none, none, none, none, none, none, none, none]) (k := 0) rfl) es0) hso
  simp only [m__law_survey_l1, evS, evI, q0, froz_fl, Res.bind_okP, seqOf, toS_ok, still_lst, if_true, unl_none]
  refine ⟨((rows c).foldl cntS (0, none)).2, ?_⟩
  have hfin : ((rows c).foldl cntS (0, none)).1 = (rows c).length := by rw [cnt_fold]; simp
  rw [← hfin]
  refine (fr_rem (g := tI) (mk := fun q : Nat × Option D => [some (.int c), some (wsD ws), some (.loc b.length), some (.loc (b.length + 1)), q.2, none, none, none, none, none, none, none]) (sk := fun q => bhI b c ws q.1) (step := cntS) (fun l q => l = (rows c).drop q.1 ∧ q.1 + l.length = (rows c).length) (l := rows c) (s := (0, none)) ⟨rfl, by simp⟩ fun s l q i => ?_).1
  obtain ⟨i, sl⟩ := q
  obtain ⟨i1, i2⟩ := i
  simp only at i1 i2
  have hi : (rows c)[i]? = some s := by
    have := congrArg (fun l => l[0]?) i1
    simpa using this.symm
  have hil : i < (rows c).length := (List.getElem?_eq_some_iff.mp hi).1
  have hmem : s ∈ rows c := List.mem_of_getElem? hi
  have hsl : s.length < 800 := by have := rows_short hmem; omega
  refine ⟨?_, ?_, ?_⟩
  · obtain ⟨hti, hri, hnew⟩ := rows_take hi
    have hput : putD (behD b.length ((rows c).zipIdx.take i)) (tI s) (.loc (b.length + 2 + i)) = behD b.length ((rows c).zipIdx.take (i + 1)) := by
      unfold putD
      rw [show look (behD b.length ((rows c).zipIdx.take i)) (tI s) = none from look_none (g := fun m : Nat => D.loc (b.length + 2 + m)) hnew, hti]
      simp [behD]
    have e0 : (bhI b c ws i ++ [flO ws s])[b.length]? = some (.dct true false (behD b.length ((rows c).zipIdx.take i))) := by
      rw [List.getElem?_append_left (by rw [bhI_len (by omega)]; omega)]; exact bhI_0
    have e3 : (bhI b c ws i ++ [flO ws s]).set b.length (.dct true false (behD b.length ((rows c).zipIdx.take (i + 1)))) = bhI b c ws (i + 1) := by
      unfold bhI
      rw [List.append_assoc]
      have := off_set (b := b) (x := [.dct true false (behD b.length ((rows c).zipIdx.take i)), .dct true false []] ++ ((rows c).take i).map (flO ws) ++ [flO ws s]) (i := 0) (o := .dct true false (behD b.length ((rows c).zipIdx.take (i + 1))))
      rw [Nat.add_zero] at this
      rw [this, hri]
      simp
    have hkl : (behD b.length ((rows c).zipIdx.take i)).length < lim := by
      unfold behD lim
      simp
      omega
    have hfo := e_foll (p := p) (fuel := fuel) (n := n) H hws hsl (env := [some (.int c), some (wsD ws), some (.loc b.length), some (.loc (b.length + 1)), some (tI s), none, none, none, none, none, none, none]) (st := bhI b c ws i) rfl rfl (by simp)
    have hfo2 : (Res.ok (RV.fl ((foll ws s).map tI)) (bhI b c ws i) : Res RV).kept = .ok (.loc (b.length + 2 + i)) (bhI b c ws i ++ [flO ws s]) := by
      rw [kept_fl, bhI_len (by omega)]; rfl
    have hset : isetD (bhI b c ws i ++ [flO ws s]) (.loc b.length) (tI s) (.loc (b.length + 2 + i)) = some (bhI b c ws (i + 1)) := by
      simp [isetD, e0, hkl, hput, e3]
    simp only [bindTg, List.set, ss_one]
    simp only [evS, if_true, hfo, hfo2, toS_ok]
    simp only [evE, List.getElem?_cons_zero, List.getElem?_cons_succ, froz_d, toS_ok, hset, nxOpt_some, turn_nx, still_lst, if_true, cntS]
  · have := congrArg List.tail i1
    simpa [cntS] using this
  · simp [cntS] at i2 ⊢
    omega
end
end Mn.LS
end

section
set_option Elab.async false
set_option linter.all false
set_option maxRecDepth 100000
set_option maxHeartbeats 2000000
/-! Plain: the laws' own survey: one round. -/
namespace Mn.LS
open PySem L84
/-- what the law reads of the followers -/
def toldI (K : List Int → Option Nat) (fs : List (List Int)) : List Int := fs.map fun f => match K f with
  | some m => (m : Int)
  | none => -2
theorem told_even {K : List Int → Option Nat} {fs : List (List Int)} : (toldI K fs).filter (fun i => decide (i % 2 = 0)) = [] ↔ (fs.all fun f => match K f with | some m => decide (m % 2 = 1) | none => false) = true := by
  rw [List.filter_eq_nil_iff, List.all_eq_true]
  unfold toldI
  simp only [List.mem_map, forall_exists_index, and_imp, forall_apply_eq_imp_iff₂]
  refine forall_congr' fun f => imp_congr_right fun _ => ?_
  cases K f with
  | none => simp
  | some m =>
    simp
    omega
theorem told_odd {K : List Int → Option Nat} {fs : List (List Int)} {t : Nat} (ht : t % 2 = 1) : (t : Int) - 1 ∈ toldI K fs ↔ (fs.any fun f => decide (K f = some (t - 1))) = true := by
  rw [List.any_eq_true]
  unfold toldI
  simp only [List.mem_map, decide_eq_true_eq]
  refine exists_congr fun f => and_congr_right fun _ => ?_
  cases K f with
  | none => simp; omega
  | some m =>
    simp
    omega
theorem told_settled {ws : List Way} {K : List Int → Option Nat} {t : Nat} {s : List Int} : settledAt ws K t s = ((decide ((t : Int) % 2 = 1) && decide ((t : Int) - 1 ∈ toldI K (foll ws s))) || (decide ((t : Int) % 2 = 0) && decide ((toldI K (foll ws s)).filter (fun i => decide (i % 2 = 0)) = []))) := by
  unfold settledAt
  by_cases ht : t % 2 = 1
  · have h1 : (t : Int) % 2 = 1 := by omega
    have h2 : ¬ (t : Int) % 2 = 0 := by omega
    rw [if_pos ht]
    have := told_odd (K := K) (fs := foll ws s) ht
    rw [decide_eq_true h1, decide_eq_false h2, Bool.true_and, Bool.false_and, Bool.or_false, Bool.eq_iff_iff, ← this, decide_eq_true_eq]
  · have h1 : ¬ (t : Int) % 2 = 1 := by omega
    have h2 : (t : Int) % 2 = 0 := by omega
    rw [if_neg ht]
    have := told_even (K := K) (fs := foll ws s)
    rw [decide_eq_false h1, decide_eq_true h2, Bool.true_and, Bool.false_and, Bool.false_or, Bool.eq_iff_iff, decide_eq_true_eq]
    exact this.symm
/-- the store in the middle of the law's survey -/
structure SV (b : Store) (c : Nat) (ws : List Way) (lk : Bool) (kn : List (List Int × Nat)) (st : Store) : Prop where
  beh : st[b.length]? = some (.dct true lk (behD b.length (rows c).zipIdx))
  fnd : st[b.length + 1]? = some (.dct true false (knD kn))
  fls : ∀ q ∈ (rows c).zipIdx, st[b.length + 2 + q.2]? = some (flO ws q.1)
  len : b.length + 2 + (rows c).length ≤ st.length
  old : ∀ j, j < b.length → st[j]? = b[j]?
section
variable {b st : Store} {c : Nat} {ws : List Way} {lk : Bool} {kn : List (List Int × Nat)}
theorem SV.keep {st' : Store} (h : SV b c ws lk kn st) (hl : st.length ≤ st'.length) (k : ∀ j, j < b.length + 2 + (rows c).length → st'[j]? = st[j]?) : SV b c ws lk kn st' := by
  refine ⟨(k _ (by omega)).trans h.beh, (k _ (by omega)).trans h.fnd, fun q hq => (k _ ?_).trans (h.fls q hq), Nat.le_trans h.len hl, fun j hj => (k _ (by omega)).trans (h.old j hj)⟩
  have := List.mem_zipIdx_iff_getElem?.mp hq
  have := (List.getElem?_eq_some_iff.mp this).1
  omega
theorem SV.app (h : SV b c ws lk kn st) (ext : Store) : SV b c ws lk kn (st ++ ext) := h.keep (by simp) fun j hj => by
  have := h.len
  rw [List.getElem?_append_left (by omega)]
theorem SV.set (h : SV b c ws lk kn st) {j : Nat} {o : AO} (hj : b.length + 2 + (rows c).length ≤ j) : SV b c ws lk kn (st.set j o) := h.keep (by simp) fun i hi => by
  rw [List.getElem?_set_ne (by omega)]
theorem lookup_at {α : Type} : ∀ {l : List (List Int × α)} {s : List Int} {v : α}, (l.map (·.1)).Nodup → (s, v) ∈ l → l.lookup s = some v
  | [], _, _, _, h => by cases h
  | (r, w) :: l, s, v, nd, h => by
    rw [List.map_cons, List.nodup_cons] at nd
    rcases List.mem_cons.mp h with e | h
    · cases e
      simp [List.lookup_cons]
    · have : s ≠ r := fun e => nd.1 (e ▸ List.mem_map.mpr ⟨(s, v), h, rfl⟩)
      rw [List.lookup_cons, beq_eq_false_iff_ne.mpr this]
      exact lookup_at nd.2 h
/-- what is read of the found steps -/
theorem e_told {p : PTab} {C : Calls} (h : SV b c ws lk kn st) {s : List Int} {i : Nat} (hq : (s, i) ∈ (rows c).zipIdx) (hl : (foll ws s).length ≤ lim) {env : Env} (h2 : env[2]? = some (some (.loc b.length))) (h3 : env[3]? = some (some (.loc (b.length + 1)))) (h4 : env[4]? = some (some (tI s))) (h10 : 10 < env.length) :
    evE p C (.lc (.bmt .get (.var 3) (.cons true (.var 10) (.cons true (.neg (.cst (.int (2)))) .nil))) (.name 10) (.val (.ix (.var 2) (.var 4))) .tt) env st = .ok (.fl ((toldI (lkS kn) (foll ws s)).map D.int)) st := by
  have hL := h.fls (s, i) hq
  have hlook : look (behD b.length (rows c).zipIdx) (tI s) = some (.loc (b.length + 2 + i)) := by
    rw [show look (behD b.length (rows c).zipIdx) (tI s) = _ from look_map (g := fun m : Nat => D.loc (b.length + 2 + m)) (l := (rows c).zipIdx)]
    rw [lookup_at (by simpa using rows_nodup c) hq]
    rfl
  have hix : ixD st (.loc b.length) (tI s) = some (.loc (b.length + 2 + i)) := by rw [ix_dct h.beh, hlook]
  have hsq : seqOf st (.loc (b.length + 2 + i)) = some ((foll ws s).map tI) := by simp [seqOf, hL, flO]
  have g3 : ∀ x : Option D, ((env.set 10 none).set 10 x)[3]? = some (some (.loc (b.length + 1))) := fun x => by
    rw [List.getElem?_set_ne (by omega), List.getElem?_set_ne (by omega)]; exact h3
  have g10 : ∀ x : Option D, ((env.set 10 none).set 10 x)[10]? = some x := fun x => List.getElem?_set_self (by simpa using h10)
  have hdg : ∀ f : List Int, dgetD st (.loc (b.length + 1)) (tI f) = some ((lkS kn f).map fun m : Nat => D.int m) := fun f => by
    rw [dget_tI h.fnd]
    rw [show look (knD kn) (tI f) = _ from look_map (g := fun m : Nat => D.int m) (l := kn)]
    rfl
  simp only [evE, evI, h2, h4, froz_d, Res.bind_okP, hix, Option.map_some, ofOpt_some, hsq, tgs, wipeE, bindTg]
  rw [if_pos ⟨by simp, by rw [List.length_map]; exact hl⟩]
  rw [lc_map (h := fun f => some (.int (match lkS kn f with | some m => (m : Int) | none => -2))) (fun f _ => by
    have := hdg f
    simp only [evT, evEs, evE, g3, g10, froz_d, kept_d, Res.bind_okP, calm_okP, if_true]
    simp [tyB, dkOf, dctOf, h.fnd, bmtD, getD, this]
    cases lkS kn f <;> simp), fm_map]
  simp [toldI]
end
end Mn.LS
end

section
set_option Elab.async false
set_option linter.all false
set_option maxRecDepth 100000
set_option maxHeartbeats 2000000
/-! Plain: the laws' own survey: a row in a round. -/
namespace Mn.LS
open PySem L84
theorem fr_listR {α : Type} {f : D → Env → Store → RS} (g : α → D) (I : List α → Env → Store → Prop) (k : ∀ a r env st, I (a :: r) env st → ∃ env' st', f (g a) env st = .nx env' st' ∧ I r env' st') : ∀ (l : List α) {env : Env} {st : Store}, I l env st → ∃ env' st', frLoop f (l.map g) env st = .nx env' st' ∧ I [] env' st'
  | [], env, st, h => ⟨env, st, rfl, h⟩
  | a :: r, env, st, h => by
    obtain ⟨e1, s1, h1, i1⟩ := k a r env st h
    obtain ⟨e2, s2, h2, i2⟩ := fr_listR g I k r i1
    refine ⟨e2, s2, ?_, i2⟩
    rw [List.map_cons]
    simp only [frLoop, h1]
    exact h2
abbrev eV (c : Nat) (ws : List Way) (B : Nat) (x4 : Option D) (t : Nat) (Lf : Nat) (x7 x8 : Option D) : Env := [some (.int c), some (wsD ws), some (.loc B), some (.loc (B + 1)), x4, some (.int t), some (.loc Lf), x7, x8, none, none, none]
/-- what a round finds -/
def freshOf (ws : List Way) (K : List Int → Option Nat) (t : Nat) (pre : List (List Int)) : List (List Int) := pre.filter fun s => (K s).isNone && settledAt ws K t s
theorem eq_locl {st : Store} {j : Nat} {lk : Bool} {xs ys : List D} (h : st[j]? = some (.lst lk xs)) : cmpD st .eq (.loc j) (.lst ys) = cmpD st .eq (.lst xs) (.lst ys) := by
  show eqD st (.loc j) (.lst ys) = eqD st (.lst xs) (.lst ys)
  unfold eqD
  have : pdS st (.loc j) = pdS st (.lst xs) := by simp only [pdS, h, pd]
  rw [this]
section
variable {b st : Store} {c : Nat} {ws : List Way} {kn : List (List Int × Nat)} {p : PTab} {fuel n : Nat} {C : Calls} {t : Nat} {Lf : Nat} {s : List Int} {pre : List (List Int)} {x7 x8 : Option D}
theorem l_row (hc : c ≤ 8) (hws : ws.length < 1000) (h : SV b c ws true kn st) (hL : b.length + 2 + (rows c).length ≤ Lf) (hf : st[Lf]? = some (.lst false ((freshOf ws (lkS kn) t pre).map tI))) (hpl : pre.length < 300) {i : Nat} (hq : (s, i) ∈ (rows c).zipIdx) :
    ∃ y7 y8 st', evSs p C fuel (.cons (.ifs (.val (.cmp .nin (.var 4) (.var 3))) (.cons (.asg 7 true (.lc (.bmt .get (.var 3) (.cons true (.var 10) (.cons true (.neg (.cst (.int (2)))) .nil))) (.name 10) (.val (.ix (.var 2) (.var 4))) .tt)) (.cons (.asg 8 true (.lc (.var 11) (.name 11) (.val (.var 7)) (.val (.cmp .eq (.bin .mod (.var 11) (.cst (.int (2)))) (.cst (.int (0))))))) (.cons (.ifs (.or (.and (.val (.cmp .eq (.bin .mod (.var 5) (.cst (.int (2)))) (.cst (.int (1))))) (.val (.cmp .inn (.bin .sub (.var 5) (.cst (.int (1)))) (.var 7)))) (.and (.val (.cmp .eq (.bin .mod (.var 5) (.cst (.int (2)))) (.cst (.int (0))))) (.val (.cmp .eq (.var 8) (.lst .nil))))) (.cons (.ex (.bmt .append (.var 6) (.cons true (.var 4) .nil))) .nil) .nil) .nil))) .nil) .nil) (eV c ws b.length (some (tI s)) t Lf x7 x8) st = .nx (eV c ws b.length (some (tI s)) t Lf y7 y8) st' ∧ SV b c ws true kn st' ∧ st'[Lf]? = some (.lst false ((freshOf ws (lkS kn) t (pre ++ [s])).map tI)) := by
  have hfl : (foll ws s).length ≤ lim := by have := foll_len ws s; unfold lim; omega
  have hLt := (List.getElem?_eq_some_iff.mp hf).1
  have hlk : look (knD kn) (tI s) = (lkS kn s).map fun m : Nat => D.int m := look_map (g := fun m : Nat => D.int m) (l := kn)
  have q1 : evT p C (.val (.cmp .nin (.var 4) (.var 3))) (eV c ws b.length (some (tI s)) t Lf x7 x8) st = .ok (lkS kn s).isNone st := by
    have : cmpD st .nin (tI s) (.loc (b.length + 1)) = some (lkS kn s).isNone := by
      rw [nin_dct h.fnd, hlk]
      cases lkS kn s <;> rfl
    exact t_val (r_cmp (r_var rfl) (r_var rfl) this)
  rw [ss_one]
  cases hk : (lkS kn s).isNone with
  | false =>
    rw [hk] at q1
    refine ⟨x7, x8, st, (s_ifF q1).trans ss_nl, h, ?_⟩
    rw [hf]
    simp [freshOf, List.filter_append, hk]
  | true =>
    rw [hk] at q1
    rw [s_ifT q1]
    have e1 := e_told (p := p) (C := C) h hq hfl (env := eV c ws b.length (some (tI s)) t Lf x7 x8) rfl rfl rfl (by simp)
    have s1 : evS p C fuel (.asg 7 true (.lc (.bmt .get (.var 3) (.cons true (.var 10) (.cons true (.neg (.cst (.int (2)))) .nil))) (.name 10) (.val (.ix (.var 2) (.var 4))) .tt)) (eV c ws b.length (some (tI s)) t Lf x7 x8) st = .nx (eV c ws b.length (some (tI s)) t Lf (some (.loc st.length)) x8) (st ++ [.lst false ((toldI (lkS kn) (foll ws s)).map D.int)]) := by
      simp only [evS, if_true, e1, kept_fl, toS_ok]
      rfl
    rw [ss_nx s1]
    have g1 := h.app [.lst false ((toldI (lkS kn) (foll ws s)).map D.int)]
    have f1 : (st ++ [AO.lst false ((toldI (lkS kn) (foll ws s)).map D.int)])[Lf]? = some (.lst false ((freshOf ws (lkS kn) t pre).map tI)) := by rw [List.getElem?_append_left hLt]; exact hf
    have a1 : (st ++ [AO.lst false ((toldI (lkS kn) (foll ws s)).map D.int)])[st.length]? = some (.lst false ((toldI (lkS kn) (foll ws s)).map D.int)) := by simp
    have n1 : Lf < st.length := hLt
    have htl : (toldI (lkS kn) (foll ws s)).length ≤ lim := by unfold toldI; rw [List.length_map]; exact hfl
    have hset := told_settled (ws := ws) (K := lkS kn) (t := t) (s := s)
    generalize hst1 : st ++ [AO.lst false ((toldI (lkS kn) (foll ws s)).map D.int)] = st1 at g1 f1 a1
    generalize st.length = L7 at a1 n1
    generalize toldI (lkS kn) (foll ws s) = tv at a1 htl hset
    have hL1 := (List.getElem?_eq_some_iff.mp f1).1
    have hs7 : seqOf st1 (.loc L7) = some (tv.map D.int) := by simp [seqOf, a1]
    have s2 : evS p C fuel (.asg 8 true (.lc (.var 11) (.name 11) (.val (.var 7)) (.val (.cmp .eq (.bin .mod (.var 11) (.cst (.int (2)))) (.cst (.int (0))))))) (eV c ws b.length (some (tI s)) t Lf (some (.loc L7)) x8) st1 = .nx (eV c ws b.length (some (tI s)) t Lf (some (.loc L7)) (some (.loc st1.length))) (st1 ++ [.lst false ((tv.filter fun i => decide (i % 2 = 0)).map D.int)]) := by
      simp [evS, evE, evI, evT, tgs, wipeE, bindTg, hs7, htl]
      rw [lc_ints (h := fun i => if decide (i % 2 = 0) = true then some (.int i) else none) (fun i _ => by
        simp [binD, binI]
        by_cases e : i % 2 = 0 <;> simp [e]), fm_if (fun i : Int => decide (i % 2 = 0)) D.int]
      simp
    rw [ss_nx s2]
    have g2 := g1.app [.lst false ((tv.filter fun i => decide (i % 2 = 0)).map D.int)]
    have f2 : (st1 ++ [AO.lst false ((tv.filter fun i => decide (i % 2 = 0)).map D.int)])[Lf]? = some (.lst false ((freshOf ws (lkS kn) t pre).map tI)) := by rw [List.getElem?_append_left hL1]; exact f1
    have a2 : (st1 ++ [AO.lst false ((tv.filter fun i => decide (i % 2 = 0)).map D.int)])[L7]? = some (.lst false (tv.map D.int)) := by rw [List.getElem?_append_left (List.getElem?_eq_some_iff.mp a1).1]; exact a1
    have a3 : (st1 ++ [AO.lst false ((tv.filter fun i => decide (i % 2 = 0)).map D.int)])[st1.length]? = some (.lst false ((tv.filter fun i => decide (i % 2 = 0)).map D.int)) := by simp
    generalize st1 ++ [AO.lst false ((tv.filter fun i => decide (i % 2 = 0)).map D.int)] = st2 at g2 f2 a2 a3
    generalize st1.length = L8 at a3
    have c1 : cmpD st2 .inn (.int ((t : Int) - 1)) (.loc L7) = some (decide ((t : Int) - 1 ∈ tv)) := by
      rw [inn_sim sim_int (ys := tv.map D.int) (by simp [seqOf, a2]) (sims_ints _)]; simp
    have c2 : cmpD st2 .eq (.loc L8) (.lst []) = some (decide (tv.filter (fun i => decide (i % 2 = 0)) = [])) := by
      rw [eq_locl a3, eq_sim (by simp [D.sim, sims_ints]) rfl]
      cases tv.filter (fun i => decide (i % 2 = 0)) <;> simp
    have q2 : evT p C (.or (.and (.val (.cmp .eq (.bin .mod (.var 5) (.cst (.int (2)))) (.cst (.int (1))))) (.val (.cmp .inn (.bin .sub (.var 5) (.cst (.int (1)))) (.var 7)))) (.and (.val (.cmp .eq (.bin .mod (.var 5) (.cst (.int (2)))) (.cst (.int (0))))) (.val (.cmp .eq (.var 8) (.lst .nil))))) (eV c ws b.length (some (tI s)) t Lf (some (.loc L7)) (some (.loc L8))) st2 = .ok (settledAt ws (lkS kn) t s) st2 := by
      rw [hset]
      simp only [evT, evE, evEs, List.getElem?_cons_zero, List.getElem?_cons_succ, froz_d, froz_fl, Res.bind_okP, binD, binI, Option.map_some, ofOpt_some, eq_int, c1, c2]
      have e2 : binI .mod (t : Int) 2 = some (.int ((t : Int) % 2)) := rfl
      by_cases h1 : (t : Int) % 2 = 1
      · have h0 : ¬ (t : Int) % 2 = 0 := by omega
        by_cases e : (t : Int) - 1 ∈ tv <;> simp [h1, c1, e]
      · simp [h1]
        by_cases h0 : (t : Int) % 2 = 0
        · simp [h0, c2]
        · simp [h0]
    rw [ss_one]
    have hfr : freshOf ws (lkS kn) t (pre ++ [s]) = freshOf ws (lkS kn) t pre ++ (if settledAt ws (lkS kn) t s = true then [s] else []) := by
      simp only [freshOf, List.filter_append]
      congr 1
      simp [List.filter_cons, hk]
    cases hse : settledAt ws (lkS kn) t s with
    | false =>
      rw [hse] at q2
      refine ⟨some (.loc L7), some (.loc L8), st2, (s_ifF q2).trans ss_nl, g2, ?_⟩
      rw [f2, hfr, hse]
      simp
    | true =>
      rw [hse] at q2
      have hfl2 : ((freshOf ws (lkS kn) t pre).map tI).length < lim := by
        have := List.length_filter_le (fun s => (lkS kn s).isNone && settledAt ws (lkS kn) t s) pre
        simp [freshOf]
        unfold lim
        omega
      refine ⟨some (.loc L7), some (.loc L8), st2.set Lf (.lst false ((freshOf ws (lkS kn) t (pre ++ [s])).map tI)), ?_, g2.set hL, List.getElem?_set_self (List.getElem?_eq_some_iff.mp f2).1⟩
      rw [s_ifT q2, ss_one, hfr, hse]
      have hfl3 : (freshOf ws (lkS kn) t pre).length < lim := by simpa using hfl2
      simp [evS, evE, evEs, tyB, isL, seqOf, f2, bmtD, appD, hfl3]
end
end Mn.LS
end

section
set_option Elab.async false
set_option linter.all false
set_option maxRecDepth 100000
set_option maxHeartbeats 2000000
/-! Plain: the laws' own survey: a round. -/
namespace Mn.LS
open PySem L84
section
variable {b st : Store} {c : Nat} {ws : List Way} {kn : List (List Int × Nat)} {p : PTab} {fuel n : Nat} {C : Calls} {t : Nat} {Lf : Nat} {x4 x7 x8 : Option D}
theorem SV.lock (h : SV b c ws false kn st) : SV b c ws true kn (st.set b.length (.dct true true (behD b.length (rows c).zipIdx))) := by
  have hl := h.len
  refine ⟨List.getElem?_set_self (by omega), by rw [List.getElem?_set_ne (by omega)]; exact h.fnd, fun q hq => by rw [List.getElem?_set_ne (by omega)]; exact h.fls q hq, by simpa using hl, fun j hj => by rw [List.getElem?_set_ne (by omega)]; exact h.old j hj⟩
theorem SV.unlock (h : SV b c ws true kn st) : SV b c ws false kn (Mn.unlock st (some b.length)) ∧ (Mn.unlock st (some b.length)).length = st.length ∧ ∀ j, j ≠ b.length → (Mn.unlock st (some b.length))[j]? = st[j]? := by
  have hl := h.len
  have e : Mn.unlock st (some b.length) = st.set b.length (.dct true false (behD b.length (rows c).zipIdx)) := by simp [Mn.unlock, h.beh]
  rw [e]
  refine ⟨⟨List.getElem?_set_self (by omega), by rw [List.getElem?_set_ne (by omega)]; exact h.fnd, fun q hq => by rw [List.getElem?_set_ne (by omega)]; exact h.fls q hq, by simpa using hl, fun j hj => by rw [List.getElem?_set_ne (by omega)]; exact h.old j hj⟩, by simp, fun j hj => by rw [List.getElem?_set_ne (by omega)]⟩
theorem beh_keys {L : Nat} : (behD L (rows c).zipIdx).map (·.1) = (rows c).map tI := by
  unfold behD
  rw [List.map_map]
  have : (rows c).zipIdx.map (·.1) = rows c := by simp
  conv => rhs; rw [← this]
  rw [List.map_map]
  rfl
theorem l_walk (hc : c ≤ 8) (hws : ws.length < 1000) (h : SV b c ws false kn st) (hL : b.length + 2 + (rows c).length ≤ Lf) (hf : st[Lf]? = some (.lst false [])) :
    ∃ y4 y7 y8 st', evS p C fuel m__law_survey_l2 (eV c ws b.length x4 t Lf x7 x8) st = .nx (eV c ws b.length y4 t Lf y7 y8) st' ∧ SV b c ws false kn st' ∧ st'[Lf]? = some (.lst false ((freshOf ws (lkS kn) t (rows c)).map tI)) := by
  have hr : (rows c).length ≤ 256 := by rw [rows_len]; exact Nat.pow_le_pow_right (n := 2) (by omega) hc
  have hl := h.len
  have hsq : seqOf st (.loc b.length) = none := by simp [seqOf, h.beh]
  have hi : evI p C (.val (.var 2)) (eV c ws b.length x4 t Lf x7 x8) st = .ok ⟨(rows c).map tI, stillL (st.set b.length (.dct true true (behD b.length (rows c).zipIdx))) (.loc b.length), some b.length⟩ (st.set b.length (.dct true true (behD b.length (rows c).zipIdx))) := by
    simp only [evI, evE, List.getElem?_cons_zero, List.getElem?_cons_succ, froz_d, Res.bind_okP, hsq, lockD, h.beh, beh_keys]
  have g0 := h.lock
  have f0 : (st.set b.length (.dct true true (behD b.length (rows c).zipIdx)))[Lf]? = some (.lst false []) := by rw [List.getElem?_set_ne (by omega)]; exact hf
  simp only [m__law_survey_l2, evS, hi, toS_ok]
  have hB : (st.set b.length (.dct true true (behD b.length (rows c).zipIdx)))[b.length]? = some (.dct true true (behD b.length (rows c).zipIdx)) := g0.beh
  generalize st.set b.length (.dct true true (behD b.length (rows c).zipIdx)) = st0 at g0 f0 hB
  rw [if_pos (by simp)]
  have key := fr_listR (f := fun d env st => match bindTg (.name 4) d env with
    | some env' => turnR ⟨(rows c).map tI, stillL st0 (.loc b.length), some b.length⟩ (evSs p C fuel (.cons (.ifs (.val (.cmp .nin (.var 4) (.var 3))) (.cons (.asg 7 true (.lc (.bmt .get (.var 3) (.cons true (.var 10) (.cons true (.neg (.cst (.int (2)))) .nil))) (.name 10) (.val (.ix (.var 2) (.var 4))) .tt)) (.cons (.asg 8 true (.lc (.var 11) (.name 11) (.val (.var 7)) (.val (.cmp .eq (.bin .mod (.var 11) (.cst (.int (2)))) (.cst (.int (0))))))) (.cons (.ifs (.or (.and (.val (.cmp .eq (.bin .mod (.var 5) (.cst (.int (2)))) (.cst (.int (1))))) (.val (.cmp .inn (.bin .sub (.var 5) (.cst (.int (1)))) (.var 7)))) (.and (.val (.cmp .eq (.bin .mod (.var 5) (.cst (.int (2)))) (.cst (.int (0))))) (.val (.cmp .eq (.var 8) (.lst .nil))))) (.cons (.ex (.bmt .append (.var 6) (.cons true (.var 4) .nil))) .nil) .nil) .nil))) .nil) .nil) env' st)
    | none => .bad) tI (fun rem env st => ∃ pre x4 x7 x8, pre ++ rem = rows c ∧ env = eV c ws b.length x4 t Lf x7 x8 ∧ SV b c ws true kn st ∧ st[Lf]? = some (.lst false ((freshOf ws (lkS kn) t pre).map tI))) (fun s rem env st ii => by
      obtain ⟨pre, x4, x7, x8, hp, rfl, g, f⟩ := ii
      have hq : (s, pre.length) ∈ (rows c).zipIdx := by
        rw [List.mem_zipIdx_iff_getElem?, ← hp]
        simp
      have hpl : pre.length < 300 := by
        have := congrArg List.length hp
        simp at this
        omega
      obtain ⟨y7, y8, st', e, g', f'⟩ := l_row (p := p) (fuel := fuel) (C := C) (x7 := x7) (x8 := x8) hc hws g hL f hpl hq
      refine ⟨_, st', ?_, pre ++ [s], some (tI s), y7, y8, by simp [← hp], rfl, g', f'⟩
      simp only [bindTg, List.set]
      rw [show [some (D.int c), some (wsD ws), some (.loc b.length), some (.loc (b.length + 1)), some (tI s), some (.int t), some (.loc Lf), x7, x8, none, none, none] = eV c ws b.length (some (tI s)) t Lf x7 x8 from rfl, e]
      simp only [turn_nx, still_loc, hB, g'.beh, decide_true, if_true]) (rows c) (env := eV c ws b.length x4 t Lf x7 x8) (st := st0) ⟨[], x4, x7, x8, rfl, rfl, g0, by simpa [freshOf] using f0⟩
  obtain ⟨env', st', e, pre, y4, y7, y8, hp, rfl, g, f⟩ := key
  rw [List.append_nil] at hp
  subst hp
  obtain ⟨u1, u2, u3⟩ := g.unlock
  refine ⟨y4, y7, y8, Mn.unlock st' (some b.length), ?_, u1, by rw [u3 _ (by omega)]; exact f⟩
  exact (congrArg (RS.unl (some b.length)) e).trans rfl
end
end Mn.LS
end

section
set_option Elab.async false
set_option linter.all false
set_option maxRecDepth 100000
set_option maxHeartbeats 2000000
/-! Plain: the laws' own survey, whole. -/
namespace Mn.LS
open PySem L84
section
variable {b st : Store} {c : Nat} {ws : List Way} {kn wt : List (List Int × Nat)} {p : PTab} {fuel n : Nat} {C : Calls} {t : Nat} {Lf : Nat} {x4 x6 x7 x8 : Option D}
theorem SV.put {kn' : List (List Int × Nat)} (h : SV b c ws false kn st) : SV b c ws false kn' (st.set (b.length + 1) (.dct true false (knD kn'))) := by
  have hl := h.len
  exact ⟨by rw [List.getElem?_set_ne (by omega)]; exact h.beh, List.getElem?_set_self (by omega), fun q hq => by rw [List.getElem?_set_ne (by omega)]; exact h.fls q hq, by simpa using hl, fun j hj => by rw [List.getElem?_set_ne (by omega)]; exact h.old j hj⟩
theorem l_puts (fs : List (List Int)) (h : SV b c ws false kn st) (hL : b.length + 2 + (rows c).length ≤ Lf) (hf : st[Lf]? = some (.lst false (fs.map tI))) (hnd : fs.Nodup) (hdj : ∀ s ∈ fs, s ∉ kn.map (·.1)) (hsz : kn.length + fs.length < 1000) :
    ∃ y4 st', evS p C fuel m__law_survey_l3 (eV c ws b.length x4 t Lf x7 x8) st = .nx (eV c ws b.length y4 t Lf x7 x8) st' ∧ SV b c ws false (kn ++ fs.map fun s => (s, t)) st' := by
  have hl := h.len
  have hsq : seqOf st (.loc Lf) = some (fs.map tI) := by simp [seqOf, hf]
  have hi : evI p C (.val (.var 6)) (eV c ws b.length x4 t Lf x7 x8) st = .ok ⟨fs.map tI, stillL st (.loc Lf), none⟩ st := by
    simp only [evI, evE, List.getElem?_cons_zero, List.getElem?_cons_succ, froz_d, Res.bind_okP, hsq]
  simp only [m__law_survey_l3, evS, hi, toS_ok, unl_none]
  rw [if_pos (by simp)]
  have key := fr_listR (f := fun d env s0 => match bindTg (.name 4) d env with
    | some env' => turnR ⟨fs.map tI, stillL st (.loc Lf), none⟩ (evSs p C fuel (.cons (.iset (.var 3) (.var 4) true (.var 5)) .nil) env' s0)
    | none => .bad) tI (fun rem env st => ∃ done x4, done ++ rem = fs ∧ env = eV c ws b.length x4 t Lf x7 x8 ∧ SV b c ws false (kn ++ done.map fun s => (s, t)) st ∧ st[Lf]? = some (.lst false (fs.map tI))) (fun s rem env s0 ii => by
      obtain ⟨done, x4, hp, rfl, g, f⟩ := ii
      have hs : s ∈ fs := by rw [← hp]; simp
      have hnew : s ∉ (kn ++ done.map fun s => (s, t)).map (·.1) := by
        simp only [List.map_append, List.map_map, List.mem_append, not_or]
        refine ⟨hdj s hs, fun z => ?_⟩
        obtain ⟨r, hr, e⟩ := List.mem_map.mp z
        have e : r = s := e
        subst e
        rw [← hp] at hnd
        exact (List.nodup_append.mp hnd).2.2 r hr r (List.mem_cons_self ..) rfl
      have hput := putD_new (t := t) hnew
      have hlen : (kn ++ done.map fun s => (s, t)).length < lim := by
        have := congrArg List.length hp
        simp at this ⊢
        unfold lim
        omega
      have hkl : (knD (kn ++ done.map fun s => (s, t))).length < lim := by
        unfold knD
        rw [List.length_map]
        exact hlen
      have hset : isetD s0 (.loc (b.length + 1)) (tI s) (.int t) = some (s0.set (b.length + 1) (.dct true false (knD ((kn ++ done.map fun s => (s, t)) ++ [(s, t)])))) := by
        simp only [isetD, g.fnd, isKey_tI, hkl, and_self, if_true, hput]
      have e1 : (kn ++ done.map fun s => (s, t)) ++ [(s, t)] = kn ++ (done ++ [s]).map fun s => (s, t) := by simp
      rw [e1] at hset
      have hst : (s0.set (b.length + 1) (.dct true false (knD (kn ++ (done ++ [s]).map fun s => (s, t)))))[Lf]? = st[Lf]? := by rw [List.getElem?_set_ne (by omega), f, hf]
      refine ⟨eV c ws b.length (some (tI s)) t Lf x7 x8, _, ?_, done ++ [s], some (tI s), by simp [← hp], rfl, g.put (kn' := kn ++ (done ++ [s]).map fun s => (s, t)), by rw [List.getElem?_set_ne (by omega)]; exact f⟩
      simp only [bindTg, List.set, ss_one]
      simp only [evS, evE, List.getElem?_cons_zero, List.getElem?_cons_succ, kept_d, if_true, froz_d, toS_ok, hset, nxOpt_some, turn_nx, still_loc, hst, decide_true]) fs (env := eV c ws b.length x4 t Lf x7 x8) (st := st) ⟨[], x4, rfl, rfl, by simpa using h, hf⟩
  obtain ⟨env', st', e, done, y4, hp, rfl, g, f⟩ := key
  rw [List.append_nil] at hp
  subst hp
  exact ⟨y4, st', e, g⟩
theorem fresh_fnd (i : SInv c ws t kn wt) : freshOf ws (lkS kn) t (rows c) = fndOf ws kn wt t := by
  unfold fndOf freshOf
  rw [i.wt_, List.filter_filter, i.lkf]
  have e : (rows c).zipIdx.map (·.1) = rows c := by simp
  conv => lhs; rw [← e]
  rw [List.filter_map]
  congr 1
  apply List.filter_congr
  intro q _
  simp only [Function.comp]
  rw [Bool.and_comm]
/-- a round -/
theorem l_round (hc : c ≤ 8) (hws : ws.length < 1000) (h : SV b c ws false kn st) (i : SInv c ws t kn wt) :
    ∃ y4 y6 y7 y8 st' kn' wt', evSs p C fuel (.cons (.asg 6 true (.lst .nil)) (.cons m__law_survey_l2 (.cons m__law_survey_l3 .nil))) [some (.int c), some (wsD ws), some (.loc b.length), some (.loc (b.length + 1)), x4, some (.int t), x6, x7, x8, none, none, none] st = .nx [some (.int c), some (wsD ws), some (.loc b.length), some (.loc (b.length + 1)), y4, some (.int t), y6, y7, y8, none, none, none] st' ∧ SV b c ws false kn' st' ∧ SInv c ws (t + 1) kn' wt' := by
  have hr : (rows c).length ≤ 256 := by rw [rows_len]; exact Nat.pow_le_pow_right (n := 2) (by omega) hc
  have hl := h.len
  have s1 : evS p C fuel (.asg 6 true (.lst .nil)) [some (.int c), some (wsD ws), some (.loc b.length), some (.loc (b.length + 1)), x4, some (.int t), x6, x7, x8, none, none, none] st = .nx (eV c ws b.length x4 t st.length x7 x8) (st ++ [.lst false []]) := by
    simp [evS, evE, evEs]
  have g1 := h.app [.lst false []]
  have f1 : (st ++ [AO.lst false []])[st.length]? = some (.lst false []) := by simp
  obtain ⟨y4, y7, y8, st2, e2, g2, f2⟩ := l_walk (p := p) (fuel := fuel) (C := C) (x4 := x4) (x7 := x7) (x8 := x8) (t := t) hc hws g1 (by omega) f1
  have hfr := fresh_fnd i
  have hnd : (freshOf ws (lkS kn) t (rows c)).Nodup := (rows_nodup c).sublist List.filter_sublist
  have hdj : ∀ s ∈ freshOf ws (lkS kn) t (rows c), s ∉ kn.map (·.1) := fun s hs hk => by
    have hn := (List.mem_filter.mp hs).2
    simp only [Bool.and_eq_true, Option.isNone_iff_eq_none] at hn
    have h2 : List.lookup s kn = none := hn.1
    rw [List.lookup_eq_none_iff] at h2
    obtain ⟨r, hr, e⟩ := List.mem_map.mp hk
    have := h2 r hr
    simp [e] at this
  have hle : (freshOf ws (lkS kn) t (rows c)).length ≤ (rows c).length := List.length_filter_le ..
  have hkn : kn.length ≤ (rows c).length := by have := i.len; omega
  obtain ⟨z4, st3, e3, g3⟩ := l_puts (p := p) (fuel := fuel) (C := C) (x4 := y4) (x7 := y7) (x8 := y8) (t := t) _ g2 (by omega) f2 hnd hdj (by omega)
  have step := i.step
  rw [mv_fold] at step
  rw [← hfr] at step
  refine ⟨z4, some (.loc st.length), y7, y8, st3, _, _, ?_, g3, step⟩
  rw [ss_nx s1, ss_nx e2, ss_one]
  exact e3
end
end Mn.LS
end

section
set_option Elab.async false
set_option linter.all false
set_option maxRecDepth 100000
set_option maxHeartbeats 2000000
/-! Plain: what the laws' own survey returns. -/
namespace Mn.LS
open PySem L84
section
variable {b st : Store} {c : Nat} {ws : List Way} {kn wt : List (List Int × Nat)} {p : PTab} {fuel n : Nat} {C : Calls} {F : Fn → Option MDef} {x4 x5 x6 x7 x8 : Option D}
theorem sinv0 : SInv c ws 0 [] (rows c).zipIdx := by
  refine ⟨fun s => rfl, ?_, by simp⟩
  rw [List.filter_eq_self.mpr]
  intro q _
  rfl
theorem l_all (hc : c ≤ 8) (hws : ws.length < 1000) (h : SV b c ws false [] st) :
    ∃ env' st', evS p C fuel m__law_survey_l4 [some (.int c), some (wsD ws), some (.loc b.length), some (.loc (b.length + 1)), x4, x5, x6, x7, x8, none, none, none] st = .nx env' st' ∧ ∃ y4 y5 y6 y7 y8 kn wt, env' = [some (.int c), some (wsD ws), some (.loc b.length), some (.loc (b.length + 1)), y4, y5, y6, y7, y8, none, none, none] ∧ SV b c ws false kn st' ∧ SInv c ws 66 kn wt := by
  simp only [m__law_survey_l4, evS, evI, e_int, froz_d, Res.bind_okP]
  rw [if_pos (by decide), toS_ok]
  simp only [if_true, unl_none]
  refine fr_relR (fun i env st => ∃ y4 y5 y6 y7 y8 kn wt, env = [some (.int c), some (wsD ws), some (.loc b.length), some (.loc (b.length + 1)), y4, y5, y6, y7, y8, none, none, none] ∧ SV b c ws false kn st ∧ SInv c ws i kn wt) (n := 66) ⟨x4, x5, x6, x7, x8, [], (rows c).zipIdx, rfl, h, sinv0⟩ fun i hi env st ii => ?_
  obtain ⟨y4, y5, y6, y7, y8, kn, wt, rfl, g, iv⟩ := ii
  obtain ⟨z4, z6, z7, z8, st', kn', wt', e, g', iv'⟩ := l_round (p := p) (fuel := fuel) (C := C) (x4 := y4) (x6 := y6) (x7 := y7) (x8 := y8) hc hws g iv
  refine ⟨_, st', ?_, z4, some (.int i), z6, z7, z8, kn', wt', rfl, g', iv'⟩
  simp only [bindTg, List.set]
  rw [e]
  simp only [turn_nx, if_true]
theorem c_lsurvey (V : HasV F) (hc : c ≤ 8) (hws : ws.length < 1000) (b : Store) : ∃ kn, (∀ s, lkS kn s = Kf c ws 66 s) ∧ kn.length ≤ 256 ∧ callN p fuel F (n + 3) ("_law_survey", none) [.int c, wsD ws] b = .ok (.fd true (knD kn)) b := by
  have hr : (rows c).length ≤ 256 := by rw [rows_len]; exact Nat.pow_le_pow_right (n := 2) (by omega) hc
  rw [call_go V.survey rfl]
  have s1 : evS p (callN p fuel F (n + 2)) fuel (.asgs [2, 3] (.cons true (.dct true) (.cons true (.dct true) .nil))) [some (.int c), some (wsD ws), none, none, none, none, none, none, none, none, none, none] b = .nx [some (.int c), some (wsD ws), some (.loc b.length), some (.loc (b.length + 1)), none, none, none, none, none, none, none, none] (bhI b c ws 0) := by
    simp only [evS, evEs, evE, if_true, kept_fd, Res.bind_okP, toS_ok]
    simp [setAll, bhI, behD]
  obtain ⟨sl, e1⟩ := l_beh (p := p) (fuel := fuel) (n := n) V.toHasH hws hc b
  have g : SV b c ws false [] (bhI b c ws (rows c).length) := by
    have ht : (rows c).zipIdx.take (rows c).length = (rows c).zipIdx := by
      have : (rows c).length = (rows c).zipIdx.length := by simp
      rw [this, List.take_length]
    refine ⟨?_, ?_, fun q hq => ?_, by rw [bhI_len (Nat.le_refl _)]; exact Nat.le_refl _, fun j hj => ?_⟩
    · rw [bhI_0, ht]
    · unfold bhI
      rw [off_get]
      rfl
    · have h1 := List.mem_zipIdx_iff_getElem?.mp hq
      have h2 := (List.getElem?_eq_some_iff.mp h1).1
      unfold bhI
      rw [Nat.add_assoc, off_get, List.getElem?_append_right (by simp)]
      simp [h1, List.take_length]
    · unfold bhI
      rw [List.getElem?_append_left hj]
  obtain ⟨env', st', e2, y4, y5, y6, y7, y8, kn, wt, rfl, g2, iv⟩ := l_all (p := p) (fuel := fuel) (C := callN p fuel F (n + 2)) (x4 := sl) (x5 := none) (x6 := none) (x7 := none) (x8 := none) hc hws g
  have hkl : kn.length ≤ 256 := by have := iv.len; omega
  refine ⟨kn, iv.kn_, hkl, ?_⟩
  have s3 : evS p (callN p fuel F (n + 2)) fuel (.ret (.var 3)) [some (.int c), some (wsD ws), some (.loc b.length), some (.loc (b.length + 1)), y4, y5, y6, y7, y8, none, none, none] st' = .rt (.d (.loc (b.length + 1))) st' := by
    simp [evS, evE]
  have body : evSs p (callN p fuel F (n + 2)) fuel m__law_survey.body (List.map some [D.int c, wsD ws] ++ List.replicate (m__law_survey.n - m__law_survey.np) none) b = .rt (.d (.loc (b.length + 1))) st' := by
    show evSs p (callN p fuel F (n + 2)) fuel (.cons _ (.cons _ (.cons _ (.cons _ .nil)))) _ _ = _
    refine (ss_nx s1).trans ((ss_nx e1).trans ((ss_nx e2).trans ?_))
    rw [ss_one]
    exact s3
  rw [body]
  show trim b st' _ = _
  have hl := g2.len
  have ok : okPre b.length b st' = true := okPre_iff (by omega) fun j o o' e e' => by
    left
    rw [g2.old j (List.getElem?_eq_some_iff.mp e).1, e] at e'
    exact Option.some.inj e'
  have fr : (RV.d (.loc (b.length + 1))).fresh b.length st' = some (.fd true (knD kn)) := by
    unfold RV.fresh
    simp only [show ¬ (b.length + 1 < b.length) by omega, if_false, g2.fnd]
    rw [if_pos (bndp_kn kn)]
  have tk : st'.take b.length = b := by
    apply List.ext_getElem?
    intro j
    rw [List.getElem?_take]
    by_cases hj : j < b.length
    · rw [if_pos hj, g2.old j hj]
    · rw [if_neg hj, List.getElem?_eq_none (by omega)]
  unfold trim
  rw [if_pos ok, fr]
  simp only [tk]
end
end Mn.LS
end

section
set_option Elab.async false
set_option linter.all false
set_option maxRecDepth 100000
set_option maxHeartbeats 2000000
/-! Plain: best moves. -/
namespace Mn
open PySem L84
/-- the best moves, by the steps of all -/
def bestW (K : List Int → Option Nat) (ws : List Way) (s : List Int) : List Way := (from_ ws s).filter fun w => decide ((match K (play s w) with | some m => (m : Int) | none => -1) = (match K s with | some m => (m : Int) - 1 | none => -1))
theorem Kf_mono {c : Nat} {ws : List Way} {t : Nat} {s : List Int} {m : Nat} (h : Kf c ws t s = some m) : Kf c ws (t + 1) s = some m := by simp only [Kf, h]
theorem Kf_lost {c : Nat} {ws : List Way} : ∀ {t : Nat} {s : List Int} {m : Nat}, Kf c ws t s = some m → m % 2 = 0 → ∀ f ∈ foll ws s, (Kf c ws t f).isSome = true
  | 0, s, m, h, _, f, hf => by cases h
  | t + 1, s, m, h, he, f, hf => by
    simp only [Kf] at h
    cases e : Kf c ws t s with
    | some m' =>
      rw [e] at h
      cases h
      obtain ⟨k, hk⟩ := Option.isSome_iff_exists.mp (Kf_lost e he f hf)
      rw [Kf_mono hk]; rfl
    | none =>
      rw [e] at h
      dsimp only at h
      split at h
      · rename_i hc
        cases h
        have hs := hc.2
        unfold settledAt at hs
        rw [if_neg (by omega), List.all_eq_true] at hs
        have := hs f hf
        cases q : Kf c ws t f with
        | none => rw [q] at this; cases this
        | some k => rw [Kf_mono q]; rfl
      · cases h
structure HasB (p : PTab) (F : Fn → Option MDef) : Prop extends HasS p F where
  best : F ("Survey", some "best") = some m_Survey_best2
  sm4 : p.isM "Survey" "best" = true
section
variable {p : PTab} {fuel n : Nat} {F : Fn → Option MDef} {c : Nat} {ws : List Way} {kn wt : List (List Int × Nat)} {st : Store} {L w : Nat}
theorem ways_tup {l : List Way} : D.tup (l.map wD) = wsD l := rfl
theorem c_best (B : HasB p F) (V : SvAt st L w ws kn wt) (hw : WebAt st w c ws) (o : WebOk c ws) {s : List Int} (hs : s.length < 700) (hl : ∀ m, lkS kn s = some m → m % 2 = 0 → ∀ f ∈ foll ws s, (lkS kn f).isSome = true) :
    callN p fuel F (n + 3) ("Survey", some "best") [.loc L, tI s] st = .ok (.d (wsD (bestW (lkS kn) ws s))) st := by
  rw [call_go B.best rfl]
  have hlim : (from_ ws s).length ≤ lim := by have := o.len; have := List.length_filter_le (fun w : Way => decide (w.1 ∈ s)) ws; unfold from_ lim; omega
  have hw1 : ∀ f, callN p fuel F (n + 2) ("Survey", some "word") [.loc L, tI f] st = .ok (.d (.str (Str.ofString (wordK (lkS kn) f)))) st := fun f => c_word (K := lkS kn) B.toHasS V.sv V.kn_ f (look_map (g := fun m : Nat => D.int m) (l := kn))
  have hfr := c_ways_from (p := p) (fuel := fuel) (n := n + 1) B.toHasW hw o s
  have hpl : ∀ v : Way, callN p fuel F (n + 2) ("played", none) [tI s, wD v] st = .ok (.d (tI (play s v))) st := fun v => c_played (p := p) (fuel := fuel) (n := n) B.toggled B.played s v st (by omega)
  have hdg : ∀ f : List Int, dgetD st (.loc (L + 1)) (tI f) = some ((lkS kn f).map fun m : Nat => D.int m) := fun f => by
    rw [dget_tI V.kn_]
    rw [show look (knD kn) (tI f) = _ from look_map (g := fun m : Nat => D.int m) (l := kn)]
    rfl
  have hixk : ∀ (f : List Int) (m : Nat), lkS kn f = some m → ixD st (.loc (L + 1)) (tI f) = some (.int m) := fun f m e => by
    rw [ix_dct V.kn_, show look (knD kn) (tI f) = _ from look_map (g := fun m : Nat => D.int m) (l := kn)]
    show (lkS kn f).map _ = _
    rw [e]; rfl
  have s1 : evS p (callN p fuel F (n + 2)) fuel (.asgs [2, 3] (.cons true (.meth (.var 0) "word" (.cons true (.var 1) .nil)) (.cons true (.call "ways_from" (.cons true (.fld (.var 0) "web") (.cons true (.var 1) .nil))) .nil))) [some (.loc L), some (tI s), none, none, none] st = .nx [some (.loc L), some (tI s), some (.str (Str.ofString (wordK (lkS kn) s))), some (wsD (from_ ws s)), none] st := by
    have := hw1 s
    have hsv := V.sv
    simp only [svO] at hsv
    simp [evS, evEs, evE, hsv, List.lookup, B.sp1, B.sf1, B.sm3, this, hfr, setAll]
  have hE := fun (K : List Int → Option Nat) (f : List Int) (x : String) (hx : D.sim 60 (.str (Str.ofString x)) = true) => eq_word (st := st) (K := K) (s := f) hx
  simp only [m_Survey_best2, evSs, List.map_cons, List.map_nil, List.cons_append, List.nil_append, List.replicate, s1, seq_nx]
  cases hk : lkS kn s with
  | none =>
    have hwd : wordK (lkS kn) s = "drawn" := by unfold wordK; rw [hk]
    have e0 : cmpD st .eq (.str (Str.ofString "drawn")) (.str (Str.ofString "drawn")) = some true := by rw [eq_sim sim_drawn sim_drawn]; simp
    have hsv := V.sv
    simp only [svO] at hsv
    simp [evS, evSs, evE, evEs, evT, evI, B.drawn, hwd, e0, tgs, wipeE, hlim]
    rw [lc_ways (h := fun v => if decide (wordK (lkS kn) (play s v) = "drawn") = true then some (wD v) else none) (fun v _ => by
      have h1 := hpl v
      have h2 := hw1 (play s v)
      have h3 := hE (lkS kn) (play s v) "drawn" sim_drawn
      simp [bindTg, hsv, List.lookup, B.sm3, h1, h2, h3]
      by_cases e : wordK (lkS kn) (play s v) = "drawn" <;> simp [e]), fm_if (fun v : Way => decide (wordK (lkS kn) (play s v) = "drawn")) wD]
    have hb : (from_ ws s).filter (fun v : Way => decide (wordK (lkS kn) (play s v) = "drawn")) = bestW (lkS kn) ws s := by
      unfold bestW
      apply List.filter_congr
      intro v _
      rw [hk]
      unfold wordK
      cases lkS kn (play s v) with
      | none => simp
      | some k => by_cases h2 : k % 2 = 0 <;> simp [h2] <;> omega
    rw [hb]
    simp [ways_tup]
  | some m =>
    have hkn := hixk s m hk
    have hsv := V.sv
    simp only [svO] at hsv
    have ad : binI .sub (m : Int) 1 = some (.int ((m : Int) - 1)) := rfl
    by_cases hm : m % 2 = 0
    · have hwd : wordK (lkS kn) s = "lost" := by unfold wordK; rw [hk]; simp [hm]
      have e0 : cmpD st .eq (.str (Str.ofString "lost")) (.str (Str.ofString "drawn")) = some false := by rw [eq_sim sim_lost sim_drawn]; decide +kernel
      have e1 : cmpD st .eq (.str (Str.ofString "lost")) (.str (Str.ofString "won")) = some false := by rw [eq_sim sim_lost sim_won]; decide +kernel
      simp [evS, evSs, evE, evEs, evT, evI, B.drawn, B.won, hwd, e0, e1, tgs, wipeE, hlim]
      rw [lc_ways (h := fun v => if decide (lkS kn (play s v) = some (m - 1) ∧ 0 < m) = true then some (wD v) else none) (fun v hv => by
        have h1 := hpl v
        obtain ⟨k, hk2⟩ := Option.isSome_iff_exists.mp (hl m hk hm (play s v) (List.mem_map.mpr ⟨v, hv, rfl⟩))
        have h3 := hixk _ k hk2
        simp [bindTg, hsv, List.lookup, B.sp2, B.sf2, h1, h3, hkn, binD, ad, hk2]
        by_cases e : (k : Int) = (m : Int) - 1
        · have : k = m - 1 ∧ 0 < m := by omega
          simp [e, this.1, this.2]
          omega
        · have : ¬ (k = m - 1 ∧ 0 < m) := by omega
          simp [e, this]), fm_if (fun v : Way => decide (lkS kn (play s v) = some (m - 1) ∧ 0 < m)) wD]
      have hb : (from_ ws s).filter (fun v : Way => decide (lkS kn (play s v) = some (m - 1) ∧ 0 < m)) = bestW (lkS kn) ws s := by
        unfold bestW
        apply List.filter_congr
        intro v hv
        obtain ⟨k, hk2⟩ := Option.isSome_iff_exists.mp (hl m hk hm (play s v) (List.mem_map.mpr ⟨v, hv, rfl⟩))
        rw [hk, hk2]
        apply decide_eq_decide.mpr
        show (some k = some (m - 1) ∧ 0 < m) ↔ ((k : Int) = (m : Int) - 1)
        rw [Option.some.injEq]
        omega
      rw [hb]
      simp [ways_tup]
    · have hwd : wordK (lkS kn) s = "won" := by unfold wordK; rw [hk]; simp [hm]
      have e0 : cmpD st .eq (.str (Str.ofString "won")) (.str (Str.ofString "drawn")) = some false := by rw [eq_sim sim_won sim_drawn]; decide +kernel
      have e1 : cmpD st .eq (.str (Str.ofString "won")) (.str (Str.ofString "won")) = some true := by rw [eq_sim sim_won sim_won]; simp
      simp [evS, evSs, evE, evEs, evT, evI, B.drawn, B.won, hwd, e0, e1, tgs, wipeE, hlim]
      rw [lc_ways (h := fun v => if decide (lkS kn (play s v) = some (m - 1)) = true then some (wD v) else none) (fun v hv => by
        have h1 := hpl v
        have h3 := hdg (play s v)
        have e2 : cmpD st .eq (((lkS kn (play s v)).map fun m : Nat => D.int m).getD .non) (.int ((m : Int) - 1)) = some (decide (lkS kn (play s v) = some (m - 1))) := by
          cases lkS kn (play s v) with
          | none => rw [eq_sim (by rfl) sim_int]; simp
          | some k =>
            simp
            omega
        simp [bindTg, hsv, List.lookup, B.sp2, B.sf2, h1, hkn, binD, ad, tyB, dkOf, dctOf, V.kn_, bmtD, getD, h3, e2]
        by_cases e : lkS kn (play s v) = some (m - 1) <;> simp [e]), fm_if (fun v : Way => decide (lkS kn (play s v) = some (m - 1))) wD]
      have hb : (from_ ws s).filter (fun v : Way => decide (lkS kn (play s v) = some (m - 1))) = bestW (lkS kn) ws s := by
        unfold bestW
        apply List.filter_congr
        intro v hv
        rw [hk]
        cases lkS kn (play s v) with
        | none => simp; omega
        | some k => simp; omega
      rw [hb]
      simp [ways_tup]
end
end Mn
end

section
set_option Elab.async false
set_option linter.all false
set_option maxRecDepth 100000
set_option maxHeartbeats 2000000
/-! Plain: texts of standings, words of outcomes. -/
namespace Mn
open PySem L84
def numT (x : Int) : Str := Str.ofString (toString x)
def rowText (s : List Int) : Str := if s = [] then Str.ofString "-" else Txt.join (Str.ofString " ") (s.map numT)
theorem strsP_of : ∀ ys : List Str, strsOf (ys.map D.str) = some ys
  | [] => rfl
  | a :: ys => by simp [strsOf, strsP_of ys]
theorem num_len {x : Int} (h : 0 ≤ x ∧ x < 10) : (numT x).length ≤ 10 := by
  have := small_len (k := x.toNat) (by omega)
  unfold numT
  rw [Int.toNat_of_nonneg h.1] at this
  exact this
theorem str_num {C : Calls} {p : PTab} {st : Store} {x : Int} (h : 0 ≤ x ∧ x < 10) : bifR p C .str [.int x] st = .ok (.d (.str (numT x))) st := by
  rw [bif_d rfl]
  have hb : x.natAbs < 2 ^ 1900 := Nat.lt_of_lt_of_le (by omega : x.natAbs < 10) (Nat.le_trans (by decide : 10 ≤ 2 ^ 4) (Nat.pow_le_pow_right (by decide) (by decide)))
  show Res.ofOpt (strD [.int x]) st = _
  rw [show strD [.int x] = some (.d (.str (Str.ofString (toString x)))) from if_pos hb]
  rfl
theorem sum_num : ∀ {s : List Int}, (∀ x ∈ s, 0 ≤ x ∧ x < 10) → ((s.map numT).map (·.length)).sum ≤ 10 * s.length
  | [], _ => by simp
  | a :: s, h => by
    have := num_len (h a (List.mem_cons_self ..))
    have := sum_num (s := s) fun x hx => h x (List.mem_cons_of_mem _ hx)
    simp at this ⊢
    omega
theorem sp_len : (Str.ofString " ").length = 1 := by decide +kernel
theorem join_of {ys : List Str} {d : D} {st : Store} (hq : seqOf st d = some (ys.map D.str)) (h1 : (ys.map (·.length)).sum ≤ 10000) (h2 : ys.length ≤ 1000) : joinD st (.str (Str.ofString " ")) [d] = .ok (.d (.str (Txt.join (Str.ofString " ") ys))) st := by
  simp only [joinD, hq, Option.bind_some, strsP_of]
  rw [if_pos (by rw [sp_len]; unfold lim; omega)]
section
variable {p : PTab} {fuel n : Nat} {F : Fn → Option MDef} {st : Store}
theorem e_rowtext {C : Calls} {s : List Int} (hs : s.length ≤ 8) (h : ∀ x ∈ s, 0 ≤ x ∧ x < 10) : evE p C (.bmt .join (.cst (.str (Str.ofString " "))) (.cons true (.lc (.bif .str (.cons false (.var 1) .nil)) (.name 1) (.val (.var 0)) .tt) .nil)) [some (tI s), none] st = .ok (.d (.str (Txt.join (Str.ofString " ") (s.map numT)))) (st ++ [.lst false ((s.map numT).map D.str)]) := by
  have hl : s.length ≤ lim := by unfold lim; omega
  have e1 : evE p C (.lc (.bif .str (.cons false (.var 1) .nil)) (.name 1) (.val (.var 0)) .tt) [some (tI s), none] st = .ok (.fl ((s.map numT).map D.str)) st := by
    simp [evE, evI, evT, evEs, tgs, wipeE, bindTg, hl]
    rw [lc_ints (h := fun x => some (.str (numT x))) (fun x hx => by simp [str_num (h x hx)])]
    simp [fm_map]
  have hj := join_of (st := st ++ [.lst false ((s.map numT).map D.str)]) (d := .loc st.length) (ys := s.map numT) (by simp [seqOf]) (by have := sum_num h; omega) (by simp; omega)
  rw [show evE p C (.bmt .join (.cst (.str (Str.ofString " "))) (.cons true (.lc (.bif .str (.cons false (.var 1) .nil)) (.name 1) (.val (.var 0)) .tt) .nil)) [some (tI s), none] st = (evEs p C (.cons true (.lc (.bif .str (.cons false (.var 1) .nil)) (.name 1) (.val (.var 0)) .tt) .nil) [some (tI s), none] st).bind fun ds st => bmtD st .join (.str (Str.ofString " ")) ds by simp only [evE, froz_d, Res.bind_okP, tyB, if_true]]
  simp only [evEs, if_true, e1, kept_fl, Res.bind_okP, bmtD, hj]
theorem r_ifT {C : Calls} {t : Mn.T} {a b : E} {env : Env} {st st1 : Store} (h : evT p C t env st = .ok true st1) : evE p C (.ife t a b) env st = evE p C a env st1 := by simp only [evE, h]; rfl
theorem r_ifF {C : Calls} {t : Mn.T} {a b : E} {env : Env} {st st1 : Store} (h : evT p C t env st = .ok false st1) : evE p C (.ife t a b) env st = evE p C b env st1 := by simp only [evE, h]; rfl
theorem bnd_str {k : Nat} {x : Str} : D.bnd k (.str x) = true := by simp [D.bnd]
theorem c_stext (hF : F ("standing_text", none) = some m_standing_text) {s : List Int} (hs : s.length ≤ 8) (h : ∀ x ∈ s, 0 ≤ x ∧ x < 10) : callN p fuel F (n + 1) ("standing_text", none) [tI s] st = .ok (.d (.str (rowText s))) st := by
  rw [call_go hF rfl]
  have e := e_rowtext (p := p) (C := callN p fuel F n) (st := st) hs h
  have hne : cmpD st .ne (tI s) (.tup []) = some (decide (s ≠ [])) := by
    rw [ne_sim (sim_tI s) rfl]
    cases s <;> simp [tI]
  have t1 : evT p (callN p fuel F n) (.val (.cmp .ne (.var 0) (.tup .nil))) [some (tI s), none] st = .ok (decide (s ≠ [])) st := t_val (r_cmp (y := .tup []) (r_var rfl) (by simp only [evE, evEs]; rfl) hne)
  by_cases h0 : s = []
  · have q := r_ifF (a := .bmt .join (.cst (.str (Str.ofString " "))) (.cons true (.lc (.bif .str (.cons false (.var 1) .nil)) (.name 1) (.val (.var 0)) .tt) .nil)) (b := .cst (.str (Str.ofString "-"))) (t1.trans (by rw [h0]; rfl : _ = Res.ok false st))
    show endS st (evSs p (callN p fuel F n) fuel (.cons (.ret _) .nil) [some (tI s), none] st) = _
    rw [ss_one]
    simp only [evS, q]
    simp [evE, rowText, h0]
  · have q := (r_ifT (a := .bmt .join (.cst (.str (Str.ofString " "))) (.cons true (.lc (.bif .str (.cons false (.var 1) .nil)) (.name 1) (.val (.var 0)) .tt) .nil)) (b := .cst (.str (Str.ofString "-"))) (t1.trans (by simp [h0] : _ = Res.ok true st))).trans e
    show endS st (evSs p (callN p fuel F n) fuel (.cons (.ret _) .nil) [some (tI s), none] st) = _
    rw [ss_one]
    simp only [evS, q, toS_ok]
    rw [show rowText s = Txt.join (Str.ofString " ") (s.map numT) from if_neg h0]
    exact trim_app (fun j => by simp) bnd_str
end
end Mn
end

section
set_option Elab.async false
set_option linter.all false
set_option maxRecDepth 100000
set_option maxHeartbeats 2000000
/-! Plain: the laws' own texts and words. -/
namespace Mn.LS
open PySem L84
structure HasT (F : Fn → Option MDef) : Prop extends HasV F where
  end_word : F ("_law_end_word", none) = some m__law_end_word
  row_text : F ("_law_row_text", none) = some m__law_row_text
  best_steps : F ("_law_best_steps", none) = some m__law_best_steps
  line_about : F ("_law_line_about", none) = some m__law_line_about
theorem bnds_wD {k : Nat} (l : List Way) : D.bnds k (l.map wD) = true := by
  have := bnd_wsD (k := k) l
  simpa [wsD, D.bnd] using this
section
variable {p : PTab} {fuel n : Nat} {F : Fn → Option MDef} {st : Store} {kn : List (List Int × Nat)} {j : Nat} {lk : Bool} {s : List Int}
theorem c_rtext (H : HasT F) (hs : s.length ≤ 8) (h : ∀ x ∈ s, 0 ≤ x ∧ x < 10) : callN p fuel F (n + 1) ("_law_row_text", none) [tI s] st = .ok (.d (.str (rowText s))) st := by
  rw [call_go H.row_text rfl]
  have e := e_rowtext (p := p) (C := callN p fuel F n) (st := st) hs h
  have hne : cmpD st .eq (tI s) (.tup []) = some (decide (s = [])) := by
    rw [eq_sim (sim_tI s) rfl]
    cases s <;> simp [tI]
  have t1 : evT p (callN p fuel F n) (.val (.cmp .eq (.var 0) (.tup .nil))) [some (tI s), none] st = .ok (decide (s = [])) st := t_val (r_cmp (y := .tup []) (r_var rfl) (by simp only [evE, evEs]; rfl) hne)
  show endS st (evSs p (callN p fuel F n) fuel (.cons (.ret _) .nil) [some (tI s), none] st) = _
  rw [ss_one]
  by_cases h0 : s = []
  · have q := r_ifT (b := .bmt .join (.cst (.str (Str.ofString " "))) (.cons true (.lc (.bif .str (.cons false (.var 1) .nil)) (.name 1) (.val (.var 0)) .tt) .nil)) (a := .cst (.str (Str.ofString "-"))) (t1.trans (by rw [h0]; rfl : _ = Res.ok true st))
    simp only [evS, q]
    simp [evE, rowText, h0]
  · have q := (r_ifF (b := .bmt .join (.cst (.str (Str.ofString " "))) (.cons true (.lc (.bif .str (.cons false (.var 1) .nil)) (.name 1) (.val (.var 0)) .tt) .nil)) (a := .cst (.str (Str.ofString "-"))) (t1.trans (by simp [h0] : _ = Res.ok false st))).trans e
    simp only [evS, q, toS_ok]
    rw [show rowText s = Txt.join (Str.ofString " ") (s.map numT) from if_neg h0]
    exact trim_app (fun j => by simp) bnd_str
theorem inn_kn (h : st[j]? = some (.dct true lk (knD kn))) (s : List Int) : cmpD st .inn (tI s) (.loc j) = some (lkS kn s).isSome := by
  rw [inn_dct h, show look (knD kn) (tI s) = _ from look_map (g := fun m : Nat => D.int m) (l := kn)]
  show some ((lkS kn s).map _).isSome = _
  cases lkS kn s <;> rfl
theorem ix_kn (h : st[j]? = some (.dct true lk (knD kn))) {m : Nat} (hk : lkS kn s = some m) : ixD st (.loc j) (tI s) = some (.int m) := by
  rw [ix_dct h, show look (knD kn) (tI s) = _ from look_map (g := fun m : Nat => D.int m) (l := kn)]
  show (lkS kn s).map _ = _
  rw [hk]; rfl
theorem c_eword (H : HasT F) (h : st[j]? = some (.dct true lk (knD kn))) : callN p fuel F (n + 1) ("_law_end_word", none) [.loc j, tI s] st = .ok (.d (.str (Str.ofString (wordK (lkS kn) s)))) st := by
  rw [call_go H.end_word rfl]
  have t1 : evT p (callN p fuel F n) (.val (.cmp .inn (.var 1) (.var 0))) [some (.loc j), some (tI s)] st = .ok (lkS kn s).isSome st := t_val (r_cmp (r_var rfl) (r_var rfl) (inn_kn h s))
  show endS st (evSs p (callN p fuel F n) fuel (.cons (.ret (.ife _ _ _)) .nil) [some (.loc j), some (tI s)] st) = _
  rw [ss_one]
  cases hk : lkS kn s with
  | none =>
    rw [hk] at t1
    simp only [evS, r_ifF t1]
    simp [evE, wordK, hk]
  | some m =>
    rw [hk] at t1
    have hi := ix_kn h hk
    simp only [evS, r_ifT t1]
    have e2 : binI .mod (m : Int) 2 = some (.int ((m : Int) % 2)) := rfl
    by_cases hm : m % 2 = 0
    · have : (m : Int) % 2 = 0 := by omega
      have i0 : ixD st (.lst [.str (Str.ofString "lost"), .str (Str.ofString "won")]) (.int 0) = some (.str (Str.ofString "lost")) := ix_seq (i := 0) (xs := [.str (Str.ofString "lost"), .str (Str.ofString "won")]) rfl rfl
      simp [evE, evEs, hi, binD, e2, this, wordK, hk, hm, i0]
    · have : (m : Int) % 2 = 1 := by omega
      have i1 : ixD st (.lst [.str (Str.ofString "lost"), .str (Str.ofString "won")]) (.int 1) = some (.str (Str.ofString "won")) := ix_seq (i := 1) (xs := [.str (Str.ofString "lost"), .str (Str.ofString "won")]) rfl rfl
      simp [evE, evEs, hi, binD, e2, this, wordK, hk, hm, i1]
theorem c_bsteps (H : HasT F) (h : st[j]? = some (.dct true lk (knD kn))) {ws : List Way} (hws : ws.length < 1000) (hs : s.length < 700) : callN p fuel F (n + 3) ("_law_best_steps", none) [wsD ws, .loc j, tI s] st = .ok (.fl ((bestW (lkS kn) ws s).map wD)) st := by
  rw [call_go H.best_steps rfl]
  have hl : ws.length ≤ lim := by unfold lim; omega
  have hl2 : (from_ ws s).length ≤ lim := Nat.le_trans (List.length_filter_le ..) hl
  have hdg : ∀ f : List Int, dgetD st (.loc j) (tI f) = some ((lkS kn f).map fun m : Nat => D.int m) := fun f => by
    rw [dget_tI h]
    rw [show look (knD kn) (tI f) = _ from look_map (g := fun m : Nat => D.int m) (l := kn)]
    rfl
  let dueV : Int := match lkS kn s with | some m => (m : Int) - 1 | none => -1
  have s1 : evS p (callN p fuel F (n + 2)) fuel (.asg 3 true (.lc (.var 5) (.name 5) (.val (.var 0)) (.val (.cmp .inn (.ix (.var 5) (.cst (.int (0)))) (.var 2))))) [some (wsD ws), some (.loc j), some (tI s), none, none, none] st = .nx [some (wsD ws), some (.loc j), some (tI s), some (.loc st.length), none, none] (st ++ [.lst false ((from_ ws s).map wD)]) := by
    simp [evS, evE, evT, evI, tgs, wipeE, hl]
    rw [lc_ways (h := fun w => if decide (w.1 ∈ s) = true then some (wD w) else none) (fun v _ => by
      simp [bindTg]
      by_cases e : v.1 ∈ s <;> simp [e]), fm_if (fun w : Way => decide (w.1 ∈ s)) wD]
    simp [from_]
  have hj : j < st.length := (List.getElem?_eq_some_iff.mp h).1
  have h' : (st ++ [AO.lst false ((from_ ws s).map wD)])[j]? = some (.dct true lk (knD kn)) := by rw [List.getElem?_append_left hj]; exact h
  have hL : (st ++ [AO.lst false ((from_ ws s).map wD)])[st.length]? = some (.lst false ((from_ ws s).map wD)) := by simp
  have s2 : evS p (callN p fuel F (n + 2)) fuel (.asg 4 true (.ife (.val (.cmp .inn (.var 2) (.var 1))) (.bin .sub (.ix (.var 1) (.var 2)) (.cst (.int (1)))) (.neg (.cst (.int (1)))))) [some (wsD ws), some (.loc j), some (tI s), some (.loc st.length), none, none] (st ++ [.lst false ((from_ ws s).map wD)]) = .nx [some (wsD ws), some (.loc j), some (tI s), some (.loc st.length), some (.int dueV), none] (st ++ [.lst false ((from_ ws s).map wD)]) := by
    generalize st ++ [AO.lst false ((from_ ws s).map wD)] = st1 at h' hL
    have t1 : evT p (callN p fuel F (n + 2)) (.val (.cmp .inn (.var 2) (.var 1))) [some (wsD ws), some (.loc j), some (tI s), some (.loc st.length), none, none] st1 = .ok (lkS kn s).isSome st1 := t_val (r_cmp (r_var rfl) (r_var rfl) (inn_kn h' s))
    cases hk : lkS kn s with
    | none =>
      rw [hk] at t1
      refine s_asg ((r_ifF t1).trans ?_)
      simp only [dueV, hk]
      simp [evE]
    | some m =>
      rw [hk] at t1
      have hi := ix_kn h' hk
      refine s_asg ((r_ifT t1).trans ?_)
      simp only [dueV, hk]
      simp [evE, hi, binD, binI]
  generalize hst1 : st ++ [AO.lst false ((from_ ws s).map wD)] = st1 at h' hL s1 s2
  have hdg' : ∀ f : List Int, dgetD st1 (.loc j) (tI f) = some ((lkS kn f).map fun m : Nat => D.int m) := fun f => by
    rw [dget_tI h']
    rw [show look (knD kn) (tI f) = _ from look_map (g := fun m : Nat => D.int m) (l := kn)]
    rfl
  have hsq : seqOf st1 (.loc st.length) = some ((from_ ws s).map wD) := by simp [seqOf, hL]
  have s3 : evS p (callN p fuel F (n + 2)) fuel (.ret (.lc (.var 5) (.name 5) (.val (.var 3)) (.val (.cmp .eq (.bmt .get (.var 1) (.cons true (.call "_law_led" (.cons true (.var 2) (.cons true (.var 5) .nil))) (.cons true (.neg (.cst (.int (1)))) .nil))) (.var 4))))) [some (wsD ws), some (.loc j), some (tI s), some (.loc st.length), some (.int dueV), none] st1 = .rt (.fl ((bestW (lkS kn) ws s).map wD)) st1 := by
    simp [evS, evE, evT, evI, evEs, tgs, wipeE, hsq, hl2]
    rw [lc_ways (h := fun w => if decide ((match lkS kn (play s w) with | some m => (m : Int) | none => -1) = dueV) = true then some (wD w) else none) (fun v _ => by
      have hc := c_led (p := p) (fuel := fuel) (n := n) H.toHasH s v st1 (by omega)
      have hd := hdg' (play s v)
      simp [bindTg, hc, tyB, dkOf, dctOf, h', bmtD, getD, hd]
      cases lkS kn (play s v) with
      | none => by_cases e : -1 = dueV <;> simp [e]
      | some k => by_cases e : (k : Int) = dueV <;> simp [e]), fm_if (fun w : Way => decide ((match lkS kn (play s w) with | some m => (m : Int) | none => -1) = dueV)) wD]
    simp [bestW, dueV]
    try rfl
  show endS st (evSs p (callN p fuel F (n + 2)) fuel (.cons _ (.cons _ (.cons _ .nil))) [some (wsD ws), some (.loc j), some (tI s), none, none, none] st) = _
  rw [ss_nx s1, ss_nx s2, ss_one, s3]
  subst hst1
  exact trim_app_fl (bnds_wD _)
end
end Mn.LS
end

section
set_option Elab.async false
set_option linter.all false
set_option maxRecDepth 100000
set_option maxHeartbeats 2000000
/-! Plain: lines about standings as texts. -/
namespace Mn
open PySem L84
theorem str_app (a b : Str) : a ++ b = ⟨a.cps ++ b.cps⟩ := rfl
theorem str_assoc (a b c : Str) : a ++ b ++ c = a ++ (b ++ c) := by
  simp only [str_app, Array.append_assoc]
theorem fold_front (g : Array Nat) : ∀ (l : List Str) (x y : Array Nat), l.foldl (fun acc (p : Str) => acc ++ g ++ p.cps) (x ++ y) = x ++ l.foldl (fun acc (p : Str) => acc ++ g ++ p.cps) y
  | [], _, _ => rfl
  | p :: l, x, y => by
    rw [List.foldl_cons, List.foldl_cons, Array.append_assoc, Array.append_assoc, fold_front g l, Array.append_assoc]
theorem join_cons (sep a b : Str) (r : List Str) : Txt.join sep (a :: b :: r) = a ++ sep ++ Txt.join sep (b :: r) := by
  show (⟨_⟩ : Str) = ⟨a.cps ++ sep.cps ++ _⟩
  congr 1
  show (b :: r).foldl (fun acc (p : Str) => acc ++ sep.cps ++ p.cps) a.cps = a.cps ++ sep.cps ++ r.foldl (fun acc (p : Str) => acc ++ sep.cps ++ p.cps) b.cps
  rw [List.foldl_cons, fold_front]
def wayT (w : Way) : Str := numT w.1 ++ Str.ofString ">" ++ numT w.2
/-- the line ahead of the best moves -/
def headT (K : List Int → Option Nat) (s : List Int) : Str := match K s with
  | some m => rowText s ++ Str.ofString ": " ++ Str.ofString (wordK K s) ++ Str.ofString " in " ++ numT m
  | none => rowText s ++ Str.ofString ": " ++ Str.ofString (wordK K s)
def lineT (K : List Int → Option Nat) (ws : List Way) (s : List Int) : Str := if bestW K ws s = [] then headT K s else headT K s ++ Str.ofString " by " ++ Txt.join (Str.ofString " ") ((bestW K ws s).map wayT)
theorem by_join {t : Str} {xs : List Str} (h : xs ≠ []) : Txt.join (Str.ofString " ") (t :: Str.ofString "by" :: xs) = t ++ Str.ofString " by " ++ Txt.join (Str.ofString " ") xs := by
  cases xs with
  | nil => exact absurd rfl h
  | cons x xs =>
    rw [join_cons, join_cons]
    have e : Str.ofString " by " = Str.ofString " " ++ (Str.ofString "by" ++ Str.ofString " ") := by decide +kernel
    rw [e]
    simp only [str_assoc]
end Mn
end

section
set_option Elab.async false
set_option linter.all false
set_option maxRecDepth 100000
set_option maxHeartbeats 2000000
/-! Plain: bounds of texts. -/
namespace Mn
open PySem L84
theorem num100' : ∀ k : Fin 100, (Str.ofString (toString ((k.val : Nat) : Int))).length ≤ 10 := by decide +kernel
theorem num100 {x : Int} (h : 0 ≤ x ∧ x < 100) : (numT x).length ≤ 10 := by
  have := num100' ⟨x.toNat, by omega⟩
  unfold numT
  rw [← Int.toNat_of_nonneg h.1]
  exact this
theorem str100 {C : Calls} {p : PTab} {st : Store} {x : Int} (h : 0 ≤ x ∧ x < 100) : bifR p C .str [.int x] st = .ok (.d (.str (numT x))) st := by
  rw [bif_d rfl]
  have hb : x.natAbs < 2 ^ 1900 := Nat.lt_of_lt_of_le (by omega : x.natAbs < 128) (Nat.le_trans (by decide : 128 ≤ 2 ^ 7) (Nat.pow_le_pow_right (by decide) (by decide)))
  show Res.ofOpt (strD [.int x]) st = _
  rw [show strD [.int x] = some (.d (.str (Str.ofString (toString x)))) from if_pos hb]
  rfl
theorem join_len : ∀ (r : List Str) (a : Str), (Txt.join (Str.ofString " ") (a :: r)).length ≤ a.length + (r.map fun x => x.length + 1).sum
  | [], a => Nat.le_refl _
  | b :: r, a => by
    rw [join_cons, str_len_app, str_len_app, sp_len]
    have := join_len r b
    simp at this ⊢
    omega
theorem rowText_len {s : List Int} (hs : s.length ≤ 8) (h : ∀ x ∈ s, 0 ≤ x ∧ x < 10) : (rowText s).length ≤ 200 := by
  unfold rowText
  cases s with
  | nil => rw [if_pos rfl]; decide +kernel
  | cons a s =>
    rw [if_neg (by simp), List.map_cons]
    have h1 := join_len (s.map numT) (numT a)
    have h2 := num_len (h a (List.mem_cons_self ..))
    have h3 : ∀ l : List Int, (∀ x ∈ l, 0 ≤ x ∧ x < 10) → ((l.map numT).map fun x => x.length + 1).sum ≤ 11 * l.length := fun l => by
      induction l with
      | nil => intro _; simp
      | cons b l ih =>
        intro hb
        have := ih fun x hx => hb x (List.mem_cons_of_mem _ hx)
        have := num_len (hb b (List.mem_cons_self ..))
        simp at this ⊢
        simp at *
        omega
    have := h3 s fun x hx => h x (List.mem_cons_of_mem _ hx)
    simp at hs
    omega
end Mn
end

section
set_option Elab.async false
set_option linter.all false
set_option maxRecDepth 100000
set_option maxHeartbeats 2000000
/-! Plain: the law's line about a standing. -/
namespace Mn.LS
open PySem L84
theorem join_of2 {ys : List Str} {d : D} {st : Store} (hq : seqOf st d = some (ys.map D.str)) (h1 : (ys.map (·.length)).sum ≤ 100000) (h2 : ys.length ≤ 10000) : joinD st (.str (Str.ofString " ")) [d] = .ok (.d (.str (Txt.join (Str.ofString " ") ys))) st := by
  simp only [joinD, hq, Option.bind_some, strsP_of]
  rw [if_pos (by rw [sp_len]; unfold lim; omega)]
theorem add_str {st : Store} {x y : Str} (h : x.length + y.length ≤ 100000) : binD st .add (.str x) (.str y) = some (.d (.str (x ++ y))) := by
  simp only [binD]
  rw [if_pos ⟨trivial, by unfold lim; omega⟩]
theorem r_bin {p : PTab} {C : Calls} {a b : E} {x y : D} {z : RV} {env : Env} {st st1 st2 : Store} (h1 : evE p C a env st = .ok (.d x) st1) (h2 : evE p C b env st1 = .ok (.d y) st2) (h3 : binD st2 .add x y = some z) : evE p C (.bin .add a b) env st = .ok z st2 := by
  simp only [evE, h1, h2, froz_d, Res.bind_okP, h3]
  rfl
theorem word_len (K : List Int → Option Nat) (s : List Int) : (Str.ofString (wordK K s)).length ≤ 5 := by
  rcases wordK_is K s with h | h | h <;> rw [h] <;> decide +kernel
theorem wayT_len {w : Way} (h1 : 0 ≤ w.1 ∧ w.1 < 10) (h2 : 0 ≤ w.2 ∧ w.2 < 10) : (wayT w).length ≤ 21 := by
  unfold wayT
  rw [str_len_app, str_len_app]
  have := num_len h1
  have := num_len h2
  have : (Str.ofString ">").length = 1 := by decide +kernel
  omega
theorem headT_len {K : List Int → Option Nat} {s : List Int} (hs : s.length ≤ 8) (h : ∀ x ∈ s, 0 ≤ x ∧ x < 10) (hk : ∀ m, K s = some m → m < 100) : (headT K s).length ≤ 300 := by
  have h1 := rowText_len hs h
  have h2 := word_len K s
  have h3 : (Str.ofString ": ").length = 2 := by decide +kernel
  have h4 : (Str.ofString " in ").length = 4 := by decide +kernel
  unfold headT
  cases e : K s with
  | none => simp only [str_len_app]; omega
  | some m =>
    have := num100 (x := (m : Int)) (by have := hk m e; omega)
    simp only [str_len_app]
    omega
section
variable {p : PTab} {fuel n : Nat} {F : Fn → Option MDef} {st : Store} {kn : List (List Int × Nat)} {j : Nat} {lk : Bool} {s : List Int} {ws : List Way}
theorem line1 (H : HasT F) (h : st[j]? = some (.dct true lk (knD kn))) (hs : s.length ≤ 8) (hx : ∀ x ∈ s, 0 ≤ x ∧ x < 10) {x3 x4 x5 x6 : Option D} :
    evS p (callN p fuel F (n + 3)) fuel (.asg 3 true (.bin .add (.bin .add (.call "_law_row_text" (.cons true (.var 2) .nil)) (.cst (.str ": "))) (.call "_law_end_word" (.cons true (.var 1) (.cons true (.var 2) .nil))))) [some (wsD ws), some (.loc j), some (tI s), x3, x4, x5, x6] st = .nx [some (wsD ws), some (.loc j), some (tI s), some (.str (rowText s ++ Str.ofString ": " ++ Str.ofString (wordK (lkS kn) s))), x4, x5, x6] st := by
  have h1 := rowText_len hs hx
  have h2 := word_len (lkS kn) s
  have h3 : (Str.ofString ": ").length = 2 := by decide +kernel
  have c1 := c_rtext (p := p) (fuel := fuel) (n := n + 2) (st := st) H hs hx
  have c2 := c_eword (p := p) (fuel := fuel) (n := n + 2) (s := s) H h
  exact s_asg (r_bin (r_bin (r_call (es_c (r_var rfl) es0) c1) e_cst (add_str (by omega))) (r_call (es_c (r_var rfl) (es_c (r_var rfl) es0)) c2) (add_str (by rw [str_len_app]; omega)))
theorem line2 (h : st[j]? = some (.dct true lk (knD kn))) (hs : s.length ≤ 8) (hx : ∀ x ∈ s, 0 ≤ x ∧ x < 10) (hk : ∀ m, lkS kn s = some m → m < 100) {C : Calls} {x4 x5 x6 : Option D} :
    evS p C fuel (.asg 3 true (.ife (.val (.cmp .inn (.var 2) (.var 1))) (.bin .add (.bin .add (.var 3) (.cst (.str " in "))) (.bif .str (.cons false (.ix (.var 1) (.var 2)) .nil))) (.var 3))) [some (wsD ws), some (.loc j), some (tI s), some (.str (rowText s ++ Str.ofString ": " ++ Str.ofString (wordK (lkS kn) s))), x4, x5, x6] st = .nx [some (wsD ws), some (.loc j), some (tI s), some (.str (headT (lkS kn) s)), x4, x5, x6] st := by
  have h1 := rowText_len hs hx
  have h2 := word_len (lkS kn) s
  have h3 : (Str.ofString ": ").length = 2 := by decide +kernel
  have h4 : (Str.ofString " in ").length = 4 := by decide +kernel
  have t1 : evT p C (.val (.cmp .inn (.var 2) (.var 1))) [some (wsD ws), some (.loc j), some (tI s), some (.str (rowText s ++ Str.ofString ": " ++ Str.ofString (wordK (lkS kn) s))), x4, x5, x6] st = .ok (lkS kn s).isSome st := t_val (r_cmp (r_var rfl) (r_var rfl) (inn_kn h s))
  cases e : lkS kn s with
  | none =>
    rw [e] at t1
    have : headT (lkS kn) s = rowText s ++ Str.ofString ": " ++ Str.ofString (wordK (lkS kn) s) := by simp only [headT, e]
    rw [this]
    exact s_asg ((r_ifF t1).trans (r_var rfl))
  | some m =>
    rw [e] at t1
    have : headT (lkS kn) s = rowText s ++ Str.ofString ": " ++ Str.ofString (wordK (lkS kn) s) ++ Str.ofString " in " ++ numT m := by simp only [headT, e]
    rw [this]
    have hm := hk m e
    have n1 := num100 (x := (m : Int)) (by omega)
    have b1 : evE p C (.bif .str (.cons false (.ix (.var 1) (.var 2)) .nil)) [some (wsD ws), some (.loc j), some (tI s), some (.str (rowText s ++ Str.ofString ": " ++ Str.ofString (wordK (lkS kn) s))), x4, x5, x6] st = .ok (.d (.str (numT m))) st := by
      have := str100 (p := p) (C := C) (st := st) (x := (m : Int)) (by omega)
      simp [evE, evEs, ix_kn h e, this]
    exact s_asg ((r_ifT t1).trans (r_bin (r_bin (r_var rfl) e_cst (add_str (by simp only [str_len_app]; omega))) b1 (add_str (by simp only [str_len_app]; omega))))
end
end Mn.LS
end

section
set_option Elab.async false
set_option linter.all false
set_option maxRecDepth 100000
set_option maxHeartbeats 2000000
/-! Plain: the law's line about a standing, whole. -/
namespace Mn.LS
open PySem L84
section
variable {p : PTab} {fuel n : Nat} {F : Fn → Option MDef} {st : Store} {kn : List (List Int × Nat)} {j : Nat} {lk : Bool} {s : List Int} {ws : List Way}
theorem best_mem {K : List Int → Option Nat} {w : Way} (h : w ∈ bestW K ws s) : w ∈ ws := (List.mem_filter.mp (List.mem_filter.mp h).1).1
theorem best_len (K : List Int → Option Nat) : (bestW K ws s).length ≤ ws.length := Nat.le_trans (List.length_filter_le ..) (List.length_filter_le ..)
theorem line3 (H : HasT F) (h : st[j]? = some (.dct true lk (knD kn))) (hs : s.length ≤ 8) (hws : ws.length < 1000) (hwr : ∀ w ∈ ws, (0 ≤ w.1 ∧ w.1 < 10) ∧ (0 ≤ w.2 ∧ w.2 < 10)) {x3 x4 : Option D} :
    evS p (callN p fuel F (n + 3)) fuel (.asg 4 true (.lc (.bin .add (.bin .add (.bif .str (.cons false (.var 5) .nil)) (.cst (.str ">"))) (.bif .str (.cons false (.var 6) .nil))) (.tup [5, 6]) (.val (.call "_law_best_steps" (.cons true (.var 0) (.cons true (.var 1) (.cons true (.var 2) .nil))))) .tt)) [some (wsD ws), some (.loc j), some (tI s), x3, x4, none, none] st = .nx [some (wsD ws), some (.loc j), some (tI s), x3, some (.loc st.length), none, none] (st ++ [.lst false (((bestW (lkS kn) ws s).map wayT).map D.str)]) := by
  have c1 := c_bsteps (p := p) (fuel := fuel) (n := n) (s := s) H h hws (by omega)
  have hl : (bestW (lkS kn) ws s).length ≤ lim := by have := best_len (ws := ws) (s := s) (lkS kn); unfold lim; omega
  have i1 : evI p (callN p fuel F (n + 3)) (.val (.call "_law_best_steps" (.cons true (.var 0) (.cons true (.var 1) (.cons true (.var 2) .nil))))) [some (wsD ws), some (.loc j), some (tI s), x3, x4, none, none] st = .ok ⟨(bestW (lkS kn) ws s).map wD, stillL st (.lst ((bestW (lkS kn) ws s).map wD)), none⟩ st := by
    simp only [evI]
    rw [r_call (es_c (r_var rfl) (es_c (r_var rfl) (es_c (r_var rfl) es0))) c1]
    rfl
  have g1 : (Str.ofString ">").length = 1 := by decide +kernel
  have e1 : evE p (callN p fuel F (n + 3)) (.lc (.bin .add (.bin .add (.bif .str (.cons false (.var 5) .nil)) (.cst (.str ">"))) (.bif .str (.cons false (.var 6) .nil))) (.tup [5, 6]) (.val (.call "_law_best_steps" (.cons true (.var 0) (.cons true (.var 1) (.cons true (.var 2) .nil))))) .tt) [some (wsD ws), some (.loc j), some (tI s), x3, x4, none, none] st = .ok (.fl (((bestW (lkS kn) ws s).map wayT).map D.str)) st := by
    simp only [evE, i1, Res.bind_okP]
    rw [if_pos ⟨by simp, by rw [List.length_map]; exact hl⟩]
    rw [lc_ways (h := fun w => some (.str (wayT w))) (fun w hw => by
      obtain ⟨r1, r2⟩ := hwr w (best_mem hw)
      have b1 := str_num (p := p) (C := callN p fuel F (n + 3)) (st := st) r1
      have b2 := str_num (p := p) (C := callN p fuel F (n + 3)) (st := st) r2
      have l1 := num_len r1
      have l2 := num_len r2
      have a1 := add_str (st := st) (x := numT w.1) (y := Str.ofString ">") (by omega)
      have a2 := add_str (st := st) (x := numT w.1 ++ Str.ofString ">") (y := numT w.2) (by rw [str_len_app]; omega)
      simp [tgs, wipeE, bindTg, wD, setAll, evT, evE, evEs, b1, b2, a1, a2, wayT]), fm_map]
    simp
  simp only [evS, if_true, e1, kept_fl, toS_ok]
  rfl
theorem way_ok' : ∀ a b : Fin 10, PyData.strOk (Str.ofString (toString ((a.val : Nat) : Int)) ++ Str.ofString ">" ++ Str.ofString (toString ((b.val : Nat) : Int))) = true := by decide +kernel
theorem way_ok {w : Way} (h1 : 0 ≤ w.1 ∧ w.1 < 10) (h2 : 0 ≤ w.2 ∧ w.2 < 10) : PyData.strOk (wayT w) = true := by
  have := way_ok' ⟨w.1.toNat, by omega⟩ ⟨w.2.toNat, by omega⟩
  unfold wayT numT
  rw [← Int.toNat_of_nonneg h1.1, ← Int.toNat_of_nonneg h2.1]
  exact this
theorem add_lst_loc {xs ys : List D} {i : Nat} {lk : Bool} {st : Store} (h : st[i]? = some (.lst lk ys)) (hl : xs.length + ys.length ≤ lim) : binD st .add (.lst xs) (.loc i) = some (.fl (xs ++ ys)) := by
  simp [binD, isL, seqOf, h, hl]
theorem c_lline (H : HasT F) (h : st[j]? = some (.dct true lk (knD kn))) (hs : s.length ≤ 8) (hx : ∀ x ∈ s, 0 ≤ x ∧ x < 10) (hk : ∀ m, lkS kn s = some m → m < 100) (hws : ws.length < 1000) (hwr : ∀ w ∈ ws, (0 ≤ w.1 ∧ w.1 < 10) ∧ (0 ≤ w.2 ∧ w.2 < 10)) :
    callN p fuel F (n + 4) ("_law_line_about", none) [wsD ws, .loc j, tI s] st = .ok (.d (.str (lineT (lkS kn) ws s))) st := by
  rw [call_go H.line_about rfl]
  show endS st (evSs p (callN p fuel F (n + 3)) fuel (.cons _ (.cons _ (.cons _ (.cons (.ret (.ife _ _ _)) .nil)))) [some (wsD ws), some (.loc j), some (tI s), none, none, none, none] st) = _
  rw [ss_nx (line1 H h hs hx), ss_nx (line2 h hs hx hk), ss_nx (line3 H h hs hws hwr), ss_one]
  have hL : (st ++ [AO.lst false (((bestW (lkS kn) ws s).map wayT).map D.str)])[st.length]? = some (.lst false (((bestW (lkS kn) ws s).map wayT).map D.str)) := by simp
  have hne : cmpD (st ++ [AO.lst false (((bestW (lkS kn) ws s).map wayT).map D.str)]) .ne (.loc st.length) (.lst []) = some (decide (bestW (lkS kn) ws s ≠ [])) := by
    rw [ne_loc hL, ne_sim ?_ rfl]
    · cases bestW (lkS kn) ws s <;> simp
    · simp only [D.sim]
      refine sims_of fun x hx => ?_
      obtain ⟨y, hy, rfl⟩ := List.mem_map.mp hx
      obtain ⟨w, hw, rfl⟩ := List.mem_map.mp hy
      obtain ⟨r1, r2⟩ := hwr w (best_mem hw)
      simp only [D.sim]
      exact way_ok r1 r2
  have hbl := best_len (ws := ws) (s := s) (lkS kn)
  have hhd := headT_len (K := lkS kn) hs hx hk
  have hsum : (((bestW (lkS kn) ws s).map wayT).map (·.length)).sum ≤ 21 * (bestW (lkS kn) ws s).length := by
    have : ∀ l : List Way, (∀ w ∈ l, w ∈ ws) → ((l.map wayT).map (·.length)).sum ≤ 21 * l.length := fun l => by
      induction l with
      | nil => intro _; simp
      | cons b l ih =>
        intro hb
        have i1 := ih fun x hx => hb x (List.mem_cons_of_mem _ hx)
        obtain ⟨r1, r2⟩ := hwr b (hb b (List.mem_cons_self ..))
        have i2 := wayT_len r1 r2
        simp at i1 ⊢
        omega
    exact this _ fun w hw => best_mem hw
  have hby : (Str.ofString "by").length = 2 := by decide +kernel
  have t1 : evT p (callN p fuel F (n + 3)) (.val (.cmp .ne (.var 4) (.lst .nil))) [some (wsD ws), some (.loc j), some (tI s), some (.str (headT (lkS kn) s)), some (.loc st.length), none, none] (st ++ [.lst false (((bestW (lkS kn) ws s).map wayT).map D.str)]) = .ok (decide (bestW (lkS kn) ws s ≠ [])) (st ++ [.lst false (((bestW (lkS kn) ws s).map wayT).map D.str)]) := by
    simp only [evT, evE, evEs, List.getElem?_cons_zero, List.getElem?_cons_succ, froz_d, froz_fl, Res.bind_okP, hne]
    rfl
  by_cases h0 : bestW (lkS kn) ws s = []
  · simp only [evS, r_ifF (t1.trans (by simp [h0] : _ = Res.ok false (st ++ [AO.lst false (((bestW (lkS kn) ws s).map wayT).map D.str)]))), r_var (show ([some (wsD ws), some (D.loc j), some (tI s), some (.str (headT (lkS kn) s)), some (.loc st.length), none, none] : Env)[3]? = some (some (.str (headT (lkS kn) s))) from rfl), toS_ok]
    rw [show lineT (lkS kn) ws s = headT (lkS kn) s from if_pos h0]
    exact trim_app (fun j => by simp) bnd_str
  · have hadd := add_lst_loc (xs := [.str (headT (lkS kn) s), .str (Str.ofString "by")]) hL (by simp; unfold lim; omega)
    have hj := join_of2 (st := st ++ [.lst false (((bestW (lkS kn) ws s).map wayT).map D.str)] ++ [.lst false ((headT (lkS kn) s :: Str.ofString "by" :: (bestW (lkS kn) ws s).map wayT).map D.str)]) (d := .loc (st.length + 1)) (ys := headT (lkS kn) s :: Str.ofString "by" :: (bestW (lkS kn) ws s).map wayT) (by simp [seqOf]) (by simp only [List.map_cons, List.sum_cons, hby]; omega) (by simp; omega)
    have q : evE p (callN p fuel F (n + 3)) (.bmt .join (.cst (.str (Str.ofString " "))) (.cons true (.bin .add (.lst (.cons false (.var 3) (.cons false (.cst (.str (Str.ofString "by"))) .nil))) (.var 4)) .nil)) [some (wsD ws), some (.loc j), some (tI s), some (.str (headT (lkS kn) s)), some (.loc st.length), none, none] (st ++ [.lst false (((bestW (lkS kn) ws s).map wayT).map D.str)]) = .ok (.d (.str (Txt.join (Str.ofString " ") (headT (lkS kn) s :: Str.ofString "by" :: (bestW (lkS kn) ws s).map wayT)))) (st ++ [.lst false (((bestW (lkS kn) ws s).map wayT).map D.str)] ++ [.lst false ((headT (lkS kn) s :: Str.ofString "by" :: (bestW (lkS kn) ws s).map wayT).map D.str)]) := by
      simp only [evE, evEs, List.getElem?_cons_zero, List.getElem?_cons_succ, froz_d, froz_fl, Res.bind_okP, tyB, if_true, Bool.false_eq_true, if_false, hadd, ofOpt_some, kept_fl, bmtD]
      simpa using hj
    simp only [evS, r_ifT (t1.trans (by simp [h0] : _ = Res.ok true (st ++ [AO.lst false (((bestW (lkS kn) ws s).map wayT).map D.str)]))), q, toS_ok]
    rw [by_join (by simpa using h0), List.append_assoc]
    rw [show lineT (lkS kn) ws s = _ from if_neg h0]
    exact trim_app (fun j => by simp) bnd_str
end
end Mn.LS
end

section
set_option Elab.async false
set_option linter.all false
set_option maxRecDepth 100000
set_option maxHeartbeats 2000000
/-! Plain: the program's line about a standing. -/
namespace Mn
open PySem L84 LS
theorem fmt100 {x : Int} (h : 0 ≤ x ∧ x < 100) : fmtD (.int x) = some (numT x) := by
  have hb : x.natAbs < 2 ^ 1900 := Nat.lt_of_lt_of_le (by omega : x.natAbs < 128) (Nat.le_trans (by decide : 128 ≤ 2 ^ 7) (Nat.pow_le_pow_right (by decide) (by decide)))
  simp only [fmtD]
  rw [if_pos hb]
  rfl
theorem fmt_s {a : Str} (h : a.length ≤ 100000) : fmtD (.str a) = some a := by
  simp only [fmtD]
  rw [if_pos (by unfold lim; omega)]
theorem evF_nil {p : PTab} {C : Calls} {acc : Str} {env : Env} {st : Store} : evF p C .nil acc env st = .ok acc st := by simp only [evF]
theorem f_cons {p : PTab} {C : Calls} {h : Bool} {e : E} {r : Es} {acc a : Str} {env : Env} {st st1 : Store} {x : D} (h1 : evE p C e env st = .ok (.d x) st1) (h2 : fmtD x = some a) (h3 : acc.length + a.length ≤ 100000) : evF p C (.cons h e r) acc env st = evF p C r (acc ++ a) env st1 := by
  simp only [evF, h1, froz_d, Res.bind_okP, h2]
  rw [if_pos (by unfold lim; omega)]
theorem e_fst {p : PTab} {C : Calls} {es : Es} {env : Env} {st st1 : Store} {x : Str} (h : evF p C es Str.empty env st = .ok x st1) : evE p C (.fst es) env st = .ok (.d (.str x)) st1 := by simp only [evE, h, Res.bind_okP]
section
variable {p : PTab} {fuel n : Nat} {F : Fn → Option MDef} {st : Store} {w : Way}
theorem c_wtext (hF : F ("way_text", none) = some m_way_text) (h1 : 0 ≤ w.1 ∧ w.1 < 10) (h2 : 0 ≤ w.2 ∧ w.2 < 10) : callN p fuel F (n + 1) ("way_text", none) [wD w] st = .ok (.d (.str (wayT w))) st := by
  rw [call_go hF rfl]
  have l1 := num_len h1
  have l2 := num_len h2
  have g1 : (Str.ofString ">").length = 1 := by decide +kernel
  have g0 : Str.empty.length = 0 := by decide +kernel
  have e1 : evE p (callN p fuel F n) (.ix (.var 0) (.cst (.int (0)))) [some (wD w)] st = .ok (.d (.int w.1)) st := by simp [evE]
  have e2 : evE p (callN p fuel F n) (.ix (.var 0) (.cst (.int (1)))) [some (wD w)] st = .ok (.d (.int w.2)) st := by simp [evE]
  have f : evF p (callN p fuel F n) (.cons false (.ix (.var 0) (.cst (.int (0)))) (.cons false (.cst (.str (Str.ofString ">"))) (.cons false (.ix (.var 0) (.cst (.int (1)))) .nil))) Str.empty [some (wD w)] st = .ok (wayT w) st := by
    rw [f_cons e1 (fmt100 (by omega)) (by omega), f_cons e_cst (fmt_s (by omega)) (by rw [str_len_app]; omega), f_cons e2 (fmt100 (by omega)) (by rw [str_len_app, str_len_app]; omega), evF_nil, str_empty_app]
    rfl
  show endS st (evSs p (callN p fuel F n) fuel (.cons (.ret (.fst _)) .nil) [some (wD w)] st) = _
  rw [ss_one]
  simp only [evS, e_fst f, toS_ok]
  exact endS_rt rfl
end
end Mn
end

section
set_option Elab.async false
set_option linter.all false
set_option maxRecDepth 100000
set_option maxHeartbeats 2000000
/-! Plain: texts of ways; what is asked ahead. -/
namespace Mn
open PySem L84 LS
structure HasR (p : PTab) (F : Fn → Option MDef) : Prop extends HasB p F where
  wrong_place : F ("wrong_place", none) = some m_wrong_place
  check_standing : F ("check_standing", none) = some m_check_standing
  check_asked : F ("check_asked", none) = some m_check_asked
  standing_text : F ("standing_text", none) = some m_standing_text
  way_text : F ("way_text", none) = some m_way_text
  ways_text : F ("ways_text", none) = some m_ways_text
  line_of : F ("line_of", none) = some m_line_of
  play_line : F ("play_line", none) = some m_play_line
section
variable {p : PTab} {fuel n : Nat} {F : Fn → Option MDef} {st : Store} {ws : List Way}
theorem sum_way : ∀ {l : List Way}, (∀ w ∈ l, (0 ≤ w.1 ∧ w.1 < 10) ∧ (0 ≤ w.2 ∧ w.2 < 10)) → ((l.map wayT).map (·.length)).sum ≤ 21 * l.length
  | [], _ => by simp
  | b :: l, h => by
    have i1 := sum_way (l := l) fun x hx => h x (List.mem_cons_of_mem _ hx)
    obtain ⟨r1, r2⟩ := h b (List.mem_cons_self ..)
    have i2 := wayT_len r1 r2
    simp at i1 ⊢
    omega
theorem c_wstext (R : HasR p F) (hl : ws.length < 1000) (hwr : ∀ w ∈ ws, (0 ≤ w.1 ∧ w.1 < 10) ∧ (0 ≤ w.2 ∧ w.2 < 10)) : callN p fuel F (n + 2) ("ways_text", none) [wsD ws] st = .ok (.d (.str (Txt.join (Str.ofString " ") (ws.map wayT)))) st := by
  rw [call_go R.ways_text rfl]
  have hlm : ws.length ≤ lim := by unfold lim; omega
  have e1 : evE p (callN p fuel F (n + 1)) (.lc (.call "way_text" (.cons true (.var 1) .nil)) (.name 1) (.val (.var 0)) .tt) [some (wsD ws), none] st = .ok (.fl ((ws.map wayT).map D.str)) st := by
    simp [evE, evI, evT, evEs, tgs, wipeE, bindTg, hlm]
    rw [lc_ways (h := fun w => some (.str (wayT w))) (fun w hw => by
      obtain ⟨r1, r2⟩ := hwr w hw
      have := c_wtext (p := p) (fuel := fuel) (n := n) (st := st) R.way_text r1 r2
      simp [this]), fm_map]
    simp
  have hs := sum_way hwr
  have hj := join_of2 (st := st ++ [.lst false ((ws.map wayT).map D.str)]) (d := .loc st.length) (ys := ws.map wayT) (by simp [seqOf]) (by omega) (by simp; omega)
  have q : evE p (callN p fuel F (n + 1)) (.bmt .join (.cst (.str (Str.ofString " "))) (.cons true (.lc (.call "way_text" (.cons true (.var 1) .nil)) (.name 1) (.val (.var 0)) .tt) .nil)) [some (wsD ws), none] st = .ok (.d (.str (Txt.join (Str.ofString " ") (ws.map wayT)))) (st ++ [.lst false ((ws.map wayT).map D.str)]) := by
    rw [show evE p (callN p fuel F (n + 1)) (.bmt .join (.cst (.str (Str.ofString " "))) (.cons true (.lc (.call "way_text" (.cons true (.var 1) .nil)) (.name 1) (.val (.var 0)) .tt) .nil)) [some (wsD ws), none] st = (evEs p (callN p fuel F (n + 1)) (.cons true (.lc (.call "way_text" (.cons true (.var 1) .nil)) (.name 1) (.val (.var 0)) .tt) .nil) [some (wsD ws), none] st).bind fun ds st => bmtD st .join (.str (Str.ofString " ")) ds by simp only [evE, froz_d, Res.bind_okP, tyB, if_true]]
    simp only [evEs, if_true, e1, kept_fl, Res.bind_okP, bmtD, hj]
  show endS st (evSs p (callN p fuel F (n + 1)) fuel (.cons (.ret _) .nil) [some (wsD ws), none] st) = _
  rw [ss_one]
  simp only [evS, q, toS_ok]
  exact trim_app (fun j => by simp) bnd_str
end
end Mn
end

section
set_option Elab.async false
set_option linter.all false
set_option maxRecDepth 100000
set_option maxHeartbeats 2000000
/-! Plain: the program's line about a standing. -/
namespace Mn
open PySem L84 LS
section
variable {p : PTab} {fuel n : Nat} {F : Fn → Option MDef} {st : Store} {ws : List Way} {c : Nat} {L w : Nat} {kn wt : List (List Int × Nat)} {s : List Int}
theorem c_lineof (R : HasR p F) (V : SvAt st L w ws kn wt) (hw : WebAt st w c ws) (o : WebOk c ws) (hs : s.length ≤ 8) (hx : ∀ x ∈ s, 0 ≤ x ∧ x < 10) (hk : ∀ m, lkS kn s = some m → m < 100) (hwr : ∀ w ∈ ws, (0 ≤ w.1 ∧ w.1 < 10) ∧ (0 ≤ w.2 ∧ w.2 < 10))
    (hl : ∀ m, lkS kn s = some m → m % 2 = 0 → ∀ f ∈ foll ws s, (lkS kn f).isSome = true) : callN p fuel F (n + 4) ("line_of", none) [.loc L, tI s] st = .ok (.d (.str (lineT (lkS kn) ws s))) st := by
  rw [call_go R.line_of rfl]
  have hws := o.len
  have h1 := rowText_len hs hx
  have h2 := word_len (lkS kn) s
  have h3 : (Str.ofString ": ").length = 2 := by decide +kernel
  have h4 : (Str.ofString " in ").length = 4 := by decide +kernel
  have h5 : (Str.ofString " by ").length = 4 := by decide +kernel
  have h0 : Str.empty.length = 0 := by decide +kernel
  have hhd := headT_len (K := lkS kn) hs hx hk
  have c1 : callN p fuel F (n + 3) ("Survey", some "word") [.loc L, tI s] st = .ok (.d (.str (Str.ofString (wordK (lkS kn) s)))) st := c_word (K := lkS kn) R.toHasS V.sv V.kn_ s (look_map (g := fun m : Nat => D.int m) (l := kn))
  have c2 := c_best (p := p) (fuel := fuel) (n := n) R.toHasB V hw o (s := s) (by omega) hl
  have hsv := V.sv
  simp only [svO] at hsv
  have s1 : evS p (callN p fuel F (n + 3)) fuel (.asgs [2, 3] (.cons true (.meth (.var 0) "word" (.cons true (.var 1) .nil)) (.cons true (.meth (.var 0) "best" (.cons true (.var 1) .nil)) .nil))) [some (.loc L), some (tI s), none, none, none] st = .nx [some (.loc L), some (tI s), some (.str (Str.ofString (wordK (lkS kn) s))), some (wsD (bestW (lkS kn) ws s)), none] st := by
    simp [evS, evEs, evE, hsv, List.lookup, R.sm3, R.sm4, c1, c2, setAll]
  have c3 := c_stext (p := p) (fuel := fuel) (n := n + 2) (st := st) R.standing_text hs hx
  have s2 : evS p (callN p fuel F (n + 3)) fuel (.asg 4 true (.fst (.cons false (.call "standing_text" (.cons true (.var 1) .nil)) (.cons false (.cst (.str ": ")) (.cons false (.var 2) .nil))))) [some (.loc L), some (tI s), some (.str (Str.ofString (wordK (lkS kn) s))), some (wsD (bestW (lkS kn) ws s)), none] st = .nx [some (.loc L), some (tI s), some (.str (Str.ofString (wordK (lkS kn) s))), some (wsD (bestW (lkS kn) ws s)), some (.str (rowText s ++ Str.ofString ": " ++ Str.ofString (wordK (lkS kn) s)))] st := by
    refine s_asg (e_fst ?_)
    rw [f_cons (r_call (es_c (r_var rfl) es0) c3) (fmt_s (by omega)) (by omega), f_cons e_cst (fmt_s (by omega)) (by rw [str_len_app]; omega), f_cons (r_var rfl) (fmt_s (by omega)) (by rw [str_len_app, str_len_app]; omega), evF_nil, str_empty_app]
  have hg : evE p (callN p fuel F (n + 3)) (.glo "DRAWN") [some (.loc L), some (tI s), some (.str (Str.ofString (wordK (lkS kn) s))), some (wsD (bestW (lkS kn) ws s)), some (.str (rowText s ++ Str.ofString ": " ++ Str.ofString (wordK (lkS kn) s)))] st = .ok (.d (.str (Str.ofString "drawn"))) st := by simp [evE, R.drawn]
  have s3 : evS p (callN p fuel F (n + 3)) fuel (.ifs (.val (.cmp .ne (.var 2) (.glo "DRAWN"))) (.cons (.asg 4 true (.fst (.cons false (.var 4) (.cons false (.cst (.str " in ")) (.cons false (.ix (.fld (.var 0) "known") (.var 1)) .nil))))) .nil) .nil) [some (.loc L), some (tI s), some (.str (Str.ofString (wordK (lkS kn) s))), some (wsD (bestW (lkS kn) ws s)), some (.str (rowText s ++ Str.ofString ": " ++ Str.ofString (wordK (lkS kn) s)))] st = .nx [some (.loc L), some (tI s), some (.str (Str.ofString (wordK (lkS kn) s))), some (wsD (bestW (lkS kn) ws s)), some (.str (headT (lkS kn) s))] st := by
    have t1 : evT p (callN p fuel F (n + 3)) (.val (.cmp .ne (.var 2) (.glo "DRAWN"))) [some (.loc L), some (tI s), some (.str (Str.ofString (wordK (lkS kn) s))), some (wsD (bestW (lkS kn) ws s)), some (.str (rowText s ++ Str.ofString ": " ++ Str.ofString (wordK (lkS kn) s)))] st = .ok (lkS kn s).isSome st := by
      refine t_val (r_cmp (r_var rfl) hg ?_)
      rw [ne_sim (sim_word ..) sim_drawn]
      unfold wordK
      cases lkS kn s with
      | none => simp
      | some m => by_cases hm : m % 2 = 0 <;> simp [hm] <;> decide
    cases e : lkS kn s with
    | none =>
      rw [e] at t1
      have : headT (lkS kn) s = rowText s ++ Str.ofString ": " ++ Str.ofString (wordK (lkS kn) s) := by simp only [headT, e]
      rw [this]
      exact (s_ifF t1).trans ss_nl
    | some m =>
      rw [e] at t1
      have : headT (lkS kn) s = rowText s ++ Str.ofString ": " ++ Str.ofString (wordK (lkS kn) s) ++ Str.ofString " in " ++ numT m := by simp only [headT, e]
      rw [this]
      have hm := hk m e
      have n1 := num100 (x := (m : Int)) (by omega)
      have q : evE p (callN p fuel F (n + 3)) (.ix (.fld (.var 0) "known") (.var 1)) [some (.loc L), some (tI s), some (.str (Str.ofString (wordK (lkS kn) s))), some (wsD (bestW (lkS kn) ws s)), some (.str (rowText s ++ Str.ofString ": " ++ Str.ofString (wordK (lkS kn) s)))] st = .ok (.d (.int m)) st := by
        simp [evE, hsv, List.lookup, R.sp2, R.sf2, ix_kn V.kn_ e]
      rw [s_ifT t1, ss_one]
      refine s_asg (e_fst ?_)
      rw [f_cons (r_var rfl) (fmt_s (by simp only [str_len_app]; omega)) (by simp only [str_len_app]; omega), f_cons e_cst (fmt_s (by omega)) (by simp only [str_len_app]; omega), f_cons q (fmt100 (by omega)) (by simp only [str_len_app]; omega), evF_nil, str_empty_app]
  show endS st (evSs p (callN p fuel F (n + 3)) fuel (.cons _ (.cons _ (.cons _ (.cons (.ret (.ife _ _ _)) .nil)))) [some (.loc L), some (tI s), none, none, none] st) = _
  rw [ss_nx s1, ss_nx s2, ss_nx s3, ss_one]
  have t1 : evT p (callN p fuel F (n + 3)) (.val (.cmp .ne (.var 3) (.tup .nil))) [some (.loc L), some (tI s), some (.str (Str.ofString (wordK (lkS kn) s))), some (wsD (bestW (lkS kn) ws s)), some (.str (headT (lkS kn) s))] st = .ok (decide (bestW (lkS kn) ws s ≠ [])) st := by
    refine t_val (r_cmp (y := .tup []) (r_var rfl) (by simp only [evE, evEs]; rfl) ?_)
    rw [ne_sim (show D.sim 60 (wsD (bestW (lkS kn) ws s)) = true from sims_ways _) rfl]
    cases bestW (lkS kn) ws s <;> simp [wsD]
  have hbw : ∀ v ∈ bestW (lkS kn) ws s, (0 ≤ v.1 ∧ v.1 < 10) ∧ (0 ≤ v.2 ∧ v.2 < 10) := fun v hv => hwr v (best_mem hv)
  have hbl := best_len (ws := ws) (s := s) (lkS kn)
  by_cases hb0 : bestW (lkS kn) ws s = []
  · have q := (r_ifF (a := .fst (.cons false (.var 4) (.cons false (.cst (.str (Str.ofString " by "))) (.cons false (.call "ways_text" (.cons true (.var 3) .nil)) .nil)))) (b := .var 4) (t1.trans (by simp [hb0] : _ = Res.ok false st))).trans (r_var rfl)
    simp only [evS, q, toS_ok]
    rw [show lineT (lkS kn) ws s = headT (lkS kn) s from if_pos hb0]
    exact endS_rt rfl
  · have c4 := c_wstext (p := p) (fuel := fuel) (n := n + 1) (st := st) R (ws := bestW (lkS kn) ws s) (by omega) hbw
    have hj : (Txt.join (Str.ofString " ") ((bestW (lkS kn) ws s).map wayT)).length ≤ 30000 := by
      have hsum := sum_way hbw
      cases hc : bestW (lkS kn) ws s with
      | nil => exact absurd hc hb0
      | cons a l =>
        rw [hc] at hsum hbl
        have := join_len (l.map wayT) (wayT a)
        have e2 : ∀ l : List Str, (l.map fun x => x.length + 1).sum = (l.map (·.length)).sum + l.length := fun l => by
          induction l with
          | nil => rfl
          | cons b l ih => simp [ih]; omega
        rw [e2] at this
        rw [List.map_cons]
        simp at hsum hbl this ⊢
        omega
    have q := (r_ifT (a := .fst (.cons false (.var 4) (.cons false (.cst (.str (Str.ofString " by "))) (.cons false (.call "ways_text" (.cons true (.var 3) .nil)) .nil)))) (b := .var 4) (t1.trans (by simp [hb0] : _ = Res.ok true st))).trans (e_fst (x := lineT (lkS kn) ws s) (by
      rw [f_cons (r_var rfl) (fmt_s (by omega)) (by omega), f_cons e_cst (fmt_s (by omega)) (by simp only [str_len_app]; omega), f_cons (r_call (es_c (r_var rfl) es0) c4) (fmt_s (by omega)) (by simp only [str_len_app]; omega), evF_nil, str_empty_app]
      rw [show lineT (lkS kn) ws s = _ from if_neg hb0]))
    simp only [evS, q, toS_ok]
    exact endS_rt rfl
end
end Mn
end

section
set_option Elab.async false
set_option linter.all false
set_option maxRecDepth 100000
set_option maxHeartbeats 2000000
/-! Plain: a survey is done after so many rounds. -/
namespace Mn
open PySem
section
variable {c : Nat} {ws : List Way}
def openN (c : Nat) (ws : List Way) (t : Nat) : Nat := ((rows c).filter fun s => (Kf c ws t s).isNone).length
theorem open_le {t : Nat} : openN c ws (t + 1) ≤ openN c ws t := by
  unfold openN
  have : ∀ l : List (List Int), (l.filter fun s => (Kf c ws (t + 1) s).isNone).length ≤ (l.filter fun s => (Kf c ws t s).isNone).length := fun l => by
    induction l with
    | nil => simp
    | cons a l ih =>
      cases e : Kf c ws t a with
      | some m =>
        have := Kf_mono e
        simp [List.filter_cons, e, this]
        exact ih
      | none =>
        simp only [List.filter_cons, e, Option.isNone_none, if_true]
        split <;> simp <;> omega
  exact this _
theorem open_lt {t : Nat} {s : List Int} (hs : s ∈ rows c) (h1 : Kf c ws t s = none) (h2 : Kf c ws (t + 1) s ≠ none) : openN c ws (t + 1) < openN c ws t := by
  unfold openN
  have : ∀ l : List (List Int), s ∈ l → (l.filter fun s => (Kf c ws (t + 1) s).isNone).length < (l.filter fun s => (Kf c ws t s).isNone).length := fun l => by
    have le : ∀ l : List (List Int), (l.filter fun s => (Kf c ws (t + 1) s).isNone).length ≤ (l.filter fun s => (Kf c ws t s).isNone).length := fun l => by
      induction l with
      | nil => simp
      | cons a l ih =>
        cases e : Kf c ws t a with
        | some m =>
          have := Kf_mono e
          simp [List.filter_cons, e, this]
          exact ih
        | none =>
          simp only [List.filter_cons, e, Option.isNone_none, if_true]
          split <;> simp <;> omega
    induction l with
    | nil => intro h; cases h
    | cons a l ih =>
      intro h
      rcases List.mem_cons.mp h with rfl | h
      · have h3 : (Kf c ws (t + 1) s).isNone = false := by
          cases e : Kf c ws (t + 1) s with
          | none => exact absurd e h2
          | some m => rfl
        have := le l
        simp only [List.filter_cons, h1, h3, Option.isNone_none, if_true, Bool.false_eq_true, if_false, List.length_cons]
        omega
      · have := ih h
        cases e : Kf c ws t a with
        | some m =>
          have e2 := Kf_mono e
          simp only [List.filter_cons, e, e2, Option.isNone_some, Bool.false_eq_true, if_false]
          exact this
        | none =>
          simp only [List.filter_cons, e, Option.isNone_none, if_true]
          split <;> simp <;> omega
  exact this _ hs
/-- after so many double rounds all is done, or more rows are settled than there are -/
theorem done_or : ∀ m : Nat, (∃ k, k ≤ m ∧ Done c ws (2 * k)) ∨ openN c ws (2 * m) + m ≤ (rows c).length
  | 0 => .inr (by unfold openN; simp; exact List.length_filter_le ..)
  | m + 1 => by
    rcases done_or m with ⟨k, hk, hd⟩ | h
    · exact .inl ⟨k, by omega, hd⟩
    · by_cases hd : Done c ws (2 * m)
      · exact .inl ⟨m, by omega, hd⟩
      · right
        unfold Done at hd
        have : ∃ s, s ∈ rows c ∧ Kf c ws (2 * m) s = none ∧ settledAt ws (Kf c ws (2 * m)) (2 * m) s = true := by
          apply Classical.byContradiction
          intro z
          apply hd
          intro s hs hn
          cases e : settledAt ws (Kf c ws (2 * m)) (2 * m) s with
          | false => rfl
          | true => exact absurd ⟨s, hs, hn, e⟩ z
        obtain ⟨s, hs, hn, hse⟩ := this
        have h2 : Kf c ws (2 * m + 1) s ≠ none := by simp [Kf, hn, hs, hse]
        have l1 := open_lt hs hn h2
        have l2 := open_le (c := c) (ws := ws) (t := 2 * m + 1)
        rw [show 2 * (m + 1) = 2 * m + 1 + 1 by omega]
        omega
theorem done_by {m : Nat} (h : (rows c).length < m) : Done c ws (2 * m) := by
  rcases done_or (c := c) (ws := ws) m with ⟨k, hk, hd⟩ | h2
  · have := (hd.more (m - k)).2
    rw [show k + (m - k) = m by omega] at this
    exact this
  · omega
end
end Mn
end

section
set_option Elab.async false
set_option linter.all false
set_option maxRecDepth 100000
set_option maxHeartbeats 2000000
/-! Plain: steps by chains; loops and comprehensions with an invariant. -/
namespace Mn
open PySem L84 LS
section
variable {p : PTab} {C : Calls} {fuel : Nat} {α : Type}
/-- a loop over the images of a list -/
theorem s_for {tg : Tg} {it : It} {b : Ss} {env : Env} {st st1 : Store} {l : List α} {g : α → D} {still : Store → Bool} (I : List α → Env → Store → Prop)
    (hI : evI p C it env st = .ok ⟨l.map g, still, none⟩ st1) (h0 : still st1 = true) (i0 : I l env st1)
    (k : ∀ a r env st, I (a :: r) env st → ∃ env1 env' st', bindTg tg (g a) env = some env1 ∧ evSs p C fuel b env1 st = .nx env' st' ∧ still st' = true ∧ I r env' st') :
    ∃ env' st', evS p C fuel (.frs tg it b) env st = .nx env' st' ∧ I [] env' st' := by
  simp only [evS, hI, toS_ok, h0, if_true, unl_none]
  refine fr_listR g I (fun a r env st i => ?_) l i0
  obtain ⟨env1, env', st', h1, h2, h3, h4⟩ := k a r env st i
  refine ⟨env', st', ?_, h4⟩
  simp only [h1, h2, turn_nx, h3, if_true]
theorem lc_inv {f : D → Store → Res (Option D)} {g : α → D} (I : List α → List D → Store → Prop)
    (k : ∀ a r acc st, I (a :: r) acc st → ∃ o st', f (g a) st = .ok o st' ∧ I r (acc ++ o.toList) st') :
    ∀ (l : List α) (acc : List D) (st : Store), I l acc st → ∃ xs st', lcLoop f (l.map g) acc st = .ok (.fl xs) st' ∧ I [] xs st'
  | [], acc, st, i => ⟨acc, st, rfl, i⟩
  | a :: l, acc, st, i => by
    obtain ⟨o, st', h1, h2⟩ := k a l acc st i
    obtain ⟨xs, st2, h3, h4⟩ := lc_inv I k l _ _ h2
    refine ⟨xs, st2, ?_, h4⟩
    simp only [List.map_cons, lcLoop, h1, Res.bind_okP]
    cases o with
    | none => simpa using h3
    | some x => simpa using h3
/-- a comprehension over the images of a list -/
theorem e_lc {elt : E} {tg : Tg} {it : It} {c : Mn.T} {env : Env} {st st1 : Store} {l : List α} {g : α → D} {still : Store → Bool} (I : List α → List D → Store → Prop)
    (hI : evI p C it env st = .ok ⟨l.map g, still, none⟩ st1) (h0 : still st1 = true) (hl : l.length ≤ lim) (i0 : I l [] st1)
    (k : ∀ a r acc st, I (a :: r) acc st → ∃ env', bindTg tg (g a) (wipeE env (tgs tg)) = some env' ∧
      ((∃ x st2 st', evT p C c env' st = .ok true st2 ∧ evE p C elt env' st2 = .ok (.d x) st' ∧ still st' = true ∧ I r (acc ++ [x]) st') ∨ ∃ st', evT p C c env' st = .ok false st' ∧ still st' = true ∧ I r acc st')) :
    ∃ xs st', evE p C (.lc elt tg it c) env st = .ok (.fl xs) st' ∧ I [] xs st' := by
  simp only [evE, hI, Res.bind_okP, h0, List.length_map, hl, and_self, if_true, unlock_none]
  obtain ⟨xs, st', h1, h2⟩ := lc_inv (f := fun d st => match bindTg tg d (wipeE env (tgs tg)) with
    | some env' => (evT p C c env' st).calm.bind fun b st => if b then (evE p C elt env' st).froz.calm.bind fun x st => if still st then .ok (some x) st else .bad
      else if still st then .ok none st else .bad
    | none => .bad) (g := g) I (fun a r acc st i => by
      obtain ⟨env', h1, h2⟩ := k a r acc st i
      rcases h2 with ⟨x, st2, st', h2, h3, h4, h5⟩ | ⟨st', h2, h3, h4⟩
      · exact ⟨some x, st', by simp [h1, h2, h3, h4], h5⟩
      · exact ⟨none, st', by simp [h1, h2, h3], by simpa using h4⟩) l [] st1 i0
  exact ⟨xs, st', (congrArg (fun r => Res.bind r fun r st => Res.ok r st) h1).trans rfl, h2⟩
theorem i_rng {a : E} {env : Env} {st st1 : Store} {k : Nat} (hk : k ≤ 1000000) (h : evE p C a env st = .ok (.d (.int k)) st1) : evI p C (.rng a) env st = .ok ⟨(List.range k).map fun (i : Nat) => D.int (0 + (i : Int)), fun _ => true, none⟩ st1 := by
  simp only [evI, h, froz_d, Res.bind_okP]
  rw [if_pos (by omega)]
  rfl
theorem i_val {a : E} {env : Env} {st st1 : Store} {x : D} {xs : List D} (h : evE p C a env st = .ok (.d x) st1) (hs : seqOf st1 x = some xs) : evI p C (.val a) env st = .ok ⟨xs, stillL st1 x, none⟩ st1 := by
  simp only [evI, h, froz_d, Res.bind_okP, hs]
theorem r_bif {f : Bif} {es : Es} {ds : List D} {env : Env} {st st1 : Store} {r : Res RV} (h1 : evEs p C es env st = .ok ds st1) (h2 : bifR p C f ds st1 = r) : evE p C (.bif f es) env st = r := by
  simp only [evE, h1, Res.bind_okP, h2]
theorem r_bin' {o : Bop} {a b : E} {x y : D} {z : RV} {env : Env} {st st1 st2 : Store} (h1 : evE p C a env st = .ok (.d x) st1) (h2 : evE p C b env st1 = .ok (.d y) st2) (h3 : binD st2 o x y = some z) : evE p C (.bin o a b) env st = .ok z st2 := by
  simp only [evE, h1, h2, froz_d, Res.bind_okP, h3, ofOpt_some]
/-- an argument that is a new list -/
theorem es_fl {a : E} {es : Es} {env : Env} {st st1 st2 : Store} {xs ds : List D} (h1 : evE p C a env st = .ok (.fl xs) st1) (h2 : evEs p C es env (st1 ++ [.lst false xs]) = .ok ds st2) : evEs p C (.cons true a es) env st = .ok (.loc st1.length :: ds) st2 := by
  simp only [evEs, h1, if_true, kept_fl, Res.bind_okP, h2]
theorem es_fd {a : E} {es : Es} {env : Env} {st st1 st2 : Store} {t : Bool} {xs : List (D × D)} {ds : List D} (h1 : evE p C a env st = .ok (.fd t xs) st1) (h2 : evEs p C es env (st1 ++ [.dct t false xs]) = .ok ds st2) : evEs p C (.cons true a es) env st = .ok (.loc st1.length :: ds) st2 := by
  simp only [evEs, h1, if_true, kept_fd, Res.bind_okP, h2]
theorem es_fz {a : E} {es : Es} {env : Env} {st st1 st2 : Store} {xs ds : List D} (h1 : evE p C a env st = .ok (.fl xs) st1) (h2 : evEs p C es env st1 = .ok ds st2) : evEs p C (.cons false a es) env st = .ok (.lst xs :: ds) st2 := by
  simp only [evEs, h1, Bool.false_eq_true, if_false, froz_fl, Res.bind_okP, h2]
theorem s_asgL {k : Nat} {a : E} {env : Env} {st st1 : Store} {xs : List D} (h : evE p C a env st = .ok (.fl xs) st1) : evS p C fuel (.asg k true a) env st = .nx (env.set k (some (.loc st1.length))) (st1 ++ [.lst false xs]) := by
  simp only [evS, if_true, h, kept_fl, toS_ok]
theorem s_asgs {is : List Nat} {es : Es} {env : Env} {st st1 : Store} {ds : List D} (h : evEs p C es env st = .ok ds st1) (hl : ds.length = is.length) : evS p C fuel (.asgs is es) env st = .nx (setAll env is ds) st1 := by
  simp only [evS, h, toS_ok, hl, if_true]
theorem s_ret {a : E} {env : Env} {st st1 : Store} {r : RV} (h : evE p C a env st = .ok r st1) : evS p C fuel (.ret a) env st = .rt r st1 := by
  simp only [evS, h, toS_ok]
theorem e_new {c : Str} {es : Es} {ds : List D} {env : Env} {st st1 st2 : Store} (h1 : evEs p C es env st = .ok ds st1) (h2 : C (c, some "__init__") (.loc st1.length :: ds) (st1 ++ [.ins c []]) = .ok (.d .non) st2) : evE p C (.new c es) env st = .ok (.d (.loc st1.length)) st2 := by
  simp only [evE, h1, Res.bind_okP, h2]
theorem r_lst {es : Es} {ds : List D} {env : Env} {st st1 : Store} (h : evEs p C es env st = .ok ds st1) : evE p C (.lst es) env st = .ok (.fl ds) st1 := by
  simp only [evE, h, Res.bind_okP]
theorem r_tup {es : Es} {ds : List D} {env : Env} {st st1 : Store} (h : evEs p C es env st = .ok ds st1) : evE p C (.tup es) env st = .ok (.d (.tup ds)) st1 := by
  simp only [evE, h, Res.bind_okP]
theorem r_callK {f : Str} {ps ks : List Str} {es : Es} {ds ds' : List D} {env : Env} {st st1 : Store} {r : Res RV} (h1 : evEs p C es env st = .ok ds st1) (h2 : kwOk ps ks ds.length = true) (h3 : kwPerm ps ks ds = ds') (h4 : C (f, none) ds' st1 = r) : evE p C (.callK f ps ks es) env st = r := by
  simp only [evE, h1, Res.bind_okP, h2, if_true, h3, h4]
/-- all of what is told true -/
theorem all_true {xs : List D} {st : Store} (h : ∀ x ∈ xs, x = .bl true) : bifR p C .all [.lst xs] st = .ok (.d (.bl true)) st := by
  have : xs = (List.replicate xs.length true).map D.bl := by
    rw [List.map_replicate]
    exact List.eq_replicate_iff.mpr ⟨rfl, h⟩
  rw [this, bif_all]
  simp
end
theorem trim_bl' {st st' : Store} {bb : Bool} (hl : st.length ≤ st'.length) : ∃ st2, trim st st' (.d (.bl bb)) = .ok (.d (.bl bb)) st2 ∧ ∀ j, j < st.length → st2[j]? = st'[j]? := by
  unfold trim
  split
  · refine ⟨st'.take st.length, rfl, fun j hj => ?_⟩
    rw [List.getElem?_take, if_pos hj]
  · exact ⟨st', rfl, fun _ _ => rfl⟩
/-! ### signs of texts -/
def cpsOk (x : Str) : Prop := ∀ c ∈ x.cps.toList, c < 0x110000
theorem strOk_of {x : Str} (h : cpsOk x) : PyData.strOk x = true := by
  unfold PyData.strOk
  rw [Array.all_eq_true_iff_forall_mem]
  intro c hc
  exact decide_eq_true (h c (Array.mem_toList_iff.mpr hc))
theorem ok_ofS (s : String) : cpsOk (Str.ofString s) := by
  rw [Str.ofString_eq_toList]
  intro c hc
  simp only [List.toList_toArray, List.mem_map] at hc
  obtain ⟨d, _, rfl⟩ := hc
  have := d.valid
  unfold UInt32.isValidChar Nat.isValidChar at this
  show d.val.toNat < 0x110000
  omega
theorem ok_app {x y : Str} (h1 : cpsOk x) (h2 : cpsOk y) : cpsOk (x ++ y) := by
  intro c hc
  rw [str_app] at hc
  simp only [Array.toList_append, List.mem_append] at hc
  rcases hc with hc | hc
  · exact h1 c hc
  · exact h2 c hc
theorem ok_join {sep : Str} (hs : cpsOk sep) : ∀ {xs : List Str}, (∀ x ∈ xs, cpsOk x) → cpsOk (Txt.join sep xs)
  | [], _ => by
    intro c hc
    have : (Txt.join sep []).cps.toList = [] := rfl
    rw [this] at hc
    cases hc
  | [a], h => h a (List.mem_singleton.mpr rfl)
  | a :: b :: r, h => by
    rw [join_cons]
    exact ok_app (ok_app (h a (List.mem_cons_self ..)) hs) (ok_join hs fun x hx => h x (List.mem_cons_of_mem _ hx))
theorem digits_ok {n : Nat} : ∀ c ∈ (Nat.toDigits 16 n).map Char.toNat, c < 0x110000 := by
  intro c hc
  obtain ⟨d, _, rfl⟩ := List.mem_map.mp hc
  have := d.valid
  unfold UInt32.isValidChar Nat.isValidChar at this
  show d.val.toNat < 0x110000
  omega
theorem reprChar_ok {q c : Nat} (hq : q < 0x110000) (hc : c < 0x110000) : ∀ d ∈ Builtin.Str.reprChar q c, d < 0x110000 := by
  have hx : ∀ k, ∀ d ∈ List.replicate k 48 ++ (Nat.toDigits 16 c).map Char.toNat, d < 0x110000 := fun k d hd => by
    rcases List.mem_append.mp hd with hd | hd
    · rw [List.eq_of_mem_replicate hd]; omega
    · exact digits_ok d hd
  unfold Builtin.Str.reprChar
  dsimp only
  intro d hd
  have two : ∀ a b : Nat, a < 0x110000 → b < 0x110000 → d ∈ [a, b] → d < 0x110000 := fun a b h1 h2 h => by
    rcases List.mem_cons.mp h with rfl | h
    · exact h1
    · rw [List.mem_singleton.mp h]; exact h2
  have esc : ∀ (a b : Nat) (l : List Nat), a < 0x110000 → b < 0x110000 → (∀ d ∈ l, d < 0x110000) → d ∈ [a, b] ++ l → d < 0x110000 := fun a b l h1 h2 h3 h => by
    rcases List.mem_append.mp h with h | h
    · exact two a b h1 h2 h
    · exact h3 d h
  repeat' split at hd
  · exact two _ _ (by omega) hc hd
  · exact two _ _ (by omega) (by omega) hd
  · exact two _ _ (by omega) (by omega) hd
  · exact two _ _ (by omega) (by omega) hd
  · rw [List.mem_singleton.mp hd]; exact hc
  · exact esc _ _ _ (by omega) (by omega) (hx _) hd
  · exact esc _ _ _ (by omega) (by omega) (hx _) hd
  · exact esc _ _ _ (by omega) (by omega) (hx _) hd
theorem repr_fold_ok {q : Nat} (hq : q < 0x110000) : ∀ (l : List Nat) (acc : Array Nat), (∀ c ∈ l, c < 0x110000) → (∀ c ∈ acc.toList, c < 0x110000) → ∀ c ∈ (l.foldl (fun out c => out ++ (Builtin.Str.reprChar q c).toArray) acc).toList, c < 0x110000
  | [], acc, _, h => h
  | a :: l, acc, hl, h => by
    rw [List.foldl_cons]
    refine repr_fold_ok hq l _ (fun c hc => hl c (List.mem_cons_of_mem _ hc)) fun c hc => ?_
    simp only [Array.toList_append, List.mem_append] at hc
    rcases hc with hc | hc
    · exact h c hc
    · exact reprChar_ok hq (hl a (List.mem_cons_self ..)) c hc
theorem ok_repr {x : Str} (h : cpsOk x) : cpsOk (reprText x) := by
  unfold reprText
  have hq : reprQuote x < 0x110000 := by
    unfold reprQuote
    split <;> omega
  intro c hc
  rw [← Array.foldl_toList] at hc
  simp only [Array.toList_push, List.mem_append, List.mem_singleton] at hc
  rcases hc with hc | rfl
  · refine repr_fold_ok hq x.cps.toList #[reprQuote x] h (fun c hc => ?_) c hc
    rw [List.mem_singleton.mp hc]; exact hq
  · exact hq
theorem ok_textFrom : ∀ (ts : List Str) (k : Nat) (acc : Str), cpsOk acc → (∀ t ∈ ts, cpsOk t) → cpsOk (textFrom k acc ts)
  | [], _, _, h, _ => h
  | t :: ts, k, acc, h, h2 => by
    refine ok_textFrom ts (k + 1) _ (ok_app (ok_app h ?_) (h2 t (List.mem_cons_self ..))) fun u hu => h2 u (List.mem_cons_of_mem _ hu)
    exact ok_ofS _
theorem ok_listText {ts : List Str} (h : ∀ t ∈ ts, cpsOk t) : cpsOk (listText ts) := ok_app (ok_textFrom ts 0 _ (ok_ofS _) h) (ok_ofS _)
theorem repr_le {x : Str} (h : cpsOk x) : (reprText x).length ≤ 10 * x.length + 2 := StrLaws.reprText_len x fun c hc => Nat.lt_trans (h c hc) (by decide)
theorem listText2_len (a b : Str) : (listText [a, b]).length = a.length + b.length + 4 := by
  have h1 : (("[" : String) : Str).length = 1 := by decide +kernel
  have h2 : (("]" : String) : Str).length = 1 := by decide +kernel
  have h3 : ((", " : String) : Str).length = 2 := by decide +kernel
  have h4 : (("" : String) : Str).length = 0 := by decide +kernel
  have e : listText [a, b] = ((("[" : String) : Str) ++ (("" : String) : Str) ++ a) ++ ((", " : String) : Str) ++ b ++ (("]" : String) : Str) := rfl
  rw [e]
  simp only [strLen_append, h1, h2, h3, h4]
  omega
/-- repr of two texts in a list -/
theorem repr_two {p : PTab} {C : Calls} {st : Store} {x y : Str} (h1 : cpsOk x) (h2 : cpsOk y) (hl : x.length + y.length ≤ 90000) : bifR p C .repr [.lst [.str x, .str y]] st = .ok (.d (.str (listText [reprText x, reprText y]))) st := by
  rw [bif_d rfl]
  have a1 := repr_le h1
  have a2 := repr_le h2
  have e : showP (.list [.str x, .str y]) = some (listText [reprText x, reprText y]) := by
    unfold showP
    have hs : (PyData.list [.str x, .str y]).shown = listText [reprText x, reprText y] := rfl
    rw [hs, if_pos]
    simp only [Bool.and_eq_true, decide_eq_true_eq, Bool.not_eq_true']
    refine ⟨rfl, rfl, ?_, ?_⟩
    · simp [PyData.depth, PyData.depthAll]
    rw [listText2_len]
    unfold lim
    omega
  simp [bifD, reprD, pdShow, pdS, pd, pds, e]
end Mn
end

section
set_option Elab.async false
set_option linter.all false
set_option maxRecDepth 100000
set_option maxHeartbeats 2000000
/-! Plain: standings are checked; play_line. -/
namespace Mn
open PySem L84 LS
section
variable {p : PTab} {fuel n : Nat} {F : Fn → Option MDef} {ws : List Way} {c w : Nat} {st : Store} {s : List Int}
theorem asc_at {s : List Int} (asc : s.Pairwise (· < ·)) {i : Nat} {u v : Int} (hu : s[i]? = some u) (hv : s[i + 1]? = some v) : u < v := by
  obtain ⟨h1, e1⟩ := List.getElem?_eq_some_iff.mp hu
  obtain ⟨h2, e2⟩ := List.getElem?_eq_some_iff.mp hv
  have := List.pairwise_iff_getElem.mp asc i (i + 1) h1 h2 (by omega)
  rw [e1, e2] at this
  exact this
theorem l_wrong_place (h : F ("is_between", none) = some m_is_between) (s : List Int) (c : Int) (st : Store) (hx : ∀ x ∈ s, 0 ≤ x ∧ x ≤ c - 1) (asc : s.Pairwise (· < ·)) :
    ∃ a b, evS p (callN p fuel F (n + 1)) fuel m_wrong_place_l1 [some (tI s), some (.int c), none, none] st = .nx [some (tI s), some (.int c), a, b] st := by
  simp [m_wrong_place_l1, evSs, evS, evE, evEs, evT, evI]
  rw [enum_map]
  refine ⟨_, _, fr_fold (mk := fun q : Option D × Option D => [some (tI s), some (.int c), q.1, q.2]) (step := fun _ q => (some (.int q.2), some (.int q.1))) (s := (none, none)) fun q hq z => ?_⟩
  obtain ⟨x, i⟩ := q
  have hi : s[i]? = some x := by
    have := List.mem_zipIdx_iff_getElem?.mp hq
    simpa using this
  have hm := hx x (List.mem_of_getElem? hi)
  have hb := c_is_between (p := p) (fuel := fuel) (n := n) h x 0 (c - 1) st
  simp [bindTg, setAll, hb, hm, binD, binI]
  cases i with
  | zero => simp
  | succ i =>
    have hlen := (List.getElem?_eq_some_iff.mp hi).1
    have hu : s[i]? = some s[i] := List.getElem?_eq_getElem (by omega)
    have hix : ixD st (tI s) (.int (((i + 1 : Nat) : Int) - 1)) = some (.int s[i]) := by
      rw [show ((i + 1 : Nat) : Int) - 1 = (i : Int) by omega]
      exact ix_seq (x := .int s[i]) seqOf_tI (by rw [List.getElem?_map, hu]; rfl)
    have hlt := asc_at asc hu hi
    have hn : ¬ x ≤ s[i] := by omega
    rw [hix]
    simp [hn]
theorem c_wrong_place (Q : HasR p F) (s : List Int) (c : Int) (st : Store) (hx : ∀ x ∈ s, 0 ≤ x ∧ x ≤ c - 1) (asc : s.Pairwise (· < ·)) :
    callN p fuel F (n + 2) ("wrong_place", none) [tI s, .int c] st = .ok (.d .non) st := by
  rw [call_go Q.wrong_place rfl]
  obtain ⟨a, b, e⟩ := l_wrong_place (p := p) (fuel := fuel) (n := n) Q.is_between s c st hx asc
  simp [m_wrong_place, evSs, e]
  simp [evSs, evS, evE]
theorem c_check_standing (Q : HasR p F) (s : List Int) (c : Int) (st : Store) (hx : ∀ x ∈ s, 0 ≤ x ∧ x ≤ c - 1) (asc : s.Pairwise (· < ·)) :
    callN p fuel F (n + 3) ("check_standing", none) [tI s, .int c] st = .ok (.d .non) st := by
  rw [call_go Q.check_standing rfl]
  simp [m_check_standing, evSs, evS, evE, evEs, evT, c_wrong_place Q s c st hx asc, cmpD]
theorem c_check_asked (Q : HasR p F) (hw : WebAt st w c ws) (hs : s ∈ rows c) : callN p fuel F (n + 4) ("check_asked", none) [.loc w, tI s] st = .ok (.d .non) st := by
  rw [call_go Q.check_asked rfl]
  have h1 := c_check_web (p := p) (fuel := fuel) (n := n + 2) Q.toHasW hw
  obtain ⟨a1, a2⟩ := allS_iff.mp (mem_rows.mp hs)
  have h2 := c_check_standing (p := p) (fuel := fuel) (n := n) Q s c st (fun x hx => by have := a2 x hx; omega) a1
  obtain ⟨r, hw⟩ := hw
  simp [m_check_asked, evSs, evS, evE, evEs, h1, hw, webO, Q.p1, Q.f1, List.lookup, h2]
theorem trim_old {b st' : Store} {d : D} (hl : b.length ≤ st'.length) (hk : ∀ j, j < b.length → st'[j]? = b[j]?) (hd : ∀ j, d ≠ .loc j) (hb : D.bnd b.length d = true) : trim b st' (.d d) = .ok (.d d) b := by
  have h1 : okPre b.length b st' = true := okPre_iff hl fun j o o' e e' => by
    left
    rw [hk j (List.getElem?_eq_some_iff.mp e).1, e] at e'
    exact Option.some.inj e'
  have h2 : (RV.d d).fresh b.length st' = some (.d d) := by
    unfold RV.fresh
    split
    · rename_i e; cases e
    · rename_i e; cases e
    · rename_i j e; cases e; exact absurd rfl (hd j)
    · rename_i e; cases e
      rw [if_pos hb]
  have h3 : st'.take b.length = b := by
    apply List.ext_getElem?
    intro j
    rw [List.getElem?_take]
    by_cases hj : j < b.length
    · rw [if_pos hj, hk j hj]
    · rw [if_neg hj, List.getElem?_eq_none (by omega)]
  unfold trim
  rw [if_pos h1, h2]
  simp only [h3]
/-- with few places the steps are all known behind 66 rounds -/
theorem Kf66 {m : Nat} (hc : c ≤ 5) (hd : Done c ws (2 * m)) : Kf c ws (2 * m) = Kf c ws 66 := by
  have : (rows c).length < 33 := by
    rw [rows_len]
    have := Nat.pow_le_pow_right (n := 2) (by omega) hc
    omega
  exact hd.same (done_by this)
theorem c_play_line (Q : HasR p F) (hw : WebAt st w c ws) (o : WebOk c ws) (hc : c ≤ 5) (hs : s ∈ rows c) (hfu : 1000 ≤ fuel) : callN p fuel F (n + 5) ("play_line", none) [.loc w, tI s] st = .ok (.d (.str (lineT (Kf c ws 66) ws s))) st := by
  rw [call_go Q.play_line rfl]
  have h1 := c_check_asked (p := p) (fuel := fuel) (n := n) Q hw hs
  obtain ⟨st', kn, wt, m, e2, k2, V, iv, hd, hl⟩ := c_survey_init (p := p) (fuel := fuel) (n := n) Q.toHasS o (by omega) hw hfu
  have hwl : w < st.length := by
    obtain ⟨r, z⟩ := hw
    exact (List.getElem?_eq_some_iff.mp z).1
  have hw' : WebAt st' w c ws := by
    obtain ⟨r, z⟩ := hw
    exact ⟨r, by rw [k2 _ hwl]; exact z⟩
  have hK : lkS kn = Kf c ws 66 := iv.lkf.trans (Kf66 hc hd)
  obtain ⟨a1, a2⟩ := allS_iff.mp (mem_rows.mp hs)
  have e3 := c_lineof (p := p) (fuel := fuel) (n := n) Q V hw' o (s := s) (by have := rows_short hs; omega) (fun x hx => by have := a2 x hx; omega) (fun m h => by
    rw [hK] at h
    have := Kf_lt _ _ _ h
    omega) (fun v hv => by
    obtain ⟨b1, b2, b3⟩ := o.ok v hv
    have := o.c8
    omega) (fun m h he => by
    rw [hK] at h ⊢
    exact Kf_lost h he)
  rw [hK] at e3
  have s1 : evS p (callN p fuel F (n + 4)) fuel (.ex (.call "check_asked" (.cons true (.var 0) (.cons true (.var 1) .nil)))) [some (.loc w), some (tI s)] st = .nx [some (.loc w), some (tI s)] st := s_ex (r_call (es_c (r_var rfl) (es_c (r_var rfl) es0)) h1)
  have q1 : evE p (callN p fuel F (n + 4)) (.new "Survey" (.cons true (.var 0) .nil)) [some (.loc w), some (tI s)] st = .ok (.d (.loc st.length)) st' := e_new (es_c (r_var rfl) es0) e2
  have s2 : evS p (callN p fuel F (n + 4)) fuel (.ret (.call "line_of" (.cons true (.new "Survey" (.cons true (.var 0) .nil)) (.cons true (.var 1) .nil)))) [some (.loc w), some (tI s)] st = .rt (.d (.str (lineT (Kf c ws 66) ws s))) st' := by
    simp only [evS, r_call (es_c (hh := true) q1 (es_c (hh := true) (r_var (k := 1) rfl) es0)) e3, toS_ok]
  have body : evSs p (callN p fuel F (n + 4)) fuel m_play_line.body (List.map some [D.loc w, tI s] ++ List.replicate (m_play_line.n - m_play_line.np) none) st = .rt (.d (.str (lineT (Kf c ws 66) ws s))) st' := by
    show evSs p (callN p fuel F (n + 4)) fuel (.cons _ (.cons _ .nil)) [some (.loc w), some (tI s)] st = _
    rw [ss_nx s1, ss_one]
    exact s2
  rw [body]
  exact trim_old (by omega) k2 (fun j => by simp) bnd_str
end
end Mn
end

section
set_option Elab.async false
set_option linter.all false
set_option maxRecDepth 100000
set_option maxHeartbeats 2000000
/-! Plain: the law of k73. -/
namespace Mn.L73
open PySem L84 LS
structure HasL (p : PTab) (F : Fn → Option MDef) : Prop extends HasR p F where
  t : HasT F
  right : F ("_law_right", none) = some m__law_right
  law : F ("law", none) = some m_law
theorem numT_ok (x : Int) : cpsOk (numT x) := ok_ofS _
theorem rowText_ok (s : List Int) : cpsOk (rowText s) := by
  unfold rowText
  split
  · exact ok_ofS _
  · refine ok_join (ok_ofS _) fun x hx => ?_
    obtain ⟨y, _, rfl⟩ := List.mem_map.mp hx
    exact numT_ok y
theorem headT_ok (K : List Int → Option Nat) (s : List Int) : cpsOk (headT K s) := by
  have h := ok_app (ok_app (rowText_ok s) (ok_ofS ": ")) (ok_ofS (wordK K s))
  unfold headT
  split
  · exact ok_app (ok_app h (ok_ofS _)) (numT_ok _)
  · exact h
theorem lineT_ok (K : List Int → Option Nat) (ws : List Way) (s : List Int) : cpsOk (lineT K ws s) := by
  unfold lineT
  split
  · exact headT_ok K s
  · refine ok_app (ok_app (headT_ok K s) (ok_ofS _)) (ok_join (ok_ofS _) fun x hx => ?_)
    obtain ⟨y, _, rfl⟩ := List.mem_map.mp hx
    exact ok_app (ok_app (numT_ok _) (ok_ofS _)) (numT_ok _)
theorem lineT_len {K : List Int → Option Nat} {ws : List Way} {s : List Int} (hs : s.length ≤ 8) (h : ∀ x ∈ s, 0 ≤ x ∧ x < 10) (hk : ∀ m, K s = some m → m < 100) (hws : ws.length < 1000) (hwr : ∀ w ∈ ws, (0 ≤ w.1 ∧ w.1 < 10) ∧ (0 ≤ w.2 ∧ w.2 < 10)) : (lineT K ws s).length ≤ 40000 := by
  have h1 := headT_len hs h hk
  have h5 : (Str.ofString " by ").length = 4 := by decide +kernel
  have hbw : ∀ v ∈ bestW K ws s, (0 ≤ v.1 ∧ v.1 < 10) ∧ (0 ≤ v.2 ∧ v.2 < 10) := fun v hv => hwr v (best_mem hv)
  have hbl := best_len (ws := ws) (s := s) K
  unfold lineT
  by_cases hb0 : bestW K ws s = []
  · rw [if_pos hb0]; omega
  · rw [if_neg hb0]
    have hj : (Txt.join (Str.ofString " ") ((bestW K ws s).map wayT)).length ≤ 30000 := by
      have hsum := sum_way hbw
      cases hc : bestW K ws s with
      | nil => exact absurd hc hb0
      | cons a l =>
        rw [hc] at hsum hbl
        have := join_len (l.map wayT) (wayT a)
        have e2 : ∀ l : List Str, (l.map fun x => x.length + 1).sum = (l.map (·.length)).sum + l.length := fun l => by
          induction l with
          | nil => rfl
          | cons b l ih => simp [ih]; omega
        rw [e2] at this
        rw [List.map_cons]
        simp at hsum hbl this ⊢
        omega
    simp only [str_len_app]
    omega
section
variable {p : PTab} {fuel n : Nat} {F : Fn → Option MDef}
/-- what stands behind the law's first lines -/
structure RI (b0 : Store) (m : Nat) (ws : List Way) (kn : List (List Int × Nat)) (st : Store) : Prop where
  dct : st[b0.length + 1]? = some (.dct true false (knD kn))
  web : WebAt st (b0.length + 2) m ws
  old : ∀ j, j < b0.length → st[j]? = b0[j]?
  len : b0.length + 4 ≤ st.length
abbrev eL (L m : Nat) (ws : List Way) (x6 x7 x8 x9 : Option D) : Env := [some (.loc L), some (.int m), some (wsD ws), some (.loc (L + 1)), some (.loc (L + 2)), some (.loc (L + 3)), x6, x7, x8, x9]
theorem l_right (H : HasL p F) (hfu : 1000 ≤ fuel) {b0 : Store} {m : Nat} {ws : List Way} {kn : List (List Int × Nat)} {st : Store} (R : RI b0 m ws kn st) (o : WebOk m ws) (hm : m ≤ 5) (hkn : lkS kn = Kf m ws 66) {j : Nat} {ss : List (List Int)} (hj : st[j]? = some (.lst false (ss.map tI))) (hss : ∀ s ∈ ss, s ∈ rows m) {x7 x8 x9 : Option D} :
    ∃ x7' x8', evS p (callN p fuel F (n + 5)) fuel m__law_right_l1 (eL b0.length m ws (some (.loc j)) x7 x8 x9) st = .nx (eL b0.length m ws (some (.loc j)) x7' x8' x9) st := by
  have hsq : seqOf st (.loc j) = some (ss.map tI) := by simp [seqOf, hj]
  obtain ⟨env', st', e, hst, _, x7', x8', henv⟩ := s_for (p := p) (C := callN p fuel F (n + 5)) (fuel := fuel) (tg := .name 7) (it := .val (.var 6)) (env := eL b0.length m ws (some (.loc j)) x7 x8 x9) (st := st) (l := ss) (g := tI) (b := .cons (.asg 8 true (.call "_law_line_about" (.cons true (.var 2) (.cons true (.var 3) (.cons true (.var 7) .nil))))) 
  (.cons (.ifs (.val (.cmp .ne (.bif .repr (.cons false (.lst (.cons false (.call "play_line" (.cons true (.var 4) (.cons true (.var 7) .nil))) (.cons false (.callK "play_line" ["web", "standing"] ["standing", "web"] (.cons true (.var 7) (.cons true (.var 4) .nil))) .nil))) .nil)) (.bif .repr (.cons false (.lst (.cons false (.var 8) (.cons false (.var 8) .nil))) .nil)))) 
  (.cons (.ret (.cst (.bl false))) .nil) .nil) .nil)) (fun l env st' => st' = st ∧ (∀ s ∈ l, s ∈ rows m) ∧ ∃ x7 x8, env = eL b0.length m ws (some (.loc j)) x7 x8 x9)
    (i_val (r_var rfl) hsq) (by simp) ⟨rfl, hss, _, _, rfl⟩ (fun s r env st' i => by
      obtain ⟨rfl, hr, y7, y8, rfl⟩ := i
      have hs := hr s (List.mem_cons_self ..)
      obtain ⟨a1, a2⟩ := allS_iff.mp (mem_rows.mp hs)
      have hx : ∀ x ∈ s, 0 ≤ x ∧ x < 10 := fun x hx => by have := a2 x hx; omega
      have hsl : s.length ≤ 8 := by have := rows_short hs; omega
      have hk : ∀ k, lkS kn s = some k → k < 100 := fun k h => by
        rw [hkn] at h
        have := Kf_lt _ _ _ h
        omega
      have hwr : ∀ w ∈ ws, (0 ≤ w.1 ∧ w.1 < 10) ∧ (0 ≤ w.2 ∧ w.2 < 10) := fun v hv => by
        obtain ⟨b1, b2, b3⟩ := o.ok v hv
        have := o.c8
        omega
      have e1 := c_lline (p := p) (fuel := fuel) (n := n + 1) H.t R.dct hsl hx hk o.len hwr
      have e2 := c_play_line (p := p) (fuel := fuel) (n := n) H.toHasR R.web o hm hs hfu
      have hl := lineT_len hsl hx hk o.len hwr
      have hok := lineT_ok (lkS kn) ws s
      rw [← hkn] at e2
      refine ⟨_, eL b0.length m ws (some (.loc j)) (some (tI s)) (some (.str (lineT (lkS kn) ws s))) x9, st', rfl, ?_, by simp, rfl, fun t ht => hr t (List.mem_cons_of_mem _ ht), _, _, rfl⟩
      refine (ss_nx (s_asg (r_call (es_c (r_var rfl) (es_c (r_var rfl) (es_c (r_var rfl) es0))) e1))).trans ?_
      have hrp := repr_two (p := p) (C := callN p fuel F (n + 5)) (st := st') hok hok (by omega)
      refine (ss_nx ((s_ifF (t_val (r_cmp (r_bif (es_fz (r_lst (es_c (r_call (es_c (r_var rfl) (es_c (r_var rfl) es0)) e2) (es_c (r_callK (es_c (r_var rfl) (es_c (r_var rfl) es0)) (by show kwOk ["web", "standing"] ["standing", "web"] 2 = true; decide) rfl e2) es0))) es0) hrp) (r_bif (es_fz (r_lst (es_c (r_var rfl) (es_c (r_var rfl) es0))) es0) hrp) ?_))).trans ss_nl)).trans ss_nl
      have hsim : D.sim 60 (.str (listText [reprText (lineT (lkS kn) ws s), reprText (lineT (lkS kn) ws s)])) = true := strOk_of (ok_listText fun t ht => by
        simp only [List.mem_cons, List.not_mem_nil, or_false, or_self] at ht
        rw [ht]
        exact ok_repr hok)
      rw [ne_sim hsim hsim]
      simp)
  subst hst henv
  exact ⟨x7', x8', e⟩
theorem first4 {b0 : Store} {x y z w : AO} : (b0 ++ [x] ++ [y] ++ [z] ++ [w]) = b0 ++ [x, y, z, w] := by simp
theorem c_right (H : HasL p F) (hfu : 1000 ≤ fuel) {b0 : Store} {a b c : Int} : ∃ st', callN p fuel F (n + 6) ("_law_right", none) [.loc b0.length] (b0 ++ [LS.chest a b c]) = .ok (.d (.bl true)) st' ∧ ∀ j, j < b0.length → st'[j]? = b0[j]? := by
  have hb : ∀ a b c : Int, (b0 ++ [LS.chest a b c])[b0.length]? = some (LS.chest a b c) := fun a b c => by simp
  have hset : ∀ x y z x' y' z' : Int, (b0 ++ [LS.chest x y z]).set b0.length (LS.chest x' y' z') = b0 ++ [LS.chest x' y' z'] := fun _ _ _ _ _ _ => by simp [List.set_append]
  obtain ⟨r, a1, b1, c1, r0, r1, e1⟩ := c_scoop (p := p) (fuel := fuel) (n := n + 4) H.t.toHasD (hb a b c) (many := 5) (by omega) (by omega)
  have e1 := e1.trans (congrArg (Res.ok _) (hset a b c a1 b1 c1))
  obtain ⟨m, hm⟩ : ∃ m : Nat, (m : Int) = 1 + r := ⟨(1 + r).toNat, by omega⟩
  obtain ⟨ws, a2, b2, c2, o, e2⟩ := c_drawn (p := p) (fuel := fuel) (n := n + 3) H.t.toHasH (hb a1 b1 c1) (m := m) (by omega) (by omega)
  rw [hset] at e2
  obtain ⟨kn, hkn, hkl, e3⟩ := c_lsurvey (p := p) (fuel := fuel) (n := n + 2) H.t.toHasV (c := m) (ws := ws) (by omega) o.len (b0 ++ [LS.chest a2 b2 c2])
  obtain ⟨rg, e4⟩ := c_web_init (p := p) (fuel := fuel) (n := n) H.toHasW o (b0 ++ [LS.chest a2 b2 c2] ++ [AO.dct true false (knD kn)]) hfu
  have e5 := c_lrows (p := p) (fuel := fuel) (n := n + 4) H.t.toHasH m (by omega) (b0 ++ [LS.chest a2 b2 c2] ++ [AO.dct true false (knD kn)] ++ [webO m ws rg])
  have l1 : (b0 ++ [LS.chest a2 b2 c2]).length = b0.length + 1 := by simp
  have l2 : (b0 ++ [LS.chest a2 b2 c2] ++ [AO.dct true false (knD kn)]).length = b0.length + 2 := by simp
  have l3 : (b0 ++ [LS.chest a2 b2 c2] ++ [AO.dct true false (knD kn)] ++ [webO m ws rg]).length = b0.length + 3 := by simp
  have hrl : 0 < (rows m).length ∧ (rows m).length < 1000 := by
    rw [rows_len]
    have := Nat.pow_le_pow_right (n := 2) (by omega) (show m ≤ 5 by omega)
    have := Nat.two_pow_pos m
    omega
  have at4 : ∀ x y z : Int, RI b0 m ws kn (b0 ++ [LS.chest x y z, .dct true false (knD kn), webO m ws rg, .lst false ((rows m).map tI)]) ∧ (b0 ++ [LS.chest x y z, .dct true false (knD kn), webO m ws rg, .lst false ((rows m).map tI)])[b0.length + 3]? = some (.lst false ((rows m).map tI)) := fun x y z => ⟨⟨off_get.trans rfl, ⟨rg, off_get.trans rfl⟩, fun j hj => List.getElem?_append_left hj, by simp⟩, off_get.trans rfl⟩
  have s6 : ∃ (j : Nat) (ss : List (List Int)) (S6 : Store), evS p (callN p fuel F (n + 5)) fuel (.asg 6 true (.ife (.val (.cmp .lt (.var 1) (.cst (.int (5))))) (.var 5) (.lc (.call "_law_some" (.cons true (.var 0) (.cons true (.var 5) .nil))) (.name 9) (.rng (.cst (.int (8)))) .tt))) (eL b0.length m ws none none none none) (b0 ++ [LS.chest a2 b2 c2, .dct true false (knD kn), webO m ws rg, .lst false ((rows m).map tI)]) = .nx (eL b0.length m ws (some (.loc j)) none none none) S6 ∧ RI b0 m ws kn S6 ∧ S6[j]? = some (.lst false (ss.map tI)) ∧ ∀ s ∈ ss, s ∈ rows m := by
    by_cases h5 : (m : Int) < 5
    · refine ⟨b0.length + 3, rows m, _, s_asg ((r_ifT (t_val (r_cmp (r_var rfl) e_int ?_))).trans (r_var rfl)), (at4 a2 b2 c2).1, (at4 a2 b2 c2).2, fun s h => h⟩
      rw [lt_int, decide_eq_true h5]
    · obtain ⟨xs, st', q, ⟨ss, rfl, hss⟩, x, y, z, rfl⟩ := e_lc (p := p) (C := callN p fuel F (n + 5)) (elt := .call "_law_some" (.cons true (.var 0) (.cons true (.var 5) .nil))) (tg := .name 9) (c := .tt) (env := eL b0.length m ws none none none none) (fun (_ : List Nat) acc st => (∃ ss : List (List Int), acc = ss.map tI ∧ ∀ s ∈ ss, s ∈ rows m) ∧ ∃ x y z : Int, st = b0 ++ [LS.chest x y z, .dct true false (knD kn), webO m ws rg, .lst false ((rows m).map tI)]) (i_rng (k := 8) (by decide) e_int) rfl (by unfold lim; decide) ⟨⟨[], rfl, fun s h => by cases h⟩, a2, b2, c2, rfl⟩ (fun i r acc st h => by
        obtain ⟨⟨ss, rfl, hss⟩, x, y, z, rfl⟩ := h
        obtain ⟨v, x', y', z', hv, e⟩ := c_some (p := p) (fuel := fuel) (n := n + 3) H.t.toHasD (st := b0 ++ [LS.chest x y z, .dct true false (knD kn), webO m ws rg, .lst false ((rows m).map tI)]) (j := b0.length) (a := x) (b := y) (c := z) (by have := off_get (b := b0) (x := [LS.chest x y z, .dct true false (knD kn), webO m ws rg, .lst false ((rows m).map tI)]) (i := 0); rw [Nat.add_zero] at this; rw [this]; rfl) (at4 x y z).2 (by omega) (by simpa using hrl.1) (by simp; omega)
        obtain ⟨s, hs, rfl⟩ := List.mem_map.mp hv
        refine ⟨_, rfl, .inl ⟨tI s, _, b0 ++ [LS.chest x' y' z', .dct true false (knD kn), webO m ws rg, .lst false ((rows m).map tI)], by simp only [evT], (r_call (es_c (r_var rfl) (es_c (r_var rfl) es0)) e).trans ?_, rfl, ⟨⟨ss ++ [s], by simp, ?_⟩, x', y', z', rfl⟩⟩⟩
        · congr 1
          rw [List.set_append_right _ _ (Nat.le_refl _), Nat.sub_self]
          rfl
        · intro t ht
          rcases List.mem_append.mp ht with ht | ht
          · exact hss t ht
          · rw [List.mem_singleton.mp ht]; exact hs)
      have R := (at4 x y z).1
      refine ⟨_, ss, _, s_asgL ((r_ifF (t_val (r_cmp (r_var rfl) e_int ?_))).trans q), ⟨?_, ?_, fun j hj => ?_, ?_⟩, by simp, hss⟩
      · rw [lt_int, decide_eq_false h5]
      · rw [List.getElem?_append_left (by simp)]; exact R.dct
      · obtain ⟨rr, hh⟩ := R.web
        exact ⟨rr, by rw [List.getElem?_append_left (by simp)]; exact hh⟩
      · rw [List.getElem?_append_left (by simp; omega)]; exact R.old j hj
      · simp
  obtain ⟨j, ss, S6, e6, R6, hj, hss⟩ := s6
  obtain ⟨x7, x8, e7⟩ := l_right (n := n) (x7 := none) (x8 := none) (x9 := none) H hfu R6 o (by omega) (funext hkn) hj hss
  obtain ⟨st9, e9, k9⟩ := trim_bl' (st := b0 ++ [LS.chest a b c]) (st' := S6) (bb := true) (by have := R6.len; simp; omega)
  refine ⟨st9, ?_, fun j hj => by rw [k9 j (by simp; omega)]; exact R6.old j hj⟩
  rw [call_go H.right rfl]
  have body : evSs p (callN p fuel F (n + 5)) fuel m__law_right.body (List.map some [D.loc b0.length] ++ List.replicate (m__law_right.n - m__law_right.np) none) (b0 ++ [LS.chest a b c]) = .rt (.d (.bl true)) S6 := by
    refine (ss_nx (s_asg (r_bin' e_int (r_call (es_c (r_var rfl) (es_c e_int es0)) e1) (show binD _ .add (.int 1) (.int r) = some (.d (.int m)) by rw [hm]; rfl)))).trans ?_
    refine (ss_nx (s_asg (r_call (es_c (r_var rfl) (es_c (r_var rfl) es0)) e2))).trans ?_
    refine (ss_nx (s_asgs (es_fd (r_call (es_c (r_var rfl) (es_c (r_var rfl) es0)) e3) (es_c (e_new (es_c (r_var rfl) (es_c (r_var rfl) es0)) e4) es0)) rfl)).trans ?_
    refine (ss_nx (s_asgL (r_call (es_c (r_var rfl) es0) e5))).trans ?_
    rw [l1, l2, l3, first4]
    refine (ss_nx e6).trans ?_
    refine (ss_nx e7).trans ?_
    rw [ss_one]
    exact s_ret (by simp only [evE])
  rw [body]
  exact e9
def elt : E := .call "_law_right" (.cons true (.call "_law_chest" (.cons true (.var 0) (.cons true (.var 1) .nil))) .nil)
theorem c_law (H : HasL p F) (hfu : 1000 ≤ fuel) {k : Bool} {ns : List Int} (hl : ns.length ≤ 63) : ∃ st', callN p fuel F (n + 7) ("law", none) [.loc 0] [.lst k (ns.map D.int)] = .ok (.d (.bl true)) st' := by
  obtain ⟨t, ht, q⟩ : ∃ t : Nat, t ≤ 63 ∧ evE p (callN p fuel F (n + 6)) (.bif .max (.cons false (.cst (.int (2))) (.cons false (.bif .min (.cons false (.bif .len (.cons false (.var 0) .nil)) (.cons false (.cst (.int (4))) .nil))) .nil))) [some (.loc 0), none] [.lst k (ns.map D.int)] = .ok (.d (.int t)) [.lst k (ns.map D.int)] := by
    have h1 : bifR p (callN p fuel F (n + 6)) .len [.loc 0] [.lst k (ns.map D.int)] = .ok (.d (.int ns.length)) [.lst k (ns.map D.int)] := by
      rw [bif_len_loc (b := k) (xs := ns.map D.int) rfl, List.length_map]
    have h2 : bifR p (callN p fuel F (n + 6)) .min [.int ns.length, .int 4] [.lst k (ns.map D.int)] = .ok (.d (.int (if (4 : Int) < ns.length then 4 else ns.length))) [.lst k (ns.map D.int)] := rfl
    have h3 : ∀ v : Int, bifR p (callN p fuel F (n + 6)) .max [.int 2, .int v] [.lst k (ns.map D.int)] = .ok (.d (.int (if v > 2 then v else 2))) [.lst k (ns.map D.int)] := fun v => rfl
    refine ⟨(if (if (4 : Int) < ns.length then (4 : Int) else ns.length) > 2 then (if (4 : Int) < ns.length then (4 : Int) else ns.length) else 2).toNat, ?_, (r_bif (es_c e_int (es_c (r_bif (es_c (r_bif (es_c (r_var rfl) es0) h1) (es_c e_int es0)) h2) es0)) (h3 _)).trans ?_⟩
    · split <;> split <;> omega
    · congr 3
      split <;> split <;> omega
  obtain ⟨xs, st', q2, _, hxs, h0⟩ := e_lc (p := p) (C := callN p fuel F (n + 6)) (elt := elt) (tg := .name 1) (c := .tt) (env := [some (.loc 0), none]) (fun (l : List Nat) acc st => (∀ i ∈ l, i < 100) ∧ (∀ x ∈ acc, x = .bl true) ∧ st[0]? = some (.lst k (ns.map D.int))) (i_rng (by omega) q) rfl (by simp; unfold lim; omega) ⟨fun i hi => by have := List.mem_range.mp hi; omega, fun x h => (by cases h), rfl⟩ (fun i r acc st h => by
    obtain ⟨hr, h1, h2⟩ := h
    have hi := hr i (List.mem_cons_self ..)
    obtain ⟨a, b, e1⟩ := c_chest (p := p) (fuel := fuel) (n := n + 5) H.t.toHasD h2 hl i hi
    obtain ⟨st', e2, k2⟩ := c_right (b0 := st) (p := p) (fuel := fuel) (n := n) H hfu (a := a) (b := b) (c := 0)
    refine ⟨_, rfl,   .inl ⟨.bl true, st, st', by simp only [evT], r_call (es_fl (r_call (es_c (r_var rfl) (es_c (x := .int (0 + (i : Int))) (r_var rfl) es0)) (by rw [Int.zero_add]; exact e1)) es0) e2, rfl, fun i hi => hr i (List.mem_cons_of_mem _ hi), fun x hx => ?_, ?_⟩⟩
    · rcases List.mem_append.mp hx with hx | hx
      · exact h1 x hx
      · exact List.mem_singleton.mp hx
    · rw [k2 0 (List.getElem?_eq_some_iff.mp h2).1]; exact h2)
  obtain ⟨st3, e3, _⟩ := trim_bl' (st := [.lst k (ns.map D.int)]) (st' := st') (bb := true) (List.getElem?_eq_some_iff.mp h0).1
  refine ⟨st3, ?_⟩
  rw [call_go H.law rfl]
  have body : evSs p (callN p fuel F (n + 6)) fuel m_law.body (List.map some [D.loc 0] ++ List.replicate (m_law.n - m_law.np) none) [.lst k (ns.map D.int)] = .rt (.d (.bl true)) st' := by
    refine ss_one.trans (s_ret (r_bif (es_fz q2 es0) (all_true hxs)))
  rw [body]
  exact e3
end
end Mn.L73
end

section
set_option Elab.async false
set_option linter.all false
set_option maxRecDepth 100000
set_option maxHeartbeats 0
open PySem L2 Mn
namespace K73
theorem hasW : HasW J.p J.defs := by
  constructor
  all_goals first | kernel_rfl | decide +kernel
theorem hasS : HasS J.p J.defs := by
  constructor
  · exact hasW
  all_goals kernel_rfl
theorem hasB : HasB J.p J.defs := by
  constructor
  · exact hasS
  all_goals kernel_rfl
theorem hasR : HasR J.p J.defs := by
  constructor
  · exact hasB
  all_goals kernel_rfl
theorem hasD : Mn.L84.HasD J.defs := by
  constructor
  all_goals first | kernel_rfl | decide +kernel
theorem hasH : Mn.LS.HasH J.defs := by
  constructor
  · exact hasD
  all_goals kernel_rfl
theorem hasV : Mn.LS.HasV J.defs := by
  constructor
  · exact hasH
  all_goals kernel_rfl
theorem hasT : Mn.LS.HasT J.defs := by
  constructor
  · exact hasV
  all_goals kernel_rfl
theorem hasL : Mn.L73.HasL J.p J.defs := by
  constructor
  · exact hasR
  · exact hasT
  all_goals kernel_rfl
theorem claim : LawSays J 1000 12 := fun k ns hl _ => Mn.L73.c_law (n := 6) hasL (Nat.le_refl _) hl
end K73
end

set_option Elab.async false
set_option linter.all false
set_option maxRecDepth 100000
set_option maxHeartbeats 0
open PySem PySem.W PySem.Calls PyProof.Rows Mn
namespace K73
def rL : Raw := J.raws.getD 47 ⟨lawF, ⟨[], [], none, [], [], none, []⟩, [], ⟨.function, [], false, false, []⟩⟩
theorem rL_in : rL ∈ J.raws := by
  have h : J.raws[47]? = some rL := by kernel_rfl
  exact List.mem_of_getElem? h
theorem rL_q : rL.q = lawF := by kernel_rfl
theorem rL_ps : rL.ps = [("_law_script" : PySem.Str)] := by kernel_rfl
theorem rL_df : rL.params.defaults = [] := by kernel_rfl
theorem rL_def : J.defs lawF = some (J.md rL) := by kernel_rfl
end K73
theorem PySem.Challenge.cw_bothvanish_k73_whole_lines_about_standin_holds : PySem.Challenge.rw_bothvanish_k73_whole_lines_about_standin.Holds := by
  w_on; o_law
  refine HandSHeadRun.head_any (r := OpenLaw.row PySem.Challenge.rw_bothvanish_k73_whole_lines_about_standin) (q := view (OpenLaw.row PySem.Challenge.rw_bothvanish_k73_whole_lines_about_standin).prog [K73.li]) (H := hookM 5 K73.J) (ob := K73.ob) (M := 12000) (loose := K73.names) (d := HandSHeadRun.topDef (OpenLaw.row PySem.Challenge.rw_bothvanish_k73_whole_lines_about_standin).prog K73.li) (kwd := []) (fun s => obsM_eq (HandSHeadRun.getT_eq s))
    (by kernel_rfl) (fun s => by kernel_rfl) K73.run (by kernel_rfl) (by kernel_rfl) (by kernel_rfl) (by rfl) (by first | assumption | decide +kernel) (by decide +kernel) ⟨rfl, rfl, rfl, rfl, rfl, by decide +kernel⟩ ?hw ?hc
  case hw => w_witness2
  case hc =>
    exact law_walk (fuel := 1000) (n := 12) (x := "_law_script") rfl (by kernel_rfl) (by kernel_rfl) ⟨⟨rfl, by decide, by decide⟩, rfl⟩ (fun w h Y => Y) K73.txt K73.rL_in K73.rL_q K73.rL_ps K73.rL_df K73.rL_def K73.claim
